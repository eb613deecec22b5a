import PyProof.Rows.All
import Wide.All
import OpenK.AllK
import Wide.FinOn
import HandS.ForMost
import HandS.TupMul
import HandS.TupAny
import HandS.Style
import HandS.Deep
import PyProof.NeKinds
import PyProof.ReprRoads
import PyProof.CallFns
import KE.DataEq
import HandS.Evl
import HandS.Gcd
import HandS.IsInst
import HandS.Wide
import HandS.WideMore
import HandS.Exc
import HandS.More
import HandS.CallSlots
import HandS.WordsExc
import KE.KExcInit
import KE.KExcIs
import HandS.TryMany
import HandS.TupSets
import HandS.Strs
import HandS.Zip
import HandS.Zip0
import HandS.Iter
import PyProof.Draws
import HandS.TryOnly
import HandS.Ends
import HandS.Words
import PyProof.StrLawsRepr
import PyProof.FitsInt
import PyProof.Rows.ReprOcc
import PySem.Challenge.RW_eyeorder_k07_first_faults_of_plans
import KE.KExcLine
section
set_option Elab.async false
set_option linter.all false
set_option maxRecDepth 100000
set_option maxHeartbeats 4000000
/-! Ey0: rules at the library's level that the layer lacks: == and != with an empty row, a tuple repeated once or never, a tuple backwards, repr of data. -/
namespace Ey
open PySem PySem.Spec PyProof.Rows L2
section
variable {X : Cx}
/-- == of a row and an empty one -/
def rEqE (K : PySem.W.Frag) (f : Bool → Bool) : R2 := fun x y H Q =>
  (∃ a b xs, x = .ref a ∧ y = .ref b ∧ SqT K H a xs ∧ SqT K H b [] ∧ Q (.bl (f xs.isEmpty)) H) ∨ ∃ a b xs, x = .ref a ∧ y = .ref b ∧ H a = some (.lst xs) ∧ H b = some (.lst []) ∧ Q (.bl (f xs.isEmpty)) H
theorem vals_empty {us : List Value} (r : Vals [] us) : us = [] := by cases r; rfl
theorem isEmpty_vals {xs : List V} {us : List Value} (r : Vals xs us) : (us.toArray.size == 0) = xs.isEmpty := by
  cases r <;> simp
theorem op_eqE (hu : X.A.units < cLine) : OpR X (compareOp .Eq) (rEqE X.K id) := by
  intro pins s σ H x y v u Q I rx ry h
  rcases h with ⟨a, b, xs, rfl, rfl, h1, h2, q⟩ | ⟨a, b, xs, rfl, rfl, h1, h2, q⟩
  · cases rx
    cases ry
    obtain ⟨its, r1, t1, _⟩ := I.tuple h1
    obtain ⟨its2, r2, t2, _⟩ := I.tuple h2
    have e2 := vals_empty r2
    subst e2
    have g := SeqAt.RcAt.tuples (A := X.A) (e := fun _ => true) (show s.heap.IsTuple a its.toArray from t1) (show s.heap.IsTuple b ([] : List Value).toArray from t2) hu (fun j _ h2 => absurd h2 (by simp))
    refine g X.prog X.w _ _ ⟨.bl _, H, I, rfl, ?_⟩
    have e : ((List.range (min its.toArray.size ([] : List Value).toArray.size)).all (fun _ => true) && its.toArray.size == ([] : List Value).toArray.size) = id xs.isEmpty := by
      rw [show ([] : List Value).toArray.size = 0 from rfl, Nat.min_zero, isEmpty_vals r1]; rfl
    rw [e]; exact q
  · cases rx
    cases ry
    obtain ⟨its, r1, t1, _⟩ := I.list (SqL.of h1)
    obtain ⟨its2, r2, t2, _⟩ := I.list (SqL.of h2)
    have e2 := vals_empty r2
    subst e2
    cases r1 with
    | nil =>
      have g := SeqAt.RcAt.lists (A := X.A) (e := fun _ => true) t1.isList t2.isList rfl hu (fun j _ h2 => absurd h2 (by simp))
      exact g X.prog X.w _ _ ⟨.bl _, H, I, rfl, q⟩
    | cons p r =>
      have g := SeqAt.RcAt.lists_lengths (A := X.A) t1.isList t2.isList (by simp) hu
      exact g X.prog X.w _ _ ⟨.bl _, H, I, rfl, q⟩
theorem op_neE (hu : X.A.units < cLine) : OpR X (compareOp .NotEq) (rEqE X.K not) := by
  intro pins s σ H x y v u Q I rx ry h
  rcases h with ⟨a, b, xs, rfl, rfl, h1, h2, q⟩ | ⟨a, b, xs, rfl, rfl, h1, h2, q⟩
  · cases rx
    cases ry
    obtain ⟨its, r1, t1, _⟩ := I.tuple h1
    obtain ⟨its2, r2, t2, _⟩ := I.tuple h2
    have e2 := vals_empty r2
    subst e2
    have g := SeqAt.RcNeAt.tuples (A := X.A) (e := fun _ => true) (show s.heap.IsTuple a its.toArray from t1) (show s.heap.IsTuple b ([] : List Value).toArray from t2) hu (fun j _ h2 => absurd h2 (by simp))
    refine g X.prog X.w _ _ ⟨.bl _, H, I, rfl, ?_⟩
    have e : (!((List.range (min its.toArray.size ([] : List Value).toArray.size)).all (fun _ => true) && its.toArray.size == ([] : List Value).toArray.size)) = not xs.isEmpty := by
      rw [show ([] : List Value).toArray.size = 0 from rfl, Nat.min_zero, isEmpty_vals r1]; rfl
    rw [e]; exact q
  · cases rx
    cases ry
    obtain ⟨its, r1, t1, _⟩ := I.list (SqL.of h1)
    obtain ⟨its2, r2, t2, _⟩ := I.list (SqL.of h2)
    have e2 := vals_empty r2
    subst e2
    cases r1 with
    | nil =>
      have g := SeqAt.RcNeAt.lists (A := X.A) (e := fun _ => true) t1.isList t2.isList rfl hu (fun j _ h2 => absurd h2 (by simp))
      exact g X.prog X.w _ _ ⟨.bl _, H, I, rfl, q⟩
    | cons p r =>
      have g := SeqAt.RcNeAt.lists_lengths (A := X.A) t1.isList t2.isList (by simp) hu
      exact g X.prog X.w _ _ ⟨.bl _, H, I, rfl, q⟩
/-- data that == may be asked of: no dict, not too deep -/
def shp (d : PyData) : Bool := d.plain && decide (d.depth ≤ 64)
theorem shp_plain {d : PyData} (h : shp d = true) : d.plain = true := (Bool.and_eq_true_iff.mp h).1
theorem shp_depth {d : PyData} (h : shp d = true) : d.depth ≤ 64 := of_decide_eq_true (Bool.and_eq_true_iff.mp h).2
theorem shp_room {A : Around} {d e : PyData} (h : shp d = true) (hu : A.units + 64 < cLine) : A.units + min d.depth e.depth < cLine := by
  have h1 := shp_depth h
  have h2 : min d.depth e.depth ≤ d.depth := Nat.min_le_left _ _
  omega
def rEqP (K : PySem.W.Frag) (f : Bool → Bool) : R2 := fun x y H Q => ∃ d e, Dp K H x d ∧ Dp K H y e ∧ shp d = true ∧ shp e = true ∧ Q (.bl (f (PyData.eqv d e))) H
theorem op_eqP (hu : X.A.units + 64 < cLine) : OpR X (compareOp .Eq) (rEqP X.K id) := by
  intro pins s σ H x y v u Q I rx ry h
  obtain ⟨d, e, hd, he, sd, se, q⟩ := h
  obtain ⟨as, r1⟩ := Dp.reads I d x v hd rx
  obtain ⟨bs, r2⟩ := Dp.reads I e y u he ry
  exact SeqAt.eq_plain r1 r2 (shp_plain sd) (shp_plain se) (shp_room sd hu) ⟨.bl _, H, I, rfl, q⟩
theorem op_neP (hu : X.A.units + 64 < cLine) : OpR X (compareOp .NotEq) (rEqP X.K not) := by
  intro pins s σ H x y v u Q I rx ry h
  obtain ⟨d, e, hd, he, sd, se, q⟩ := h
  obtain ⟨as, r1⟩ := Dp.reads I d x v hd rx
  obtain ⟨bs, r2⟩ := Dp.reads I e y u he ry
  exact SeqAt.ne_plain r1 r2 (shp_plain sd) (shp_plain se) (shp_room sd hu) ⟨.bl _, H, I, rfl, q⟩
/-- in, not in, for a list of data -/
def rInLP (K : PySem.W.Frag) (f : Bool → Bool) : R2 := fun x y H Q => ∃ d ds, Dp K H x d ∧ Dp K H y (.list ds) ∧ shp d = true ∧ shp (.list ds) = true ∧ Q (.bl (f (ds.any fun z => PyData.eqv z d))) H
theorem room_in_t {A : Around} {d : PyData} {ds : List PyData} (sd : shp d = true) (hu : A.units + 65 < cLine) : A.units + 1 + min (PyData.depthAll ds) d.depth < cLine := by
  have h1 := shp_depth sd
  have h2 : min (PyData.depthAll ds) d.depth ≤ d.depth := Nat.min_le_right _ _
  omega
theorem op_inLP (hu : X.A.units + 65 < cLine) : OpR X (compareOp .In) (rInLP X.K id) := by
  intro pins s σ H x y v u Q I rx ry h
  obtain ⟨d, ds, hd, he, sd, se, q⟩ := h
  obtain ⟨as, r1⟩ := Dp.reads I d x v hd rx
  obtain ⟨bs, r2⟩ := Dp.reads I (.list ds) y u he ry
  exact SeqAt.in_list_data r2 r1 (by simpa [PyData.plain] using shp_plain se) (shp_plain sd) (room_in_t sd hu) ⟨.bl _, H, I, rfl, q⟩
theorem op_notInLP (hu : X.A.units + 65 < cLine) : OpR X (compareOp .NotIn) (rInLP X.K not) := by
  intro pins s σ H x y v u Q I rx ry h
  obtain ⟨d, ds, hd, he, sd, se, q⟩ := h
  obtain ⟨as, r1⟩ := Dp.reads I d x v hd rx
  obtain ⟨bs, r2⟩ := Dp.reads I (.list ds) y u he ry
  exact SeqAt.notIn_list_data r2 r1 (by simpa [PyData.plain] using shp_plain se) (shp_plain sd) (room_in_t sd hu) ⟨.bl _, H, I, rfl, q⟩
/-- in, not in, for a tuple of data -/
def rInTD (K : PySem.W.Frag) (f : Bool → Bool) : R2 := fun x y H Q => ∃ d ds, Dp K H x d ∧ Dp K H y (.tuple ds) ∧ shp d = true ∧ shp (.tuple ds) = true ∧ Q (.bl (f (ds.any fun z => PyData.eqv z d))) H
theorem op_inTD (hu : X.A.units + 65 < cLine) : OpR X (compareOp .In) (rInTD X.K id) := by
  intro pins s σ H x y v u Q I rx ry h
  obtain ⟨d, ds, hd, he, sd, se, q⟩ := h
  obtain ⟨as, r1⟩ := Dp.reads I d x v hd rx
  obtain ⟨bs, r2⟩ := Dp.reads I (.tuple ds) y u he ry
  exact SeqAt.in_tuple_data r2 r1 (by simpa [PyData.plain] using shp_plain se) (shp_plain sd) (room_in_t sd hu) ⟨.bl _, H, I, rfl, q⟩
theorem op_notInTD (hu : X.A.units + 65 < cLine) : OpR X (compareOp .NotIn) (rInTD X.K not) := by
  intro pins s σ H x y v u Q I rx ry h
  obtain ⟨d, ds, hd, he, sd, se, q⟩ := h
  obtain ⟨as, r1⟩ := Dp.reads I d x v hd rx
  obtain ⟨bs, r2⟩ := Dp.reads I (.tuple ds) y u he ry
  exact SeqAt.notIn_tuple_data r2 r1 (by simpa [PyData.plain] using shp_plain se) (shp_plain sd) (room_in_t sd hu) ⟨.bl _, H, I, rfl, q⟩
end

/-! ### a tuple once, or never -/
theorem tuple_mul_same (l : Addr) (items : Array Value) (n : Nat) (dd : Option Addr) (sl : Array (Option Value)) (x : Int) (u : Tok) (c0 : (decide (x < -(2 ^ 63)) || decide (x ≥ 2 ^ 63)) = false) (c1 : (items.isEmpty || x == 1) = true) :
    Meets (Builtin.«tuple.__mul__» ⟨[.ref l, .int x u], []⟩) (fun _ R s => s.heap.get? l = some { cls := .type "tuple", dict := dd, data := .seq items n, slots := sl } ∧ R (.ok (.ret (Value.ref l))) s) :=
  .of_wp fun prog w A R s h => by
    obtain ⟨hp, g, d, tk, os⟩ := s
    obtain ⟨hl, h⟩ := h
    have f1 := AutoSeq1.idx_int
    wp_walk using wpAny_loadPart' hl
    repeat (first
      | (refine wpAny_ite_false (decide_eq_false (by rw [c0]; exact Bool.false_ne_true)) ?_; wp_walk using wpAny_loadPart' hl)
      | (refine wpAny_ite_true (decide_eq_true (by rw [c1])) ?_; wp_walk using wpAny_loadPart' hl))
    exact ⟨_, rfl, h⟩

/-- t * 1 is t, () * k is () -/
def rRep1 (K : PySem.W.Frag) : R2 := fun x y H Q => ∃ l xs k, x = .ref l ∧ y = .int k ∧ SqT K H l xs ∧ (xs = [] ∨ k = 1) ∧ (1 ≤ k ∧ k ≤ 1000) ∧ Q (.ref l) H
theorem op_rep1 {X : Cx} : OpR X (binaryOp .Mult) (rRep1 X.K) := by
  intro pins s σ H x y v u Q I rx ry h
  obtain ⟨l, xs, k, rfl, rfl, hT, hk, hb, q⟩ := h
  cases rx
  obtain ⟨t, rfl⟩ := ry
  obtain ⟨its, r, it, hs⟩ := I.tuple hT
  obtain ⟨o, ho, hc, n, hd⟩ := id it
  obtain ⟨oc, od, dt, sl⟩ := o
  dsimp only at hc hd
  subst hc hd
  have c0 : (decide (k < -(2 ^ 63)) || decide (k ≥ 2 ^ 63)) = false := by
    rw [decide_eq_false (by omega), decide_eq_false (by omega)] <;> rfl
  have c1 : (its.toArray.isEmpty || k == 1) = true := by
    rcases hk with rfl | rfl
    · cases r; rfl
    · rw [Bool.or_comm]; rfl
  refine wpAny_binaryOp_repeat_ref (U := "int") (T := "tuple") (by decide) ⟨_, ho, rfl⟩ (fun z => typeIs_int z k t) noFill_tuple_mul F.fills_int_mul F.slot_int_rmul repeat_tuple F.slot_int_index.lookup ?_
  refine call_meets F.slot_int_rmul (typeIs_int s k t) F.entry_int_rmul (F.args_int_rmul_2 _ _) (int_rmul_tuple k t l its.toArray n od sl) ⟨ho, rfl, ⟨_, ho, rfl⟩, ?_⟩
  exact call_meets F.slot_tuple_mul ⟨_, ho, rfl⟩ F.entry_tuple_mul (F.args_tuple_mul_2 _ _) (tuple_mul_same l its.toArray n od sl k t c0 c1) ⟨ho, .ref l, H, I, rfl, q⟩

/-! ### a tuple backwards -/
section
variable {prog : Program} {w : World} {A : Around} {E : Value → Shared → Prop} {s : Shared}
theorem back_adjust (n : Nat) : Builtin.Slice.sliceAdjust none none (-1) (n : Int) = ((n : Int) - 1, -1) := by
  unfold Builtin.Slice.sliceAdjust
  have h1 : (-1 : Int) < 0 := by decide
  simp only [h1, if_true]
theorem back_places (n : Nat) : Builtin.Slice.slicePlaces ((n : Int) - 1) (-1) (-1) = n := by
  unfold Builtin.Slice.slicePlaces
  have h1 : ¬ (-1 : Int) > 0 := by decide
  simp only [h1, if_false]
  by_cases h : (n : Int) - 1 > -1
  · simp only [h, if_true]
    have e : (-(-1 : Int)) = 1 := by decide
    rw [e, Int.ediv_one]; omega
  · simp only [h, if_false]
    have : n = 0 := by omega
    subst this; rfl
theorem back_pick (items : Array Value) : ((List.range items.size).filterMap fun (k : Nat) => items[(((items.size : Int) - 1) + (k : Int) * (-1)).toNat]?).toArray = items.toList.reverse.toArray := by
  congr 1
  have e : (fun (k : Nat) => items[(((items.size : Int) - 1) + (k : Int) * (-1)).toNat]?) = fun k : Nat => if items.size = 0 then none else items[items.size - 1 - k]? := by
    funext k
    by_cases z : items.size = 0
    · rw [if_pos z]; exact Array.getElem?_eq_none (by omega)
    · rw [if_neg z]; congr 1; omega
  rw [e]
  have all : ∀ (f : Nat → Option Value) (l : List Value), (∀ i, i < l.length → f i = l[i]?) → (List.range l.length).filterMap f = l := by
    intro f l h
    have e2 : (List.range l.length).filterMap f = (List.range l.length).filterMap (l[·]?) := by
      have cg : ∀ (is : List Nat), (∀ i ∈ is, f i = l[i]?) → is.filterMap f = is.filterMap (l[·]?) := by
        intro is
        induction is with
        | nil => intro _; rfl
        | cons i is ih =>
          intro hh
          rw [List.filterMap_cons, List.filterMap_cons, hh i (List.mem_cons_self ..), ih fun j hj => hh j (List.mem_cons_of_mem _ hj)]
      exact cg _ fun i hi => h i (List.mem_range.mp hi)
    rw [e2]
    clear e2 h
    induction l with
    | nil => rfl
    | cons a l ih =>
      rw [List.length_cons, List.range_succ_eq_map, List.filterMap_cons]
      simp only [List.getElem?_cons_zero, List.filterMap_map]
      congr 1
  have e3 := all (fun k : Nat => if items.size = 0 then none else items[items.size - 1 - k]?) items.toList.reverse (fun i hi => by
    have hi2 : i < items.size := by simpa using hi
    rw [if_neg (by omega), List.getElem?_reverse (by simpa using hi2)]
    simp)
  rw [List.length_reverse, Array.length_toList] at e3
  exact e3
theorem slicePart_any {v : Value} {o : Option Int} {Q : Option Int → Shared → Prop} (p : IsPart v o) (h : Q o s) : wpAny (model prog w) A (Builtin.Slice.slicePartIndex v) Q E s := by
  cases p with
  | none => exact slicePart_none h
  | int i t => exact slicePart_int h
theorem sliceApplied_back {sl : Addr} {vl vu vs : Value} {n : Nat} {Q : Int × Int × Nat → Shared → Prop} (hs : s.heap.IsSliceOf sl vl vu vs) (pl : IsPart vl none) (pu : IsPart vu none) (ps : IsPart vs (some (-1)))
    (h : Q ((n : Int) - 1, -1, n) s) : wpAny (model prog w) A (Builtin.Slice.sliceApplied (.ref sl) (pure (n : Int))) Q E s := by
  obtain ⟨os, hos, hcs, hds⟩ := id hs
  unfold Builtin.Slice.sliceApplied Builtin.Slice.sliceFields
  refine wpAny_bind (wpAny_bind (wpAny_field hos hds (x := vl) rfl (wpAny_bind (wpAny_field hos hds (x := vu) rfl (wpAny_bind (wpAny_field hos hds (x := vs) rfl (wpAny_pure ?_)))))))
  refine wpAny_bind (slicePart_any ps ?_)
  show wpAny _ _ (if ((-1 : Int) == 0) = true then _ else _) _ _ s
  rw [if_neg (by decide)]
  refine wpAny_bind (slicePart_any pl (wpAny_bind (slicePart_any pu (wpAny_bind (wpAny_pure ?_)))))
  show wpAny _ _ (match Builtin.Slice.sliceAdjust none none (-1) (n : Int) with | (lo, hi) => pure (lo, (-1 : Int), Builtin.Slice.slicePlaces lo hi (-1))) _ _ s
  rw [back_adjust]
  show wpAny _ _ (pure ((n : Int) - 1, (-1 : Int), Builtin.Slice.slicePlaces ((n : Int) - 1) (-1) (-1))) _ _ s
  rw [back_places]
  exact wpAny_pure h
theorem getItem_tuple_back {t sl : Addr} {items : Array Value} {vl vu vs : Value} {Q : Value → Shared → Prop} (ht : IsTup s.heap t items) (hs : s.heap.IsSliceOf sl vl vu vs) (pl : IsPart vl none) (pu : IsPart vu none) (ps : IsPart vs (some (-1)))
    (h : Q (.ref s.heap.objs.size) { s with heap := s.heap.push { cls := .type "tuple", data := .seq items.toList.reverse.toArray } }) (hz : items.size ≤ sizeLine) :
    wpAny (model prog w) A (getItem (.ref t) (.ref sl)) Q E s := by
  have hsz : sizeOk (.seq items.toList.reverse.toArray) := by
    show items.toList.reverse.toArray.size ≤ sizeLine
    rw [List.size_toArray, List.length_reverse, Array.length_toList]; exact hz
  obtain ⟨os, hos, hcs, hds⟩ := id hs
  have hTs : s.TypeIs (.ref sl) "slice" := ⟨os, hos, hcs⟩
  unfold getItem
  try with_reducible refine wpAny_holding ?_
  first | refine wpAny_bind (wpAny_pure ?_) | skip
  refine wpAny_bind (wpAny_sequenceKey ht.typeIs (by decide) ?_)
  refine wpAny_bind (wpAny_callSpecial?_slot (name := Str.ofString "__getitem__") ht.typeIs PyProof.Rows.slot_tuple_getitem (wpAny_call_entry PyProof.Rows.slot_tuple_getitem ht.typeIs entry_tuple_getitem ?_ (args_tuple_getitem _ _)))
  show wpAny _ _ (Builtin.Tuple.tupleItemsOf (.ref t) >>= _) _ _ s
  refine wpAny_bind (tupleItemsOf_ ht ?_)
  refine wpAny_bind (wpAny_typeOf hTs ?_)
  rw [if_pos (by decide)]
  refine wpAny_bind (sliceApplied_back hs pl pu ps ?_)
  have hno : ¬ ((((items.size : Int) - 1) == 0 && (-1 : Int) == 1 && items.size == items.size) = true) := by
    rw [show ((-1 : Int) == 1) = false from by decide, Bool.and_false, Bool.false_and]; exact Bool.false_ne_true
  show wpAny _ _ (if (((items.size : Int) - 1) == 0 && (-1 : Int) == 1 && items.size == items.size) = true then _ else _) _ _ s
  rw [if_neg hno, back_pick]
  first
    | exact wpAny_bind (m := Builtin.Tuple.tupleExact _) (wpAny_newObj_type (wpAny_pure ⟨_, rfl, wpAny_pure h⟩) hsz)
    | exact wpAny_bind (m := Builtin.Tuple.tupleExact _) (wpAny_newObj_type (wpAny_bind (wpAny_pure (wpAny_pure ⟨_, rfl, wpAny_pure h⟩))) hsz)
    | exact wpAny_bind (wpAny_bind (m := Builtin.Tuple.tupleExact _) (wpAny_newObj_type (wpAny_pure (wpAny_pure ⟨_, rfl, wpAny_pure h⟩)) hsz))
end
/-- x[::-1], a list or a tuple -/
def tRevA (K : PySem.W.Frag) (te : TE) : TE := fun σ H Q => te σ H fun x H1 => (∃ a xs, x = .ref a ∧ SqL K H1 a xs ∧ ∀ p, H1 p = none → Q (.ref p) (upd H1 p (.lst xs.reverse))) ∨ ∃ a xs, x = .ref a ∧ SqT K H1 a xs ∧ ∀ p, H1 p = none → Q (.ref p) (upd H1 p (.tup xs.reverse))
theorem pe_revA {X : Cx} {e : Expr} {te : TE} {k : Nat} {p1 p2 p3 pos : Pos} (he : PE X e te) : PE X (.Subscript e (.Slice none none (some (.UnaryOp .USub (.Constant (.int 1) k p1) p2)) p3) pos) (tRevA X.K te) := by
  refine ⟨fun pins s σ H Q I h => ?_⟩
  refine Subscript_ (thn (he.run pins s σ H _ I h) fun v s1 ⟨x, H1, I1, r1, q1⟩ => ?_)
  have hst : PO X (some (.UnaryOp .USub (.Constant (.int 1) k p1) p2)) (tPart (tUn (rU fun i => .int (-i)) (tC (.int 1)))) := po_some (pe_un un_neg pe_int)
  refine wpAny_Slice (thn (po_none.run pins s1 σ H1 (fun o H2 => o = none ∧ H2 = H1) I1 ⟨rfl, rfl⟩) fun vl s2 ⟨l, H2, I2, pl, el, e2⟩ => ?_)
  subst el e2
  refine thn (po_none.run pins s2 σ H2 (fun o H3 => o = none ∧ H3 = H2) I2 ⟨rfl, rfl⟩) fun vu s3 ⟨u, H3, I3, pu, eu, e3⟩ => ?_
  subst eu e3
  refine thn (hst.run pins s3 σ H3 (fun o H4 => o = some (-1) ∧ H4 = H3) I3 ⟨1, rfl, -1, rfl, rfl, rfl⟩) fun vs s4 ⟨o, H4, I4, ps, eo, e4⟩ => ?_
  subst eo e4
  have I5 : Inv X pins σ H4 { s4 with heap := s4.heap.push { cls := .type "slice", data := .fields #[vl, vu, vs] } } := I4.kept (t' := s4.toks) fun b ob q => Heap.get?_push_of_some _ q
  rcases q1 with ⟨a, xs, ex, hx, q⟩ | ⟨a, xs, ex, hx, q⟩
  · subst ex
    cases r1
    obtain ⟨its, r, ht, hz⟩ := I5.list hx
    have hlen := r.length
    show wpAny (model X.prog X.w) X.A (subscriptTail e (.Slice none none (some (.UnaryOp .USub (.Constant (.int 1) k p1) p2)) p3) (.ref a) (.ref s4.heap.objs.size)) (EP X pins σ Q) X.xe _
    refine tail_any (ops := [.ref a, .ref s4.heap.objs.size]) ht.isList.typeIs (PySem.slot_list_getitem.lookup) ?_ (by with_unfolding_all rfl)
    refine wpAny_getItem_list_slice ht.isList (Heap.IsSliceOf.new _ vl vu vs) pl pu ps (by decide) ?_ (by rw [List.size_toArray]; omega)
    rw [PySem.W.krv_pick]
    refine ⟨.ref _, _, I5.laid (t' := s4.toks) (o := .lst xs.reverse) (fun b ob q => Heap.get?_push_of_some _ q) (Nat.le_refl _) ?_, rfl, q _ (I5.hok.fresh (Nat.le_refl _))⟩
    exact ⟨by rw [List.length_reverse]; exact hz, _, 0, r.reverse, Heap.get?_push_size _ rfl⟩
  · subst ex
    cases r1
    obtain ⟨its, r, ht, hz⟩ := I5.tuple hx
    have hlen := r.length
    show wpAny (model X.prog X.w) X.A (subscriptTail e (.Slice none none (some (.UnaryOp .USub (.Constant (.int 1) k p1) p2)) p3) (.ref a) (.ref s4.heap.objs.size)) (EP X pins σ Q) X.xe _
    refine tail_any (ops := [.ref a, .ref s4.heap.objs.size]) ht.typeIs (PyProof.Rows.slot_tuple_getitem.lookup) ?_ (by with_unfolding_all rfl)
    refine getItem_tuple_back ht (Heap.IsSliceOf.new _ vl vu vs) pl pu ps ?_ (by rw [List.size_toArray]; omega)
    refine ⟨.ref _, _, I5.laid (t' := s4.toks) (o := .tup xs.reverse) (fun b ob q => Heap.get?_push_of_some _ q) (Nat.le_refl _) ?_, rfl, q _ (I5.hok.fresh (Nat.le_refl _))⟩
    exact ⟨by rw [List.length_reverse]; exact hz, _, r.reverse, IsTup.new _ _⟩
end Ey

end
section
set_option Elab.async false
set_option linter.all false
set_option maxRecDepth 100000
/-! Ey1: the core language and what it means over plain data. -/
namespace Ey
open PySem PySem.Spec L2
abbrev D := PyData
abbrev Env := List (Option D)
abbrev DP := D → Prop
/-- what is wished of an error: its class by name, what it carries -/
abbrev EPo := Str → D → Prop
/-- the deck, as a value: never looked into as data -/
def deckD : D := .dict [(.none, .none)]
/-- the deck's key for its cells -/
abbrev deckKey : Str := "left"

inductive BO | add | sub | mul | fdiv | mod | pow
  deriving DecidableEq
inductive CO | eq | ne | lt | le | gt | ge | isN | notN | isB | notB | isin | notin
  deriving DecidableEq
inductive Ty | int | bool | str | tuple | list | dict
  deriving DecidableEq
inductive Bi | len | abs | max2 | min2 | int | bool | str | repr | tuple | list | gcd | all | any | sum | maxL | minL
  deriving DecidableEq
mutual
/-- a target: a name's slot, or a tuple of targets -/
inductive Tg where
  | one (i : Nat)
  | tup (ts : Tgs)
inductive Tgs where
  | nil
  | cons (t : Tg) (r : Tgs)
end

mutual
inductive CE where
  | var (i : Nat)
  | non
  | bl (b : Bool)
  | int (i : Int)
  | str (s : Str)
  | bin (o : BO) (a b : CE)
  | neg (a : CE)
  | cmp (o : CO) (a b : CE)
  | chn (o p : CO) (a b c : CE)
  | and (a b : CE)
  | or (a b : CE)
  | not (a : CE)
  | ite (t : CT) (a b : CE)
  | tup (es : CEs)
  | lst (es : CEs)
  | dis (ks : List Key) (es : CEs)
  | ix (a b : CE)
  | sl (a : CE) (lo hi : CP)
  | rev (a : CE)
  | call (f : Str) (es : CEs)
  | callK (f : Str) (es : CEs) (ks : List Str) (kes : CEs) (pm : List Nat)
  | bi (f : Bi) (es : CEs)
  | isi (a : CE) (t : Ty)
  | lens (a : CE)
  | con (x : Str) (k : Key)
  | lc (own : List (Str × Nat)) (tg : Tg) (it : CI) (ifs : CTo) (elt : CE)
  | dkI (j : Nat) (f : Str)
inductive CEs where
  | nil
  | cons (e : CE) (r : CEs)
inductive CP where
  | no
  | yes (e : CE)
inductive CTo where
  | no
  | yes (t : CT)
inductive CT where
  | val (e : CE)
  | cmp (o : CO) (a b : CE)
  | chn (o p : CO) (a b c : CE)
  | and (a b : CT)
  | or (a b : CT)
  | not (a : CT)
inductive CI where
  | seq (e : CE)
  | sgn (e : CE)
  | rng1 (a : CE)
  | rng2 (a b : CE)
  | enum (a : CE)
  | zip (a b : CE)
end

mutual
/-- what an except suite returns: e is the error -/
inductive CH where
  | non
  | bl (b : Bool)
  | int (i : Int)
  | str (s : Str)
  | fld (f : Str)
  | isi (C : Str)
  | tup (es : CHs)
  | ite (C : Str) (a b : CH)
inductive CHs where
  | nil
  | cons (e : CH) (r : CHs)
end
/-- except X as n: return .. : the class, n's slot, what is returned -/
structure Hd where
  x : Str
  i : Nat
  h : CH

mutual
inductive CS where
  | asg (i : Nat) (e : CE)
  | asgL (i : Nat) (e : CE)
  | asgT (tg : Tg) (e : CE)
  | par (is : List Nat) (fl : List Bool) (es : CEs)
  | ret (e : CE)
  | retN
  | drop (e : CE)
  | ite (t : CT) (a b : CSs)
  | whl (t : CT) (b : CSs)
  | for (tg : Tg) (it : CI) (b : CSs)
  | app (i : Nat) (e : CE)
  | appI (t : CT) (i j : Nat) (e : CE)
  | appPop (i j : Nat) (e : CE)
  | ext (i : Nat) (e : CE)
  | ins (i : Nat) (k e : CE)
  | stI (i : Nat) (k e : CE)
  | raise (x : Str) (e : CE)
  | try (b : CSs) (hs : List Hd)
  | pass
  | brk
  | cont
  | dkSet (j : Nat) (f : Str) (e : CE)
  | dkCell (j i m : Nat) (b : CSs)
inductive CSs where
  | nil
  | cons (s : CS) (r : CSs)
end

/-! ### values -/
mutual
def noList : D → Bool
  | .list _ => false
  | .dict _ => false
  | .tuple xs => noLists xs
  | _ => true
def noLists : List D → Bool
  | [] => true
  | x :: xs => noList x && noLists xs
end
theorem noLists_iff : ∀ {xs : List D}, noLists xs = true ↔ ∀ x ∈ xs, noList x = true
  | [] => by simp [noLists]
  | x :: xs => by simp [noLists, noLists_iff (xs := xs)]

mutual
/-- no deck within -/
def nodk : D → Bool
  | .list xs => nodks xs
  | .tuple xs => nodks xs
  | .dict kvs => nodkv kvs
  | _ => true
def nodks : List D → Bool
  | [] => true
  | x :: xs => nodk x && nodks xs
def nodkv : List (D × D) → Bool
  | [] => true
  | (k, v) :: r => (match k with | .int _ => true | .str _ => true | _ => false) && nodk v && nodkv r
end

def kD : Key → D
  | .inl i => .int i
  | .inr x => .str x

/-- what == may be asked of -/
def EqOk (x y : D) : Prop := (shp x = true ∧ shp y = true) ∨ (∃ xs, x = .tuple xs ∧ y = .tuple []) ∨ (∃ xs, x = .list xs ∧ y = .list [])

def binW : BO → D → D → DP → Prop
  | .add, .int i, .int j, Q => Q (.int (i + j))
  | .sub, .int i, .int j, Q => Q (.int (i - j))
  | .mul, .int i, .int j, Q => (CMul i j ∨ CMulW i j) ∧ Q (.int (i * j))
  | .fdiv, .int i, .int j, Q => (j ≠ 0 ∧ j.natAbs.log2 < 9000) ∧ Q (.int (i.fdiv j))
  | .mod, .int i, .int j, Q => j ≠ 0 ∧ Q (.int (i.fmod j))
  | .pow, .int i, .int j, Q => CPow i j ∧ Q (.int (i ^ j.toNat))
  | .add, .tuple xs, .tuple ys, Q => xs.length + ys.length ≤ 100000 ∧ Q (.tuple (xs ++ ys))
  | .add, .list xs, .list ys, Q => xs.length + ys.length ≤ 100000 ∧ Q (.list (xs ++ ys))
  | .add, .str x, .str y, Q => x.length + y.length ≤ 100000 ∧ Q (.str (x ++ y))
  | .mul, .tuple xs, .int k, Q => (1 ≤ k ∧ k ≤ 1000 ∧ xs.length ≤ 1000) ∧ Q (.tuple (List.replicate k.toNat xs).flatten)
  | .mul, .list xs, .int k, Q => (1 ≤ k ∧ k ≤ 1000 ∧ xs.length ≤ 1000) ∧ Q (.list (List.replicate k.toNat xs).flatten)
  | _, _, _, _ => False

def isNone : D → Bool
  | .none => true
  | _ => false

def cmpW : CO → D → D → (Bool → Prop) → Prop
  | .eq, x, y, Q => EqOk x y ∧ Q (PyData.eqv x y)
  | .ne, x, y, Q => EqOk x y ∧ Q (!PyData.eqv x y)
  | .lt, .int i, .int j, Q => Q (decide (i < j))
  | .le, .int i, .int j, Q => Q (decide (i ≤ j))
  | .gt, .int i, .int j, Q => Q (decide (j < i))
  | .ge, .int i, .int j, Q => Q (decide (j ≤ i))
  | .isN, x, .none, Q => Q (isNone x)
  | .notN, x, .none, Q => Q (!isNone x)
  | .isB, .bool a, .bool b, Q => Q (decide (a = b))
  | .notB, .bool a, .bool b, Q => Q (!decide (a = b))
  | .isin, x, .list ys, Q => (shp x = true ∧ shp (.list ys) = true) ∧ Q (ys.any fun y => PyData.eqv y x)
  | .isin, x, .tuple ys, Q => (shp x = true ∧ shp (.tuple ys) = true) ∧ Q (ys.any fun y => PyData.eqv y x)
  | .notin, x, .list ys, Q => (shp x = true ∧ shp (.list ys) = true) ∧ Q (!ys.any fun y => PyData.eqv y x)
  | .notin, x, .tuple ys, Q => (shp x = true ∧ shp (.tuple ys) = true) ∧ Q (!ys.any fun y => PyData.eqv y x)
  | .isin, .str x, .str y, Q => ∃ c, x = ⟨#[c]⟩ ∧ Q (decide (c ∈ y.cps.toList))
  | .notin, .str x, .str y, Q => ∃ c, x = ⟨#[c]⟩ ∧ Q (!decide (c ∈ y.cps.toList))
  | _, _, _, _ => False

/-- what repr may be asked of -/
def ReprOk (d : D) : Prop := nodk d = true ∧ d.showable = true ∧ d.depth ≤ 60 ∧ d.shown.length ≤ 1000000

def boolsOf : List D → Option (List Bool)
  | [] => some []
  | .bool b :: r => (boolsOf r).map (b :: ·)
  | _ :: _ => none
def intsOf : List D → Option (List Int)
  | [] => some []
  | .int i :: r => (intsOf r).map (i :: ·)
  | _ :: _ => none

def biW : Bi → List D → DP → Prop
  | .len, [.list xs], Q => Q (.int xs.length)
  | .len, [.tuple xs], Q => Q (.int xs.length)
  | .len, [.str x], Q => x.length ≤ 100000 ∧ Q (.int x.length)
  | .abs, [.int i], Q => Q (.int (if i < 0 then -i else i))
  | .max2, [.int i, .int j], Q => Q (.int (if j > i then j else i))
  | .min2, [.int i, .int j], Q => Q (.int (if j < i then j else i))
  | .int, [.int i], Q => Q (.int i)
  | .int, [.bool b], Q => Q (.int (if b then 1 else 0))
  | .bool, [.int i], Q => Q (.bool (i != 0))
  | .bool, [.bool b], Q => Q (.bool b)
  | .str, [.int i], Q => i.natAbs.log2 < 1920 ∧ Q (.str (toString i))
  | .repr, [d], Q => ReprOk d ∧ Q (.str d.shown)
  | .tuple, [.list xs], Q => Q (.tuple xs)
  | .tuple, [.tuple xs], Q => Q (.tuple xs)
  | .list, [.list xs], Q => Q (.list xs)
  | .list, [.tuple xs], Q => Q (.list xs)
  | .gcd, [.int i, .int j], Q => Q (.int ((Nat.gcd i.natAbs j.natAbs : Nat) : Int))
  | .all, [.list xs], Q => ∃ bs, boolsOf xs = some bs ∧ Q (.bool (bs.all id))
  | .any, [.list xs], Q => ∃ bs, boolsOf xs = some bs ∧ Q (.bool (bs.any id))
  | .sum, [.list xs], Q => ∃ ns, intsOf xs = some ns ∧ Q (.int ns.sum)
  | .maxL, [.list xs], Q => ∃ ns, intsOf xs = some ns ∧ ns ≠ [] ∧ ∀ m, m ∈ ns → (∀ y, y ∈ ns → y ≤ m) → Q (.int m)
  | .minL, [.list xs], Q => ∃ ns, intsOf xs = some ns ∧ ns ≠ [] ∧ ∀ m, m ∈ ns → (∀ y, y ∈ ns → m ≤ y) → Q (.int m)
  | _, _, _ => False

def isiD : Ty → D → Bool
  | .int, .int _ => true
  | .int, .bool _ => true
  | .bool, .bool _ => true
  | .str, .str _ => true
  | .tuple, .tuple _ => true
  | .list, .list _ => true
  | .dict, .dict _ => true
  | _, _ => false

def truW : D → (Bool → Prop) → Prop
  | .none, Q => Q false
  | .bool b, Q => Q b
  | .int i, Q => Q (i != 0)
  | .str x, Q => x.length ≤ 100000 ∧ Q ((x.length : Int) != 0)
  | .list xs, Q => Q (!xs.isEmpty)
  | .tuple xs, Q => Q (!xs.isEmpty)
  | .dict xs, Q => Q (!xs.isEmpty)

def ixW : D → D → DP → Prop
  | .list xs, .int i, Q => ∃ z, atI xs i = some z ∧ Q z
  | .tuple xs, .int i, Q => ∃ z, atI xs i = some z ∧ Q z
  | .str x, .int i, Q => x.length ≤ 100000 ∧ ∃ c, atI x.cps.toList i = some c ∧ Q (.str ⟨#[c]⟩)
  | _, _, _ => False

/-- a slice's end: where it comes to in a row of n -/
def cutAt (n d : Nat) : Option Int → Nat
  | none => d
  | some i => if i < 0 then (i + n).toNat else min i.toNat n
def cutD (xs : List D) (lo hi : Option Int) : List D := (xs.drop (cutAt xs.length 0 lo)).take (cutAt xs.length xs.length hi - cutAt xs.length 0 lo)
def slW : D → Option Int → Option Int → DP → Prop
  | .list xs, lo, hi, Q => Q (.list (cutD xs lo hi))
  | .tuple xs, lo, hi, Q => Q (.tuple (cutD xs lo hi))
  | _, _, _, _ => False
def revW : D → DP → Prop
  | .list xs, Q => Q (.list xs.reverse)
  | .tuple xs, Q => Q (.tuple xs.reverse)
  | _, _ => False

def enumD (i : Nat) : List D → List D
  | [] => []
  | x :: r => .tuple [.int i, x] :: enumD (i + 1) r
def zipD : List D → List D → List D
  | x :: r, y :: q => .tuple [x, y] :: zipD r q
  | _, _ => []
def rngD (lo : Int) (n : Nat) : List D := (List.range n).map fun i : Nat => .int (lo + (i : Int))

def lenT : Tgs → Nat
  | .nil => 0
  | .cons _ r => lenT r + 1
mutual
/-- a target takes a value -/
def tgW {α : Type} (f : D → α) : Tg → D → List α → (List α → Prop) → Prop
  | .one i, x, ρ, Q => Q (ρ.set i (f x))
  | .tup ts, .tuple xs, ρ, Q => xs.length = lenT ts ∧ tgsW f ts xs ρ Q
  | .tup ts, .list xs, ρ, Q => xs.length = lenT ts ∧ tgsW f ts xs ρ Q
  | .tup _, _, _, _ => False
def tgsW {α : Type} (f : D → α) : Tgs → List D → List α → (List α → Prop) → Prop
  | .nil, [], ρ, Q => Q ρ
  | .cons t r, x :: xs, ρ, Q => tgW f t x ρ fun ρ' => tgsW f r xs ρ' Q
  | .nil, _ :: _, _, _ => False
  | .cons _ _, [], _, _ => False
end
mutual
def tgVars : Tg → List Nat
  | .one i => [i]
  | .tup ts => tgsVars ts
def tgsVars : Tgs → List Nat
  | .nil => []
  | .cons t r => tgVars t ++ tgsVars r
end
def wipeD (ρ : Env) : List Nat → Env
  | [] => ρ
  | v :: vs => (wipeD ρ vs).set v none

/-- the turns of a comprehension -/
def lcGo (step : D → (Option D → Prop) → Prop) : List D → List D → (List D → Prop) → Prop
  | [], acc, Q => Q acc
  | x :: xs, acc, Q => step x fun r => match r with
    | some y => lcGo step xs (acc ++ [y]) Q
    | none => lcGo step xs acc Q

/-- len(set(xs)): one number for any row of the same members -/
def lensW (xs : List D) (Q : DP) : Prop := (((∃ ss : List Str, xs = ss.map PyData.str) ∧ xs.length < 1000) ∨ ((∃ ks : List (List Int), xs = ks.map fun k => PyData.tuple (k.map PyData.int)) ∧ xs.length < 64)) ∧
  ∀ L : List D, L.Nodup → (∀ y, y ∈ L ↔ y ∈ xs) → Q (.int L.length)
/-- a text's signs -/
def sgnD (x : Str) : List D := x.cps.toList.map fun c => PyData.str ⟨#[c]⟩

/-- what a call of a def is worth -/
abbrev Phi := Str → List D → DP → EPo → Prop

def E0 : EPo := fun _ _ => False

mutual
def wpE (Φ : Phi) : CE → EPo → Env → DP → Prop
  | .var i, _, ρ, Q => ∃ d, ρ[i]? = some (some d) ∧ Q d
  | .non, _, _, Q => Q .none
  | .bl b, _, _, Q => Q (.bool b)
  | .int i, _, _, Q => Q (.int i)
  | .str s, _, _, Q => Q (.str s)
  | .bin o a b, E, ρ, Q => wpE Φ a E ρ fun x => wpE Φ b E ρ fun y => binW o x y Q
  | .neg a, E, ρ, Q => wpE Φ a E ρ fun x => ∃ i, x = .int i ∧ Q (.int (-i))
  | .cmp o a b, E, ρ, Q => wpE Φ a E ρ fun x => wpE Φ b E ρ fun y => cmpW o x y fun c => Q (.bool c)
  | .chn o p a b c, E, ρ, Q => wpE Φ a E ρ fun x => wpE Φ b E ρ fun y => cmpW o x y fun k => if k = true then wpE Φ c E ρ fun z => cmpW p y z fun c => Q (.bool c) else Q (.bool false)
  | .and a b, E, ρ, Q => wpE Φ a E ρ fun x => ∃ c, x = .bool c ∧ if c = true then wpE Φ b E ρ Q else Q (.bool false)
  | .or a b, E, ρ, Q => wpE Φ a E ρ fun x => ∃ c, x = .bool c ∧ if c = true then Q (.bool true) else wpE Φ b E ρ Q
  | .not a, E, ρ, Q => wpE Φ a E ρ fun x => ∃ c, x = .bool c ∧ Q (.bool (!c))
  | .ite t a b, E, ρ, Q => wpT Φ t E ρ fun c => if c = true then wpE Φ a E ρ Q else wpE Φ b E ρ Q
  | .tup es, E, ρ, Q => wpEs Φ es E ρ fun xs => xs.length ≤ 100000 ∧ Q (.tuple xs)
  | .lst es, E, ρ, Q => wpEs Φ es E ρ fun xs => xs.length ≤ 100000 ∧ Q (.list xs)
  | .dis ks es, E, ρ, Q => wpEs Φ es E ρ fun xs => Q (.dict ((ks.zip xs).map fun p => (kD p.1, p.2)))
  | .ix a b, E, ρ, Q => wpE Φ a E ρ fun x => wpE Φ b E ρ fun y => ixW x y Q
  | .sl a lo hi, E, ρ, Q => wpE Φ a E ρ fun x => wpP Φ lo E ρ fun l => wpP Φ hi E ρ fun h => slW x l h Q
  | .rev a, E, ρ, Q => wpE Φ a E ρ fun x => revW x Q
  | .call f es, E, ρ, Q => wpEs Φ es E ρ fun xs => Φ f xs Q E
  | .callK f es ks kes pm, E, ρ, Q => wpEs Φ es E ρ fun xs => wpEs Φ kes E ρ fun ys => Φ f (xs ++ pm.map fun j => ys.getD j .none) Q E
  | .bi f es, E, ρ, Q => wpEs Φ es E ρ fun xs => biW f xs Q
  | .isi a t, E, ρ, Q => wpE Φ a E ρ fun x => Q (.bool (isiD t x))
  | .lens a, E, ρ, Q => wpE Φ a E ρ fun x => ∃ xs, x = .list xs ∧ lensW xs Q
  | .con _ k, _, _, Q => Q (kD k)
  | .lc own tg it ifs elt, E, ρ, Q => wpI Φ it E ρ fun items => items.length ≤ 100000 ∧
      lcGo (fun x R => tgW some tg x (wipeD ρ (own.map (·.2))) fun ρ' => wpTo Φ ifs E0 ρ' fun b => if b = true then wpE Φ elt E0 ρ' fun y => R (some y) else R none) items [] fun ys => Q (.list ys)
  | .dkI j _, _, ρ, Q => ρ[j]? = some (some deckD) ∧ ∀ i : Int, Q (.int i)
def wpEs (Φ : Phi) : CEs → EPo → Env → (List D → Prop) → Prop
  | .nil, _, _, Q => Q []
  | .cons e r, E, ρ, Q => wpE Φ e E ρ fun x => wpEs Φ r E ρ fun xs => Q (x :: xs)
def wpP (Φ : Phi) : CP → EPo → Env → (Option Int → Prop) → Prop
  | .no, _, _, Q => Q none
  | .yes e, E, ρ, Q => wpE Φ e E ρ fun x => ∃ i, x = .int i ∧ Q (some i)
def wpTo (Φ : Phi) : CTo → EPo → Env → (Bool → Prop) → Prop
  | .no, _, _, Q => Q true
  | .yes t, E, ρ, Q => wpT Φ t E ρ Q
def wpT (Φ : Phi) : CT → EPo → Env → (Bool → Prop) → Prop
  | .val e, E, ρ, Q => wpE Φ e E ρ fun x => truW x Q
  | .cmp o a b, E, ρ, Q => wpE Φ a E ρ fun x => wpE Φ b E ρ fun y => cmpW o x y Q
  | .chn o p a b c, E, ρ, Q => wpE Φ a E ρ fun x => wpE Φ b E ρ fun y => cmpW o x y fun k => if k = true then wpE Φ c E ρ fun z => cmpW p y z Q else Q false
  | .and a b, E, ρ, Q => wpT Φ a E ρ fun c => if c = true then wpT Φ b E ρ Q else Q false
  | .or a b, E, ρ, Q => wpT Φ a E ρ fun c => if c = true then Q true else wpT Φ b E ρ Q
  | .not a, E, ρ, Q => wpT Φ a E ρ fun c => Q (!c)
def wpI (Φ : Phi) : CI → EPo → Env → (List D → Prop) → Prop
  | .seq e, E, ρ, Q => wpE Φ e E ρ fun x => (∃ xs, x = .list xs ∧ Q xs) ∨ ∃ xs, x = .tuple xs ∧ Q xs
  | .sgn e, E, ρ, Q => wpE Φ e E ρ fun x => ∃ s, x = .str s ∧ Q (sgnD s)
  | .rng1 a, E, ρ, Q => wpE Φ a E ρ fun x => ∃ i : Int, x = .int i ∧ (-(2 ^ 62) ≤ i ∧ i < 2 ^ 62) ∧ Q (rngD 0 i.toNat)
  | .rng2 a b, E, ρ, Q => wpE Φ a E ρ fun x => wpE Φ b E ρ fun y => ∃ i j : Int, x = .int i ∧ y = .int j ∧ (-(2 ^ 62) ≤ i ∧ i < 2 ^ 62 ∧ -(2 ^ 62) ≤ j ∧ j < 2 ^ 62) ∧ Q (rngD i (j - i).toNat)
  | .enum a, E, ρ, Q => wpE Φ a E ρ fun x => (∃ xs, x = .list xs ∧ Q (enumD 0 xs)) ∨ ∃ xs, x = .tuple xs ∧ Q (enumD 0 xs)
  | .zip a b, E, ρ, Q => wpE Φ a E ρ fun x => wpE Φ b E ρ fun y => (∃ xs ys, x = .list xs ∧ y = .list ys ∧ Q (zipD xs ys)) ∨ ∃ xs ys, x = .tuple xs ∧ y = .tuple ys ∧ Q (zipD xs ys)
end

/-! ### slots that hold data, or a list of the def's own -/
inductive Sl | no | d (x : D) | own (xs : List D)
abbrev Sls := List Sl
/-- what an expression with the variables vs may look at -/
def viewFrom (vs : List Nat) : Nat → Sls → Env
  | _, [] => []
  | i, .no :: r => none :: viewFrom vs (i + 1) r
  | i, .d x :: r => some x :: viewFrom vs (i + 1) r
  | i, .own xs :: r => (if i ∈ vs then some (.list xs) else none) :: viewFrom vs (i + 1) r
def viewOf (vs : List Nat) (st : Sls) : Env := viewFrom vs 0 st
def frz1 (i : Nat) (st : Sls) : Sls := match st[i]? with
  | some (.own xs) => st.set i (.d (.list xs))
  | _ => st
def frz : List Nat → Sls → Sls
  | [], st => st
  | i :: r, st => frz r (frz1 i st)
def noOwn (vs : List Nat) (st : Sls) : Bool := vs.all fun i => match st[i]? with
  | some (.own _) => false
  | _ => true
def aft (vs : List Nat) (d : D) (st : Sls) : Sls := if noList d = true then st else frz vs st

mutual
def vE : CE → List Nat
  | .var i => [i]
  | .bin _ a b => vE a ++ vE b
  | .neg a => vE a
  | .cmp _ a b => vE a ++ vE b
  | .chn _ _ a b c => vE a ++ vE b ++ vE c
  | .and a b => vE a ++ vE b
  | .or a b => vE a ++ vE b
  | .not a => vE a
  | .ite t a b => vT t ++ vE a ++ vE b
  | .tup es => vEs es
  | .lst es => vEs es
  | .dis _ es => vEs es
  | .ix a b => vE a ++ vE b
  | .sl a lo hi => vE a ++ vP lo ++ vP hi
  | .rev a => vE a
  | .call _ es => vEs es
  | .callK _ es _ kes _ => vEs es ++ vEs kes
  | .bi _ es => vEs es
  | .isi a _ => vE a
  | .lens a => vE a
  | .lc _ _ it ifs elt => vI it ++ vTo ifs ++ vE elt
  | .dkI j _ => [j]
  | _ => []
def vEs : CEs → List Nat
  | .nil => []
  | .cons e r => vE e ++ vEs r
def vP : CP → List Nat
  | .no => []
  | .yes e => vE e
def vTo : CTo → List Nat
  | .no => []
  | .yes t => vT t
def vT : CT → List Nat
  | .val e => vE e
  | .cmp _ a b => vE a ++ vE b
  | .chn _ _ a b c => vE a ++ vE b ++ vE c
  | .and a b => vT a ++ vT b
  | .or a b => vT a ++ vT b
  | .not a => vT a
def vI : CI → List Nat
  | .seq e => vE e
  | .sgn e => vE e
  | .rng1 a => vE a
  | .rng2 a b => vE a ++ vE b
  | .enum a => vE a
  | .zip a b => vE a ++ vE b
end

/-- errors: the field of a class, what a class is a kind of -/
def fldOf (x : Str) : Str := if x = "BadText" then "line" else "thing"
def subE (x y : Str) : Bool := decide (x = y) || decide (y = "EyeError")
mutual
def chD (x : Str) (y : D) : CH → D
  | .non => .none
  | .bl b => .bool b
  | .int i => .int i
  | .str s => .str s
  | .fld _ => y
  | .isi C => .bool (subE x C)
  | .tup es => .tuple (chDs x y es)
  | .ite C a b => if subE x C = true then chD x y a else chD x y b
def chDs (x : Str) (y : D) : CHs → List D
  | .nil => []
  | .cons e r => chD x y e :: chDs x y r
end
mutual
def chOk (x : Str) : CH → Bool
  | .fld f => decide (f = fldOf x)
  | .tup es => chsOk x es
  | .ite C a b => if subE x C = true then chOk x a else chOk x b
  | _ => true
def chsOk (x : Str) : CHs → Bool
  | .nil => true
  | .cons e r => chOk x e && chsOk x r
end
/-- what a try wishes of an error -/
def tryE (E : EPo) (R : DP) : List Hd → EPo
  | [] => E
  | h :: r => fun x y => if subE x h.x = true then chOk x h.h = true ∧ R (chD x y h.h) else tryE E R r x y

structure En where
  nx : Sls → Prop
  rt : DP
  bk : Sls → Prop := fun _ => False
  ct : Sls → Prop := fun _ => False

def forGo (tg : Tg) (B : En → Sls → Prop) (D : En) : List Ey.D → Sls → Prop
  | [], st => D.nx st
  | x :: xs, st => tgW Sl.d tg x st fun st' => B { nx := forGo tg B D xs, rt := D.rt, bk := D.nx, ct := forGo tg B D xs } st'
def whlGo (T : Sls → (Bool → Prop) → Prop) (B : En → Sls → Prop) (D : En) : Nat → Sls → Prop
  | 0, _ => False
  | n + 1, st => T st fun b => if b = true then B { nx := whlGo T B D n, rt := D.rt, bk := D.nx, ct := whlGo T B D n } st else D.nx st
/-- what a store of several may take -/
def parOk (b : Bool) : List Bool → List Ey.D → Bool
  | [], [] => true
  | true :: fl, .list ys :: xs => (noLists ys || b) && parOk b fl xs
  | false :: fl, x :: xs => (noList x || b) && parOk b fl xs
  | _, _ => false
def setPar : List Nat → List Bool → List Ey.D → Sls → Sls
  | i :: is, true :: fl, .list ys :: xs, st => setPar is fl xs (st.set i (.own ys))
  | i :: is, false :: fl, x :: xs, st => setPar is fl xs (st.set i (.d x))
  | _, _, _, st => st

def wpApp (Φ : Phi) (E : EPo) (i : Nat) (e : CE) (D : En) (st : Sls) : Prop :=
  ∃ xs, st[i]? = some (Sl.own xs) ∧ xs.length < 100000 ∧ wpE Φ e E (viewOf (vE e) st) fun d => (noList d || noOwn (vE e) st) = true ∧ D.nx (st.set i (.own (xs ++ [d])))
mutual
def wpS (Φ : Phi) : EPo → CS → En → Sls → Prop
  | E, .asg i e, D, st => wpE Φ e E (viewOf (vE e) st) fun d => D.nx ((aft (vE e) d st).set i (.d d))
  | E, .asgL i e, D, st => wpE Φ e E (viewOf (vE e) st) fun d => ∃ xs, d = .list xs ∧ (noLists xs || noOwn (vE e) st) = true ∧ D.nx (st.set i (.own xs))
  | E, .asgT tg e, D, st => wpE Φ e E (viewOf (vE e) st) fun d => tgW Sl.d tg d (aft (vE e) d st) D.nx
  | E, .par is fl es, D, st => wpEs Φ es E (viewOf (vEs es) st) fun xs => parOk (noOwn (vEs es) st) fl xs = true ∧ D.nx (setPar is fl xs st)
  | E, .ret e, D, st => wpE Φ e E (viewOf (vE e) st) D.rt
  | E, .retN, D, _ => D.rt .none
  | E, .drop e, D, st => wpE Φ e E (viewOf (vE e) st) fun _ => D.nx st
  | E, .ite t a b, D, st => wpT Φ t E (viewOf (vT t) st) fun c => if c = true then wpSs Φ E a D st else wpSs Φ E b D st
  | E, .whl t b, D, st => ∃ n, whlGo (fun st Q => wpT Φ t E (viewOf (vT t) st) Q) (wpSs Φ E b) D n st
  | E, .for tg it b, D, st => wpI Φ it E (viewOf (vI it) st) fun items => forGo tg (wpSs Φ E b) D items (frz (vI it) st)
  | E, .app i e, D, st => wpApp Φ E i e D st
  | E, .appI t i j e, D, st => wpT Φ t E (viewOf (vT t) st) fun c => if c = true then wpApp Φ E i e D st else wpApp Φ E j e D st
  | E, .appPop i j e, D, st => i ≠ j ∧ ∃ xs ys, st[i]? = some (Sl.own xs) ∧ st[j]? = some (Sl.own ys) ∧ xs.length < 100000 ∧ wpE Φ e E (viewOf (vE e) st) fun n => ∃ (m : Nat) (z : Ey.D), n = .int m ∧ m < 2 ^ 62 ∧ ys[m]? = some z ∧
      D.nx ((st.set j (.own (ys.eraseIdx m))).set i (.own (xs ++ [z])))
  | E, .ext i e, D, st => ∃ xs, st[i]? = some (Sl.own xs) ∧ wpE Φ e E (viewOf (vE e) st) fun d => ∃ ys, d = .list ys ∧ xs.length + ys.length ≤ 100000 ∧ (noLists ys || noOwn (vE e) st) = true ∧ D.nx (st.set i (.own (xs ++ ys)))
  | E, .ins i k e, D, st => ∃ xs, st[i]? = some (Sl.own xs) ∧ wpE Φ k E (viewOf (vE k) st) fun n => ∃ j : Nat, n = .int j ∧ j ≤ xs.length ∧ xs.length < 100000 ∧ wpE Φ e E (viewOf (vE e) st) fun d => (noList d || noOwn (vE e) st) = true ∧
      D.nx (st.set i (.own (xs.take j ++ [d] ++ xs.drop j)))
  | E, .stI i k e, D, st => ∃ xs, st[i]? = some (Sl.own xs) ∧ wpE Φ e E (viewOf (vE e) st) fun d => (noList d || noOwn (vE e) st) = true ∧ wpE Φ k E (viewOf (vE k) st) fun n => ∃ (m : Int) (j : Nat), n = .int m ∧ ixN xs.length m = some j ∧
      D.nx (st.set i (.own (xs.set j d)))
  | E, .raise x e, _, st => wpE Φ e E (viewOf (vE e) st) fun d => E x d
  | E, .pass, D, st => D.nx st
  | E, .brk, D, st => D.bk st
  | E, .cont, D, st => D.ct st
  | E, .try b hs, D, st => wpSs Φ (tryE E D.rt hs) b D st
  | E, .dkSet j _ e, D, st => st[j]? = some (Sl.d deckD) ∧ wpE Φ e E (viewOf (vE e) st) fun d => ∃ i, d = .int i ∧ D.nx st
  | E, .dkCell j i m b, D, st => st[j]? = some (Sl.d deckD) ∧ i < st.length ∧ (∃ k : Int, st[m]? = some (Sl.d (.int k)) ∧ 0 < k ∧ k < 2 ^ 64 ∧ ∀ n : Int, D.rt (.int (n.fmod k))) ∧ (∀ n : Int, wpSs Φ E b D (st.set i (.d (.int n)))) ∧ D.nx st
def wpSs (Φ : Phi) : EPo → CSs → En → Sls → Prop
  | E, .nil, D, st => D.nx st
  | E, .cons s r, D, st => wpS Φ E s { D with nx := wpSs Φ E r D } st
end

/-! ### defs -/
structure Fn where
  N : List Str
  ps : List Str
  body : CSs
def initSl (f : Fn) (xs : List D) : Sls := xs.map Sl.d ++ List.replicate (f.N.length - xs.length) Sl.no
abbrev Tb := Str → Option Fn
def phi (T : Tb) : Nat → Phi
  | 0 => fun _ _ _ _ => False
  | n + 1 => fun f xs Q E => ∃ F, T f = some F ∧ xs.length = F.ps.length ∧ wpSs (phi T n) E F.body { nx := fun _ => Q .none, rt := Q } (initSl F xs)
end Ey

end
section
set_option Elab.async false
set_option linter.all false
set_option maxRecDepth 100000
/-! Ey2: data in the heap, how the heap grows. -/
namespace Ey
open PySem PySem.Spec L2
open Evl (Ex)

mutual
/-- v is the data d, in what is known of the heap; δ: where the deck stands -/
inductive Rl (K : PySem.W.Frag) (G : Hp) (δ : Option (Addr × Addr)) : V → D → Prop
  | non : Rl K G δ .non .none
  | bl (b : Bool) : Rl K G δ (.bl b) (.bool b)
  | int (i : Int) : Rl K G δ (.int i) (.int i)
  | str (x : Str) : Rl K G δ (.str x) (.str x)
  | lst {a : Addr} {xs : List V} {ds : List D} : G a = some (.lst xs) → RlAll K G δ xs ds → Rl K G δ (.ref a) (.list ds)
  | tup {a : Addr} {xs : List V} {ds : List D} : SqT K G a xs → RlAll K G δ xs ds → Rl K G δ (.ref a) (.tuple ds)
  | dic {a : Addr} {kvs : List (Key × V)} {ds : List (D × D)} : G a = some (.dK kvs) → RlKv K G δ kvs ds → Rl K G δ (.ref a) (.dict ds)
  | deck {p : Addr × Addr} : δ = some p → Rl K G δ (.ref p.1) deckD
inductive RlAll (K : PySem.W.Frag) (G : Hp) (δ : Option (Addr × Addr)) : List V → List D → Prop
  | nil : RlAll K G δ [] []
  | cons {v : V} {vs : List V} {d : D} {ds : List D} : Rl K G δ v d → RlAll K G δ vs ds → RlAll K G δ (v :: vs) (d :: ds)
inductive RlKv (K : PySem.W.Frag) (G : Hp) (δ : Option (Addr × Addr)) : List (Key × V) → List (D × D) → Prop
  | nil : RlKv K G δ [] []
  | cons {k : Key} {v : V} {kvs : List (Key × V)} {d : D} {ds : List (D × D)} : Rl K G δ v d → RlKv K G δ kvs ds → RlKv K G δ ((k, v) :: kvs) ((kD k, d) :: ds)
end

section
variable {K : PySem.W.Frag} {G G' : Hp} {δ : Option (Addr × Addr)}
mutual
theorem Rl.mono (e : Ex G G') : ∀ (d : D) (v : V), Rl K G δ v d → Rl K G' δ v d
  | .none, _, h => by cases h; exact .non
  | .bool b, _, h => by cases h; exact .bl b
  | .int i, _, h => by cases h; exact .int i
  | .str x, _, h => by cases h; exact .str x
  | .list ds, _, h => by
    cases h with
    | lst h1 h2 => exact .lst (e _ _ h1) (RlAll.mono e ds _ h2)
  | .tuple ds, _, h => by
    cases h with
    | tup h1 h2 => exact .tup (Evl.ex_t e h1) (RlAll.mono e ds _ h2)
  | .dict ds, v, h => by
    generalize hd : PyData.dict ds = d at h
    cases h with
    | dic h1 h2 => cases hd; exact .dic (e _ _ h1) (RlKv.mono e ds _ h2)
    | deck h1 => exact .deck h1
    | _ => cases hd
theorem RlAll.mono (e : Ex G G') : ∀ (ds : List D) (vs : List V), RlAll K G δ vs ds → RlAll K G' δ vs ds
  | [], _, h => by cases h; exact .nil
  | d :: ds, _, h => by
    cases h with
    | cons h1 h2 => exact .cons (Rl.mono e d _ h1) (RlAll.mono e ds _ h2)
theorem RlKv.mono (e : Ex G G') : ∀ (ds : List (D × D)) (kvs : List (Key × V)), RlKv K G δ kvs ds → RlKv K G' δ kvs ds
  | [], _, h => by cases h; exact .nil
  | (k, d) :: ds, _, h => by
    generalize hk : (k, d) = kd at h
    cases h with
    | @cons k' v kvs d' ds' h1 h2 =>
      cases hk
      exact .cons (Rl.mono e d _ h1) (RlKv.mono e ds _ h2)
end

theorem RlAll.length : ∀ {vs : List V} {ds : List D}, RlAll K G δ vs ds → vs.length = ds.length
  | _, _, .nil => rfl
  | _, _, .cons _ h => congrArg (· + 1) h.length
theorem RlAll.append : ∀ {vs ws : List V} {ds es : List D}, RlAll K G δ vs ds → RlAll K G δ ws es → RlAll K G δ (vs ++ ws) (ds ++ es)
  | _, _, _, _, .nil, h => h
  | _, _, _, _, .cons r t, h => .cons r (RlAll.append t h)
theorem RlAll.get : ∀ {vs : List V} {ds : List D} {i : Nat} {d : D}, RlAll K G δ vs ds → ds[i]? = some d → ∃ v, vs[i]? = some v ∧ Rl K G δ v d
  | _, _, _, _, .nil, h => by simp at h
  | _, _, 0, d, .cons r _, h => by simp at h; subst h; exact ⟨_, rfl, r⟩
  | _, _, i + 1, d, .cons _ t, h => by
    obtain ⟨v, e, r⟩ := RlAll.get (i := i) t (by simpa using h)
    exact ⟨v, by simpa using e, r⟩
theorem RlAll.getV : ∀ {vs : List V} {ds : List D} {i : Nat} {v : V}, RlAll K G δ vs ds → vs[i]? = some v → ∃ d, ds[i]? = some d ∧ Rl K G δ v d
  | _, _, _, _, .nil, h => by simp at h
  | _, _, 0, d, .cons r _, h => by simp at h; subst h; exact ⟨_, rfl, r⟩
  | _, _, i + 1, d, .cons _ t, h => by
    obtain ⟨v, e, r⟩ := RlAll.getV (i := i) t (by simpa using h)
    exact ⟨v, by simpa using e, r⟩
theorem RlAll.drop : ∀ {vs : List V} {ds : List D} (n : Nat), RlAll K G δ vs ds → RlAll K G δ (vs.drop n) (ds.drop n)
  | _, _, 0, h => h
  | _, _, _ + 1, .nil => .nil
  | _, _, n + 1, .cons _ t => RlAll.drop n t
theorem RlAll.take : ∀ {vs : List V} {ds : List D} (n : Nat), RlAll K G δ vs ds → RlAll K G δ (vs.take n) (ds.take n)
  | _, _, 0, _ => .nil
  | _, _, _ + 1, .nil => .nil
  | _, _, n + 1, .cons r t => .cons r (RlAll.take n t)
theorem RlAll.set {v : V} {d : D} (r : Rl K G δ v d) : ∀ {vs : List V} {ds : List D} (n : Nat), RlAll K G δ vs ds → RlAll K G δ (vs.set n v) (ds.set n d)
  | _, _, _, .nil => .nil
  | _, _, 0, .cons _ t => .cons r t
  | _, _, n + 1, .cons q t => .cons q (RlAll.set r n t)
theorem RlAll.reverse : ∀ {vs : List V} {ds : List D}, RlAll K G δ vs ds → RlAll K G δ vs.reverse ds.reverse
  | _, _, .nil => .nil
  | _, _, .cons r t => by
    rw [List.reverse_cons, List.reverse_cons]
    exact (RlAll.reverse t).append (.cons r .nil)
theorem RlAll.rep {vs : List V} {ds : List D} (h : RlAll K G δ vs ds) : ∀ n : Nat, RlAll K G δ (List.replicate n vs).flatten (List.replicate n ds).flatten
  | 0 => .nil
  | n + 1 => by
    rw [List.replicate_succ, List.replicate_succ, List.flatten_cons, List.flatten_cons]
    exact h.append (RlAll.rep h n)

/-! data as the layer's own relation knows it: without dicts -/
mutual
theorem Rl.dp : ∀ (d : D) (v : V), d.plain = true → Rl K G δ v d → Dp K G v d
  | .none, _, _, h => by cases h; exact .non
  | .bool b, _, _, h => by cases h; exact .bl b
  | .int i, _, _, h => by cases h; exact .int i
  | .str x, _, _, h => by cases h; exact .str x
  | .list ds, _, c, h => by
    cases h with
    | lst h1 h2 => exact .lst (SqL.of h1) (RlAll.dp ds _ (by simpa [PyData.plain] using c) h2)
  | .tuple ds, _, c, h => by
    cases h with
    | tup h1 h2 => exact .tup h1 (RlAll.dp ds _ (by simpa [PyData.plain] using c) h2)
  | .dict ds, v, c, h => by simp [PyData.plain] at c
theorem RlAll.dp : ∀ (ds : List D) (vs : List V), PyData.plainAll ds = true → RlAll K G δ vs ds → DpAll K G vs ds
  | [], _, _, h => by cases h; exact .nil
  | d :: ds, _, c, h => by
    have c' : d.plain = true ∧ PyData.plainAll ds = true := by simpa [PyData.plainAll] using c
    cases h with
    | cons h1 h2 => exact .cons (Rl.dp d _ c'.1 h1) (RlAll.dp ds _ c'.2 h2)
end

/-- data without lists hangs on tuples alone -/
def TupIn (G G' : Hp) : Prop := ∀ a xs, Rd G a (.tup xs) → Rd G' a (.tup xs)
theorem sqT_tupIn {a : Addr} {xs : List V} (e : TupIn G G') (h : SqT K G a xs) : SqT K G' a xs := by
  rcases h with h | h
  · exact .inl (e _ _ h)
  · exact .inr h
mutual
theorem Rl.tups (e : TupIn G G') : ∀ (d : D) (v : V), noList d = true → Rl K G δ v d → Rl K G' δ v d
  | .none, _, _, h => by cases h; exact .non
  | .bool b, _, _, h => by cases h; exact .bl b
  | .int i, _, _, h => by cases h; exact .int i
  | .str x, _, _, h => by cases h; exact .str x
  | .list ds, _, n, h => by simp [noList] at n
  | .tuple ds, _, n, h => by
    cases h with
    | tup h1 h2 => exact .tup (sqT_tupIn e h1) (RlAll.tups e ds _ (by simpa [noList] using n) h2)
  | .dict ds, v, n, h => by simp [noList] at n
theorem RlAll.tups (e : TupIn G G') : ∀ (ds : List D) (vs : List V), noLists ds = true → RlAll K G δ vs ds → RlAll K G' δ vs ds
  | [], _, _, h => by cases h; exact .nil
  | d :: ds, _, n, h => by
    have n' : noList d = true ∧ noLists ds = true := by simpa [noLists] using n
    cases h with
    | cons h1 h2 => exact .cons (Rl.tups e d _ n'.1 h1) (RlAll.tups e ds _ n'.2 h2)
end
end

/-! ### how the heap grows -/
/-- the deck stands: a dict with a list of ints and two ints -/
def DeckAt (H : Hp) (p : Addr × Addr) : Prop := ∃ (kn : Str) (ns : List Int) (m c : Int), kn = deckKey ∧
  H p.1 = some (.dK [(.inr kn, .ref p.2), (.inr "mixed", .int m), (.inr "draws", .int c)]) ∧ H p.2 = some (.lst (ns.map V.int)) ∧ ns.length ≤ 100
/-- G: what is known for good, a part of H; the deck stands beside it -/
structure Wd (δ : Option (Addr × Addr)) (G H : Hp) : Prop where
  ex : Ex G H
  dk : ∀ p, δ = some p → G p.1 = none ∧ G p.2 = none ∧ DeckAt H p
def NotDk (δ : Option (Addr × Addr)) (a : Addr) : Prop := ∀ p, δ = some p → a ≠ p.1 ∧ a ≠ p.2
/-- from G, H to G', H' -/
structure Nx (δ : Option (Addr × Addr)) (G H G' H' : Hp) : Prop where
  wd : Wd δ G' H'
  grow : Ex G G'
  keep : ∀ a o, H a = some o → G a = none → NotDk δ a → H' a = some o ∧ G' a = none
section
variable {δ : Option (Addr × Addr)} {G H G1 H1 G2 H2 : Hp} {p : Addr} {o : HO}
theorem Nx.refl (w : Wd δ G H) : Nx δ G H G H := ⟨w, Evl.Ex.refl _, fun _ _ h n _ => ⟨h, n⟩⟩
theorem Nx.trans (a : Nx δ G H G1 H1) (b : Nx δ G1 H1 G2 H2) : Nx δ G H G2 H2 :=
  ⟨b.wd, a.grow.trans b.grow, fun x o h n d => let ⟨h1, n1⟩ := a.keep x o h n d; b.keep x o h1 n1 d⟩
theorem free_of (e : Ex G H) (h : H p = none) : G p = none := Evl.fresh_back e h
theorem ex_upd2 (e : Ex G H) : Ex (upd G p o) (upd H p o) := fun a u h => by
  by_cases z : a = p
  · subst z; rw [upd_same] at h ⊢; exact h
  · rw [upd_ne z] at h ⊢; exact e a u h
theorem DeckAt.upd {q : Addr × Addr} (h : DeckAt H q) (n : H p = none) : DeckAt (upd H p o) q := by
  obtain ⟨kn, ns, m, c, k, h1, h2, l⟩ := h
  exact ⟨kn, ns, m, c, k, by rw [upd_ne (ne_of_none h1 n)]; exact h1, by rw [upd_ne (ne_of_none h2 n)]; exact h2, l⟩
/-- a new object, known for good -/
theorem Nx.new (w : Wd δ G H) (h : H p = none) : Nx δ G H (upd G p o) (upd H p o) := by
  have hg := free_of w.ex h
  refine ⟨⟨ex_upd2 w.ex, fun q e => ?_⟩, Evl.Ex.new hg, fun a u ha na _ => ?_⟩
  · obtain ⟨a, b, d⟩ := w.dk q e
    obtain ⟨kn, ns, m, c, k, h1, h2, l⟩ := id d
    exact ⟨by rw [upd_ne (ne_of_none h1 h)]; exact a, by rw [upd_ne (ne_of_none h2 h)]; exact b, d.upd h⟩
  · have z : a ≠ p := ne_of_none ha h
    exact ⟨by rw [upd_ne z]; exact ha, by rw [upd_ne z]; exact na⟩
/-- a new object that may change -/
theorem Nx.newH (w : Wd δ G H) (h : H p = none) : Nx δ G H G (upd H p o) := by
  have hg := free_of w.ex h
  refine ⟨⟨fun a u e => ?_, fun q e => ?_⟩, Evl.Ex.refl _, fun a u ha na _ => ?_⟩
  · rw [upd_ne (ne_of_none (w.ex a u e) h)]; exact w.ex a u e
  · obtain ⟨a, b, d⟩ := w.dk q e
    exact ⟨a, b, d.upd h⟩
  · have z : a ≠ p := ne_of_none ha h
    exact ⟨by rw [upd_ne z]; exact ha, na⟩
/-- an object of our own, known no more to change, is known for good -/
theorem Nx.know (w : Wd δ G H) (h : H p = some o) (hg : G p = none) (d : NotDk δ p) : Wd δ (upd G p o) H := by
  refine ⟨fun a u e => ?_, fun q e => ?_⟩
  · by_cases z : a = p
    · subst z; rw [upd_same] at e; rw [← e]; exact h
    · rw [upd_ne z] at e; exact w.ex a u e
  · obtain ⟨a, b, k⟩ := w.dk q e
    obtain ⟨d1, d2⟩ := d q e
    exact ⟨by rw [upd_ne d1.symm]; exact a, by rw [upd_ne d2.symm]; exact b, k⟩
theorem Wd.notdk (w : Wd δ G H) (h : H p = none) : NotDk δ p := fun q e => by
  obtain ⟨_, _, kn, ns, m, c, k, h1, h2, l⟩ := w.dk q e
  exact ⟨fun z => (by rw [z, h1] at h; cases h), fun z => (by rw [z, h2] at h; cases h)⟩
end

/-- the slots hold what the environment says -/
def RelS (K : PySem.W.Frag) (G : Hp) (δ : Option (Addr × Addr)) (ρ : Env) (σ : L2.St) : Prop :=
  ∀ (i : Nat) (d : D), ρ[i]? = some (some d) → ∃ v, σ[i]? = some (some v) ∧ Rl K G δ v d
theorem RelS.mono {K : PySem.W.Frag} {G G' : Hp} {δ : Option (Addr × Addr)} {ρ : Env} {σ : L2.St} (e : Ex G G') (h : RelS K G δ ρ σ) : RelS K G' δ ρ σ := fun i d hd =>
  let ⟨v, a, b⟩ := h i d hd
  ⟨v, a, b.mono e⟩

/-- an error on its way: its class has the name x, it carries y -/
def XRel (K : PySem.W.Frag) (mg : Str → Option Value) (er : List Str) (G : Hp) (δ : Option (Addr × Addr)) (x : Str) (y : D) (cls : Value) (dd : Option Addr) (H : Hp) : Prop :=
  x ∈ er ∧ ∃ (C a : Addr) (v : V), mg x = some (.ref C) ∧ cls = .ref C ∧ dd = some a ∧ H a = some (.xd [(fldOf x, v)]) ∧ Rl K G δ v y ∧ G a = none ∧ NotDk δ a
end Ey

end
section
set_option Elab.async false
set_option linter.all false
set_option maxRecDepth 100000
set_option maxHeartbeats 2000000
/-! EyR: repr of data. -/
namespace Ey
open PySem PySem.Spec PyProof.Rows L2
open Evl (Ex)

/-- what is said of data at d's value u: it is read there, and repr tells it -/
def Shw (P : Program) (w : World) (h : Heap) (u : Value) (d : D) : Prop :=
  ∃ as bs, Reads h u d as ∧ ReadAtMost h d.depth bs ∧ ReprK P w bs h d.depth u d.shown
def ShwAll (P : Program) (w : World) (h : Heap) (us : List Value) (ds : List D) : Prop :=
  ∃ as bs, ReadsAll h us ds as ∧ ReadAtMost h (PyData.depthAll ds) bs ∧ ReprAllK P w bs h (PyData.depthAll ds) us (PyData.shownAll ds)
section
variable {P : Program} {w : World} {h : Heap}
theorem Shw.none : Shw P w h .none .none := ⟨_, [], Reads.none, fun _ z => (nomatch z), by simp only [PyData.shown]; exact .of_is ReprIs.none _ _ _⟩
theorem Shw.bool (b : Bool) : Shw P w h (.bool b) (.bool b) := ⟨_, [], Reads.bool b, fun _ z => (nomatch z), by simp only [PyData.shown]; exact .of_is (ReprIs.bool b) _ _ _⟩
theorem Shw.int {i : Int} {t : Tok} (hi : i.natAbs.log2 < 1920) : Shw P w h (.int i t) (.int i) := ⟨_, [], Reads.int i t, fun _ z => (nomatch z), by simp only [PyData.shown]; exact .of_is (ReprIs.int t hi) _ _ _⟩
theorem Shw.str {x : Str} {t : Tok} (hx : (reprText x).length ≤ sizeLine) : Shw P w h (.str x t) (.str x) := ⟨_, [], Reads.str x t, fun _ z => (nomatch z), by simp only [PyData.shown]; exact .of_is (ReprIs.str x t hx) _ _ _⟩
theorem ShwAll.nil : ShwAll P w h [] [] := ⟨_, [], ReadsAll.nil, fun _ z => (nomatch z), by simp only [PyData.shownAll]; exact .nil⟩
theorem ReadAtMost.le {n m : Nat} {bs : List Addr} (z : ReadAtMost h n bs) (e : n ≤ m) : ReadAtMost h m bs := fun b hb => by
  obtain ⟨d, as, r, k⟩ := z b hb
  exact ⟨d, as, r, Nat.le_trans k e⟩
theorem ShwAll.cons {u : Value} {us : List Value} {d : D} {ds : List D} (a : Shw P w h u d) (b : ShwAll P w h us ds) : ShwAll P w h (u :: us) (d :: ds) := by
  obtain ⟨a1, b1, r1, m1, k1⟩ := a
  obtain ⟨a2, b2, r2, m2, k2⟩ := b
  refine ⟨_, b1 ++ b2, ReadsAll.cons r1 r2, fun x hx => ?_, ?_⟩
  · simp only [PyData.depthAll]
    rcases List.mem_append.mp hx with z | z
    · exact ReadAtMost.le m1 (Nat.le_max_left _ _) x z
    · exact ReadAtMost.le m2 (Nat.le_max_right _ _) x z
  · simp only [PyData.depthAll, PyData.shownAll]
    exact .cons ((k1.more fun x z => List.mem_append_left _ z).level_le (Nat.le_max_left _ _)) (k2.more_le (fun x z => List.mem_append_right _ z) (Nat.le_max_right _ _))
theorem Shw.list {a : Addr} {o : Obj} {us : List Value} {n : Nat} {ds : List D} (ho : h.get? a = some o) (hc : o.cls = .type "list") (hd : o.data = .seq us.toArray n) (z : ShwAll P w h us ds) : Shw P w h (.ref a) (.list ds) := by
  obtain ⟨as, bs, r, m, k⟩ := z
  have rd : Reads h (.ref a) (.list ds) (a :: as) := Reads.list ho hc hd r
  have na : a ∉ bs := not_mem_of_deeper rd (by simp only [PyData.depth]; omega) m
  refine ⟨_, a :: bs, rd, ReadAtMost.cons rd (by simp only [PyData.depth]; omega) m, ?_⟩
  simp only [PyData.depth, PyData.shown]
  cases us with
  | nil =>
    cases r
    simp only [PyData.shownAll, listText_nil]
    exact ReprK.listEmpty ho hc hd
  | cons x l => exact ReprK.list ho hc hd na (by simpa using k.length_eq) fun i y e => k.item i y (by simpa using e)
theorem Shw.tuple {a : Addr} {o : Obj} {us : List Value} {n : Nat} {ds : List D} (ho : h.get? a = some o) (hc : o.cls = .type "tuple") (hd : o.data = .seq us.toArray n) (z : ShwAll P w h us ds) : Shw P w h (.ref a) (.tuple ds) := by
  obtain ⟨as, bs, r, m, k⟩ := z
  have rd : Reads h (.ref a) (.tuple ds) as := Reads.tuple ho hc hd r
  have na : a ∉ bs := not_mem_of_deeper rd (by simp only [PyData.depth]; omega) m
  refine ⟨_, a :: bs, rd, ReadAtMost.cons rd (by simp only [PyData.depth]; omega) m, ?_⟩
  simp only [PyData.depth, PyData.shown]
  exact ReprK.tuple ho hc hd na k
theorem Shw.dict {a : Addr} {o : Obj} {es : Array DictEntry} {n : Nat} {ds : List (D × D)} (ho : h.get? a = some o) (hc : o.cls = .type "dict") (hd : o.data = .dict es n) (hs : (a == sysModules) = false)
    (zk : ShwAll P w h (es.toList.map (·.key)) (ds.map (·.1))) (zv : ShwAll P w h (es.toList.map (·.val)) (ds.map (·.2))) : Shw P w h (.ref a) (.dict ds) := by
  obtain ⟨a1, b1, r1, m1, k1⟩ := zk
  obtain ⟨a2, b2, r2, m2, k2⟩ := zv
  have rd : Reads h (.ref a) (.dict ds) (a :: a1 ++ a2) := Reads.dict ho hc hd r1 r2
  have l1 := PyData.depthAll_keys_le ds
  have l2 := PyData.depthAll_vals_le ds
  have m : ReadAtMost h (PyData.depthKv ds) (b1 ++ b2) := fun x hx => (List.mem_append.mp hx).elim (ReadAtMost.le m1 l1 x) (ReadAtMost.le m2 l2 x)
  have na : a ∉ b1 ++ b2 := not_mem_of_deeper rd (by simp only [PyData.depth]; omega) m
  refine ⟨_, a :: (b1 ++ b2), rd, ReadAtMost.cons rd (by simp only [PyData.depth]; omega) m, ?_⟩
  simp only [PyData.depth, PyData.shown, PyData.shownKv_eq]
  exact ReprK.dict ho hc hd hs na (ReprEntriesK.of_two es.toList _ _ (k1.more_le (fun x z => List.mem_append_left _ z) l1) (k2.more_le (fun x z => List.mem_append_right _ z) l2))
end

theorem key_shw {P : Program} {w : World} {h : Heap} {k : Key} {u : Value} (hk : keyIs k u = true) (hs : (kD k).showable = true) (hz : (kD k).shown.length ≤ sizeLine) : Shw P w h u (kD k) := by
  rcases keyIs_shape hk with ⟨i, t, rfl, rfl⟩ | ⟨x, t, rfl, rfl⟩
  · exact Shw.int (by simpa [kD, PyData.showable] using hs)
  · exact Shw.str (by simpa only [kD, PyData.shown] using hz)
/-- a dict's keys, as they stand -/
theorem keys_shw {P : Program} {w : World} {h : Heap} : ∀ {es : List DictEntry} {vs : List (Key × Value)} {ds : List (D × D)}, Pairs (mixKind P w) es vs → vs.map (fun p => kD p.1) = ds.map (·.1) → PyData.showableAll (ds.map (·.1)) = true →
    (∀ t ∈ PyData.shownAll (ds.map (·.1)), t.length ≤ sizeLine) → ShwAll P w h (es.map (·.key)) (ds.map (·.1))
  | _, _, [], .nil, _, _, _ => ShwAll.nil
  | _, _, _ :: _, .nil, e, _, _ => by simp at e
  | _, _, [], .cons _ _ _, e, _, _ => by simp at e
  | _, _, d :: ds, .cons k v r, e, hs, hz => by
    rw [List.map_cons, List.map_cons] at e
    obtain ⟨e1, e2⟩ := List.cons.inj e
    rw [List.map_cons] at hs hz
    have hs' : d.1.showable = true ∧ PyData.showableAll (ds.map (·.1)) = true := by simpa [PyData.showableAll] using hs
    simp only [PyData.shownAll] at hz
    have q := keys_shw (h := h) (ds := ds) r e2 hs'.2 fun t ht => hz t (List.mem_cons_of_mem _ ht)
    rw [List.map_cons, List.map_cons]
    refine .cons ?_ q
    rw [← e1]
    exact key_shw k (by rw [e1]; exact hs'.1) (by rw [e1]; exact hz _ (List.mem_cons_self ..))
theorem vals_map_eq {P : Program} {w : World} : ∀ {es : List DictEntry} {vs : List (Key × Value)}, Pairs (mixKind P w) es vs → es.map (·.val) = vs.map (·.2)
  | _, _, .nil => rfl
  | _, _, .cons _ e r => by rw [List.map_cons, List.map_cons, e, vals_map_eq r]
theorem rlkv_keys {K : PySem.W.Frag} {G : Hp} {δ : Option (Addr × Addr)} : ∀ {kvs : List (Key × V)} {ds : List (D × D)} {vs : List (Key × Value)}, RlKv K G δ kvs ds → KV kvs vs → vs.map (fun p => kD p.1) = ds.map (·.1)
  | _, _, _, .nil, .nil => rfl
  | _, _, _, .cons _ r, .cons p q => by
    have e := p.1
    rw [List.map_cons, List.map_cons, ← e, rlkv_keys r q]
theorem kv_vals : ∀ {kvs : List (Key × V)} {vs : List (Key × Value)}, KV kvs vs → Vals (kvs.map (·.2)) (vs.map (·.2))
  | _, _, .nil => .nil
  | _, _, .cons p q => .cons p.2 (kv_vals q)

section
variable {X : Cx} {pins : List (Addr × Obj)} {σ : L2.St} {G H : Hp} {s : Shared} {δ : Option (Addr × Addr)}
mutual
theorem Rl.shw (I : Inv X pins σ H s) (ex : Ex G H) : ∀ (d : D) (v : V) (u : Value), nodk d = true → Rl X.K G δ v d → RelV v u → d.showable = true → d.shown.length ≤ sizeLine → Shw X.prog X.w s.heap u d
  | .none, _, _, _, h, r, _, _ => by cases h; cases r; exact Shw.none
  | .bool b, _, _, _, h, r, _, _ => by cases h; cases r; exact Shw.bool b
  | .int i, _, _, _, h, r, hs, _ => by
    cases h
    obtain ⟨t, rfl⟩ := r
    exact Shw.int (by simpa [PyData.showable] using hs)
  | .str x, _, _, _, h, r, _, hz => by
    cases h
    obtain ⟨t, rfl⟩ := r
    exact Shw.str (by simpa only [PyData.shown] using hz)
  | .list ds, _, _, nd, h, r, hs, hz => by
    cases h with
    | lst h1 h2 =>
      cases r
      obtain ⟨its, rv, ⟨o, n, ho, hc, _, hd⟩, _⟩ := I.list (SqL.of (ex _ _ h1))
      have hz' : (listText (PyData.shownAll ds)).length ≤ sizeLine := by simpa only [PyData.shown] using hz
      exact Shw.list ho hc hd (RlAll.shw I ex ds _ its (by simpa [nodk] using nd) h2 rv (by simpa [PyData.showable] using hs) fun t ht => Nat.le_trans (listText_mem_le ht) hz')
  | .tuple ds, _, _, nd, h, r, hs, hz => by
    cases h with
    | tup h1 h2 =>
      cases r
      obtain ⟨its, rv, ⟨o, ho, hc, n, hd⟩, _⟩ := I.tuple (Evl.ex_t ex h1)
      have hz' : (tupleText (PyData.shownAll ds)).length ≤ sizeLine := by simpa only [PyData.shown] using hz
      exact Shw.tuple ho hc hd (RlAll.shw I ex ds _ its (by simpa [nodk] using nd) h2 rv (by simpa [PyData.showable] using hs) fun t ht => Nat.le_trans (tupleText_mem_le ht) hz')
  | .dict ds, v, u, nd, h, r, hs, hz => by
    generalize hD : PyData.dict ds = d at h
    cases h with
    | @dic a kvs ds' h1 h2 =>
      cases hD
      cases r
      obtain ⟨_, hsys, vs, kv, o, es, ep, ho, he, hd, _, pr, _⟩ : kvs.length ≤ sizeLine ∧ (a == sysModules) = false ∧ ∃ vs, KV kvs vs ∧ s.heap.DictOf (mixKind X.prog X.w) a vs := I.hok a _ (ex _ _ h1)
      have hz' : (dictText (PyData.shownKv ds)).length ≤ sizeLine := by simpa only [PyData.shown] using hz
      obtain ⟨s1, s2⟩ := PyData.showableKv_split ds (by simpa [PyData.showable] using hs)
      refine Shw.dict ho he.1 hd hsys (keys_shw pr (rlkv_keys h2 kv) s1 fun t ht => ?_) ?_
      · obtain ⟨p, hp, hl⟩ := PyData.shownKv_key_le ds t ht
        exact Nat.le_trans hl (Nat.le_trans (dictText_mem_le hp) hz')
      · rw [vals_map_eq pr]
        exact RlKv.shw I ex ds kvs _ (by simpa [nodk] using nd) h2 (kv_vals kv) s2 fun t ht => by
          obtain ⟨p, hp, hl⟩ := PyData.shownKv_val_le ds t ht
          exact Nat.le_trans hl (Nat.le_trans (dictText_mem_le hp) hz')
    | deck _ =>
      have e : ds = [(.none, .none)] := by injection hD
      subst e
      simp [nodk, nodkv] at nd
    | _ => cases hD
theorem RlAll.shw (I : Inv X pins σ H s) (ex : Ex G H) : ∀ (ds : List D) (vs : List V) (us : List Value), nodks ds = true → RlAll X.K G δ vs ds → Vals vs us → PyData.showableAll ds = true → (∀ t ∈ PyData.shownAll ds, t.length ≤ sizeLine) → ShwAll X.prog X.w s.heap us ds
  | [], _, _, _, h, r, _, _ => by cases h; cases r; exact ShwAll.nil
  | d :: ds, _, _, nd, h, r, hs, hz => by
    have nd' : nodk d = true ∧ nodks ds = true := by simpa [nodks] using nd
    have hs' : d.showable = true ∧ PyData.showableAll ds = true := by simpa [PyData.showableAll] using hs
    simp only [PyData.shownAll] at hz
    cases h with
    | cons h1 h2 =>
      cases r with
      | cons r1 r2 =>
        exact ShwAll.cons (Rl.shw I ex d _ _ nd'.1 h1 r1 hs'.1 (hz _ (List.mem_cons_self ..))) (RlAll.shw I ex ds _ _ nd'.2 h2 r2 hs'.2 fun t ht => hz t (List.mem_cons_of_mem _ ht))
theorem RlKv.shw (I : Inv X pins σ H s) (ex : Ex G H) : ∀ (ds : List (D × D)) (kvs : List (Key × V)) (us : List Value), nodkv ds = true → RlKv X.K G δ kvs ds → Vals (kvs.map (·.2)) us → PyData.showableAll (ds.map (·.2)) = true → (∀ t ∈ PyData.shownAll (ds.map (·.2)), t.length ≤ sizeLine) → ShwAll X.prog X.w s.heap us (ds.map (·.2))
  | [], _, _, _, h, r, _, _ => by cases h; cases r; exact ShwAll.nil
  | (k, d) :: ds, _, _, nd, h, r, hs, hz => by
    have nd' : nodk d = true ∧ nodkv ds = true := by
      unfold nodkv at nd
      simp only [Bool.and_eq_true] at nd
      exact ⟨nd.1.2, nd.2⟩
    rw [List.map_cons] at hs hz ⊢
    have hs' : d.showable = true ∧ PyData.showableAll (ds.map (·.2)) = true := by simpa [PyData.showableAll] using hs
    simp only [PyData.shownAll] at hz
    generalize hq : (k, d) = kd at h
    cases h with
    | cons h1 h2 =>
      cases hq
      rw [List.map_cons] at r
      cases r with
      | cons r1 r2 =>
        exact ShwAll.cons (Rl.shw I ex d _ _ nd'.1 h1 r1 hs'.1 (hz _ (List.mem_cons_self ..))) (RlKv.shw I ex ds _ _ nd'.2 h2 r2 hs'.2 fun t ht => hz t (List.mem_cons_of_mem _ ht))
end
end

/-! ### the built-in -/
section
variable {prog : Program} {w : World} {h : Heap}
theorem sb_list {a : Addr} {o : Obj} {us : List Value} {n : Nat} {ds : List D} (ho : h.get? a = some o) (hc : o.cls = .type "list") (hd : o.data = .seq us.toArray n) (z : ShwAll prog w h us ds) (hz : (PyData.list ds).shown.length ≤ sizeLine) : ∃ T idr, ShowsBy prog w h a (.list ds) T idr := by
  obtain ⟨as, bs, r, m, k⟩ := z
  have rd : Reads h (.ref a) (.list ds) (a :: as) := Reads.list ho hc hd r
  have na : a ∉ bs := not_mem_of_deeper rd (by simp only [PyData.depth]; omega) m
  have hz2 : (listText (PyData.shownAll ds)).length ≤ sizeLine := by simpa only [PyData.shown] using hz
  refine ⟨"list", "list.__repr__", F.slot_list_repr.toG, F.slot_list_str, F.slot_list_format, fun s h0 => ⟨o, h0 _ _ ho, hc⟩, fun A E s Q hg hu h0 hQ => ?_⟩
  simp only [PyData.depth] at hu
  simp only [PyData.shown] at hQ
  cases us with
  | nil =>
    cases r
    simp only [PyData.shownAll, listText_nil] at hQ
    exact call_list_repr_empty ⟨o, h0 _ _ ho, hc⟩ (h0 _ _ ho) hd (hQ s.heap _ _ fun _ _ e => e)
  | cons x l =>
    exact call_list_reprK ho hc hd na (by simpa using k.length_eq) (fun i y q => k.item i y (by simpa using q)) hg (fun v _ => Clear.nil v) hu h0 hQ hz2
theorem sb_tuple {a : Addr} {o : Obj} {us : List Value} {n : Nat} {ds : List D} (ho : h.get? a = some o) (hc : o.cls = .type "tuple") (hd : o.data = .seq us.toArray n) (z : ShwAll prog w h us ds) (hz : (PyData.tuple ds).shown.length ≤ sizeLine) : ∃ T idr, ShowsBy prog w h a (.tuple ds) T idr := by
  obtain ⟨as, bs, r, m, k⟩ := z
  have rd : Reads h (.ref a) (.tuple ds) as := Reads.tuple ho hc hd r
  have na : a ∉ bs := not_mem_of_deeper rd (by simp only [PyData.depth]; omega) m
  have hz2 : (tupleText (PyData.shownAll ds)).length ≤ sizeLine := by simpa only [PyData.shown] using hz
  refine ⟨"tuple", "tuple.__repr__", F.slot_tuple_repr, F.slot_tuple_str, F.slot_tuple_format, fun s h0 => ⟨o, h0 _ _ ho, hc⟩, fun A E s Q hg hu h0 hQ => ?_⟩
  simp only [PyData.depth] at hu
  simp only [PyData.shown] at hQ
  exact call_tuple_reprK ho hc hd na k hg (fun v _ => Clear.nil v) hu h0 hQ hz2
theorem sb_dict {a : Addr} {o : Obj} {es : Array DictEntry} {n : Nat} {ds : List (D × D)} (ho : h.get? a = some o) (hc : o.cls = .type "dict") (hd : o.data = .dict es n) (hs : (a == sysModules) = false)
    (zk : ShwAll prog w h (es.toList.map (·.key)) (ds.map (·.1))) (zv : ShwAll prog w h (es.toList.map (·.val)) (ds.map (·.2))) (hz : (PyData.dict ds).shown.length ≤ sizeLine) : ∃ T idr, ShowsBy prog w h a (.dict ds) T idr := by
  obtain ⟨a1, b1, r1, m1, k1⟩ := zk
  obtain ⟨a2, b2, r2, m2, k2⟩ := zv
  have rd : Reads h (.ref a) (.dict ds) (a :: a1 ++ a2) := Reads.dict ho hc hd r1 r2
  have l1 := PyData.depthAll_keys_le ds
  have l2 := PyData.depthAll_vals_le ds
  have m : ReadAtMost h (PyData.depthKv ds) (b1 ++ b2) := fun x hx => (List.mem_append.mp hx).elim (ReadAtMost.le m1 l1 x) (ReadAtMost.le m2 l2 x)
  have na : a ∉ b1 ++ b2 := not_mem_of_deeper rd (by simp only [PyData.depth]; omega) m
  have hz2 : (dictText (PyData.shownKv ds)).length ≤ sizeLine := by simpa only [PyData.shown] using hz
  refine ⟨"dict", "dict.__repr__", F.slot_dict_repr, F.slot_dict_str, F.slot_dict_format, fun s h0 => ⟨o, h0 _ _ ho, hc⟩, fun A E s Q hg hu h0 hQ => ?_⟩
  simp only [PyData.depth] at hu
  simp only [PyData.shown, PyData.shownKv_eq] at hQ
  exact call_dict_reprK ho hc hd hs na (ReprEntriesK.of_two es.toList _ _ (k1.more_le (fun x z => List.mem_append_left _ z) l1) (k2.more_le (fun x z => List.mem_append_right _ z) l2)) hg (fun v _ => Clear.nil v) hu h0 hQ (by rw [← PyData.shownKv_eq]; exact hz2)
end

section
variable {X : Cx} {pins : List (Addr × Obj)} {σ : L2.St} {G H : Hp} {s : Shared} {δ : Option (Addr × Addr)}
theorem Rl.sb (I : Inv X pins σ H s) (ex : Ex G H) {d : D} {a : Addr} (nd : nodk d = true) (h : Rl X.K G δ (.ref a) d) (hs : d.showable = true) (hz : d.shown.length ≤ sizeLine) : ∃ T idr, ShowsBy X.prog X.w s.heap a d T idr := by
  cases h with
  | @lst _ _ ds h1 h2 =>
    obtain ⟨its, rv, ⟨o, n, ho, hc, _, hd⟩, _⟩ := I.list (SqL.of (ex _ _ h1))
    have hz2 : (listText (PyData.shownAll ds)).length ≤ sizeLine := by simpa only [PyData.shown] using hz
    exact sb_list ho hc hd (RlAll.shw I ex ds _ its (by simpa [nodk] using nd) h2 rv (by simpa [PyData.showable] using hs) fun t ht => Nat.le_trans (listText_mem_le ht) hz2) hz
  | @tup _ _ ds h1 h2 =>
    obtain ⟨its, rv, ⟨o, ho, hc, n, hd⟩, _⟩ := I.tuple (Evl.ex_t ex h1)
    have hz2 : (tupleText (PyData.shownAll ds)).length ≤ sizeLine := by simpa only [PyData.shown] using hz
    exact sb_tuple ho hc hd (RlAll.shw I ex ds _ its (by simpa [nodk] using nd) h2 rv (by simpa [PyData.showable] using hs) fun t ht => Nat.le_trans (tupleText_mem_le ht) hz2) hz
  | @dic _ kvs ds h1 h2 =>
    obtain ⟨_, hsys, vs, kv, o, es, ep, ho, he, hd, _, pr, _⟩ : kvs.length ≤ sizeLine ∧ (a == sysModules) = false ∧ ∃ vs, KV kvs vs ∧ s.heap.DictOf (mixKind X.prog X.w) a vs := I.hok a _ (ex _ _ h1)
    have hz2 : (dictText (PyData.shownKv ds)).length ≤ sizeLine := by simpa only [PyData.shown] using hz
    obtain ⟨s1, s2⟩ := PyData.showableKv_split ds (by simpa [PyData.showable] using hs)
    refine sb_dict ho he.1 hd hsys (keys_shw pr (rlkv_keys h2 kv) s1 fun t ht => ?_) ?_ hz
    · obtain ⟨p, hp, hl⟩ := PyData.shownKv_key_le ds t ht
      exact Nat.le_trans hl (Nat.le_trans (dictText_mem_le hp) hz2)
    · rw [vals_map_eq pr]
      exact RlKv.shw I ex ds kvs _ (by simpa [nodk] using nd) h2 (kv_vals kv) s2 fun t ht => by
        obtain ⟨p, hp, hl⟩ := PyData.shownKv_val_le ds t ht
        exact Nat.le_trans hl (Nat.le_trans (dictText_mem_le hp) hz2)
  | deck _ => simp [nodk, nodkv, deckD] at nd

/-- repr of data -/
theorem Rl.repr {A : Around} {E : Value → Shared → Prop} {Q : Value → Shared → Prop} (I : Inv X pins σ H s) (ex : Ex G H) {d : D} {v : V} {u : Value} (nd : nodk d = true) (h : Rl X.K G δ v d) (ru : RelV v u) (hs : d.showable = true) (hz : d.shown.length ≤ sizeLine)
    (hg : A.guards = some []) (hu : A.units + (d.depth + 1) < cLine)
    (hQ : ∀ h' t tk, (∀ b o, s.heap.get? b = some o → h'.get? b = some o) → Q (.str d.shown t) { s with heap := h', toks := tk }) : wpAny (model X.prog X.w) A (call (.builtin "repr") [u]) Q E s := by
  cases h with
  | non => cases ru; simp only [PyData.shown] at hQ; exact PySem.P.repr_of_none (hQ s.heap _ _ fun _ _ e => e)
  | bl b => cases ru; simp only [PyData.shown] at hQ; exact PySem.P.repr_of_bool (hQ s.heap _ _ fun _ _ e => e)
  | int i =>
    obtain ⟨t, rfl⟩ := ru
    simp only [PyData.shown] at hQ; exact PySem.P.repr_of_int (by simpa [PyData.showable] using hs) (hQ s.heap _ _ fun _ _ e => e)
  | str x =>
    obtain ⟨t, rfl⟩ := ru
    simp only [PyData.shown] at hQ hz; exact PySem.P.repr_of_str (hQ s.heap _ _ fun _ _ e => e) hz
  | lst h1 h2 => cases ru; exact go (.lst h1 h2) nd hs hz hQ hg hu
  | tup h1 h2 => cases ru; exact go (.tup h1 h2) nd hs hz hQ hg hu
  | dic h1 h2 => cases ru; exact go (.dic h1 h2) nd hs hz hQ hg hu
  | deck _ => simp [nodk, nodkv, deckD] at nd
where
  go {d : D} {a : Addr} (h : Rl X.K G δ (.ref a) d) (nd : nodk d = true) (hs : d.showable = true) (hz : d.shown.length ≤ sizeLine) 
    (hQ : ∀ h' t tk, (∀ b o, s.heap.get? b = some o → h'.get? b = some o) → Q (.str d.shown t) { s with heap := h', toks := tk }) (hg : A.guards = some []) (hu : A.units + (d.depth + 1) < cLine) : wpAny (model X.prog X.w) A (call (.builtin "repr") [.ref a]) Q E s := by
    obtain ⟨T, idr, S⟩ := Rl.sb I ex nd h hs hz
    exact call_repr_slot (by omega) (S.typeIs s fun _ _ q => q) S.slotRepr (S.call A.in1 E s _ hg (by show A.units + 1 + d.depth < cLine; omega) (fun _ _ q => q) fun h' u tk hk => ⟨_, _, rfl, hQ h' u tk hk⟩)
end
end Ey

end
section
set_option Elab.async false
set_option linter.all false
set_option maxRecDepth 100000
/-! Ey3: which text a core term stands for. -/
namespace Ey
open PySem L2

/-! ### views of the text -/
def asName : Expr → Option Str
  | .Name x _ => some x
  | _ => none
theorem asName_of {e : Expr} {x : Str} (h : asName e = some x) : ∃ p, e = .Name x p := by
  cases e <;> simp only [asName, reduceCtorEq, Option.some.injEq] at h
  subst h; exact ⟨_, rfl⟩
def asCst : Expr → Option Const
  | .Constant c _ _ => some c
  | _ => none
theorem asCst_of {e : Expr} {x : Const} (h : asCst e = some x) : ∃ k p, e = .Constant x k p := by
  cases e <;> simp only [asCst, reduceCtorEq, Option.some.injEq] at h
  subst h; exact ⟨_, _, rfl⟩
def asBin : Expr → Option (Expr × Operator × Expr)
  | .BinOp a o b _ => some (a, o, b)
  | _ => none
theorem asBin_of {e a b : Expr} {o : Operator} (h : asBin e = some (a, o, b)) : ∃ p, e = .BinOp a o b p := by
  cases e <;> simp only [asBin, reduceCtorEq, Option.some.injEq, Prod.mk.injEq] at h
  obtain ⟨rfl, rfl, rfl⟩ := h; exact ⟨_, rfl⟩
def asUn : Expr → Option (UnaryOp × Expr)
  | .UnaryOp o a _ => some (o, a)
  | _ => none
theorem asUn_of {e a : Expr} {o : UnaryOp} (h : asUn e = some (o, a)) : ∃ p, e = .UnaryOp o a p := by
  cases e <;> simp only [asUn, reduceCtorEq, Option.some.injEq, Prod.mk.injEq] at h
  obtain ⟨rfl, rfl⟩ := h; exact ⟨_, rfl⟩
def asCmp : Expr → Option (Expr × CmpOp × Expr)
  | .Compare a [o] [b] _ => some (a, o, b)
  | _ => none
theorem asCmp_of {e a b : Expr} {o : CmpOp} (h : asCmp e = some (a, o, b)) : ∃ p, e = .Compare a [o] [b] p := by
  unfold asCmp at h
  split at h
  · simp only [Option.some.injEq, Prod.mk.injEq] at h
    obtain ⟨rfl, rfl, rfl⟩ := h; exact ⟨_, rfl⟩
  · cases h
def asChn : Expr → Option (Expr × CmpOp × Expr × CmpOp × Expr)
  | .Compare a [o, q] [b, c] _ => some (a, o, b, q, c)
  | _ => none
theorem asChn_of {e a b c : Expr} {o q : CmpOp} (h : asChn e = some (a, o, b, q, c)) : ∃ p, e = .Compare a [o, q] [b, c] p := by
  unfold asChn at h
  split at h
  · simp only [Option.some.injEq, Prod.mk.injEq] at h
    obtain ⟨rfl, rfl, rfl, rfl, rfl⟩ := h; exact ⟨_, rfl⟩
  · cases h
/-- x and (the rest): the rest as an expression of its own -/
def asBool : Expr → Option (BoolOp × Expr × Expr)
  | .BoolOp o (a :: b :: r) p => some (o, a, .BoolOp o (b :: r) p)
  | _ => none
theorem asBool_of {e a r : Expr} {o : BoolOp} (h : asBool e = some (o, a, r)) : ∃ b q p, e = .BoolOp o (a :: b :: q) p ∧ r = .BoolOp o (b :: q) p := by
  unfold asBool at h
  split at h
  · simp only [Option.some.injEq, Prod.mk.injEq] at h
    obtain ⟨rfl, rfl, rfl⟩ := h; exact ⟨_, _, _, rfl, rfl⟩
  · cases h
def asOne : Expr → Option Expr
  | .BoolOp _ [a] _ => some a
  | _ => none
theorem asOne_of {e a : Expr} (h : asOne e = some a) : ∃ o p, e = .BoolOp o [a] p := by
  unfold asOne at h
  split at h
  · simp only [Option.some.injEq] at h
    subst h; exact ⟨_, _, rfl⟩
  · cases h
def asIte : Expr → Option (Expr × Expr × Expr)
  | .IfExp t a b _ => some (t, a, b)
  | _ => none
theorem asIte_of {e t a b : Expr} (h : asIte e = some (t, a, b)) : ∃ p, e = .IfExp t a b p := by
  cases e <;> simp only [asIte, reduceCtorEq, Option.some.injEq, Prod.mk.injEq] at h
  obtain ⟨rfl, rfl, rfl⟩ := h; exact ⟨_, rfl⟩
def asTup : Expr → Option (List Expr)
  | .Tuple es _ _ => some es
  | _ => none
theorem asTup_of {e : Expr} {es : List Expr} (h : asTup e = some es) : ∃ k p, e = .Tuple es k p := by
  cases e <;> simp only [asTup, reduceCtorEq, Option.some.injEq] at h
  subst h; exact ⟨_, _, rfl⟩
def asLst : Expr → Option (List Expr)
  | .List es _ => some es
  | _ => none
theorem asLst_of {e : Expr} {es : List Expr} (h : asLst e = some es) : ∃ p, e = .List es p := by
  cases e <;> simp only [asLst, reduceCtorEq, Option.some.injEq] at h
  subst h; exact ⟨_, rfl⟩
def asDis : Expr → Option (List (Option Expr) × List Expr)
  | .Dict ks vs _ => some (ks, vs)
  | _ => none
theorem asDis_of {e : Expr} {ks : List (Option Expr)} {vs : List Expr} (h : asDis e = some (ks, vs)) : ∃ p, e = .Dict ks vs p := by
  cases e <;> simp only [asDis, reduceCtorEq, Option.some.injEq, Prod.mk.injEq] at h
  obtain ⟨rfl, rfl⟩ := h; exact ⟨_, rfl⟩
def asSub : Expr → Option (Expr × Expr)
  | .Subscript a b _ => some (a, b)
  | _ => none
theorem asSub_of {e a b : Expr} (h : asSub e = some (a, b)) : ∃ p, e = .Subscript a b p := by
  cases e <;> simp only [asSub, reduceCtorEq, Option.some.injEq, Prod.mk.injEq] at h
  obtain ⟨rfl, rfl⟩ := h; exact ⟨_, rfl⟩
def asSlc : Expr → Option (Option Expr × Option Expr)
  | .Slice a b none _ => some (a, b)
  | _ => none
theorem asSlc_of {e : Expr} {a b : Option Expr} (h : asSlc e = some (a, b)) : ∃ p, e = .Slice a b none p := by
  unfold asSlc at h
  split at h
  · simp only [Option.some.injEq, Prod.mk.injEq] at h
    obtain ⟨rfl, rfl⟩ := h; exact ⟨_, rfl⟩
  · cases h
/-- [::-1] -/
def isRev : Expr → Bool
  | .Slice none none (some (.UnaryOp .USub (.Constant (.int 1) _ _) _)) _ => true
  | _ => false
theorem isRev_of {e : Expr} (h : isRev e = true) : ∃ k p1 p2 p3, e = .Slice none none (some (.UnaryOp .USub (.Constant (.int 1) k p1) p2)) p3 := by
  unfold isRev at h
  split at h
  · exact ⟨_, _, _, _, rfl⟩
  · cases h
def isSlc : Expr → Bool
  | .Slice _ _ _ _ => true
  | _ => false
def asCall : Expr → Option (Str × List Expr × List Keyword)
  | .Call (.Name f _) es ks _ => some (f, es, ks)
  | _ => none
theorem asCall_of {e : Expr} {f : Str} {es : List Expr} {ks : List Keyword} (h : asCall e = some (f, es, ks)) : ∃ p q, e = .Call (.Name f p) es ks q := by
  unfold asCall at h
  split at h
  · simp only [Option.some.injEq, Prod.mk.injEq] at h
    obtain ⟨rfl, rfl, rfl⟩ := h; exact ⟨_, _, rfl⟩
  · cases h
def asLc : Expr → Option (Expr × Expr × Expr × List Expr × Scope)
  | .ListComp elt [⟨tg, it, ifs, 0⟩] sc _ => some (elt, tg, it, ifs, sc)
  | _ => none
theorem asLc_of {e elt tg it : Expr} {ifs : List Expr} {sc : Scope} (h : asLc e = some (elt, tg, it, ifs, sc)) : ∃ p, e = .ListComp elt [⟨tg, it, ifs, 0⟩] sc p := by
  unfold asLc at h
  split at h
  · simp only [Option.some.injEq, Prod.mk.injEq] at h
    obtain ⟨rfl, rfl, rfl, rfl, rfl⟩ := h; exact ⟨_, rfl⟩
  · cases h
def isNonE : Expr → Bool
  | .Constant .none _ _ => true
  | _ => false
theorem isNonE_of {e : Expr} (h : isNonE e = true) : ∃ k p, e = .Constant .none k p := by
  unfold isNonE at h
  split at h
  · exact ⟨_, _, rfl⟩
  · cases h

/-! ### names -/
def visC (sc : Scope) (x : Str) : Bool := match sc.names.lookup x with
  | some .local => true
  | some .cell => true
  | some .free => true
  | _ => false
def glC (sc : Scope) (x : Str) : Bool := decide (sc.names.lookup x = some .globalImplicit) && !(x == ("__debug__" : Str))
def varC (N : List Str) (sc : Scope) (i : Nat) (x : Str) : Bool := decide (N[i]? = some x) && visC sc x && !(x == ("__debug__" : Str)) && !(x == ("__classdict__" : Str))
def locC (N : List Str) (sc : Scope) (i : Nat) (x : Str) : Bool := decide (N[i]? = some x) && (match sc.names.lookup x with | some .local => true | some .cell => true | _ => false)
def lloC (N : List Str) (sc : Scope) (i : Nat) (x : Str) : Bool := decide (N[i]? = some x) && decide (sc.names.lookup x = some .local)

/-- what a program's texts may lean on -/
structure Cfg where
  /-- the built-ins' names that the module leaves alone -/
  bl : List Str
  /-- gcd is math.gcd -/
  gcd : Bool
  /-- its defs: parameters -/
  fn : List (Str × List Str)
  /-- calls by keywords: def, how many by position, the keywords, their order -/
  kw : List (Str × Nat × List Str × List Nat)
  /-- its errors' classes -/
  er : List Str
  /-- its constants -/
  cn : List (Str × Key) := []
  /-- classes that are asked for: in except clauses, by isinstance -/
  eb : List Str

def opC : BO → Operator → Bool
  | .add, .Add => true
  | .sub, .Sub => true
  | .mul, .Mult => true
  | .fdiv, .FloorDiv => true
  | .mod, .Mod => true
  | .pow, .Pow => true
  | _, _ => false
def cmpC : CO → CmpOp → Bool
  | .eq, .Eq => true
  | .ne, .NotEq => true
  | .lt, .Lt => true
  | .le, .LtE => true
  | .gt, .Gt => true
  | .ge, .GtE => true
  | .isN, .Is => true
  | .notN, .IsNot => true
  | .isB, .Is => true
  | .notB, .IsNot => true
  | .isin, .In => true
  | .notin, .NotIn => true
  | _, _ => false
def biN : Bi → Str
  | .len => "len"
  | .abs => "abs"
  | .max2 => "max"
  | .min2 => "min"
  | .int => "int"
  | .bool => "bool"
  | .str => "str"
  | .repr => "repr"
  | .tuple => "tuple"
  | .list => "list"
  | .gcd => "gcd"
  | .all => "all"
  | .any => "any"
  | .sum => "sum"
  | .maxL => "max"
  | .minL => "min"
def tyN : Ty → Str
  | .int => "int"
  | .bool => "bool"
  | .str => "str"
  | .tuple => "tuple"
  | .list => "list"
  | .dict => "dict"
def keyC : Key → Option Expr → Bool
  | .inl i, some e => match asCst e with | some (.int j) => decide (i = j) | _ => false
  | .inr x, some e => match asCst e with | some (.str y) => decide (x = y) | _ => false
  | _, none => false
def keysC : List Key → List (Option Expr) → Bool
  | [], [] => true
  | k :: ks, e :: es => keyC k e && keysC ks es
  | _, _ => false
def keyIsE (x : Str) (e : Expr) : Bool := match asCst e with
  | some (.str y) => decide (x = y)
  | _ => false
def isStarE : Expr → Bool
  | .Starred _ _ => true
  | _ => false
mutual
def tgC (N : List Str) (sc : Scope) : Tg → Expr → Bool
  | .one i, e => match asName e with
    | some x => locC N sc i x
    | none => false
  | .tup ts, e => match asTup e with
    | some es => tgsC N sc ts es
    | none => false
def tgsC (N : List Str) (sc : Scope) : Tgs → List Expr → Bool
  | .nil, [] => true
  | .cons t r, e :: es => !isStarE e && tgC N sc t e && tgsC N sc r es
  | _, _ => false
end
/-- tests that are their value's truth -/
def plainT : Expr → Bool
  | .UnaryOp .Not _ _ => false
  | .BoolOp _ _ _ => false
  | .IfExp _ _ _ _ => false
  | .Compare _ _ _ _ => false
  | _ => true
/-- a written int as a subscript, a name ..: all but slices -/
def noSl : Expr → Bool
  | .Slice _ _ _ _ => false
  | _ => true
def isSetE : Expr → Bool
  | .Set _ _ _ => true
  | _ => false
def isStar : Expr → Bool
  | .Starred _ _ => true
  | _ => false
def kwC : List Str → List Keyword → Bool
  | [], [] => true
  | k :: ks, w :: ws => decide (w.arg = some k) && kwC ks ws
  | _, _ => false

mutual
/-- c stands for e; cal: not within an except suite -/
def okE (cf : Cfg) (N : List Str) (cal : Bool) : Scope → CE → Expr → Bool
  | sc, .var i, e => match asName e with
    | some x => varC N sc i x
    | none => false
  | _, .non, e => isNonE e
  | _, .bl b, e => match asCst e with
    | some (.bool c) => decide (b = c)
    | _ => false
  | _, .int i, e => match asCst e with
    | some (.int j) => decide (i = j)
    | _ => false
  | _, .str x, e => match asCst e with
    | some (.str y) => decide (x = y)
    | _ => false
  | sc, .bin o a b, e => match asBin e with
    | some (x, q, y) => opC o q && okE cf N cal sc a x && okE cf N cal sc b y
    | none => false
  | sc, .neg a, e => match asUn e with
    | some (.USub, x) => okE cf N cal sc a x
    | _ => false
  | sc, .cmp o a b, e => match asCmp e with
    | some (x, q, y) => cal && cmpC o q && !behindInMarks q y && okE cf N cal sc a x && okE cf N cal sc b y
    | none => false
  | sc, .chn o p a b c, e => match asChn e with
    | some (x, q, y, r, z) => cal && cmpC o q && cmpC p r && !lastMarks [q, r] [y, z] && okE cf N cal sc a x && okE cf N cal sc b y && okE cf N cal sc c z
    | none => false
  | sc, .and a b, e => match asBool e with
    | some (.And, x, r) => okE cf N cal sc a x && (match asOne r with
      | some y => okE cf N cal sc b y
      | none => okE cf N cal sc b r)
    | _ => false
  | sc, .or a b, e => match asBool e with
    | some (.Or, x, r) => okE cf N cal sc a x && (match asOne r with
      | some y => okE cf N cal sc b y
      | none => okE cf N cal sc b r)
    | _ => false
  | sc, .not a, e => match asUn e with
    | some (.Not, x) => okE cf N cal sc a x
    | _ => false
  | sc, .ite t a b, e => match asIte e with
    | some (x, y, z) => okT cf N cal sc t x && okE cf N cal sc a y && okE cf N cal sc b z
    | none => false
  | sc, .tup es, e => match asTup e with
    | some xs => okEs cf N cal sc es xs
    | none => false
  | sc, .lst es, e => match asLst e with
    | some xs => okEs cf N cal sc es xs
    | none => false
  | sc, .dis ks es, e => match asDis e with
    | some (xs, ys) => keysC ks xs && okEs cf N cal sc es ys && decide (ks.Nodup) && decide (ks ≠ []) && decide (ks.length ≤ 15) && decide (ks.length = ys.length)
    | none => false
  | sc, .ix a b, e => match asSub e with
    | some (x, y) => noSl y && okE cf N cal sc a x && okE cf N cal sc b y
    | none => false
  | sc, .sl a lo hi, e => match asSub e with
    | some (x, y) => (match asSlc y with
      | some (l, h) => okE cf N cal sc a x && okP cf N cal sc lo l && okP cf N cal sc hi h
      | none => false)
    | none => false
  | sc, .rev a, e => match asSub e with
    | some (x, y) => isRev y && okE cf N cal sc a x
    | none => false
  | sc, .call f es, e => match asCall e with
    | some (g, xs, []) => cal && decide (f = g) && glC sc g && (cf.fn.lookup f).isSome && okEs cf N cal sc es xs
    | _ => false
  | sc, .callK f es ks kes pm, e => match asCall e with
    | some (g, xs, ws) => cal && decide (f = g) && glC sc g && (cf.fn.lookup f).isSome && decide (ws ≠ []) && decide ((f, xs.length, ks, pm) ∈ cf.kw) && kwC ks ws && okEs cf N cal sc es xs && okEs cf N cal sc kes (ws.map (·.value)) && pm.all (fun j => decide (j < ks.length))
    | _ => false
  | sc, .bi f es, e => match asCall e with
    | some (g, xs, []) => cal && decide (g = biN f) && glC sc g && (if f = .gcd then cf.gcd else decide (g ∈ cf.bl)) && decide (xs ≠ []) && okEs cf N cal sc es xs
    | _ => false
  | sc, .isi a t, e => match asCall e with
    | some (g, [x, y], []) => decide (g = "isinstance") && glC sc g && decide (g ∈ cf.bl) && !isStar x && okE cf N cal sc a x && (match asName y with
      | some z => decide (z = tyN t) && glC sc z && decide (z ∈ cf.bl)
      | none => false)
    | _ => false
  | sc, .lens a, e => match asCall e with
    | some (g, [x], []) => cal && decide (g = "len") && glC sc g && decide (g ∈ cf.bl) && !isStar x && (match asCall x with
      | some (z, [y], []) => decide (z = "set") && glC sc z && decide (z ∈ cf.bl) && !isStar y && okE cf N cal sc a y
      | _ => false)
    | _ => false
  | sc, .con x k, e => match asName e with
    | some z => decide (x = z) && glC sc z && cf.cn.any fun p => decide (p = (x, k))
    | none => false
  | sc, .lc own tg it ifs elt, e => match asLc e with
    | some (x, t, i, fs, s) => cal && blkC N sc s own && !isSetE i && okI cf N cal sc it t i && tgC N s tg t && okTo cf N cal s ifs fs && okE cf N cal s elt x && (tgVars tg).all (fun j => decide (j ∈ own.map (·.2)))
    | none => false
  | sc, .dkI j f, e => match asSub e with
    | some (x, y) => cal && (match asName x with
      | some z => varC N sc j z
      | none => false) && keyIsE f y && decide (f = "mixed" ∨ f = "draws")
    | none => false
def okEs (cf : Cfg) (N : List Str) (cal : Bool) : Scope → CEs → List Expr → Bool
  | _, .nil, [] => true
  | sc, .cons c r, e :: es => !isStar e && okE cf N cal sc c e && okEs cf N cal sc r es
  | _, _, _ => false
def okP (cf : Cfg) (N : List Str) (cal : Bool) : Scope → CP → Option Expr → Bool
  | _, .no, none => true
  | sc, .yes c, some e => okE cf N cal sc c e
  | _, _, _ => false
def okTo (cf : Cfg) (N : List Str) (cal : Bool) : Scope → CTo → List Expr → Bool
  | _, .no, [] => true
  | sc, .yes t, [e] => okT cf N cal sc t e
  | _, _, _ => false
def okT (cf : Cfg) (N : List Str) (cal : Bool) : Scope → CT → Expr → Bool
  | sc, .val c, e => plainT e && okE cf N cal sc c e
  | sc, .cmp o a b, e => match asCmp e with
    | some (x, q, y) => cal && cmpC o q && !behindInMarks q y && okE cf N cal sc a x && okE cf N cal sc b y
    | none => false
  | sc, .chn o p a b c, e => match asChn e with
    | some (x, q, y, r, z) => cal && cmpC o q && cmpC p r && !lastMarks [q, r] [y, z] && okE cf N cal sc a x && okE cf N cal sc b y && okE cf N cal sc c z
    | none => false
  | sc, .and a b, e => match asBool e with
    | some (.And, x, r) => okT cf N cal sc a x && (match asOne r with
      | some y => okT cf N cal sc b y
      | none => okT cf N cal sc b r)
    | _ => false
  | sc, .or a b, e => match asBool e with
    | some (.Or, x, r) => okT cf N cal sc a x && (match asOne r with
      | some y => okT cf N cal sc b y
      | none => okT cf N cal sc b r)
    | _ => false
  | sc, .not a, e => match asUn e with
    | some (.Not, x) => okT cf N cal sc a x
    | _ => false
def okI (cf : Cfg) (N : List Str) (cal : Bool) : Scope → CI → Expr → Expr → Bool
  | sc, .seq c, _, e => okE cf N cal sc c e
  | sc, .sgn c, _, e => okE cf N cal sc c e
  | sc, .rng1 c, _, e => match asCall e with
    | some (g, [x], []) => decide (g = "range") && glC sc g && decide (g ∈ cf.bl) && !isStar x && okE cf N cal sc c x
    | _ => false
  | sc, .rng2 c d, _, e => match asCall e with
    | some (g, [x, y], []) => decide (g = "range") && glC sc g && decide (g ∈ cf.bl) && !isStar x && !isStar y && okE cf N cal sc c x && okE cf N cal sc d y
    | _ => false
  | sc, .enum c, tg, e => match asCall e with
    | some (g, [x], []) => decide (g = "enumerate") && glC sc g && decide (g ∈ cf.bl) && (asTup tg).isSome && !isStar x && okE cf N cal sc c x
    | _ => false
  | sc, .zip c d, tg, e => match asCall e with
    | some (g, [x, y], []) => decide (g = "zip") && glC sc g && decide (g ∈ cf.bl) && (asTup tg).isSome && !isStar x && !isStar y && okE cf N cal sc c x && okE cf N cal sc d y
    | _ => false
end
end Ey

end
section
set_option Elab.async false
set_option linter.all false
set_option maxRecDepth 100000
set_option maxHeartbeats 1000000
/-! Ey4: operators, built-ins over data. -/
namespace Ey
open PySem PySem.Spec PyProof.Rows L2
open Evl (Ex)

theorem sz5 {n : Nat} (h : n ≤ 100000) : n ≤ sizeLine := Evl.sz_of h

section
variable {K : PySem.W.Frag} {δ : Option (Addr × Addr)} {G H : Hp} {v : V} {x y : D}
theorem Rl.of_tup {ds : List D} (w : Wd δ G H) (h : Rl K G δ v (.tuple ds)) : ∃ a xs, v = .ref a ∧ SqT K H a xs ∧ SqT K G a xs ∧ RlAll K G δ xs ds := by
  cases h with
  | tup h1 h2 => exact ⟨_, _, rfl, Evl.ex_t w.ex h1, h1, h2⟩
theorem Rl.of_lst {ds : List D} (w : Wd δ G H) (h : Rl K G δ v (.list ds)) : ∃ a xs, v = .ref a ∧ H a = some (.lst xs) ∧ G a = some (.lst xs) ∧ RlAll K G δ xs ds := by
  cases h with
  | lst h1 h2 => exact ⟨_, _, rfl, w.ex _ _ h1, h1, h2⟩
theorem Rl.of_int {i : Int} (h : Rl K G δ v (.int i)) : v = .int i := by cases h; rfl
theorem Rl.of_str {s : Str} (h : Rl K G δ v (.str s)) : v = .str s := by cases h; rfl
theorem Rl.of_bool {b : Bool} (h : Rl K G δ v (.bool b)) : v = .bl b := by cases h; rfl
theorem Rl.of_none (h : Rl K G δ v .none) : v = .non := by cases h; rfl
theorem Rl.isnone (h : Rl K G δ v x) : decide (v = .non) = isNone x := by cases h <;> simp [isNone, deckD]
theorem nx_tup {p : Addr} {xs : List V} {ds : List D} (w : Wd δ G H) (hp : H p = none) (r : RlAll K G δ xs ds) : Nx δ G H (upd G p (.tup xs)) (upd H p (.tup xs)) ∧ Rl K (upd G p (.tup xs)) δ (.ref p) (.tuple ds) :=
  ⟨Nx.new w hp, .tup (SqT.of upd_same) (r.mono (Evl.Ex.new (free_of w.ex hp)))⟩
theorem nx_lst {p : Addr} {xs : List V} {ds : List D} (w : Wd δ G H) (hp : H p = none) (r : RlAll K G δ xs ds) : Nx δ G H (upd G p (.lst xs)) (upd H p (.lst xs)) ∧ Rl K (upd G p (.lst xs)) δ (.ref p) (.list ds) :=
  ⟨Nx.new w hp, .lst upd_same (r.mono (Evl.Ex.new (free_of w.ex hp)))⟩
theorem RlAll.nil_iff {xs : List V} {ds : List D} (h : RlAll K G δ xs ds) : xs.isEmpty = ds.isEmpty := by cases h <;> rfl
end

/-- an operation on two values does what w says of their data -/
def DOp (K : PySem.W.Frag) (r : R2) (w : D → D → DP → Prop) : Prop :=
  ∀ (δ : Option (Addr × Addr)) (G H : Hp) (vx vy : V) (x y : D) (Q : DP) (R : VK), Wd δ G H → Rl K G δ vx x → Rl K G δ vy y → w x y Q →
    (∀ G' H' v d, Nx δ G H G' H' → Rl K G' δ v d → Q d → R v H') → r vx vy H R

/-! ### arithmetic -/
def CDivX (_ j : Int) : Prop := j ≠ 0 ∧ j.natAbs.log2 < 9000
def CMulX (i j : Int) : Prop := CMul i j ∨ CMulW i j
theorem op_mulX {X : Cx} : OpR X (binaryOp .Mult) (rI CMulX fun i j => .int (i * j)) := opI fun _ _ _ _ _ _ _ hc q => mul_int q (hc.elim CMul.ok fun h => h.ok)
def rStrs : R2 := fun x y H Q => ∃ i j, x = .str i ∧ y = .str j ∧ i.length + j.length ≤ sizeLine ∧ Q (.str (i ++ j)) H
def rBin (K : PySem.W.Frag) : BO → R2
  | .add => fun x y H Q => rI0 (fun i j => .int (i + j)) x y H Q ∨ rCatA K x y H Q ∨ rCat x y H Q ∨ rStrs x y H Q
  | .sub => rI0 fun i j => .int (i - j)
  | .mul => fun x y H Q => rI CMulX (fun i j => .int (i * j)) x y H Q ∨ rRepT K x y H Q ∨ rRep1 K x y H Q ∨ rRep x y H Q
  | .fdiv => rI CDivX fun i j => .int (i.fdiv j)
  | .mod => rI (fun _ j => j ≠ 0) fun i j => .int (i.fmod j)
  | .pow => rI CPow fun i j => .int (i ^ j.toNat)
theorem op_fdivX {X : Cx} : OpR X (binaryOp .FloorDiv) (rI CDivX fun i j => .int (i.fdiv j)) := opI fun _ _ _ _ _ _ _ hc q => floordiv_int hc.1 q (.inl (PyProof.noPylong_of_log2 hc.2))
theorem op_bin {X : Cx} {o : BO} {q : Operator} (h : opC o q = true) : OpR X (binaryOp q) (rBin X.K o) := by
  cases o <;> cases q <;> first
    | exact absurd h Bool.false_ne_true
    | exact OpR.or op_add (OpR.or op_catA (OpR.or op_cat op_add_str))
    | exact op_sub
    | exact OpR.or op_mulX (OpR.or op_repT (OpR.or op_rep1 op_rep))
    | exact op_fdivX
    | exact op_modN
    | exact op_pow

theorem rep_flat1 {α : Type} (xs : List α) : (List.replicate (1 : Int).toNat xs).flatten = xs := by simp
theorem bin_ok {K : PySem.W.Frag} (o : BO) : DOp K (rBin K o) (binW o) := by
  intro δ G H vx vy x y Q R w rx ry h k
  cases o <;> cases x <;> cases y <;> first
    | exact False.elim h
    | skip
  case add.int.int i j => exact .inl ⟨i, j, rx.of_int, ry.of_int, k _ _ _ _ (Nx.refl w) (.int _) h⟩
  case add.str.str i j => exact .inr (.inr (.inr ⟨i, j, rx.of_str, ry.of_str, sz5 h.1, k _ _ _ _ (Nx.refl w) (.str _) h.2⟩))
  case add.list.list ds es =>
    obtain ⟨a, xs, e, h1, _, r1⟩ := rx.of_lst w
    obtain ⟨b, ys, e2, h2, _, r2⟩ := ry.of_lst w
    refine .inr (.inr (.inl ⟨a, b, xs, ys, e, e2, h1, h2, by rw [r1.length, r2.length]; exact sz5 h.1, fun p hp => ?_⟩))
    obtain ⟨n, r⟩ := nx_lst w hp (r1.append r2)
    exact k _ _ _ _ n r h.2
  case add.tuple.tuple ds es =>
    obtain ⟨a, xs, e, h1, g1, r1⟩ := rx.of_tup w
    obtain ⟨b, ys, e2, h2, g2, r2⟩ := ry.of_tup w
    subst e; subst e2
    refine .inr (.inl ⟨a, b, xs, ys, rfl, rfl, h1, h2, by rw [r1.length, r2.length]; exact sz5 h.1, fun z => ?_, fun _ z => ?_, fun _ _ p hp => ?_⟩)
    · subst z; cases r1; exact k _ _ _ _ (Nx.refl w) ry h.2
    · subst z; cases r2
      have := h.2
      rw [List.append_nil] at this
      exact k _ _ _ _ (Nx.refl w) rx this
    · obtain ⟨n, r⟩ := nx_tup w hp (r1.append r2)
      exact k _ _ _ _ n r h.2
  case sub.int.int i j => exact ⟨i, j, rx.of_int, ry.of_int, k _ _ _ _ (Nx.refl w) (.int _) h⟩
  case mul.int.int i j => exact .inl ⟨i, j, rx.of_int, ry.of_int, h.1, k _ _ _ _ (Nx.refl w) (.int _) h.2⟩
  case mul.tuple.int ds j =>
    obtain ⟨a, xs, e, h1, g1, r1⟩ := rx.of_tup w
    obtain ⟨⟨n2, n3, n4⟩, q⟩ := h
    by_cases z : xs = [] ∨ j = 1
    · have eq : (List.replicate j.toNat ds).flatten = ds := by
        rcases z with rfl | rfl
        · cases r1; simp
        · exact rep_flat1 ds
      rw [eq] at q
      subst e
      exact .inr (.inr (.inl ⟨a, xs, j, rfl, ry.of_int, h1, z, ⟨n2, n3⟩, k _ _ _ _ (Nx.refl w) rx q⟩))
    · have ne : xs ≠ [] := fun y => z (.inl y)
      have ne1 : j ≠ 1 := fun y => z (.inr y)
      refine .inr (.inl ⟨a, j, xs, e, ry.of_int, h1, ne, by omega, n3, by rw [r1.length]; exact n4, fun p hp => ?_⟩)
      obtain ⟨n, r⟩ := nx_tup w hp (r1.rep j.toNat)
      exact k _ _ _ _ n r q
  case mul.list.int ds j =>
    obtain ⟨a, xs, e, h1, g1, r1⟩ := rx.of_lst w
    obtain ⟨⟨n2, n3, n4⟩, q⟩ := h
    have l : xs.length * j.toNat ≤ 1000 * 1000 := Nat.mul_le_mul (by rw [r1.length]; exact n4) (by omega)
    refine .inr (.inr (.inr ⟨a, j, xs, e, ry.of_int, h1, by omega, by omega, by rw [sizeLine_eq]; omega, fun p hp => ?_⟩))
    obtain ⟨n, r⟩ := nx_lst w hp (r1.rep j.toNat)
    exact k _ _ _ _ n r q
  case fdiv.int.int i j => exact ⟨i, j, rx.of_int, ry.of_int, h.1, k _ _ _ _ (Nx.refl w) (.int _) h.2⟩
  case mod.int.int i j => exact ⟨i, j, rx.of_int, ry.of_int, h.1, k _ _ _ _ (Nx.refl w) (.int _) h.2⟩
  case pow.int.int i j => exact ⟨i, j, rx.of_int, ry.of_int, h.1, k _ _ _ _ (Nx.refl w) (.int _) h.2⟩

/-! ### comparisons -/
def rCmp (K : PySem.W.Frag) : CO → R2
  | .eq => fun x y H Q => rEqP K id x y H Q ∨ rEqE K id x y H Q
  | .ne => fun x y H Q => rEqP K not x y H Q ∨ rEqE K not x y H Q
  | .lt => rI0 fun i j => .bl (decide (i < j))
  | .le => rI0 fun i j => .bl (decide (i ≤ j))
  | .gt => rI0 fun i j => .bl (decide (j < i))
  | .ge => rI0 fun i j => .bl (decide (j ≤ i))
  | .isN => fun x y H Q => y = .non ∧ Q (.bl (decide (x = .non))) H
  | .notN => fun x y H Q => y = .non ∧ Q (.bl (!decide (x = .non))) H
  | .isB => rIsB
  | .notB => rNotB
  | .isin => fun x y H Q => rInLP K id x y H Q ∨ rInTD K id x y H Q ∨ ∃ (c : Nat) (z : Str), x = .str ⟨#[c]⟩ ∧ y = .str z ∧ Q (.bl (decide (c ∈ z.cps.toList))) H
  | .notin => fun x y H Q => rInLP K not x y H Q ∨ rInTD K not x y H Q ∨ ∃ (c : Nat) (z : Str), x = .str ⟨#[c]⟩ ∧ y = .str z ∧ Q (.bl (!decide (c ∈ z.cps.toList))) H
theorem op_cmp {X : Cx} {o : CO} {q : CmpOp} (hu : X.A.units + 65 < cLine) (h : cmpC o q = true) : OpR X (compareOp q) (rCmp X.K o) := by
  have h1 : X.A.units + 64 < cLine := by omega
  have h2 : X.A.units < cLine := by omega
  cases o <;> cases q <;> first
    | exact absurd h Bool.false_ne_true
    | exact OpR.or (op_eqP h1) (op_eqE h2)
    | exact OpR.or (op_neP h1) (op_neE h2)
    | exact op_lt
    | exact op_le
    | exact op_gt
    | exact op_ge
    | exact op_isN
    | exact op_notN
    | exact op_isBl
    | exact op_notBl
    | exact OpR.or (op_inLP hu) (OpR.or (op_inTD hu) op_in_sign)
    | exact OpR.or (op_notInLP hu) (OpR.or (op_notInTD hu) op_notIn_sign)

/-! == against an empty row, as data -/
theorem eqv_tup_nil (xs : List D) : PyData.eqv (.tuple xs) (.tuple []) = xs.isEmpty := by cases xs <;> simp [PyData.eqv, PyData.eqvAll]
theorem eqv_lst_nil (xs : List D) : PyData.eqv (.list xs) (.list []) = xs.isEmpty := by cases xs <;> simp [PyData.eqv, PyData.eqvAll]
def rCmpOk (K : PySem.W.Frag) (r : R2) (w : D → D → (Bool → Prop) → Prop) : Prop :=
  ∀ (δ : Option (Addr × Addr)) (G H : Hp) (vx vy : V) (x y : D) (Q : Bool → Prop) (R : VK), Wd δ G H → Rl K G δ vx x → Rl K G δ vy y → w x y Q →
    (∀ c, Q c → R (.bl c) H) → r vx vy H R
section
variable {K : PySem.W.Frag} {δ : Option (Addr × Addr)} {G H : Hp} {vx vy : V} {x y : D}
theorem dp_of (w : Wd δ G H) (r : Rl K G δ vx x) (h : shp x = true) : Dp K H vx x := (r.mono w.ex).dp _ _ (shp_plain h)
theorem eq_of (f : Bool → Bool) {R : VK} (w : Wd δ G H) (rx : Rl K G δ vx x) (ry : Rl K G δ vy y) (h : EqOk x y) (q : R (.bl (f (PyData.eqv x y))) H) :
    (∃ d e, Dp K H vx d ∧ Dp K H vy e ∧ shp d = true ∧ shp e = true ∧ R (.bl (f (PyData.eqv d e))) H) ∨ rEqE K f vx vy H R := by
  rcases h with ⟨h1, h2⟩ | ⟨ds, rfl, rfl⟩ | ⟨ds, rfl, rfl⟩
  · exact .inl ⟨x, y, dp_of w rx h1, dp_of w ry h2, h1, h2, q⟩
  · obtain ⟨a, xs, e, h1, g1, r1⟩ := rx.of_tup w
    obtain ⟨b, ys, e2, h2, g2, r2⟩ := ry.of_tup w
    cases r2
    rw [eqv_tup_nil, ← r1.nil_iff] at q
    exact .inr (.inl ⟨a, b, xs, e, e2, h1, h2, q⟩)
  · obtain ⟨a, xs, e, h1, g1, r1⟩ := rx.of_lst w
    obtain ⟨b, ys, e2, h2, g2, r2⟩ := ry.of_lst w
    cases r2
    rw [eqv_lst_nil, ← r1.nil_iff] at q
    exact .inr (.inr ⟨a, b, xs, e, e2, h1, h2, q⟩)
end
theorem cmp_ok {K : PySem.W.Frag} (o : CO) : rCmpOk K (rCmp K o) (cmpW o) := by
  intro δ G H vx vy x y Q R w rx ry h k
  cases o
  case eq => exact eq_of id w rx ry h.1 (k _ h.2)
  case ne => exact eq_of not w rx ry h.1 (k _ h.2)
  case isN =>
    cases y <;> first
      | exact False.elim (by simpa [cmpW] using h)
      | skip
    have h' : Q (isNone x) := by simpa [cmpW] using h
    exact ⟨ry.of_none, by rw [rx.isnone]; exact k _ h'⟩
  case notN =>
    cases y <;> first
      | exact False.elim (by simpa [cmpW] using h)
      | skip
    have h' : Q (!isNone x) := by simpa [cmpW] using h
    exact ⟨ry.of_none, by rw [rx.isnone]; exact k _ h'⟩
  case isin =>
    cases y
    case list => exact .inl ⟨_, _, dp_of w rx h.1.1, dp_of w ry h.1.2, h.1.1, h.1.2, k _ h.2⟩
    case tuple => exact .inr (.inl ⟨_, _, dp_of w rx h.1.1, dp_of w ry h.1.2, h.1.1, h.1.2, k _ h.2⟩)
    case str z =>
      cases x
      case str u =>
        obtain ⟨c, rfl, q⟩ := h
        exact .inr (.inr ⟨c, z, rx.of_str, ry.of_str, k _ q⟩)
      all_goals exact False.elim h
    all_goals exact False.elim (by simpa [cmpW] using h)
  case notin =>
    cases y
    case list => exact .inl ⟨_, _, dp_of w rx h.1.1, dp_of w ry h.1.2, h.1.1, h.1.2, k _ h.2⟩
    case tuple => exact .inr (.inl ⟨_, _, dp_of w rx h.1.1, dp_of w ry h.1.2, h.1.1, h.1.2, k _ h.2⟩)
    case str z =>
      cases x
      case str u =>
        obtain ⟨c, rfl, q⟩ := h
        exact .inr (.inr ⟨c, z, rx.of_str, ry.of_str, k _ q⟩)
      all_goals exact False.elim h
    all_goals exact False.elim (by simpa [cmpW] using h)
  all_goals
    cases x <;> cases y <;> first
      | exact False.elim h
      | exact ⟨_, _, rx.of_int, ry.of_int, k _ h⟩
      | exact ⟨_, _, rx.of_bool, ry.of_bool, k _ h⟩

/-! ### truth -/
theorem tru_of {K : PySem.W.Frag} {δ : Option (Addr × Addr)} {G H : Hp} {v : V} {d : D} {Q R : Bool → Prop} (w : Wd δ G H) (r : Rl K G δ v d) (h : truW d Q) (k : ∀ c, Q c → R c) : ∃ c, TruV K v H c ∧ R c := by
  cases r with
  | non => exact ⟨_, rfl, k _ h⟩
  | bl b => exact ⟨_, rfl, k _ h⟩
  | int i => exact ⟨_, rfl, k _ h⟩
  | str x => exact ⟨_, ⟨sz5 h.1, rfl⟩, k _ h.2⟩
  | lst h1 h2 => exact ⟨_, .inl ⟨_, SqL.of (w.ex _ _ h1), rfl⟩, k _ (by rw [h2.nil_iff]; exact h)⟩
  | tup h1 h2 => exact ⟨_, .inr (.inl ⟨_, Evl.ex_t w.ex h1, rfl⟩), k _ (by rw [h2.nil_iff]; exact h)⟩
  | dic h1 h2 => exact ⟨_, .inr (.inr ⟨_, w.ex _ _ h1, rfl⟩), k _ (by
      have e : ∀ {kvs : List (Key × V)} {ds : List (D × D)}, RlKv K G δ kvs ds → kvs.isEmpty = ds.isEmpty := fun z => by cases z <;> rfl
      rw [e h2]; exact h)⟩
  | deck e =>
    obtain ⟨_, _, kn, ns, m, c, _, h1, _⟩ := w.dk _ e
    exact ⟨true, .inr (.inr ⟨_, h1, rfl⟩), k _ h⟩

/-! ### built-ins -/
def rReprD (K : PySem.W.Frag) (δ : Option (Addr × Addr)) : List V → Hp → VK → Prop := fun xs H Q => ∃ G v d, Wd δ G H ∧ Rl K G δ v d ∧ xs = [v] ∧ ReprOk d ∧ Q (.str d.shown) H
theorem call_reprD {X : Cx} {δ : Option (Addr × Addr)} (hg : X.A.guards = some []) (hu : X.A.units + 65 < cLine) : CallR X (.builtin "repr") (rReprD X.K δ) := by
  intro pins s σ H xs us Q I r h
  obtain ⟨G, v, d, w, rl, rfl, ⟨nd, h1, h2, h3⟩, q⟩ := h
  cases r with
  | cons ru rn =>
    cases rn
    refine Rl.repr I w.ex nd rl ru h1 (Nat.le_trans h3 (by rw [sizeLine_eq]; decide)) hg (by omega) fun h' t tk kp => ?_
    exact ⟨.str d.shown, H, I.kept kp, ⟨_, rfl⟩, q⟩
def rBi (K : PySem.W.Frag) (δ : Option (Addr × Addr)) : Bi → List V → Hp → VK → Prop
  | .len => fun xs H Q => ∃ x n, xs = [x] ∧ LenV K x H n ∧ Q (.int n) H
  | .abs => fun xs H Q => ∃ i, xs = [.int i] ∧ Q (.int (if i < 0 then -i else i)) H
  | .max2 => fun xs H Q => ∃ i j, xs = [.int i, .int j] ∧ Q (.int (if j > i then j else i)) H
  | .min2 => fun xs H Q => ∃ i j, xs = [.int i, .int j] ∧ Q (.int (if j < i then j else i)) H
  | .int => fun xs H Q => (∃ i, xs = [.int i] ∧ Q (.int i) H) ∨ ∃ k, xs = [.bl k] ∧ Q (.int (if k then 1 else 0)) H
  | .bool => fun xs H Q => (∃ i, xs = [.int i] ∧ Q (.bl (i != 0)) H) ∨ ∃ k, xs = [.bl k] ∧ Q (.bl k) H
  | .str => fun xs H Q => ∃ i, xs = [.int i] ∧ i.natAbs.log2 < 1920 ∧ Q (.str (toString i)) H
  | .repr => rReprD K δ
  | .tuple => fun xs H Q => ∃ p ys, xs = [.ref p] ∧ ((SqL K H p ys ∧ ∀ l, H l = none → Q (.ref l) (upd H l (.tup ys))) ∨ (SqT K H p ys ∧ Q (.ref p) H))
  | .list => fun xs H Q => ∃ p ys, xs = [.ref p] ∧ (SqL K H p ys ∨ SqT K H p ys) ∧ ∀ l, H l = none → Q (.ref l) (upd H l (.lst ys))
  | .gcd => rGcd
  | .all => rAll K
  | .any => rAny K
  | .sum => rSum K
  | .maxL => rMax K
  | .minL => rMin K
def biV : Bi → Value
  | .len => .builtin "len"
  | .abs => .builtin "abs"
  | .max2 => .builtin "max"
  | .min2 => .builtin "min"
  | .int => .type "int"
  | .bool => .type "bool"
  | .str => .type "str"
  | .repr => .builtin "repr"
  | .tuple => .type "tuple"
  | .list => .type "list"
  | .gcd => .builtin "math.gcd"
  | .all => .builtin "all"
  | .any => .builtin "any"
  | .sum => .builtin "sum"
  | .maxL => .builtin "max"
  | .minL => .builtin "min"
theorem call_bi {X : Cx} {δ : Option (Addr × Addr)} (hc : X.calm = true) (hg : X.A.guards = some []) (hu : X.A.units + 65 < cLine) (f : Bi) : CallR X (biV f) (rBi X.K δ f) := by
  cases f
  · exact call_len
  · exact call_abs
  · exact call_max2 hc
  · exact call_min2 hc
  · exact call_int1
  · exact call_bool1
  · exact call_str_int
  · exact call_reprD hg hu
  · exact call_tuple_of
  · exact call_list_of
  · exact cr_gcd
  · exact cr_all hc
  · exact cr_any hc
  · exact cr_sum hc
  · exact cr_max hc
  · exact cr_min hc
theorem bools_of {K : PySem.W.Frag} {δ : Option (Addr × Addr)} {G : Hp} : ∀ {xs : List V} {ds : List D} {bs : List Bool}, RlAll K G δ xs ds → boolsOf ds = some bs → xs = bs.map V.bl
  | _, _, bs, .nil, h => by
    have : bs = [] := by simpa [boolsOf] using h.symm
    subst this; rfl
  | _, d :: ds, bs, .cons r t, h => by
    cases d <;> first
      | (simp [boolsOf] at h; done)
      | skip
    rename_i b
    have h' : (boolsOf ds).map (b :: ·) = some bs := by simpa [boolsOf] using h
    cases e : boolsOf ds with
    | none => rw [e] at h'; cases h'
    | some l =>
      rw [e] at h'
      have h2 : b :: l = bs := by simpa using h'
      subst h2
      rw [r.of_bool, bools_of t e]; rfl
theorem ints_of {K : PySem.W.Frag} {δ : Option (Addr × Addr)} {G : Hp} : ∀ {xs : List V} {ds : List D} {bs : List Int}, RlAll K G δ xs ds → intsOf ds = some bs → xs = bs.map V.int
  | _, _, bs, .nil, h => by
    have : bs = [] := by simpa [intsOf] using h.symm
    subst this; rfl
  | _, d :: ds, bs, .cons r t, h => by
    cases d <;> first
      | (simp [intsOf] at h; done)
      | skip
    rename_i b
    have h' : (intsOf ds).map (b :: ·) = some bs := by simpa [intsOf] using h
    cases e : intsOf ds with
    | none => rw [e] at h'; cases h'
    | some l =>
      rw [e] at h'
      have h2 : b :: l = bs := by simpa using h'
      subst h2
      rw [r.of_int, ints_of t e]; rfl
/-- a built-in does what it says -/
theorem bi_ok {K : PySem.W.Frag} (f : Bi) {δ : Option (Addr × Addr)} {G H : Hp} {vs : List V} {ds : List D} {Q : DP} {R : VK} (w : Wd δ G H) (r : RlAll K G δ vs ds) (h : biW f ds Q)
    (k : ∀ G' H' v d, Nx δ G H G' H' → Rl K G' δ v d → Q d → R v H') : rBi K δ f vs H R := by
  have k0 : ∀ v d, Rl K G δ v d → Q d → R v H := fun v d => k G H v d (Nx.refl w)
  unfold biW at h
  split at h <;> first
    | exact False.elim h
    | skip
  case h_1 xs => 
    cases r with
    | cons r1 rn =>
      cases rn
      obtain ⟨a, ys, rfl, h1, _, r2⟩ := r1.of_lst w
      exact ⟨_, _, rfl, .inl ⟨ys, SqL.of h1, rfl⟩, k0 _ _ (.int _) (by rw [r2.length]; exact h)⟩
  case h_2 xs =>
    cases r with
    | cons r1 rn =>
      cases rn
      obtain ⟨a, ys, rfl, h1, _, r2⟩ := r1.of_tup w
      exact ⟨_, _, rfl, .inr ⟨ys, h1, rfl⟩, k0 _ _ (.int _) (by rw [r2.length]; exact h)⟩
  case h_3 x =>
    cases r with
    | cons r1 rn =>
      cases rn
      cases r1
      exact ⟨_, _, rfl, ⟨sz5 h.1, rfl⟩, k0 _ _ (.int _) h.2⟩
  case h_4 i =>
    cases r with
    | cons r1 rn =>
      cases rn
      cases r1
      exact ⟨_, rfl, k0 _ _ (.int _) h⟩
  case h_5 i j =>
    cases r with
    | cons r1 rn =>
      cases rn with
      | cons r2 rn =>
        cases rn
        cases r1
        cases r2
        exact ⟨_, _, rfl, k0 _ _ (.int _) h⟩
  case h_6 i j =>
    cases r with
    | cons r1 rn =>
      cases rn with
      | cons r2 rn =>
        cases rn
        cases r1
        cases r2
        exact ⟨_, _, rfl, k0 _ _ (.int _) h⟩
  case h_7 i =>
    cases r with
    | cons r1 rn =>
      cases rn
      cases r1
      exact .inl ⟨_, rfl, k0 _ _ (.int _) h⟩
  case h_8 i =>
    cases r with
    | cons r1 rn =>
      cases rn
      cases r1
      exact .inr ⟨_, rfl, k0 _ _ (.int _) h⟩
  case h_9 i =>
    cases r with
    | cons r1 rn =>
      cases rn
      cases r1
      exact .inl ⟨_, rfl, k0 _ _ (.bl _) h⟩
  case h_10 i =>
    cases r with
    | cons r1 rn =>
      cases rn
      cases r1
      exact .inr ⟨_, rfl, k0 _ _ (.bl _) h⟩
  case h_11 i =>
    cases r with
    | cons r1 rn =>
      cases rn
      cases r1
      exact ⟨_, rfl, h.1, k0 _ _ (.str _) h.2⟩
  case h_12 d =>
    cases r with
    | cons r1 rn =>
      cases rn
      exact ⟨G, _, _, w, r1, rfl, h.1, k0 _ _ (.str _) h.2⟩
  case h_13 xs =>
    cases r with
    | cons r1 rn =>
      cases rn
      obtain ⟨a, ys, rfl, h1, _, r2⟩ := r1.of_lst w
      refine ⟨_, ys, rfl, .inl ⟨SqL.of h1, fun l hl => ?_⟩⟩
      obtain ⟨n, q⟩ := nx_tup w hl r2
      exact k _ _ _ _ n q h
  case h_14 xs =>
    cases r with
    | cons r1 rn =>
      cases rn
      obtain ⟨a, ys, e, h1, _, r2⟩ := r1.of_tup w
      subst e
      exact ⟨_, ys, rfl, .inr ⟨h1, k0 _ _ r1 h⟩⟩
  case h_15 xs =>
    cases r with
    | cons r1 rn =>
      cases rn
      obtain ⟨a, ys, rfl, h1, _, r2⟩ := r1.of_lst w
      refine ⟨_, ys, rfl, .inl (SqL.of h1), fun l hl => ?_⟩
      obtain ⟨n, q⟩ := nx_lst w hl r2
      exact k _ _ _ _ n q h
  case h_16 xs =>
    cases r with
    | cons r1 rn =>
      cases rn
      obtain ⟨a, ys, rfl, h1, _, r2⟩ := r1.of_tup w
      refine ⟨_, ys, rfl, .inr h1, fun l hl => ?_⟩
      obtain ⟨n, q⟩ := nx_lst w hl r2
      exact k _ _ _ _ n q h
  case h_17 i j =>
    cases r with
    | cons r1 rn =>
      cases rn with
      | cons r2 rn =>
        cases rn
        cases r1
        cases r2
        exact ⟨_, _, rfl, k0 _ _ (.int _) h⟩
  case h_18 xs =>
    cases r with
    | cons r1 rn =>
      cases rn
      obtain ⟨a, ys, rfl, h1, _, r2⟩ := r1.of_lst w
      obtain ⟨bs, e, q⟩ := h
      exact ⟨_, bs, rfl, SqL.of (by rw [← bools_of r2 e]; exact h1), k0 _ _ (.bl _) q⟩
  case h_19 xs =>
    cases r with
    | cons r1 rn =>
      cases rn
      obtain ⟨a, ys, rfl, h1, _, r2⟩ := r1.of_lst w
      obtain ⟨bs, e, q⟩ := h
      exact ⟨_, bs, rfl, SqL.of (by rw [← bools_of r2 e]; exact h1), k0 _ _ (.bl _) q⟩
  case h_20 xs =>
    cases r with
    | cons r1 rn =>
      cases rn
      obtain ⟨a, ys, rfl, h1, _, r2⟩ := r1.of_lst w
      obtain ⟨bs, e, q⟩ := h
      exact ⟨_, bs, rfl, SqL.of (by rw [← ints_of r2 e]; exact h1), k0 _ _ (.int _) q⟩
  case h_21 xs =>
    cases r with
    | cons r1 rn =>
      cases rn
      obtain ⟨a, ys, rfl, h1, _, r2⟩ := r1.of_lst w
      obtain ⟨bs, e, ne, q⟩ := h
      exact ⟨_, bs, rfl, SqL.of (by rw [← ints_of r2 e]; exact h1), List.length_pos_iff.mpr ne, fun m m1 m2 => k0 _ _ (.int _) (q m m1 m2)⟩
  case h_22 xs =>
    cases r with
    | cons r1 rn =>
      cases rn
      obtain ⟨a, ys, rfl, h1, _, r2⟩ := r1.of_lst w
      obtain ⟨bs, e, ne, q⟩ := h
      exact ⟨_, bs, rfl, SqL.of (by rw [← ints_of r2 e]; exact h1), List.length_pos_iff.mpr ne, fun m m1 m2 => k0 _ _ (.int _) (q m m1 m2)⟩
end Ey

end
section
set_option Elab.async false
set_option linter.all false
set_option maxRecDepth 100000
set_option maxHeartbeats 1000000
/-! Ey5: defs' promises, calls; how a core term and a text are bound together. -/
namespace Ey
open PySem PySem.Spec PyProof.Rows L2
open Evl (Ex)

/-- a def's promise, where no guard is held -/
structure FnG (P : Program) (w : World) (K : PySem.W.Frag) (mg : Str → Option Value) (base : Heap) (k : Nat) (f : Addr) (fd : FuncData) (ps : List Str) (sp : Sp) : Prop where
  len : ∀ vs H Q E, sp vs H Q E → vs.length = ps.length
  run : ∀ (A : Around) (outer : List PySem.Env) (s : Shared) (H : Hp) (args : Args) (us : List Value) (vs : List V) (Q : VK) (E : XK), Room k A → A.guards = some [] →
    Env0 P w K mg base A outer s H → BindsTo s fd args (ps.zip us) → Vals vs us → sp vs H Q E → codeAny (model P w) A (.call (.ref f) args) (CR (L2.CX P w) outer P w H s Q E) s

/-- how a call by n places and the names ks binds -/
def KBd (fd : FuncData) (ps : List Str) (n : Nat) (ks : List Str) (pm : List Nat) : Prop :=
  n + pm.length = ps.length ∧ ∀ us ws : List Value, us.length = n → ws.length = ks.length → bindArgs fd ⟨us, ks.zip ws⟩ = pure (ps.zip (us ++ pm.map fun j => ws.getD j .none))

def seatV (vs zs : List V) (pm : List Nat) : List V := vs ++ pm.map fun j => zs.getD j .non
theorem vals_getD : ∀ {zs : List V} {ws : List Value}, Vals zs ws → ∀ j, L2.RelV (zs.getD j .non) (ws.getD j .none)
  | _, _, .nil, _ => by simp [L2.RelV]
  | _, _, .cons r _, 0 => by simpa using r
  | _, _, .cons _ t, j + 1 => by simpa using vals_getD t j
theorem vals_seat {zs : List V} {ws : List Value} (t : Vals zs ws) : ∀ pm : List Nat, Vals (pm.map fun j => zs.getD j .non) (pm.map fun j => ws.getD j .none)
  | [] => .nil
  | j :: r => .cons (vals_getD t j) (vals_seat t r)

section
variable {X : Cx} {k : Nat} {f : Addr} {fd : FuncData} {ps ks : List Str} {sp : Sp} {W : WX} {x : Str} {p pos : Pos} {e : Expr} {es : List Expr} {kws : List Keyword} {t tw : TA} {pm : List Nat}
theorem ends_ok {pins : List (Addr × Obj)} {σ : L2.St} {H : Hp} {s : Shared} {Q : VK} (tk : Takes X W) (I : Inv X pins σ H s) {args : Args} (h : codeAny (model X.prog X.w) X.A (.call (.ref f) args) (CR (L2.CX X.prog X.w) X.stack X.prog X.w H s Q (fun cls d H => W cls d σ H)) s) :
    codeAny (model X.prog X.w) X.A (.call (.ref f) args) (fun r s' => match r with
      | .ok (.ret u) => EP X pins σ Q u s'
      | .ok _ => False
      | .error e => X.xe e s') s :=
  codeAny_mono h fun r s' hq => by
    cases r with
    | error u => exact passAt tk σ pins H s u s' I hq
    | ok fl => cases fl <;> first
      | exact I.after hq
      | exact False.elim hq
def tCallW (sp : Sp) (W : WX) (t : TA) : TE := fun σ H Q => t σ H fun vs H1 => sp vs H1 Q fun cls d H2 => W cls d σ H2
def tCallKW (sp : Sp) (W : WX) (n m : Nat) (pm : List Nat) (t tk : TA) : TE := fun σ H Q => t σ H fun vs H1 => vs.length = n ∧ tk σ H1 fun zs H2 => zs.length = m ∧ sp (seatV vs zs pm) H2 Q fun cls d H3 => W cls d σ H3
theorem run_G {pins : List (Addr × Obj)} {σ : L2.St} {H : Hp} {s : Shared} {Q : VK} {us : List Value} {vs : List V} {args : Args} (F : FnG X.prog X.w X.K X.mg X.base k f fd ps sp) (hr : Room k X.A) (hg : X.A.guards = some []) (tk : Takes X W) (I : Inv X pins σ H s) (r : Vals vs us)
    (hb : us.length = ps.length → BindsTo s fd args (ps.zip us)) (h : sp vs H Q fun cls d H2 => W cls d σ H2) : codeAny (model X.prog X.w) X.A (.call (.ref f) args) (fun r s' => match r with
      | .ok (.ret u) => EP X pins σ Q u s'
      | .ok _ => False
      | .error e => X.xe e s') s :=
  ends_ok tk I (F.run X.A X.stack s H args us vs Q _ hr hg I.env0 (hb (by rw [← r.length]; exact F.len _ _ _ _ h)) r h)
theorem call_G {pins : List (Addr × Obj)} {σ : L2.St} {s : Shared} {Q : VK} {us : List Value} {kw : List (Str × Value)} (h : codeAny (model X.prog X.w) X.A (.call (.ref f) ⟨us, kw⟩) (fun r s' => match r with
      | .ok (.ret u) => EP X pins σ Q u s'
      | .ok _ => False
      | .error e => X.xe e s') s) : wpAny (model X.prog X.w) X.A (call (.ref f) us kw) (EP X pins σ Q) X.xe s :=
  wpAny_call (codeAny_mono h fun r s' hq => by
    cases r with
    | error u => exact hq
    | ok fl => cases fl <;> first
      | exact hq
      | exact False.elim hq)
theorem pe_callG (F : FnG X.prog X.w X.K X.mg X.base k f fd ps sp) (hr : Room k X.A) (hq : X.A.guards = some []) (tk : Takes X W) (hg : Gl X x) (hm : X.mg x = some (.ref f)) (hk : PySem.W.keepIn X.K (.ref f) = true) (hb : Binds X.K fd ps [])
    (ha : PA X (e :: es) t) (hdb : (x == ("__debug__" : Str)) = false) (he : starEach (e :: es) X.env = (false, eval e X.env) :: starEach es X.env) (hpl : (backTo pos (starEach es X.env)).any (·.1) = false) :
    PE X (.Call (.Name x p) (e :: es) [] pos) (tCallW sp W t) :=
  ⟨fun pins s σ H Q I h => wpAny_Call_Name_kw (ld_glob I hg hm (PySem.W.callWith_K (h₀ := X.base) I.ok.mod.kin hk
    (thn (ha.run pos pins s σ H _ I h) fun us s1 ⟨vs, H1, I1, r, q⟩ => ⟨I1.kIn, call_G (run_G F hr hq tk I1 r (fun hl => by
      have z := hb s1 us I1.kIn (by rw [List.append_nil]; exact hl)
      rw [List.append_nil] at z; exact z) q)⟩) he hpl) hdb)⟩
theorem pe_callG0 (F : FnG X.prog X.w X.K X.mg X.base k f fd ps sp) (hr : Room k X.A) (hq : X.A.guards = some []) (tk : Takes X W) (hg : Gl X x) (hm : X.mg x = some (.ref f)) (hk : PySem.W.keepIn X.K (.ref f) = true) (hb : Binds X.K fd ps [])
    (hdb : (x == ("__debug__" : Str)) = false) : PE X (.Call (.Name x p) [] [] pos) (tCallW sp W tNil) :=
  ⟨fun pins s σ H Q I h => wpAny_Call_Name_kw (ld_glob I hg hm (PySem.W.callWith_K0 I.kIn hk (call_G (us := [] ++ []) (kw := []) (run_G F hr hq tk I .nil (fun hl => hb s [] I.kIn hl) h))) hdb)⟩
theorem pe_callGK (F : FnG X.prog X.w X.K X.mg X.base k f fd ps sp) (hr : Room k X.A) (hq : X.A.guards = some []) (tk : Takes X W) (hg : Gl X x) (hm : X.mg x = some (.ref f)) (hk : PySem.W.keepIn X.K (.ref f) = true)
    (hb : KBd fd ps (es.length + 1) ks pm) (ha : PA X (e :: es) t) (hkw : PK X kws tw) (hdb : (x == ("__debug__" : Str)) = false) (he : starEach (e :: es) X.env = (false, eval e X.env) :: starEach es X.env)
    (hall : (backToKw pos (keywordEach kws X.env)).all (·.1.isSome) = true) (hks : (backToKw pos (keywordEach kws X.env)).filterMap (·.1) = ks)
    (hpl : ((backTo pos (starEach (e :: es) X.env)).any (·.1) || (backToKw pos (keywordEach kws X.env)).any (·.1.isNone)) = false) : PE X (.Call (.Name x p) (e :: es) kws pos) (tCallKW sp W (es.length + 1) ks.length pm t tw) :=
  ⟨fun pins s σ H Q I h => wpAny_Call_Name_kw (ld_glob I hg hm (PySem.W.callWith_KW (h₀ := X.base) I.ok.mod.kin hk hall
    (thn (ha.run pos pins s σ H _ I h) fun us s1 ⟨vs, H1, I1, r, l1, q⟩ => thn (hkw.run pos pins s1 σ H1 _ I1 q) fun ws s2 ⟨zs, H2, I2, rz, l2, q2⟩ => ⟨I2.kIn, by
      rw [hks]
      have e1 : us.length = es.length + 1 := r.length.symm.trans l1
      have e2 : ws.length = ks.length := rz.length.symm.trans l2
      exact call_G (us := [] ++ us) (run_G (us := us ++ pm.map fun j => ws.getD j .none) F hr hq tk I2 (r.append (vals_seat rz pm)) (fun hl => .of_eq (hb.2 us ws e1 e2)) q2)⟩) hpl he) hdb)⟩
theorem pe_callGK0 (F : FnG X.prog X.w X.K X.mg X.base k f fd ps sp) (hr : Room k X.A) (hq : X.A.guards = some []) (tk : Takes X W) (hg : Gl X x) (hm : X.mg x = some (.ref f)) (hk : PySem.W.keepIn X.K (.ref f) = true)
    (hb : KBd fd ps 0 ks pm) (hkw : PK X kws tw) (hdb : (x == ("__debug__" : Str)) = false)
    (hall : (backToKw pos (keywordEach kws X.env)).all (·.1.isSome) = true) (hks : (backToKw pos (keywordEach kws X.env)).filterMap (·.1) = ks)
    (hpl : ((backTo pos (starEach [] X.env)).any (·.1) || (backToKw pos (keywordEach kws X.env)).any (·.1.isNone)) = false) : PE X (.Call (.Name x p) [] kws pos) (tCallKW sp W 0 ks.length pm tNil tw) :=
  ⟨fun pins s σ H Q I h => wpAny_Call_Name_kw (ld_glob I hg hm (PySem.W.callWith_KW0 (h₀ := X.base) I.ok.mod.kin hk hall
    (thn (hkw.run pos pins s σ H _ I h.2) fun ws s2 ⟨zs, H2, I2, rz, l2, q2⟩ => ⟨I2.kIn, by
      rw [hks]
      have e2 : ws.length = ks.length := rz.length.symm.trans l2
      exact call_G (us := [] ++ []) (run_G (us := pm.map fun j => ws.getD j .none) (vs := seatV [] zs pm) F hr hq tk I2 (vals_seat rz pm) (fun hl => .of_eq (hb.2 [] ws rfl e2)) q2)⟩) hpl) hdb)⟩
end
end Ey

end
section
set_option Elab.async false
set_option linter.all false
set_option maxRecDepth 100000
set_option maxHeartbeats 2000000
/-! Ex1: errors of own classes over Exception with one field (the block of skel/42 turned to another base and to any of two fields). -/
namespace Ey.Er
open PySem PySem.W PySem.Calls PyProof.Rows PySem.HandSPX
open Builtin.ObjectAttr
abbrev tailE : List Value := [.type "Exception", .type "BaseException", .type "object"]
def iA (fld : Str) (p1 p2 : Pos) : Arguments := { posonlyargs := [], args := [{ arg := "self", annotation := none, pos := p1 }, { arg := fld, annotation := none, pos := p2 }], vararg := none, kwonlyargs := [], kw_defaults := [], kwarg := none, defaults := [] }
def iB (fld : Str) (q1 q2 q3 q4 : Pos) : List Stmt := [.Assign [.Attribute (.Name "self" q1) fld q2] (.Name fld q3) q4]
def iS (fld : Str) : Scope := { kind := .function, names := [(PySem.Str.ofString "self", .local), (fld, .local)], isGenerator := false, isCoroutine := false, more := [] }
/-- what the written part says of the class x, at C, and of its __init__, at fI -/
structure ErrTxt (K : Frag) (mg : Str → Option Value) (x fld : Str) (C fI : Addr) : Prop where
  fl : fld = "thing" ∨ fld = "line"
  gC : mg x = some (.ref C)
  cls : excInitIn K C tailE "Exception.__new__" = true
  ov : excOver K C tailE = true
  sa : findIn K (.ref C) "__setattr__" = some (some (.builtin "object.__setattr__"))
  ga : findIn K (.ref C) "__getattribute__" = some (some (.builtin "BaseException.__getattribute__"))
  gg : findIn K (.ref C) "__getattr__" = some none
  noN : findIn K (.ref C) fld = some none
  iC : findIn K (.ref C) "__init__" = some (some (.ref fI))
  tC : typeIn K (.ref fI) = some (.type "function")
  kC : keepIn K (.ref C) = true
  exC : subIn K (.ref C) (.type "BaseException") = some true
  tyC : typeIn K (.ref C) = some (.type "type")
  hdC : hasDictIn K C = true
  fn : ∃ (qual : Str) (oc : Value) (od : Option Addr) (doc pm : Value) (an : Option Addr) (cdv ct : Value) (osl : Array (Option Value)) (p1 p2 q1 q2 q3 q4 : Pos),
    K.lookup fI = some ⟨oc, od, .func (fnOf "__init__" qual (iA fld p1 p2) (iB fld q1 q2 q3 q4) (iS fld) .none .none doc pm an cdv ct), osl⟩ ∧ codeIn K cdv qual = true
theorem sz1 (v : Value) : [v].length ≤ sizeLine := by
  rw [sizeLine_eq]
  show 1 ≤ _
  decide
theorem ldN {M : Model} {s : Shared} {name : Str} {scope : Scope} {L a : Addr} {cd : Value} {m : Str → Option Value} {x : Str} {pos : Pos} {v : Value} {Q : Value → Shared → Prop} {A : Around} {E : Value → Shared → Prop} (hn : s.heap.Ns L m) (hv : m x = some v) (h : Q v s)
    (hk : scope.kind = .function) (hl : (envOfC name scope L a cd).kindOf x = some .local) (hd : (x == ("__debug__" : Str)) = false) :
    wpAny M A (eval (.Name x pos) (envOfC name scope L a cd)) Q E s := wpAny_Name (wpAny_loadName_local hk hl hn hv h) hd
/-- what __init__ leaves of a fresh exception at x -/
structure InitEnd (h h' : Heap) (fld : Str) (x C dx t1 : Addr) (v : Value) : Prop where
  keep : ∀ b o, b ≠ x → h.get? b = some o → h'.get? b = some o
  obj : h'.get? x = some { cls := .ref C, dict := some dx, data := .fields #[.ref t1, .none, .none, .none, .bool false, .none] }
  dbig : h.objs.size ≤ dx
  dne : dx ≠ x
  ns : h'.Ns1 dx (fun y => if y = fld then some v else none)
/-- a made error -/
structure OwnMade (h h' : Heap) (fld : Str) (e C d : Addr) (v : Value) : Prop where
  keep : ∀ b o, h.get? b = some o → h'.get? b = some o
  new : h.objs.size ≤ e
  obj : ∃ oe vs, h'.get? e = some oe ∧ oe.cls = .ref C ∧ oe.dict = some d ∧ oe.data = .fields vs ∧ vs[1]? = some .none
  dbig : h.objs.size ≤ d
  dne : d ≠ e
  ns : h'.Ns1 d (fun y => if y = fld then some v else none)
section
variable {prog : Program} {w : World} {A : Around} {E : Value → Shared → Prop} {R : Result → Shared → Prop} {s : Shared} {K : Frag} {mg : Str → Option Value} {C fI : Addr} {cx fld : Str}
/-- the store of the one field -/
theorem put_first {x t0 : Addr} {tk : Tok} {v : Value} (T : ErrTxt K mg cx fld C fI) (X : K.In s.heap) (hx : s.heap.get? x = some (excO C t0))
    (hq : ∀ h' tk' dx, InitEnd s.heap h' fld x C dx t0 v → R (.ok (.ret .none)) { s with heap := h', toks := tk' }) :
    codeAny (model prog w) A (.call (.builtin "object.__setattr__") ⟨[.ref x, .str fld tk, v], []⟩) R s := by
  have tk0 : takerIn K C fld = some none := by unfold takerIn; rw [T.noN]; rfl
  have hxs : x ≠ s.heap.objs.size := Nat.ne_of_lt (Heap.lt_size hx)
  refine osa_openX (od := none) PySem.F.store_Exception X ⟨hx, rfl, rfl, trivial⟩ T.ov tk0 fun b => ?_
  obtain ⟨cd, hcd, hdict⟩ := any_some T.hdC
  refine wpAny_bind (wpAny_pure (wpAny_bind (instanceDict_exc hx (looks_clsIn X hcd) hdict ?_)))
  obtain ⟨hp, g, dr, t, os⟩ := s
  show wpAny _ _ (storeInDict hp.objs.size (.str fld tk) fld v) _ _ _
  have hd0 : ((hp.push (dictOf [] 0)).update x fun o => { o with dict := some hp.objs.size }).get? hp.objs.size = some (dictOf [] 0) := (Heap.get?_update_ne _ _ _ _ hxs.symm).trans (Heap.get?_push_at rfl rfl)
  refine store_in_new ⟨_, #[], _, hd0, rfl, fun e he => absurd he (by simp), fun _ => rfl⟩ fun h' tk' hn' hs => ?_
  refine hq h' tk' hp.objs.size ⟨fun c o hc ho => ?_, ?_, Nat.le_refl _, hxs.symm, hn'⟩
  · exact (hs.2 c (Nat.ne_of_lt (Heap.lt_size ho))).trans ((Heap.get?_update_ne _ _ _ _ hc).trans (Heap.get?_push_of_some _ ho))
  · exact (hs.2 x hxs).trans (Heap.get?_update_self _ (Heap.get?_push_of_some _ hx) rfl)
theorem init_run (T : ErrTxt K mg cx fld C fI) {x t0 : Addr} {v : Value} (X : K.In s.heap) (hlim : s.heap.NoLimit) (hx : s.heap.get? x = some (excO C t0)) (hroom : A.depth < recursionLimit)
    (hq : ∀ h' tk dx, InitEnd s.heap h' fld x C dx t0 v → R (.ok (.ret .none)) { s with heap := h', toks := tk }) :
    codeAny (model prog w) A (.call (.ref fI) ⟨[.ref x, v], []⟩) R s := by
  obtain ⟨qual, oc, od, doc, pm, an, cdv, ct, osl, p1, p2, q1, q2, q3, q4, ho, hcd⟩ := T.fn
  have bd : ∀ s1 : Shared, BindsTo s1 (fnOf "__init__" qual (iA fld p1 p2) (iB fld q1 q2 q3 q4) (iS fld) .none .none doc pm an cdv ct) ⟨[.ref x, v], []⟩ [("self", .ref x), (fld, v)] := fun s1 => by
    rcases T.fl with z | z <;> subst z <;> exact BindsTo.of_eq (by first | rfl | with_unfolding_all rfl)
  refine Att.call_fn (binds := [("self", .ref x), (fld, v)]) X hlim ho hcd hroom (bd _) (by rcases T.fl with z | z <;> subst z <;> first | rfl | decide | with_unfolding_all rfl) (fun s₁ IC => ?_) rfl rfl rfl
  obtain ⟨h₁, tk₁, rfl⟩ := IC.toInCall.same
  have hn := IC.toInCall.ns
  have old : ∀ b o, s.heap.get? b = some o → h₁.get? b = some o := IC.toInCall.keep
  have X₁ : K.In h₁ := X.keeps old
  have hx₁ := old _ _ hx
  have e1 : (fld == ("__debug__" : Str)) = false := by rcases T.fl with z | z <;> subst z <;> decide
  show wpAny _ _ (execs _ _) _ _ _
  refine wpAny_execs_cons (plainObj_wpAny_Assign_Attribute ?_)
  refine ldN (v := v) hn (by rcases T.fl with z | z <;> subst z <;> first | rfl | with_unfolding_all rfl | kernel_rfl) ?_ rfl (by rcases T.fl with z | z <;> subst z <;> rfl) e1
  refine ldN (v := .ref x) hn (by rcases T.fl with z | z <;> subst z <;> first | rfl | with_unfolding_all rfl | kernel_rfl) ?_ rfl (by rcases T.fl with z | z <;> subst z <;> rfl) (by decide)
  refine set_plain X₁ (ox := excO C t0) (od := none) ⟨hx₁, rfl, rfl, trivial⟩ T.sa ?_
  refine put_first (t0 := t0) T X₁ hx₁ fun h₃ tk₃ dx Z => ?_
  show wpAny _ _ (execs _ _) _ _ _
  have big : s.heap.objs.size ≤ h₁.objs.size := Nat.le_of_lt hn.lt
  exact wpAny_execs_nil (hq h₃ tk₃ dx ⟨fun b o hb e => Z.keep b o hb (old b o e), Z.obj, Nat.le_trans big Z.dbig, Z.dne, Z.ns⟩)
theorem made (T : ErrTxt K mg cx fld C fI) {v : Value} (X : K.In s.heap) (hlim : s.heap.NoLimit) (hroom : A.depth + 1 < recursionLimit)
    (hq : ∀ h' tk e d, OwnMade s.heap h' fld e C d v → R (.ok (.ret (.ref e))) { s with heap := h', toks := tk }) :
    codeAny (model prog w) A (.call (.ref C) ⟨[v], []⟩) R s := by
  obtain ⟨nm, N, q, bs, bm, hdct, sn, sub, ab, col, dd, k0, k1, k2, k3, k5, hC, hT⟩ := excInit_of X T.cls
  obtain ⟨hp, g, dr, tk, os⟩ := s
  have two : ∀ b o, hp.get? b = some o → ((hp.push (kdv_tup [v])).push (excO C hp.objs.size)).get? b = some o := fun b o e => Heap.get?_push_of_some _ (Heap.get?_push_of_some _ e)
  have got : ((hp.push (kdv_tup [v])).push (excO C hp.objs.size)).get? (hp.objs.size + 1) = some (excO C hp.objs.size) := by heap_get
  refine call_own F.excBase_Exception hT hC (looks_findIn X T.iC) (fun self => bind_fn X self T.tC) (sz1 v) ?_
  refine init_run (s := ⟨(hp.push (kdv_tup [v])).push (excO C hp.objs.size), g, dr, tk, os⟩) T (X.keeps two) (hlim.keeps two) got ?_ fun h' tk' dx Z => ?_
  · show A.depth + 1 < recursionLimit
    exact hroom
  · have z : hp.objs.size + 1 + 1 ≤ dx := by
      first
        | (simpa only [Heap.size_push] using Z.dbig)
        | exact Z.dbig
        | (have q := Z.dbig; rw [Heap.size_push, Heap.size_push] at q; exact q)
    refine ⟨rfl, hq h' tk' (hp.objs.size + 1) dx ⟨fun b o e => Z.keep b o (Nat.ne_of_lt (Nat.lt_succ_of_lt (Heap.lt_size e))) (two b o e), Nat.le_succ _, ⟨_, _, Z.obj, rfl, rfl, rfl, rfl⟩, Nat.le_trans (by omega : hp.objs.size ≤ hp.objs.size + 1 + 1) z, Z.dne, Z.ns⟩⟩
end
end Ey.Er

end
section
set_option Elab.async false
set_option linter.all false
set_option maxRecDepth 100000
set_option maxHeartbeats 2000000
/-! Ex2: raise X(e), e.field, isinstance(e, Y) in the hand layer. -/
namespace Ey.Er
open PySem PySem.Spec PyProof.Rows L2
theorem rel_one {v : V} {v' : Value} (r : RelV v v') (fld f : Str) : RelO (List.lookup f [(fld, v)]) (if f = fld then some v' else none) := by
  by_cases hw : f = fld
  · subst hw
    rw [if_pos rfl, show List.lookup f [(f, v)] = some v by simp [List.lookup]]
    exact r
  · rw [if_neg hw]
    have qw : (f == fld) = false := by simpa using hw
    rw [show List.lookup f [(fld, v)] = none by simp [List.lookup, qw]]
    trivial
section
variable {X : Cx} {C fI : Addr} {cx fld : Str}
/-- X(e) -/
def tMk (C : Addr) (fld : Str) (te : TE) : L2.St → Hp → XK → Prop := fun σ H Q => te σ H fun x H1 => ∃ v, [x] = [v] ∧ ∀ d, H1 d = none → Q (.ref C) (some d) (upd H1 d (.xd [(fld, v)]))
theorem pmk_err {a : Expr} {te : TE} {p pos : Pos} {k : Nat} (T : ErrTxt X.K X.mg cx fld C fI) (hr : Room k X.A) (ha : PE X a te) (hg : Gl X cx) (hd : (cx == ("__debug__" : Str)) = false)
    (he : starEach (a :: []) X.env = (false, eval a X.env) :: starEach [] X.env) : PMk X (.Call (.Name cx p) [a] [] pos) (tMk C fld te) := by
  intro pins s σ H Q I h
  refine wpAny_Call_Name_kw (ld_glob I hg T.gC ?_ hd)
  have ta : PA X [a] (tCons te tNil) := pa_cons ha pa_nil he
  refine PySem.W.callWith_K (h₀ := X.base) I.ok.mod.kin T.kC (thn (ta.run pos pins s σ H (fun vs H1 => ∃ v, vs = [v] ∧ ∀ d, H1 d = none → Q (.ref C) (some d) (upd H1 d (.xd [(fld, v)]))) I ?_) fun us s1 hh => ?_) he rfl
  · exact h
  obtain ⟨vs, H1, I1, r1, v, ev, q1⟩ := hh
  subst ev
  refine ⟨I1.kIn, ?_⟩
  cases r1 with
  | cons rv rn =>
    rename_i v' us'
    cases rn
    show wpAny _ _ (call (.ref C) [v']) _ _ _
    have hlim := I1.nolimit
    obtain ⟨hp, g, dr, tk, os⟩ := s1
    refine wpAny_call (made T I1.kIn hlim (by have := hr.dp; omega) fun h' tk' e d M => ?_)
    show MkP X pins σ Q (.ref e) ⟨h', g, dr, tk', os⟩
    obtain ⟨oe, fv, hoe, hc, hdd, hdat, h1⟩ := M.obj
    have hns := M.ns
    obtain ⟨G', g1, g2⟩ := restrict h' fun b => decide (b ≠ e)
    have gk : ∀ b, b ≠ e → G'.get? b = h'.get? b := fun b hb => g1 b (decide_eq_true hb)
    have ge : G'.get? e = none := g2 e (by simp)
    have was : ∀ b o, hp.get? b = some o → G'.get? b = some o := fun b o q => (gk b (Nat.ne_of_lt (Nat.lt_of_lt_of_le (Heap.lt_size q) M.new))).trans (M.keep b o q)
    have ob : ObjOk X.prog X.w (upd H1 d (.xd [(fld, v)])) G' d (.xd [(fld, v)]) := ⟨_, hns.at (fun o q => (gk d M.dne).trans q), fun f => rel_one rv fld f⟩
    have J : Inv X pins σ (upd H1 d (.xd [(fld, v)])) ⟨G', g, dr, tk', os⟩ := I1.laid (t' := tk') was M.dbig ob
    refine ⟨e, oe, fv, ⟨G', g, dr, tk', os⟩, _, .ref C, some d, rfl, J, fun b o q => ?_, ge, hoe, ⟨hc, hdd⟩, hdat, h1, ?_, rfl, I1.bare, raises_own T.exC T.tyC, q1 d (I1.hok.fresh M.dbig)⟩
    · by_cases hb : b = e
      · have q' : G'.get? b = some o := q
        rw [hb, ge] at q'; cases q'
      · exact (gk b hb).symm.trans q
    · rw [upd_ne (Ne.symm M.dne)]
      exact I1.hok.fresh M.new
/-- raise X(e) -/
theorem ps_err {a : Expr} {te : TE} {W : WX} {p pos pos2 : Pos} {k : Nat} (hc : X.calm = true) (T : ErrTxt X.K X.mg cx fld C fI) (hr : Room k X.A) (tk : Takes X W) (ha : PE X a te) (hg : Gl X cx) (hd : (cx == ("__debug__" : Str)) = false)
    (he : starEach (a :: []) X.env = (false, eval a X.env) :: starEach [] X.env) : PS X (.Raise (some (.Call (.Name cx p) [a] [] pos)) none pos2) (fun _ σ H => tMk C fld te σ H fun cls d H' => W cls d σ H') := ps_raise hc tk (pmk_err T hr ha hg hd he)
/-- e.field, e the exception that the suite holds (at a; its class cls, its dict d) -/
def tFld (fld : Str) (a : Addr) (d : Option Addr) (te : TE) : TE := fun σ H Q => te σ H fun x H1 => x = .ref a ∧ ∃ (dd : Addr) (v : V), d = some dd ∧ H1 dd = some (.xd [(fld, v)]) ∧ Q v H1
theorem pe_fld {a : Addr} {oe : Obj} {d : Option Addr} {pn : List (Addr × Obj)} {e : Expr} {te : TE} {pos : Pos} (T : ErrTxt X.K X.mg cx fld C fI) (hz : Zc (.ref C) d oe) (hf : ∃ vs, oe.data = .fields vs) (he : PE (X.suite a ((a, oe) :: pn)) e te)
    (hb : attributeBase e fld X.env (eval e X.env) = eval e X.env) : PE (X.suite a ((a, oe) :: pn)) (.Attribute e fld pos) (tFld fld a d te) := by
  refine ⟨fun pins s σ H Q I h => ?_⟩
  refine attr_of hb (thn (he.run pins s σ H _ I h) fun u s1 hh => ?_)
  obtain ⟨x, H1, I1, rx, ex, dd, v, ed, ea, q⟩ := hh
  subst ex
  obtain rfl : u = Value.ref a := rx
  subst ed
  obtain ⟨ha, _⟩ := I1.pin (a, oe) (List.mem_append_left _ List.mem_cons_self)
  obtain ⟨vs, hd⟩ := hf
  have hx : ObjOk X.prog X.w H1 s1.heap dd (.xd [(fld, v)]) := I1.hok dd _ ea
  obtain ⟨mA, hns, hr⟩ := hx
  obtain ⟨od, ho, hl⟩ := lookIn_ns hns
  have l : List.lookup fld [(fld, v)] = some v := by simp [List.lookup]
  obtain ⟨u, hu, ru⟩ := RelO.some_of (v := v) (o := mA fld) (by rw [← l]; exact hr fld)
  have J : PySem.W.InstAt s1.heap a oe C (some od) := ⟨ha, hz.1, by unfold PySem.W.notCls; rw [hd] <;> rfl, by rw [hz.2]; exact ho⟩
  exact HandSPX.exc_get I1.kIn J T.ga T.gg T.exC (PySem.W.findObj_own T.hdC T.noN rfl (by rw [hl, hu])) (handed_of ru) ⟨v, H1, I1.tok _, ru, q⟩
/-- what isinstance wants of the class of e -/
structure IsTxt (K : PySem.W.Frag) (C : Addr) : Prop where
  ha : PySem.W.findIn K (.ref C) "__class__" = some (some (.builtin "object.__class__"))
  hn : PySem.W.specialIn K (.builtin "object.__class__") "__get__" = some (some (.builtin "getset_descriptor.__get__"))
  ht : PySem.W.takesIn K (.builtin "object.__class__") = some true
  hm : PySem.W.mroIn K C (.type "object") = some true
/-- isinstance(e, c) -/
def rIsX (K : PySem.W.Frag) (C a : Addr) (d : Option Addr) : List V → Hp → VK → Prop := fun xs H Q => ∃ (B dd : Addr) (v : V) (b : Bool), xs = [.ref a, .ref B] ∧ d = some dd ∧ (∃ f, H dd = some (.xd [(f, v)])) ∧ PySem.W.kitOne K (.ref C) (.ref B) = some b ∧ Q (.bl b) H
theorem call_isX {a : Addr} {oe : Obj} {d : Option Addr} {pn : List (Addr × Obj)} (T : ErrTxt X.K X.mg cx fld C fI) (U : IsTxt X.K C) (hz : Zc (.ref C) d oe) (hf : ∃ vs, oe.data = .fields vs) :
    CallR (X.suite a ((a, oe) :: pn)) (.builtin "isinstance") (rIsX X.K C a d) := by
  intro pins s σ H xs us Q I r h
  obtain ⟨B, dd, v, b, rfl, ed, ⟨f, ea⟩, e, q⟩ := h
  subst ed
  cases r with
  | cons rx rr =>
    cases rr with
    | cons rt rr =>
      cases rr
      cases rx
      cases rt
      obtain ⟨ha, _⟩ := I.pin (a, oe) (List.mem_append_left _ List.mem_cons_self)
      obtain ⟨vs, hd⟩ := hf
      obtain ⟨mA, hns, hr⟩ := (show ObjOk X.prog X.w H s.heap dd (.xd [(f, v)]) from I.hok dd _ ea)
      obtain ⟨od, ho, hl⟩ := lookIn_ns hns
      have J : PySem.W.InstAt s.heap a oe C (some od) := ⟨ha, hz.1, by unfold PySem.W.notCls; rw [hd] <;> rfl, by rw [hz.2]; exact ho⟩
      have cl : (PySem.W.clsIn X.K C).isSome = true := by
        obtain ⟨cd, hcd, _⟩ := PySem.W.any_some T.hdC
        rw [hcd]; rfl
      exact PySem.W.kia_one (PySem.W.kitx_exc cl T.ga T.gg T.exC U.ha U.hn U.ht U.hm) I.kIn J e (fun z => nomatch z) fun tk => ⟨.bl b, H, I.kept (t' := tk) fun _ _ z => z, rfl, q⟩
end
end Ey.Er

end
section
set_option Elab.async false
set_option linter.all false
set_option maxRecDepth 100000
set_option maxHeartbeats 2000000
/-! Ex3: try: body, except X as n: return .., several clauses. -/
namespace Ey.Er
open PySem PySem.Spec PyProof.Rows L2
abbrev Suite := Addr → Value → Option Addr → TS
/-- a suite that always returns -/
abbrev onlyRet (D : Ends) : Ends := { nx := fun _ _ => False, rt := D.rt, bk := fun _ _ => False, ct := fun _ _ => False }
/-- what the clauses, with names in slots, wish of an error of the body -/
def wAll (K : PySem.W.Frag) (m : Nat) (Wout : WX) (D : Ends) : List (Value × Nat × Suite) → WX
  | [] => Wout
  | (c, i, ts) :: rest => fun cls d σ H => ∃ b, PySem.W.exmOne K cls c = some b ∧ (b = true → ∀ a, H a = none → σ.length = m → ts a cls d (onlyRet D) (σ.set i (some (.ref a))) H) ∧ (b = false → wAll K m Wout D rest cls d σ H)
inductive Hds (X : Cx) : List ExceptHandler → List (Value × Nat × Suite) → Prop
  | nil : Hds X [] []
  | cons {x n : Str} {c : Value} {i : Nat} {ts : Suite} {st : Stmt} {np hp : Pos} {hs : List ExceptHandler} {l : List (Value × Nat × Suite)} (nm : Names X x c) (hi : X.N[i]? = some n) (hl : X.env.kindOf n = some .local)
      (su : ∀ (a : Addr) (oe : Obj) (cls : Value) (d : Option Addr) (pn : List (Addr × Obj)), Zc cls d oe → (∃ vs, oe.data = .fields vs) → PSs (X.suite a ((a, oe) :: pn)) [st] (ts a cls d)) (more : Hds X hs l) :
      Hds X (.ExceptHandler (some (.Name x np)) (some n) [st] hp :: hs) ((c, i, ts) :: l)
section
variable {X : Cx} {body : List Stmt} {hd : ExceptHandler} {hds : List ExceptHandler} {l : List (Value × Nat × Suite)} {pos : Pos} {tb : WX → TS} {Wout : WX}
theorem ps_tryA (es : X.stack = X.env :: X.outer) (ef : X.env.frame = some X.env.locals) (nd : X.N.Nodup) (tk : Takes X Wout)
    (hb : ∀ (W : WX) (pn : List (Addr × Obj)) (xe : Value → Shared → Prop), Takes (X.tr pn xe) W → PassesOwn (model X.prog X.w) X.A X.env xe → PSs (X.tr pn xe) body (tb W))
    (hh : Hds X (hd :: hds) l) : PS X (.Try body (hd :: hds) [] [] pos) (fun D σ H => tb (wAll X.K X.N.length Wout D l) D σ H) := by
  refine ⟨fun pins s σ H D I h => ?_⟩
  have k0 := I.ok
  have frm : X.A.frames = some (X.env :: X.outer) := k0.frames.trans (congrArg some es)
  refine wpAny_Try_except ?_
  have run := (hb (wAll X.K X.N.length Wout D l) (X.pn ++ pins) (fun e s1 => wpAny (model X.prog X.w) X.A (noteFrame e X.env) (fun _ s2 => wpAny (model X.prog X.w) X.A (setFlight e none)
    (fun _ s3 => wpAny (model X.prog X.w) X.A (handleBy e X.env (hd :: hds)) (SP X pins D) X.xe s3) X.xe s2) X.xe s1) (fun u s' caught => ?_) PassesOwn.looking).run [] s σ H D (I.toTry _) h
  · refine wpAny_mono run (fun f s1 q => ?_) (fun _ _ z => z)
    cases f with
    | ret u => obtain ⟨v, σ1, H1, J, r, w⟩ := q; exact ⟨v, σ1, H1, J.ofTry k0, r, w⟩
    | next => obtain ⟨σ1, H1, J, w⟩ := q; exact wpAny_execs_nil ⟨σ1, H1, J.ofTry k0, w⟩
    | brk => obtain ⟨σ1, H1, J, w⟩ := q; exact ⟨σ1, H1, J.ofTry k0, w⟩
    | cont => obtain ⟨σ1, H1, J, w⟩ := q; exact ⟨σ1, H1, J.ofTry k0, w⟩
  · obtain ⟨a, B, s0, pins0, σ0, H0, cls, dd, rfl, J0, nb, up, sky, na, os, ag, want⟩ := caught
    have J : Inv X pins σ0 H0 s0 := J0.ofTry k0
    show wpAny (model X.prog X.w) X.A (noteFrame (.ref a) X.env) _ _ _
    refine Sky.land Zc.steady frm ef (show Sky B (X.env :: X.outer) a (Zc cls dd) X.env.locals s'.heap from es ▸ sky) fun h3 fl up3 => ?_
    have J3 : Inv X pins σ0 H0 { s' with heap := h3 } := J.landed nb fl.1 (up.trans up3) os ag
    obtain ⟨o3, v3, g3, z3, d3⟩ := fl.there
    have off : a ∉ frs (X.env :: X.outer) := fun hm => by
      obtain ⟨_, o', g', nf⟩ := fl.2.2.1.mem hm
      rw [g3] at g'; cases g'
      exact nf _ d3
    have offL : a ≠ X.env.locals := fun z => off (List.mem_filterMap.mpr ⟨X.env, List.mem_cons_self, ef.trans (congrArg some z.symm)⟩)
    have offF : a ∉ X.fs := fun hm => by
      obtain ⟨e, he, q⟩ := List.mem_filterMap.mp hm
      exact off (List.mem_filterMap.mpr ⟨e, List.mem_cons_of_mem _ he, q⟩)
    have S3 := J3.suite g3 d3 na offL offF
    have walk : ∀ {hs : List ExceptHandler} {l' : List (Value × Nat × Suite)}, Hds X hs l' → wAll X.K X.N.length Wout D l' cls dd σ0 H0 → wpAny (model X.prog X.w) X.A (handleBy (.ref a) X.env hs) (SP X pins D) X.xe { s' with heap := h3 } := by
      intro hs l' hk
      induction hk with
      | nil =>
        intro want
        refine wpAny_handleBy_nil ?_
        obtain ⟨_, _, _, oe, vs, T, oT, ts', ge, _, de, e1, _⟩ := id fl
        unfold PySem.passOn
        refine wpAny_bind (wpAny_field ge de e1 ?_)
        rw [if_neg (by simp : ¬ ((Value.ref T == Value.none) = true))]
        have fin : wpAny (model X.prog X.w) X.A (setFlight (.ref a) X.env.frame) (fun _ s4 => wpAny (model X.prog X.w) X.A (throw (.ref a) : Sem Flow) (SP X pins D) X.xe s4) X.xe { s' with heap := h3 } := by
          rw [ef]
          exact HandSPX.setFlight_upZ fl fun h4 held up4 => wpAny_throw (tk _ _ ⟨a, B, s0, pins, σ0, H0, cls, dd, rfl, J, nb, (up.trans up3).trans up4, .inr (.inr (es ▸ held)), na, os, ag, want⟩)
        first
          | exact wpAny_bind (wpAny_pure (wpAny_bind fin))
          | exact wpAny_bind fin
      | @cons x n c i ts st np hp hs2 l2 nm hi hl su more ih =>
        intro want
        obtain ⟨b, eb, yes, no⟩ := want
        refine wpAny_handleBy_cons (codeAny_handlers_test ?_) (by intro q; cases q)
        have LT : PySem.W.Looks (model X.prog X.w) h3 (typeOf (.ref a)) cls := fun _ _ _ _ k q => wpAny_typeOf_ref (k _ _ g3) (z3.1.symm ▸ q)
        have LM := PySem.W.exm_one (M := model X.prog X.w) (J3.kIn) LT eb
        have named : ∀ {Q E : Value → Shared → Prop}, Q c { s' with heap := h3 } → wpAny (model X.prog X.w) (X.A.mark (some (.ref a))) (eval (.Name x np) X.env) Q E { s' with heap := h3 } := fun {Q E} q => by
          obtain ⟨hg, hdb, hm | ⟨hm, hv, hnn⟩⟩ := nm
          · exact ld_glob (X := X.suite a ((a, o3) :: (X.pn ++ pins))) S3 hg hm q hdb
          · exact ld_blt (X := X.suite a ((a, o3) :: (X.pn ++ pins))) S3 hg hm hv q hnn hdb
        refine named (LM.here ?_)
        cases b with
        | false =>
          show wpAny _ X.A (handleBy (.ref a) X.env hs2) _ _ _
          exact ih (no rfl)
        | true =>
          refine codeAny_handlers_suite_as (HandSPX.lands_againZ fl fun h4 fl4 up4 => ?_)
          have J4 : Inv X pins σ0 H0 { s' with heap := h4 } := J.landed nb fl4.1 ((up.trans up3).trans up4) os ag
          obtain ⟨o4, v4, g4, z4, d4⟩ := fl4.there
          refine store_ok (X := X.suite a ((a, o4) :: (X.pn ++ pins))) (v := .ref a) (J4.suite g4 d4 na offL offF) nd hi (.inl hl) rfl (fun s5 S5 => ?_) (.inr hl)
          refine wpAny_mono ((su a o4 cls dd (X.pn ++ pins) z4 ⟨_, d4⟩).run [] s5 _ H0 _ S5 (yes rfl a na J.len)) (fun f s6 q => ?_) (fun _ _ z => z.elim)
          cases f with
          | ret u =>
            obtain ⟨v6, σ6, H6, S6, r6, q6⟩ := q
            exact gone_ok (S6.unsuite k0) nd hi hl fun s7 J7 => ⟨_, _, _, J7, r6, q6⟩
          | next => obtain ⟨_, _, _, z⟩ := q; exact z.elim
          | brk => obtain ⟨_, _, _, z⟩ := q; exact z.elim
          | cont => obtain ⟨_, _, _, z⟩ := q; exact z.elim
    exact walk hh want
end
end Ey.Er

end
section
set_option Elab.async false
set_option linter.all false
set_option maxRecDepth 100000
set_option maxHeartbeats 3200000
/-! Ex4: len(set(xs)), xs a list of texts, or of tuples of ints. -/
namespace Ey.St
open PySem PySem.Spec PyProof.Rows L2
theorem few_of {α : Type} [DecidableEq α] : ∀ {l m : List α}, l.Nodup → (∀ x ∈ l, x ∈ m) → l.length ≤ m.length
  | [], _, _, _ => Nat.zero_le _
  | x :: l, m, h, k => by
    obtain ⟨h1, h2⟩ := List.nodup_cons.mp h
    have hx : x ∈ m := k x (List.mem_cons_self ..)
    have q := few_of (m := m.erase x) h2 fun y hy => (List.mem_erase_of_ne (fun (e : y = x) => h1 (by rw [← e]; exact hy))).mpr (k y (List.mem_cons_of_mem _ hy))
    have e := List.length_erase_of_mem hx
    have p := List.length_pos_of_mem hx
    simp only [List.length_cons]
    omega
/-- so many are in the set behind the first i of xs -/
def Upto (xs : List Str) (i n : Nat) : Prop := ∃ L : List Str, L.Nodup ∧ (∀ y, y ∈ L ↔ y ∈ xs.take i) ∧ n = L.length
theorem Upto.zero (xs : List Str) : Upto xs 0 0 := ⟨[], List.nodup_nil, fun y => by simp, rfl⟩
theorem Upto.next {xs : List Str} {i n : Nat} {x : Str} (u : Upto xs i n) (h : xs[i]? = some x) : Upto xs (i + 1) (if decide (x ∈ xs.take i) then n else n + 1) := by
  obtain ⟨L, h1, h2, rfl⟩ := u
  have e : xs.take (i + 1) = xs.take i ++ [x] := by rw [List.take_add_one, h]; rfl
  by_cases hm : x ∈ xs.take i
  · refine ⟨L, h1, fun y => ?_, by rw [if_pos (decide_eq_true hm)]⟩
    rw [e, h2]
    simp only [List.mem_append, List.mem_singleton]
    exact ⟨.inl, fun q => q.elim id fun q => q ▸ hm⟩
  · refine ⟨x :: L, List.nodup_cons.mpr ⟨fun q => hm ((h2 x).mp q), h1⟩, fun y => ?_, by rw [if_neg (by simpa using hm)]; rfl⟩
    rw [e, List.mem_cons, h2]
    simp only [List.mem_append, List.mem_singleton]
    exact ⟨fun q => q.elim .inr .inl, fun q => q.elim .inr .inl⟩
theorem Upto.le {xs : List Str} {i n : Nat} (u : Upto xs i n) : n ≤ i := by
  obtain ⟨L, h1, h2, rfl⟩ := u
  have h : L.length ≤ (xs.take i).length := few_of h1 fun y hy => (h2 y).mp hy
  rw [List.length_take] at h
  omega
theorem texts_at : ∀ {vs : List Value} {xs : List Str}, StrsAre vs xs → ∀ (i : Nat) (v : Value), vs[i]? = some v → ∃ x t, xs[i]? = some x ∧ v = .str x t
  | _, _, .nil, i, v, h => by simp at h
  | _, _, .cons x t r, 0, v, h => by simp at h; exact ⟨x, t, rfl, h.symm⟩
  | _, _, .cons x t r, i + 1, v, h => by
    simp only [List.getElem?_cons_succ] at h ⊢
    exact texts_at r i v h

section
variable {P : Program} {w : World} {A : Around} {R : Result → Shared → Prop} {I : Addr} {fp wr : List Addr} {G : Array GenState → Array GenState → Prop} {n : Nat} {Pv : Nat → Value → Prop} {Z : Nat → Shared → Prop}
/-- the set at a holds the first i texts -/
def Has (P : Program) (w : World) (a : Addr) (xs : List Str) (i : Nat) (h : Heap) : Prop := ∃ c, Upto xs i c ∧ h.SetOf (PySem.strKind P w) a (fun k => decide (k ∈ xs.take i)) c
theorem Has.to {a : Addr} {xs : List Str} {i : Nat} {h h' : Heap} (x : Has P w a xs i h) (k : ∀ o, h.get? a = some o → h'.get? a = some o) : Has P w a xs i h' := by
  obtain ⟨c, u, o, es, ep, t, ho, r⟩ := x
  exact ⟨c, u, o, es, ep, t, k o ho, r⟩
theorem walk_texts (W : WalksS P w A.in1 I fp wr G n Pv Z) (a : Addr) (ha : a ∉ fp) (xs : List Str) (hn : xs.length = n) (hb : n + 1 < scanBound) (hv : ∀ i v, Pv i v → ∃ x t, xs[i]? = some x ∧ v = .str x t) :
    ∀ (k i : Nat) (s : Shared), n - i = k → i ≤ n → Z i s → Has P w a xs i s.heap →
      (∀ s', Moved (a :: wr) G s s' → Has P w a xs n s'.heap → R (.ok (.ret .none)) s') →
      codeAny (model P w) A (.builtin "set.update.loop" ⟨[.ref a, .ref I], []⟩) R s := by
  have ha' : a ∉ wr := fun h => ha (W.sub _ h)
  have hsub : ∀ b ∈ wr, b ∈ a :: wr := fun b hb => List.mem_cons_of_mem _ hb
  intro k
  induction k with
  | zero =>
    intro i s hk hi hz hs hR
    obtain rfl : i = n := by omega
    refine codeAny_builtin F.entry_set_update_loop ?_
    rw [Around.under_plainId F.plain_set_update_loop _]
    show wpAny _ A.in1 (pyNext (.ref I) >>= _) _ _ s
    refine wpAny_bind (W.done s _ _ hz fun s' hm => ?_)
    show wpAny _ A.in1 (ret Value.none) _ _ s'
    exact wpAny_pure (hR s' (hm.mono hsub) (hs.to fun o e => hm.heap a o ha' e))
  | succ k ih =>
    intro i s hk hi hz hs hR
    have hlt : i < n := by omega
    refine codeAny_builtin F.entry_set_update_loop ?_
    rw [Around.under_plainId F.plain_set_update_loop _]
    show wpAny _ A.in1 (pyNext (.ref I) >>= _) _ _ s
    refine wpAny_bind (W.item i s _ _ hlt hz fun v s' hP hz' hm => ?_)
    obtain ⟨x, t, hx, rfl⟩ := hv i v hP
    obtain ⟨c, u, hS⟩ := hs.to fun o e => hm.heap a o ha' e
    show wpAny _ A.in1 (holding [Value.str x t] (setAdd a (.str x t)) >>= _) _ _ s'
    refine wpAny_bind (wpAny_holding ?_)
    unfold setAdd
    refine wpAny_holding ?_
    refine wpAny_bind ((PySem.strKind P w).pyHash (k := x) (strKind_is _ _ _ _) ?_)
    refine wpAny_setAddHashed_of (knd := PySem.strKind P w) (s := { s' with toks := s'.toks + 1 }) (strKind_is _ _ _ _) rfl hS (by have := u.le; omega) fun h' hsb hS2 => ?_
    have hH : Has P w a xs (i + 1) h' := by
      refine ⟨_, u.next hx, SetOf_congr hS2 (fun y => ?_) rfl⟩
      have e : xs.take (i + 1) = xs.take i ++ [x] := by rw [List.take_add_one, hx]; rfl
      rw [e]
      simp [List.mem_append]
    refine wpAny_pure ⟨plainId_quiet F.plain_set_update_loop _, ih (i + 1) _ (by omega) hlt (W.frame _ s' _ _ hz' (Nat.le_succ _) fun b hb o e => ?_) hH fun s'' hm'' hH'' => ?_⟩
    · rw [hsb.2 b (fun h : b = a => ha (by rw [← h]; exact hb))]; exact e
    · refine hR s'' (Moved.trans W.gtrans ((hm.mono hsub).then_heap (Nat.le_succ _) fun b o hb e => ?_) hm'') hH''
      rw [hsb.2 b (fun h : b = a => hb (by rw [h]; exact List.mem_cons_self))]; exact e
end

section
variable {P : Program} {w : World} {A : Around} {E : Value → Shared → Prop} {s : Shared}
/-- a set that was just made -/
abbrev newSet (led : Bool) : Obj := { cls := .type "set", dict := none, data := .set #[] 0 (.fresh 0 0 led) }
theorem init_texts {l : Addr} {items : Array Value} {xs : List Str} {led : Bool} {R : Result → Shared → Prop}
    (hh : A.handled = none) (hl : s.heap.IsList l items) (hi : StrsAre items.toList xs) (hb : items.size + 1 < scanBound)
    (h : ∀ h' tk, Has P w s.heap.objs.size xs xs.length h' → (∀ b o, s.heap.get? b = some o → h'.get? b = some o) → R (.ok (.ret .none)) { s with heap := h', toks := tk }) :
    codeAny (model P w) A.in1 (.builtin "set.update.loop" ⟨[.ref s.heap.objs.size, .ref (s.heap.push (newSet led)).objs.size], []⟩) R
      { s with heap := (s.heap.push (newSet led)).push { cls := .type "list_iterator", data := .fields #[.ref l, .int 0 0] } } := by
  have ll : l < s.heap.objs.size := by
    obtain ⟨o, ho, _⟩ := hl
    exact Heap.lt_size ho
  have hl1 : (s.heap.push (newSet led)).IsList l items := hl.push _
  have ne1 : l ≠ (s.heap.push (newSet led)).objs.size := by
    rw [Heap.size_push]
    exact Nat.ne_of_lt (Nat.lt_succ_of_lt ll)
  have nf : s.heap.objs.size ∉ [(s.heap.push (newSet led)).objs.size, l] := by
    rw [Heap.size_push]
    simp only [List.mem_cons, List.not_mem_nil, or_false, not_or]
    exact ⟨Nat.ne_of_lt (Nat.lt_succ_self _), Nat.ne_of_gt ll⟩
  have hn : xs.length = items.size := by rw [← StrsAre.len_eq hi, Array.length_toList]
  have hS : (s.heap.push (newSet led)).get? s.heap.objs.size = some (newSet led) := Heap.get?_push_size _ rfl
  refine walk_texts ((Walks.list (by simp [hh]) _ l ne1 items).toS) s.heap.objs.size nf xs hn hb (fun i v hv => texts_at hi i v (by rw [Array.getElem?_toList]; exact hv)) (items.size - 0) 0 _ (by omega) (Nat.zero_le _)
    ⟨⟨_, Heap.get?_push_size _ rfl, rfl, rfl⟩, hl1.push _⟩ ⟨0, Upto.zero xs, ?_⟩ fun s' hm hs => ?_
  · exact SetOf_congr ((setObjOf_fresh (knd := PySem.strKind P w) led).setOf (Heap.get?_push_of_some _ hS) (by unfold scanBound; omega)) (fun k => by simp) rfl
  · obtain ⟨h', g', d', tk', os'⟩ := s'
    have eg : g' = s.gens := hm.gens
    have ed : d' = s.drawn := hm.drawn
    have eo : os' = s.os := hm.os
    subst eg ed eo
    rw [← hn] at hs
    refine h h' tk' hs fun b o e => ?_
    have lt := Heap.lt_size e
    refine hm.heap b o ?_ (Heap.get?_push_of_some _ (Heap.get?_push_of_some _ e))
    rw [Heap.size_push]
    simp only [List.mem_cons, List.not_mem_nil, or_false, not_or]
    exact ⟨Nat.ne_of_lt lt, Nat.ne_of_lt (Nat.lt_succ_of_lt lt)⟩
theorem call_texts {l : Addr} {items : Array Value} {xs : List Str} {Q : Value → Shared → Prop} (hh : A.handled = none) (hl : s.heap.IsList l items) (hi : StrsAre items.toList xs) (hb : items.size + 1 < scanBound)
    (h : ∀ h' tk, Has P w s.heap.objs.size xs xs.length h' → (∀ b o, s.heap.get? b = some o → h'.get? b = some o) → Q (.ref s.heap.objs.size) { s with heap := h', toks := tk }) :
    wpAny (model P w) A (call (.type "set") [.ref l]) Q E s := by
  have cs := PySem.F.called_set
  obtain ⟨c, tl, hmro⟩ := cs.mro
  have m1 := cs.made
  have m2 := cs.sub
  have m3 := cs.notType
  have m4 := cs.canCreate
  have m5 := PySem.F.typeCall_set_1 (.ref l)
  refine wpAny_call (codeAny_of_tree ?_)
  show wpAny _ _ (callAny (.type "set") _) _ _ _
  refine wpAny_pure ⟨Code.quiet_builtin _ (by decide +kernel), codeAny_builtin PySem.F.entry_type_call ?_⟩
  rw [Around.under_plain (weight_type_call_type "set" [.ref l] []) rfl]
  repeat (any_goals (first | assumption | wp_step))
  refine codeAny_mono (code_set_new_1 (.ref l) (E := E) (Q₁ := fun v z => ∃ led : Bool, v = .ref s.heap.objs.size ∧ z = { s with heap := s.heap.push (newSet led) }) fun led => ⟨led, rfl, rfl⟩) fun r z hr => ?_
  match r, hr with
  | .error e, hr => exact hr
  | .ok (.ret v), hr =>
    obtain ⟨led, rfl, rfl⟩ := hr
    have g1 : (s.heap.push (newSet led)).get? s.heap.objs.size = some (newSet led) := Heap.get?_push_size _ rfl
    have g2 : Shared.TypeIs { s with heap := s.heap.push (newSet led) } (.ref s.heap.objs.size) "set" := ⟨_, g1, rfl⟩
    have g3 := cs.init.lookup
    have g4 := cs.init.bind (.ref s.heap.objs.size)
    repeat (any_goals (first | assumption | wp_step))
    refine codeAny_mono (codeAny_call_builtin (R := wants (fun r z => r = .none ∧ ∃ h' tk, z = { s with heap := h', toks := tk } ∧ Has P w s.heap.objs.size xs xs.length h' ∧ (∀ b o, s.heap.get? b = some o → h'.get? b = some o)) E)
      cs.init.plain PySem.F.entry_set_init (check_set_init_1 g2 ?_)) fun r z hr => ?_
    · have hl1 : (s.heap.push (newSet led)).IsList l items := hl.push _
      have hl2 := hl1
      obtain ⟨⟨oc, od, oa, os⟩, ho, e1, k, e2⟩ := hl1
      simp only at e1 e2
      subst e1 e2
      have n1 := PySem.F.sub_list_set
      have n2 := PySem.F.sub_list_frozenset
      have n3 : (Value.type "list" == Value.type "dict") = false := by decide
      unfold Builtin.«set.__init__» noKeywords Builtin.Frozenset.updateFrom
      generalize hI : pyIter = It
      wp_walk
      subst hI
      refine wpAny_pyIter_list hl2 ?_
      refine wpAny_bind (wpAny_runValue ?_)
      refine init_texts (by simp [hh]) hl hi hb fun h' tk hs hk => ?_
      show wpAny _ _ _ _ _ _
      refine wpAny_pure ?_
      show wpAny _ _ (ret Value.none) _ _ _
      exact wpAny_pure ⟨rfl, h', tk, rfl, hs, hk⟩
    · match r, hr with
      | .error e, hr => exact hr
      | .ok (.ret v), hr =>
        obtain ⟨rfl, h', tk, rfl, hs, hk⟩ := hr
        repeat (any_goals (first | assumption | wp_step))
        exact h _ _ hs hk
end

section
variable {X : Cx}
/-- what len(set(xs)) answers: one number for any row of the same members -/
def tLens (K : PySem.W.Frag) (ta : TE) : TE := fun σ H Q => ta σ H fun x H1 => ∃ l, x = V.ref l ∧
  ((∃ xs : List Str, SqL K H1 l (xs.map V.str) ∧ xs.length < 1000 ∧ ∀ L : List Str, L.Nodup → (∀ y, y ∈ L ↔ y ∈ xs) → Q (.int L.length) H1) ∨
   ∃ ks : List (Addr × List Int), SqL K H1 l (ks.map fun p => V.ref p.1) ∧ (∀ p ∈ ks, SqT K H1 p.1 (p.2.map V.int)) ∧ ks.length < 64 ∧ ∀ L : List (List Int), L.Nodup → (∀ y, y ∈ L ↔ y ∈ ks.map (·.2)) → Q (.int L.length) H1)
theorem len_set_of {pins : List (Addr × Obj)} {σ : L2.St} {H : Hp} {s : Shared} {h' : Heap} {tk n : Nat} {a : Addr} {pos : Pos} {Q : VK} {o : Obj} {es : Array (Int × Value)} {ep : Nat} {t : SetTable} (I : Inv X pins σ H s) (hk : ∀ b o, s.heap.get? b = some o → h'.get? b = some o)
    (ho : h'.get? a = some o) (hex : o.ExactSet) (hd : o.data = .set es ep t) (hf : t.fits es.size = true) (hn : es.size = n) (hb : n < 1000) (q : Q (.int n) H) :
    wpAny (model X.prog X.w) X.A (spliced (backTo pos (starEach [] X.env))) (fun vs s₂ => wpAny (model X.prog X.w) X.A (call (.builtin "len") (Value.ref a :: vs)) (EP X pins σ Q) X.xe s₂) X.xe { s with heap := h', toks := tk } := by
  have I2 : Inv X pins σ H { s with heap := h', toks := tk } := I.kept fun b o e => hk b o e
  refine PyProof.Rows.args_nil ?_
  exact call_len_set ho hex hd hf (by omega) ⟨.int n, H, I2.tok _, ⟨_, by rw [hn]⟩, q⟩
theorem pe_lens {a : Expr} {ta : TE} {p p2 q pos : Pos} (hc : X.calm = true) (hu : X.A.units + 64 < cLine) (hg : Gl X "len") (hm : X.mg "len" = none) (hg2 : Gl X "set") (hm2 : X.mg "set" = none) (ha : PE X a ta)
    (na : starEach [a] X.env = (false, eval a X.env) :: starEach [] X.env) : PE X (.Call (.Name "len" p) [.Call (.Name "set" p2) [a] [] q] [] pos) (tLens X.K ta) := by
  refine ⟨fun pins s σ H Q I h => ?_⟩
  refine Call_ (ld_blt I hg hm PySem.boot_len ?_)
  refine PyProof.Rows.callWith_builtin1 (PyProof.Rows.args_cons ?_ rfl) rfl rfl
  refine Call_ (ld_blt I hg2 hm2 PyProof.Rows.boot_set ?_)
  refine PyProof.Rows.callWith_type1 (PyProof.Rows.args_cons (thn (ha.run pins s σ H _ I h) fun v s1 ⟨x, H1, I1, r1, q1⟩ => PyProof.Rows.args_nil ?_) na) na rfl
  obtain ⟨l, rfl, q1⟩ := q1
  cases r1
  rcases q1 with ⟨xs, hq, hb, q1⟩ | ⟨ks, hq, hk, hb, q1⟩
  · obtain ⟨its, r, pl, hz⟩ := I1.list hq
    have hl : its.toArray.size = xs.length := by rw [List.size_toArray, ← r.length, List.length_map]
    refine call_texts (I1.ok.hd hc) pl.isList (by simpa using strsAre_of r) (by rw [hl]; unfold scanBound; omega) fun h' tk hs hk => ?_
    obtain ⟨c, ⟨L, l1, l2, rfl⟩, o, es, ep, t, ho, hex, hd, _, _, _, hf, hn⟩ := hs
    rw [List.take_length] at l2
    have lb := few_of l1 fun y hy => (l2 y).mp hy
    exact len_set_of I1 hk ho hex hd hf hn (by omega) (q1 L l1 l2)
  · obtain ⟨its, r, pl, hz⟩ := I1.list hq
    refine call_set_tups (P := X.prog) (w := X.w) ks (I1.ok.hd hc) pl.isList (by simpa using refs_of_vals r) (fun p hp => I1.isT (hk p hp)) hb (by omega) fun h' tk L es ep t R g hk => ?_
    obtain ⟨o, ho, hex, hd⟩ := R.ob
    have hf := SetTR.fits (s := { s1 with heap := h' }) R
    have hn := SetTR.size (s := { s1 with heap := h' }) R
    have lb := R.few
    refine len_set_of I1 hk ho hex hd hf (n := (L.map (·.2)).length) (by rw [hn, List.length_map]) (by rw [List.length_map]; omega) (q1 (L.map (·.2)) R.nd fun y => ⟨fun hy => ?_, fun hy => ?_⟩)
    · obtain ⟨p, hp, rfl⟩ := List.mem_map.mp hy
      exact List.mem_map_of_mem (List.mem_of_mem_take (g.sub p hp))
    · obtain ⟨p, hp, rfl⟩ := List.mem_map.mp hy
      exact g.all p (by rw [List.take_length]; exact hp)
end
end Ey.St

end
section
set_option Elab.async false
set_option linter.all false
set_option maxRecDepth 100000
set_option maxHeartbeats 1000000
/-! Ex5: enumerate(t), t a tuple. -/
namespace Ey.En
open PySem PySem.Spec PyProof.Rows L2
open AutoSeq1 (wpAny_loadPart')
/-- what the call leaves behind: t's iterator, the walk over it -/
abbrev tIt (l : Addr) : Obj := { cls := .type "tuple_iterator", data := .fields #[.ref l, .int 0 0] }
abbrev eIt (a : Addr) : Obj := { cls := .type "enumerate", data := .fields #[.none, .bool false, .ref a, rawInt 0, .none, .none] }
theorem new_tup (l : Addr) (items : Array Value) (n : Nat) (dct : Option Addr) (sl : Array (Option Value)) :
    Meets (Builtin.«enumerate.__new__» ⟨[.type "enumerate", .ref l], []⟩) (fun _ R s => s.heap.get? l = some { cls := .type "tuple", dict := dct, data := .seq items n, slots := sl } ∧
      R (.ok (.ret (.ref (s.heap.push (tIt l)).objs.size))) { s with heap := (s.heap.push (tIt l)).push (eIt s.heap.objs.size) }) :=
  .of_wp fun prog w A R s h => by
    obtain ⟨hp, g, d, tk, os⟩ := s
    obtain ⟨hl, h⟩ := h
    have sb := sub_enumerate
    have ht : Heap.IsTuple (Shared.heap ⟨hp, g, d, tk, os⟩) l items := ⟨_, hl, rfl, n, rfl⟩
    wp_walk using wpAny_loadPart' hl
    refine wpAny_stack_any fun st => wpAny_pure ?_
    split
    · rename_i c _ _ _ _ _
      cases (c == Value.type "enumerate") <;>
      · wp_walk using wpAny_loadPart' hl, wpAny_pyIter_tuple ht
        exact ⟨_, rfl, h⟩
    · wp_walk using wpAny_loadPart' hl, wpAny_pyIter_tuple ht
      exact ⟨_, rfl, h⟩
theorem draws {P : Program} {w : World} {A : Around} (hh : A.handled = none) (it l : Addr) (hne : l ≠ it) (items : Array Value) :
    Draws P w A it [it, l] items.size (fun i v => items[i]? = some v) (fun i h => h.IsTupleIter it l i ∧ h.IsTuple l items) where
  live := fun _ _ st => let ⟨o, ho, _⟩ := st.1; ⟨o, ho⟩
  frame := fun _ _ _ st hk => by
    obtain ⟨s1, o, ho, r⟩ := st
    exact ⟨s1.at fun o e => hk it (by simp) o e, o, hk l (by simp) o ho, r⟩
  item := fun i s Q E hi st hQ => by
    refine RZ.nextOf_tuple_item st.1 st.2 (x := items[i]) (by simp [hi]) fun h' hit' hs' => ?_
    obtain ⟨o, ho, r⟩ := st.2
    exact hQ _ h' s.toks (by simp [hi]) ⟨hit', o, (hs'.2 l hne).trans ho, r⟩ hs'
  done := fun s Q E st hE => RZ.nextOf_tuple_end hh st.1 st.2 (by simp) hE
theorem drawsE {P : Program} {w : World} {A : Around} (hh : A.handled = none) (it l : Addr) (hne : l ≠ it) (items : Array Value) (n : Nat) (hn : items.size ≤ n) :
    Draws P w A it [it, l] n (fun _ _ => False) (fun i h => i = n ∧ h.IsTupleIter it l i ∧ h.IsTuple l items) where
  live := fun _ _ st => let ⟨o, ho, _⟩ := st.2.1; ⟨o, ho⟩
  frame := fun _ _ _ st hk => by
    obtain ⟨e, s1, o, ho, r⟩ := st
    exact ⟨e, s1.at fun o e => hk it (by simp) o e, o, hk l (by simp) o ho, r⟩
  item := fun i s Q E hi st hQ => absurd st.1 (Nat.ne_of_lt hi)
  done := fun s Q E st hE => RZ.nextOf_tuple_end hh st.2.1 st.2.2 (Array.getElem?_eq_none hn) hE
section
variable {P : Program} {w : World} {A : Around} {E : Value → Shared → Prop} {s : Shared}
theorem call_tup {l : Addr} {items : Array Value} {Q : Value → Shared → Prop} (hL : s.heap.IsTuple l items)
    (h : ∀ h', IsEnum h' (s.heap.objs.size + 1) s.heap.objs.size 0 .none → h'.IsTupleIter s.heap.objs.size l 0 → (∀ b o, s.heap.get? b = some o → h'.get? b = some o) → Q (.ref (s.heap.objs.size + 1)) { s with heap := h' }) :
    wpAny (model P w) A (call (.type "enumerate") [.ref l]) Q E s := by
  obtain ⟨⟨c, dct, dt, sl⟩, hl, hc, n, hd⟩ := hL
  simp only at hc hd
  subst hc hd
  refine callType_new F.called_enumerate (by decide) (F.typeCall_enumerate_1 _) (F.newCall_enumerate_1 _) (fun obj => F.args_object_init_2 obj _) F.entry_enumerate_new (new_tup l items n dct sl) ⟨hl, ?_⟩
  have hz : (s.heap.push (tIt l)).objs.size = s.heap.objs.size + 1 := Heap.size_push ..
  show _ ∧ _
  rw [hz]
  have he : IsEnum ((s.heap.push (tIt l)).push (eIt s.heap.objs.size)) (s.heap.objs.size + 1) s.heap.objs.size 0 .none := by
    have q := Heap.get?_push_size (s.heap.push (tIt l)) (o := eIt s.heap.objs.size) rfl
    rw [hz] at q
    exact q
  exact ⟨⟨_, he, rfl⟩, h _ he ⟨_, Heap.get?_push_of_some _ (Heap.get?_push_size _ rfl), rfl, rfl⟩ fun b o x => Heap.get?_push_of_some _ (Heap.get?_push_of_some _ x)⟩
end
/-- the tuple at a, its items in new pairs -/
def IteT (K : PySem.W.Frag) (a : Addr) : It :=
  ⟨fun i H => ∃ (xs : List V) (x : V), SqT K H a xs ∧ xs[i]? = some x, fun i H v H' => ∃ T x, v = .ref T ∧ H T = none ∧ H' = upd H T (.tup [.int (i : Nat), x]) ∧ ∀ xs, SqT K H a xs → xs[i]? = some x, fun i H => ∃ xs : List V, SqT K H a xs ∧ xs.length ≤ i⟩
theorem apart {X : Cx} {pins : List (Addr × Obj)} {σ : L2.St} {H : Hp} {s : Shared} {a it : Addr} {i : Nat} {xs : List V} (I : Inv X pins σ H s) (h : SqT X.K H a xs) (st : s.heap.IsTupleIter it a i) : a ≠ it := by
  obtain ⟨its, rv, p, _⟩ := I.tuple h
  rintro rfl
  obtain ⟨o, ho, hc, _⟩ := st
  obtain ⟨o', ho', hc', _⟩ := p
  rw [ho] at ho'
  cases ho'
  rw [hc] at hc'
  exact absurd hc' (by decide)
theorem turn {P : Program} {w : World} {K : PySem.W.Frag} {elts : List Expr} {kk : Nat} {tpos : Pos} (a e it : Addr) :
    Turn P w K (.Tuple elts kk tpos) (IteT K a) [e, it] e (fun i h => (∃ old, IsEnum h e it ((i : Nat) : Int) old) ∧ h.IsTupleIter it a i ∧ e ≠ it ∧ e ≠ a) where
  mem := by simp
  obj := fun i h st b hb => by
    obtain ⟨⟨old, he⟩, ⟨o, ho, hc, hd⟩, _⟩ := st
    have e' : b = e ∨ b = it := by simpa using hb
    rcases e' with z | z
    · rw [z]; exact ⟨_, he, fun v q => nomatch q⟩
    · rw [z]; exact ⟨o, ho, fun v q => by rw [hd] at q; cases q⟩
  keep := fun i h h' st k => let ⟨⟨old, he⟩, hi, hne⟩ := st; ⟨⟨old, k e (by simp) _ he⟩, hi.at fun o q => k it (by simp) o q, hne⟩
  item := by
    intro X hP hw hK hc i pins s σ H E I hf st hg
    subst hP hw hK
    obtain ⟨⟨old, he⟩, hit, hne, hna⟩ := st
    obtain ⟨xs, x, hq, hx⟩ := hg
    have hai := apart I hq hit
    obtain ⟨its, rv, p, hz⟩ := I.tuple hq
    obtain ⟨u, hu, ru⟩ := rv.get hx
    have hel : e < s.heap.objs.size := Heap.lt_size he
    have hil : it < s.heap.objs.size := by obtain ⟨_, q, _⟩ := hit; exact Heap.lt_size q
    have hi : i < its.toArray.size := by
      have q : its.toArray[i]? = some u := by simpa using hu
      exact (Array.getElem?_eq_some_iff.mp q).1
    refine wpAny_pyNext_enum_itemD (draws (by simp [I.ok.hd hc]) it a hai its.toArray) he ⟨hit, p⟩ hi hne (by simp [hne, hna]) fun y h' tk hy ho hit' hT hsz hk => ?_
    obtain rfl : y = u := by
      have q : its.toArray[i]? = some u := by simpa using hu
      rw [q] at hy
      exact (Option.some.inj hy).symm
    refine ⟨_, rfl, wpAny_letOwnedTupleGo_enum (s := { s with heap := h', toks := tk + 1 }) ho fun h'' he' sb => ?_⟩
    have hT2 : h''.get? s.heap.objs.size = some { cls := .type "tuple", data := .seq #[.int i tk, y] } := (sb.2 _ (Nat.ne_of_gt hel)).trans hT
    have new : ObjOk X.prog X.w (upd H s.heap.objs.size (.tup [.int (i : Nat), x])) h'' s.heap.objs.size (.tup [.int (i : Nat), x]) :=
      ⟨by show 2 ≤ sizeLine; decide, [.int i tk, y], .cons ⟨_, rfl⟩ (.cons ru .nil), ⟨_, hT2, rfl, _, rfl⟩⟩
    have I1 : Inv X pins σ (upd H s.heap.objs.size (.tup [.int (i : Nat), x])) { s with heap := h'', toks := tk + 1 } :=
      I.turnedNew (ch := [e, it]) (fun b ob hb q => (sb.2 b (fun z => hb (by simp [z]))).trans (hk b ob (fun z => hb (by simp [z])) (fun z => hb (by simp [z])) q)) hf (Nat.le_refl _) new
    refine ⟨.ref s.heap.objs.size, _, I1, rfl, ⟨_, x, rfl, I.hok.fresh (Nat.le_refl _), rfl, fun ys hy => by rw [I.tuple_inj hy hq]; exact hx⟩, ⟨⟨y, ?_⟩, hit'.1.at fun o q => (sb.2 it (Ne.symm hne)).trans q, hne, hna⟩, fun b hb => ?_⟩
    · have e1 : ((i + 1 : Nat) : Int) = (i : Int) + 1 := by omega
      rw [e1]; exact he'
    · have hb' : b < s.heap.objs.size := by
        have e' : b = e ∨ b = it := by simpa using hb
        rcases e' with z | z
        · rw [z]; exact hel
        · rw [z]; exact hil
      rw [upd_ne (Nat.ne_of_lt hb')]
      exact (hf b hb).1
  done := by
    intro X hP hw hK hc i pins s σ H E I hf st hg
    subst hP hw hK
    obtain ⟨⟨old, he⟩, hit, hne, hna⟩ := st
    obtain ⟨xs, hq, hx⟩ := hg
    have hai := apart I hq hit
    obtain ⟨its, rv, p, hz⟩ := I.tuple hq
    obtain ⟨f0, f1, f2, f3, f4, f5⟩ := hf it (by simp)
    have hl := rv.length
    exact wpAny_pyNext_enum_endD (drawsE (by simp [I.ok.hd hc]) it a hai its.toArray i (by simp; omega)) he ⟨rfl, hit, p⟩ fun h' eb => ⟨rfl, I.turned (t' := s.toks) (fun b o hb q => eb b o hb q) f0 f1 f3 f4 f5⟩
  self := fun A i s Q E st h => let ⟨⟨_, he⟩, _⟩ := st; wpAny_pyIter_enum he h
def iEnumT (K : PySem.W.Frag) (ta : TA) : TI := fun σ H R => ta σ H fun vs H1 => ∃ a xs, vs = [.ref a] ∧ ((SqL K H1 a xs ∧ R (Ite K a) H1) ∨ (SqT K H1 a xs ∧ R (IteT K a) H1))
theorem pi_enumT {X : Cx} {e : Expr} {ta : TA} {p pos tpos : Pos} {elts : List Expr} {kk : Nat} (hg : Gl X "enumerate") (hm : X.mg "enumerate" = none) (ha : PA X [e] ta) (hs : starEach [e] X.env = [(false, eval e X.env)] := by rfl) :
    PI X (.Tuple elts kk tpos) (.Call (.Name "enumerate" p) [e] [] pos) (iEnumT X.K ta) := by
  refine ⟨fun pins s σ H R I h => ?_⟩
  refine Call_ (ld_blt I hg hm boot_enumerate (callWith_type1 (thn (ha.run pos pins s σ H _ I h) fun us s1 ⟨vs, H1, I1, r1, q1⟩ => ?_) hs rfl))
  obtain ⟨a, xs, rfl, q1⟩ := q1
  cases r1 with
  | cons r rr =>
    cases rr
    cases r
    have fp : ∀ h' : Heap, (∀ b o, s1.heap.get? b = some o → h'.get? b = some o) → ∀ b ∈ [s1.heap.objs.size + 1, s1.heap.objs.size], s1.heap.objs.size ≤ b := fun h' _ b hb => by
      have e' : b = s1.heap.objs.size + 1 ∨ b = s1.heap.objs.size := by simpa using hb
      rcases e' with z | z
      · rw [z]; exact Nat.le_add_right _ _
      · rw [z]; exact Nat.le_refl _
    rcases q1 with ⟨hq, q⟩ | ⟨hq, q⟩
    · obtain ⟨its, rv, p', hz⟩ := I1.list hq
      refine call_enumerate_list p'.isList fun h' he hit hsz hk => wpAny_pyIter_enum he ?_
      have I2 : Inv X pins σ H1 { s1 with heap := h' } := I1.kept (t' := s1.toks) hk
      exact ⟨s1.heap.objs.size + 1, [s1.heap.objs.size + 1, s1.heap.objs.size], _, _, H1, rfl, I2, turn_enum a (s1.heap.objs.size + 1) s1.heap.objs.size, ⟨⟨.none, he⟩, hit, Nat.succ_ne_self _⟩, fun b hb => I1.fpOk (fp h' hk b hb) (I1.hok.fresh (fp h' hk b hb)), q⟩
    · obtain ⟨its, rv, p', hz⟩ := I1.tuple hq
      have la : a < s1.heap.objs.size := by obtain ⟨_, q, _⟩ := p'; exact Heap.lt_size q
      refine call_tup p' fun h' he hit hk => wpAny_pyIter_enum he ?_
      have I2 : Inv X pins σ H1 { s1 with heap := h' } := I1.kept (t' := s1.toks) hk
      exact ⟨s1.heap.objs.size + 1, [s1.heap.objs.size + 1, s1.heap.objs.size], _, _, H1, rfl, I2, turn a (s1.heap.objs.size + 1) s1.heap.objs.size, ⟨⟨.none, he⟩, hit, Nat.succ_ne_self _, fun z => Nat.lt_irrefl _ (Nat.lt_trans (Nat.lt_succ_self _) (by rw [← z] at la; exact la))⟩, fun b hb => I1.fpOk (fp h' hk b hb) (I1.hok.fresh (fp h' hk b hb)), q⟩
end Ey.En

end
section
set_option Elab.async false
set_option linter.all false
set_option maxRecDepth 100000
set_option maxHeartbeats 1000000
/-! Ey6: core expressions and their texts. -/
namespace Ey
open PySem PySem.Spec PyProof.Rows L2
open Evl (Ex)

structure SC where
  prog : Program
  w : World
  K : PySem.W.Frag
  mg : Str → Option Value
  base : Heap
  Φ : Phi
  lv : Nat
  cf : Cfg
  N : List Str
  cal : Bool
/-- a def's promise by its core -/
def spF (K : PySem.W.Frag) (mg : Str → Option Value) (er : List Str) (Φ : Phi) (f : Str) (n : Nat) : Sp := fun vs H R W =>
  ∃ (δ : Option (Addr × Addr)) (G : Hp) (ds : List D) (Q : DP) (E : EPo), Wd δ G H ∧ RlAll K G δ vs ds ∧ ds.length = n ∧ Φ f ds Q E ∧ (∀ G' H' v d, Nx δ G H G' H' → Rl K G' δ v d → Q d → R v H') ∧
    ∀ G' H' x y cls dd, Nx δ G H G' H' → E x y → XRel K mg er G' δ x y cls dd H' → W cls dd H'
structure SOk (S : SC) : Prop where
  nd : S.N.Nodup
  bl : ∀ x ∈ S.cf.bl, S.mg x = none
  gcd : S.cf.gcd = true → S.mg "gcd" = some (.builtin "math.gcd")
  len : ∀ f ps ds Q E, S.cf.fn.lookup f = some ps → S.Φ f ds Q E → ds.length = ps.length
  fn : ∀ f ps, S.cf.fn.lookup f = some ps → ∃ a fd, S.mg f = some (.ref a) ∧ PySem.W.keepIn S.K (.ref a) = true ∧ Binds S.K fd ps [] ∧ FnG S.prog S.w S.K S.mg S.base S.lv a fd ps (spF S.K S.mg S.cf.er S.Φ f ps.length) ∧
    ∀ n ks pm, (f, n, ks, pm) ∈ S.cf.kw → KBd fd ps n ks pm
  er : ∀ x ∈ S.cf.er, ∃ C fI, Er.ErrTxt S.K S.mg x (fldOf x) C fI ∧ Er.IsTxt S.K C
  cn : ∀ p ∈ S.cf.cn, ∃ u, S.mg p.1 = some u ∧ L2.RelV (kV p.2) u
  eb : ∀ y ∈ S.cf.eb, ∃ B, S.mg y = some (.ref B) ∧ ∀ x ∈ S.cf.er, ∀ C, S.mg x = some (.ref C) → PySem.W.exmOne S.K (.ref C) (.ref B) = some (subE x y) ∧ PySem.W.kitOne S.K (.ref C) (.ref B) = some (subE x y)
/-- a module's constant -/
def CnAt (mg : Str → Option Value) (p : Str × Key) : Prop := ∃ u, mg p.1 = some u ∧ L2.RelV (kV p.2) u
structure Sx (S : SC) (sc : Scope) (X : Cx) : Prop where
  prog : X.prog = S.prog
  w : X.w = S.w
  K : X.K = S.K
  mg : X.mg = S.mg
  base : X.base = S.base
  N : X.N = S.N
  cal : S.cal = true → X.calm = true
  look : ∀ x k, sc.names.lookup x = some k → X.env.scope.names.lookup x = some k ∨ (k = .free ∧ X.env.scope.names.lookup x = some .cell)
  fn : ∀ x, sc.names.lookup x = some .cell → X.fn x = true
  gd : X.A.guards = some []
  rm : Room S.lv X.A
def ES (K : PySem.W.Frag) (G : Hp) (δ : Option (Addr × Addr)) (ρ : Env) (σ : L2.St) : Prop := ρ.length = σ.length ∧ RelS K G δ ρ σ
structure At (S : SC) (W : WX) (δ : Option (Addr × Addr)) (G H : Hp) (ρ : Env) (σ : L2.St) (E : EPo) : Prop where
  wd : Wd δ G H
  es : ES S.K G δ ρ σ
  xc : ∀ G' H' x y cls dd, Nx δ G H G' H' → E x y → XRel S.K S.mg S.cf.er G' δ x y cls dd H' → W cls dd σ H'
theorem At.next {S : SC} {W : WX} {δ : Option (Addr × Addr)} {G H G' H' : Hp} {ρ : Env} {σ : L2.St} {E : EPo} (a : At S W δ G H ρ σ E) (n : Nx δ G H G' H') : At S W δ G' H' ρ σ E :=
  ⟨n.wd, ⟨a.es.1, a.es.2.mono n.grow⟩, fun _ _ x y cls dd m => a.xc _ _ x y cls dd (n.trans m)⟩

def SemE (S : SC) (W : WX) (t : TE) (m : EPo → Env → DP → Prop) : Prop := ∀ δ G H ρ σ E Q R, At S W δ G H ρ σ E → m E ρ Q → (∀ G' H' v d, Nx δ G H G' H' → Rl S.K G' δ v d → Q d → R v H') → t σ H R
def SemT (S : SC) (W : WX) (t : TT) (m : EPo → Env → (Bool → Prop) → Prop) : Prop := ∀ δ G H ρ σ E Q R, At S W δ G H ρ σ E → m E ρ Q → (∀ G' H' c, Nx δ G H G' H' → Q c → R c H') → t σ H R
def SemA (S : SC) (W : WX) (t : TA) (n : Nat) (m : EPo → Env → (List D → Prop) → Prop) : Prop := ∀ δ G H ρ σ E Q R, At S W δ G H ρ σ E → m E ρ Q → (∀ G' H' vs ds, Nx δ G H G' H' → RlAll S.K G' δ vs ds → ds.length = n → Q ds → R vs H') → t σ H R
def SemO (S : SC) (W : WX) (t : TO) (m : EPo → Env → (Option Int → Prop) → Prop) : Prop := ∀ δ G H ρ σ E Q R, At S W δ G H ρ σ E → m E ρ Q → (∀ G' H' o, Nx δ G H G' H' → Q o → R o H') → t σ H R
/-- an iterator walks the items -/
def Wk (K : PySem.W.Frag) (δ : Option (Addr × Addr)) (G0 : Hp) (J : It) (items : List D) : Prop := ∀ G H i, Wd δ G H → Ex G0 G →
  (i < items.length → J.go i H ∧ ∀ x H', J.yld i H x H' → ∃ G' d, Nx δ G H G' H' ∧ items[i]? = some d ∧ Rl K G' δ x d) ∧ (items.length ≤ i → J.stop i H)
def SemI (S : SC) (W : WX) (t : TI) (m : EPo → Env → (List D → Prop) → Prop) : Prop := ∀ δ G H ρ σ E Q R, At S W δ G H ρ σ E → m E ρ Q → (∀ G' H' J items, Nx δ G H G' H' → Wk S.K δ G' J items → Q items → R J H') → t σ H R

def isBO : Expr → Bool
  | .BoolOp _ _ _ => true
  | _ => false
def JE (S : SC) (W : WX) (sc : Scope) (c : CE) (e : Expr) : Prop := ∃ t, (∀ X, Sx S sc X → Takes X W → PE X e t) ∧ SemE S W t (wpE S.Φ c)
def JT (S : SC) (W : WX) (sc : Scope) (c : CT) (e : Expr) : Prop := ∃ t, (∀ X, Sx S sc X → Takes X W → PT X e t ∧ (isBO e = true → PW X e t)) ∧ SemT S W t (wpT S.Φ c)
def lenC : CEs → Nat
  | .nil => 0
  | .cons _ r => lenC r + 1
def tAll : List TE → TA
  | [] => tNil
  | t :: r => tCons t (tAll r)
def PEs (X : Cx) : List Expr → List TE → Prop
  | [], [] => True
  | e :: es, t :: ts => isStar e = false ∧ PE X e t ∧ PEs X es ts
  | _, _ => False
def JA (S : SC) (W : WX) (sc : Scope) (c : CEs) (es : List Expr) : Prop := ∃ ts, ts.length = lenC c ∧ (∀ X, Sx S sc X → Takes X W → PEs X es ts) ∧ SemA S W (tAll ts) (lenC c) (wpEs S.Φ c)
def JO (S : SC) (W : WX) (sc : Scope) (c : CP) (e : Option Expr) : Prop := ∃ t, (∀ X, Sx S sc X → Takes X W → PO X e t) ∧ SemO S W t (wpP S.Φ c)
def JTs (S : SC) (W : WX) (sc : Scope) (c : CTo) (es : List Expr) : Prop := ∃ t, (∀ X, Sx S sc X → Takes X W → PTs X es t) ∧ SemT S W t (wpTo S.Φ c)
def JI (S : SC) (W : WX) (sc : Scope) (c : CI) (tg e : Expr) : Prop := ∃ t, (∀ X, Sx S sc X → Takes X W → PI X tg e t) ∧ SemI S W t (wpI S.Φ c)

section
variable {S : SC} {W : WX} {sc : Scope} {X : Cx}
theorem Sx.units (x : Sx S sc X) : X.A.units + 65 < cLine := by have := x.rm.un; omega
theorem Sx.gl (h : Sx S sc X) {x : Str} (g : glC sc x = true) : Gl X x ∧ (x == ("__debug__" : Str)) = false := by
  simp only [glC, Bool.and_eq_true, decide_eq_true_eq, Bool.not_eq_true'] at g
  refine ⟨?_, g.2⟩
  rcases h.look x _ g.1 with z | ⟨z, _⟩
  · exact z
  · cases z
theorem Sx.vis (h : Sx S sc X) {x : Str} (g : visC sc x = true) : Vis X.env.scope x := by
  unfold visC at g
  split at g
  case h_1 e => rcases h.look x _ e with z | ⟨z, _⟩ <;> first | exact .inl z | cases z
  case h_2 e => rcases h.look x _ e with z | ⟨z, _⟩ <;> first | exact .inr (.inl z) | cases z
  case h_3 e => rcases h.look x _ e with z | ⟨_, z⟩ <;> first | exact .inr (.inr z) | exact .inr (.inl z)
  case h_4 => cases g
theorem Sx.loc (h : Sx S sc X) {x : Str} {i : Nat} (g : locC S.N sc i x = true) : X.N[i]? = some x ∧ Loc X.env.scope x ∧ (X.fn x = true ∨ X.env.scope.names.lookup x = some .local) := by
  simp only [locC, Bool.and_eq_true, decide_eq_true_eq] at g
  obtain ⟨g1, g2⟩ := g
  refine ⟨by rw [h.N]; exact g1, ?_⟩
  split at g2
  case h_1 e => rcases h.look x _ e with z | ⟨z, _⟩ <;> first | exact ⟨.inl z, .inr z⟩ | cases z
  case h_2 e => rcases h.look x _ e with z | ⟨z, _⟩ <;> first | exact ⟨.inr z, .inl (h.fn x e)⟩ | cases z
  case h_3 => cases g2

theorem J.var {i : Nat} {x : Str} {p : Pos} (g : varC S.N sc i x = true) : JE S W sc (.var i) (.Name x p) := by
  simp only [varC, Bool.and_eq_true, decide_eq_true_eq, Bool.not_eq_true'] at g
  obtain ⟨⟨⟨g1, g2⟩, g3⟩, g4⟩ := g
  refine ⟨tVar i, fun X x _ => pe_var (by rw [x.N]; exact g1) (x.vis g2) g3 g4, ?_⟩
  intro δ G H ρ σ E Q R a h k
  obtain ⟨d, e, q⟩ := h
  obtain ⟨v, e2, r⟩ := a.es.2 i d e
  exact ⟨v, e2, k _ _ _ _ (Nx.refl a.wd) r q⟩
theorem J.cst {c : CE} {e : Expr} {v : V} {d : D} (hw : ∀ E ρ Q, wpE S.Φ c E ρ Q → Q d) (r : ∀ G δ, Rl S.K G δ v d) (hp : ∀ X, PE X e (tC v)) : JE S W sc c e :=
  ⟨tC v, fun X _ _ => hp X, fun δ G H ρ σ E Q R a h k => k _ _ _ _ (Nx.refl a.wd) (r _ _) (hw _ _ _ h)⟩
theorem J.bin {o : BO} {q : Operator} {a b : CE} {x y : Expr} {p : Pos} (h : opC o q = true) (ha : JE S W sc a x) (hb : JE S W sc b y) : JE S W sc (.bin o a b) (.BinOp x q y p) := by
  obtain ⟨ta, pa, sa⟩ := ha
  obtain ⟨tb, pb, sb⟩ := hb
  refine ⟨tOp (rBin S.K o) ta tb, fun X x tk => pe_op (by rw [← x.K]; exact op_bin h) (pa X x tk) (pb X x tk), ?_⟩
  intro δ G H ρ σ E Q R a h k
  refine sa δ G H ρ σ E _ _ a h fun G1 H1 v1 d1 n1 r1 q1 => sb δ G1 H1 ρ σ E _ _ (a.next n1) q1 fun G2 H2 v2 d2 n2 r2 q2 => ?_
  exact bin_ok o δ G2 H2 v1 v2 d1 d2 Q R n2.wd (r1.mono n2.grow) r2 q2 fun G3 H3 v d n3 r q => k _ _ _ _ (n1.trans (n2.trans n3)) r q
theorem J.neg {a : CE} {x : Expr} {p : Pos} (ha : JE S W sc a x) : JE S W sc (.neg a) (.UnaryOp .USub x p) := by
  obtain ⟨ta, pa, sa⟩ := ha
  refine ⟨tUn (rU fun i => .int (-i)) ta, fun X x tk => pe_un un_neg (pa X x tk), ?_⟩
  intro δ G H ρ σ E Q R a h k
  refine sa δ G H ρ σ E _ _ a h fun G1 H1 v1 d1 n1 r1 q1 => ?_
  obtain ⟨i, rfl, q⟩ := q1
  exact ⟨i, r1.of_int, k _ _ _ _ n1 (.int _) q⟩
theorem J.cmp {o : CO} {q : CmpOp} {a b : CE} {x y : Expr} {p : Pos} (h : cmpC o q = true) (hm : behindInMarks q y = false) (ha : JE S W sc a x) (hb : JE S W sc b y) : JE S W sc (.cmp o a b) (.Compare x [q] [y] p) := by
  obtain ⟨ta, pa, sa⟩ := ha
  obtain ⟨tb, pb, sb⟩ := hb
  refine ⟨tOp (rCmp S.K o) ta tb, fun X x tk => pe_cmpR (by rw [← x.K]; exact op_cmp x.units h) (pa X x tk) (pb X x tk) hm, ?_⟩
  intro δ G H ρ σ E Q R a h k
  refine sa δ G H ρ σ E _ _ a h fun G1 H1 v1 d1 n1 r1 q1 => sb δ G1 H1 ρ σ E _ _ (a.next n1) q1 fun G2 H2 v2 d2 n2 r2 q2 => ?_
  exact cmp_ok o δ G2 H2 v1 v2 d1 d2 _ R n2.wd (r1.mono n2.grow) r2 q2 fun c q => k _ _ _ _ (n1.trans n2) (.bl c) q
theorem JT.cmp {o : CO} {q : CmpOp} {a b : CE} {x y : Expr} {p : Pos} (h : cmpC o q = true) (hm : behindInMarks q y = false) (ha : JE S W sc a x) (hb : JE S W sc b y) : JT S W sc (.cmp o a b) (.Compare x [q] [y] p) := by
  obtain ⟨ta, pa, sa⟩ := ha
  obtain ⟨tb, pb, sb⟩ := hb
  refine ⟨tTest (tOp (rCmp S.K o) ta tb), fun X x tk => ⟨pt_cmpR (by rw [← x.K]; exact op_cmp x.units h) (pa X x tk) (pb X x tk) hm, fun z => by cases z⟩, ?_⟩
  intro δ G H ρ σ E Q R a h k
  refine sa δ G H ρ σ E _ _ a h fun G1 H1 v1 d1 n1 r1 q1 => sb δ G1 H1 ρ σ E _ _ (a.next n1) q1 fun G2 H2 v2 d2 n2 r2 q2 => ?_
  exact cmp_ok o δ G2 H2 v1 v2 d1 d2 Q _ n2.wd (r1.mono n2.grow) r2 q2 fun c q => ⟨c, rfl, k _ _ c (n1.trans n2) q⟩
theorem J.chn {o o' : CO} {q q' : CmpOp} {a b c : CE} {x y z : Expr} {p : Pos} (h : cmpC o q = true) (h' : cmpC o' q' = true) (hm : lastMarks [q, q'] [y, z] = false) (ha : JE S W sc a x) (hb : JE S W sc b y) (hc : JE S W sc c z) :
    JE S W sc (.chn o o' a b c) (.Compare x [q, q'] [y, z] p) := by
  obtain ⟨ta, pa, sa⟩ := ha
  obtain ⟨tb, pb, sb⟩ := hb
  obtain ⟨tc, pc, sc'⟩ := hc
  refine ⟨tChain (rCmp S.K o) (rCmp S.K o') ta tb tc, fun X x tk => pe_chain (by rw [← x.K]; exact op_cmp x.units h) (by rw [← x.K]; exact op_cmp x.units h') (pa X x tk) (pb X x tk) (pc X x tk) hm, ?_⟩
  intro δ G H ρ σ E Q R a h k
  refine sa δ G H ρ σ E _ _ a h fun G1 H1 v1 d1 n1 r1 q1 => sb δ G1 H1 ρ σ E _ _ (a.next n1) q1 fun G2 H2 v2 d2 n2 r2 q2 => ?_
  refine cmp_ok o δ G2 H2 v1 v2 d1 d2 _ _ n2.wd (r1.mono n2.grow) r2 q2 fun c q => ⟨c, rfl, ?_⟩
  cases c with
  | false => exact k _ _ _ _ (n1.trans n2) (.bl false) q
  | true =>
    refine sc' δ G2 H2 ρ σ E _ _ (a.next (n1.trans n2)) q fun G3 H3 v3 d3 n3 r3 q3 => ?_
    exact cmp_ok o' δ G3 H3 v2 v3 d2 d3 _ R n3.wd (r2.mono n3.grow) r3 q3 fun c q => k _ _ _ _ (n1.trans (n2.trans n3)) (.bl c) q
theorem JT.chn {o o' : CO} {q q' : CmpOp} {a b c : CE} {x y z : Expr} {p : Pos} (h : cmpC o q = true) (h' : cmpC o' q' = true) (hm : lastMarks [q, q'] [y, z] = false) (ha : JE S W sc a x) (hb : JE S W sc b y) (hc : JE S W sc c z) :
    JT S W sc (.chn o o' a b c) (.Compare x [q, q'] [y, z] p) := by
  obtain ⟨ta, pa, sa⟩ := ha
  obtain ⟨tb, pb, sb⟩ := hb
  obtain ⟨tc, pc, sc'⟩ := hc
  refine ⟨tTest (tChain (rCmp S.K o) (rCmp S.K o') ta tb tc), fun X x tk => ⟨pt_chain (by rw [← x.K]; exact op_cmp x.units h) (by rw [← x.K]; exact op_cmp x.units h') (pa X x tk) (pb X x tk) (pc X x tk) hm, fun z => by cases z⟩, ?_⟩
  intro δ G H ρ σ E Q R a h k
  refine sa δ G H ρ σ E _ _ a h fun G1 H1 v1 d1 n1 r1 q1 => sb δ G1 H1 ρ σ E _ _ (a.next n1) q1 fun G2 H2 v2 d2 n2 r2 q2 => ?_
  refine cmp_ok o δ G2 H2 v1 v2 d1 d2 _ _ n2.wd (r1.mono n2.grow) r2 q2 fun c q => ⟨c, rfl, ?_⟩
  cases c with
  | false => exact ⟨false, rfl, k _ _ _ (n1.trans n2) q⟩
  | true =>
    refine sc' δ G2 H2 ρ σ E _ _ (a.next (n1.trans n2)) q fun G3 H3 v3 d3 n3 r3 q3 => ?_
    exact cmp_ok o' δ G3 H3 v2 v3 d2 d3 _ _ n3.wd (r2.mono n3.grow) r3 q3 fun c q => ⟨c, rfl, k _ _ _ (n1.trans (n2.trans n3)) q⟩
theorem J.and {a b : CE} {x y : Expr} {r : List Expr} {p : Pos} (ha : JE S W sc a x) (hb : JE S W sc b (.BoolOp .And (y :: r) p)) : JE S W sc (.and a b) (.BoolOp .And (x :: y :: r) p) := by
  obtain ⟨ta, pa, sa⟩ := ha
  obtain ⟨tb, pb, sb⟩ := hb
  refine ⟨tAndV ta tb, fun X x tk => pe_and (pa X x tk) (pb X x tk), ?_⟩
  intro δ G H ρ σ E Q R a h k
  refine sa δ G H ρ σ E _ _ a h fun G1 H1 v1 d1 n1 r1 q1 => ?_
  obtain ⟨c, rfl, q⟩ := q1
  refine ⟨c, r1.of_bool, ?_⟩
  cases c with
  | false => exact k _ _ _ _ n1 (.bl false) q
  | true => exact sb δ G1 H1 ρ σ E _ _ (a.next n1) q fun G2 H2 v2 d2 n2 r2 q2 => k _ _ _ _ (n1.trans n2) r2 q2
theorem J.or {a b : CE} {x y : Expr} {r : List Expr} {p : Pos} (ha : JE S W sc a x) (hb : JE S W sc b (.BoolOp .Or (y :: r) p)) : JE S W sc (.or a b) (.BoolOp .Or (x :: y :: r) p) := by
  obtain ⟨ta, pa, sa⟩ := ha
  obtain ⟨tb, pb, sb⟩ := hb
  refine ⟨tOrV ta tb, fun X x tk => pe_or (pa X x tk) (pb X x tk), ?_⟩
  intro δ G H ρ σ E Q R a h k
  refine sa δ G H ρ σ E _ _ a h fun G1 H1 v1 d1 n1 r1 q1 => ?_
  obtain ⟨c, rfl, q⟩ := q1
  refine ⟨c, r1.of_bool, ?_⟩
  cases c with
  | true => exact k _ _ _ _ n1 (.bl true) q
  | false => exact sb δ G1 H1 ρ σ E _ _ (a.next n1) q fun G2 H2 v2 d2 n2 r2 q2 => k _ _ _ _ (n1.trans n2) r2 q2
theorem J.one {a : CE} {o : BoolOp} {x : Expr} {p : Pos} (ha : JE S W sc a x) : JE S W sc a (.BoolOp o [x] p) := by
  obtain ⟨ta, pa, sa⟩ := ha
  exact ⟨ta, fun X x tk => pe_one (pa X x tk), sa⟩
theorem J.not {a : CE} {x : Expr} {p : Pos} (ha : JE S W sc a x) : JE S W sc (.not a) (.UnaryOp .Not x p) := by
  obtain ⟨ta, pa, sa⟩ := ha
  refine ⟨tNotV ta, fun X x tk => pe_not (pa X x tk), ?_⟩
  intro δ G H ρ σ E Q R a h k
  refine sa δ G H ρ σ E _ _ a h fun G1 H1 v1 d1 n1 r1 q1 => ?_
  obtain ⟨c, rfl, q⟩ := q1
  exact ⟨c, r1.of_bool, k _ _ _ _ n1 (.bl _) q⟩
theorem J.ite {t : CT} {a b : CE} {z x y : Expr} {p : Pos} (ht : JT S W sc t z) (ha : JE S W sc a x) (hb : JE S W sc b y) : JE S W sc (.ite t a b) (.IfExp z x y p) := by
  obtain ⟨tt, pt, st⟩ := ht
  obtain ⟨ta, pa, sa⟩ := ha
  obtain ⟨tb, pb, sb⟩ := hb
  refine ⟨tIf tt ta tb, fun X x tk => pe_ifExp (pt X x tk).1 (pa X x tk) (pb X x tk), ?_⟩
  intro δ G H ρ σ E Q R a h k
  refine st δ G H ρ σ E _ _ a h fun G1 H1 c n1 q1 => ?_
  cases c with
  | true => exact sa δ G1 H1 ρ σ E _ _ (a.next n1) q1 fun G2 H2 v2 d2 n2 r2 q2 => k _ _ _ _ (n1.trans n2) r2 q2
  | false => exact sb δ G1 H1 ρ σ E _ _ (a.next n1) q1 fun G2 H2 v2 d2 n2 r2 q2 => k _ _ _ _ (n1.trans n2) r2 q2
theorem plain_true {x : Expr} {env : PySem.Env} {whole : Sem Value} (g : plainT x = true) : isTrue x env whole = (do let v ← whole; standAt x.pos; holding [v] (truthy v)) := by
  cases x <;> first
    | exact absurd g Bool.false_ne_true
    | rfl
    | (rename_i o _ _; cases o <;> first | exact absurd g Bool.false_ne_true | rfl)
theorem JT.val {a : CE} {x : Expr} (g : plainT x = true) (ha : JE S W sc a x) : JT S W sc (.val a) x := by
  obtain ⟨ta, pa, sa⟩ := ha
  refine ⟨_, fun X h tk => ⟨by
    have z := pt_truth (pa X h tk) (fun whole => plain_true g)
    rw [h.K] at z
    exact z, fun z => by cases x <;> first | exact absurd z Bool.false_ne_true | exact absurd g Bool.false_ne_true⟩, ?_⟩
  intro δ G H ρ σ E Q R a h k
  exact sa δ G H ρ σ E _ _ a h fun G1 H1 v1 d1 n1 r1 q1 => tru_of n1.wd r1 q1 fun c q => k _ _ _ n1 q
theorem JT.and {a b : CT} {x y : Expr} {r : List Expr} {p : Pos} (ha : JT S W sc a x) (hb : JT S W sc b (.BoolOp .And (y :: r) p)) : JT S W sc (.and a b) (.BoolOp .And (x :: y :: r) p) := by
  obtain ⟨ta, pa, sa⟩ := ha
  obtain ⟨tb, pb, sb⟩ := hb
  refine ⟨tAnd ta tb, fun X x tk => have z := pw_and (pa X x tk).1 ((pb X x tk).2 rfl); ⟨z.pt, fun _ => z⟩, ?_⟩
  intro δ G H ρ σ E Q R a h k
  refine sa δ G H ρ σ E _ _ a h fun G1 H1 c n1 q1 => ?_
  cases c with
  | false => exact k _ _ _ n1 q1
  | true => exact sb δ G1 H1 ρ σ E _ _ (a.next n1) q1 fun G2 H2 c2 n2 q2 => k _ _ _ (n1.trans n2) q2
theorem JT.or {a b : CT} {x y : Expr} {r : List Expr} {p : Pos} (ha : JT S W sc a x) (hb : JT S W sc b (.BoolOp .Or (y :: r) p)) : JT S W sc (.or a b) (.BoolOp .Or (x :: y :: r) p) := by
  obtain ⟨ta, pa, sa⟩ := ha
  obtain ⟨tb, pb, sb⟩ := hb
  refine ⟨tOr ta tb, fun X x tk => have z := pw_or (pa X x tk).1 ((pb X x tk).2 rfl); ⟨z.pt, fun _ => z⟩, ?_⟩
  intro δ G H ρ σ E Q R a h k
  refine sa δ G H ρ σ E _ _ a h fun G1 H1 c n1 q1 => ?_
  cases c with
  | true => exact k _ _ _ n1 q1
  | false => exact sb δ G1 H1 ρ σ E _ _ (a.next n1) q1 fun G2 H2 c2 n2 q2 => k _ _ _ (n1.trans n2) q2
theorem JT.one {a : CT} {o : BoolOp} {x : Expr} {p : Pos} (ha : JT S W sc a x) : JT S W sc a (.BoolOp o [x] p) := by
  obtain ⟨ta, pa, sa⟩ := ha
  refine ⟨ta, fun X x tk => ?_, sa⟩
  cases o
  · have z := pw_and1 (pos := p) (pa X x tk).1
    exact ⟨z.pt, fun _ => z⟩
  · have z := pw_or1 (pos := p) (pa X x tk).1
    exact ⟨z.pt, fun _ => z⟩
theorem JT.not {a : CT} {x : Expr} {p : Pos} (ha : JT S W sc a x) : JT S W sc (.not a) (.UnaryOp .Not x p) := by
  obtain ⟨ta, pa, sa⟩ := ha
  refine ⟨tNot ta, fun X x tk => ⟨pt_not (pa X x tk).1, fun z => by cases z⟩, ?_⟩
  intro δ G H ρ σ E Q R a h k
  exact sa δ G H ρ σ E _ _ a h fun G1 H1 c n1 q1 => k _ _ _ n1 q1
theorem star_one {e : Expr} (g : isStar e = false) {es : List Expr} {env : PySem.Env} : starEach (e :: es) env = (false, eval e env) :: starEach es env := by
  cases e <;> first
    | rfl
    | exact absurd g (by simp [isStar])
theorem PEs.pa {X : Cx} : ∀ {es : List Expr} {ts : List TE}, PEs X es ts → PA X es (tAll ts)
  | [], [], _ => pa_nil
  | _ :: _, _ :: _, h => pa_cons h.2.1 (PEs.pa h.2.2) (star_one h.1)
  | [], _ :: _, h => h.elim
  | _ :: _, [], h => h.elim
theorem PEs.pk {X : Cx} : ∀ {ks : List Keyword} {ts : List TE}, PEs X (ks.map (·.value)) ts → PK X ks (tAll ts)
  | [], [], _ => pk_nil
  | ⟨_, _, _⟩ :: _, _ :: _, h => pk_cons h.2.1 (PEs.pk h.2.2)
  | [], _ :: _, h => h.elim
  | _ :: _, [], h => h.elim
theorem PEs.len {X : Cx} : ∀ {es : List Expr} {ts : List TE}, PEs X es ts → es.length = ts.length
  | [], [], _ => rfl
  | _ :: _, _ :: _, h => congrArg (· + 1) (PEs.len h.2.2)
  | [], _ :: _, h => h.elim
  | _ :: _, [], h => h.elim
theorem PEs.nostar {X : Cx} : ∀ {es : List Expr} {ts : List TE}, PEs X es ts → ∀ e ∈ es, isStar e = false
  | [], [], _, _, h => by simp at h
  | _ :: _, _ :: _, h, e, he => (List.mem_cons.mp he).elim (fun z => by rw [z]; exact h.1) fun z => PEs.nostar h.2.2 e z
  | [], _ :: _, h, _, _ => h.elim
  | _ :: _, [], h, _, _ => h.elim
theorem JA.nil : JA S W sc .nil [] := ⟨[], rfl, fun _ _ _ => trivial, fun δ G H ρ σ E Q R a h k => k _ _ _ _ (Nx.refl a.wd) .nil rfl h⟩
theorem JA.cons {c : CE} {r : CEs} {e : Expr} {es : List Expr} (g : isStar e = false) (ha : JE S W sc c e) (hr : JA S W sc r es) : JA S W sc (.cons c r) (e :: es) := by
  obtain ⟨ta, pa, sa⟩ := ha
  obtain ⟨tr, lr, pr, sr⟩ := hr
  refine ⟨ta :: tr, congrArg (· + 1) lr, fun X x tk => ⟨g, pa X x tk, pr X x tk⟩, ?_⟩
  intro δ G H ρ σ E Q R a h k
  exact sa δ G H ρ σ E _ _ a h fun G1 H1 v1 d1 n1 r1 q1 => sr δ G1 H1 ρ σ E _ _ (a.next n1) q1 fun G2 H2 vs ds n2 r2 l q2 => k _ _ _ _ (n1.trans n2) (.cons (r1.mono n2.grow) r2) (by rw [List.length_cons, l]; rfl) q2
theorem JA.ta {c : CEs} {es : List Expr} (h : JA S W sc c es) : ∃ t, (∀ X, Sx S sc X → Takes X W → PA X es t) ∧ SemA S W t (lenC c) (wpEs S.Φ c) :=
  let ⟨ts, _, p, s⟩ := h
  ⟨tAll ts, fun X x tk => (p X x tk).pa, s⟩
theorem JO.no : JO S W sc .no none := ⟨tNoPart, fun _ _ _ => po_none, fun δ G H ρ σ E Q R a h k => k _ _ _ (Nx.refl a.wd) h⟩
theorem JO.yes {c : CE} {e : Expr} (ha : JE S W sc c e) : JO S W sc (.yes c) (some e) := by
  obtain ⟨ta, pa, sa⟩ := ha
  refine ⟨tPart ta, fun X x tk => po_some (pa X x tk), ?_⟩
  intro δ G H ρ σ E Q R a h k
  refine sa δ G H ρ σ E _ _ a h fun G1 H1 v1 d1 n1 r1 q1 => ?_
  obtain ⟨i, rfl, q⟩ := q1
  exact ⟨i, r1.of_int, k _ _ _ n1 q⟩
theorem JTs.no : JTs S W sc .no [] := ⟨tYes, fun _ _ _ => pts_nil, fun δ G H ρ σ E Q R a h k => k _ _ _ (Nx.refl a.wd) h⟩
theorem JTs.yes {c : CT} {e : Expr} (ha : JT S W sc c e) : JTs S W sc (.yes c) [e] := by
  obtain ⟨ta, pa, sa⟩ := ha
  exact ⟨ta, fun X x tk => pts_one (pa X x tk).1, sa⟩
end
end Ey

end
section
set_option Elab.async false
set_option linter.all false
set_option maxRecDepth 100000
set_option maxHeartbeats 1000000
/-! Ey7: more core expressions: subscripts, displays, calls, walks. -/
namespace Ey
open PySem PySem.Spec PyProof.Rows L2
open Evl (Ex)

def Any2 (r r' r'' : R2) : R2 := fun x y H Q => r x y H Q ∨ r' x y H Q ∨ r'' x y H Q
def rIxA (K : PySem.W.Frag) : R2 := fun x y H Q => rIxL K x y H Q ∨ rIxT K x y H Q ∨ rIxS x y H Q
theorem ix_any {X : Cx} : IxR X (rIxA X.K) := IxR.or ix_list (IxR.or ix_tup ix_str)
def rSlX (K : PySem.W.Frag) : V → Option Int → Option Int → Hp → VK → Prop := fun x lo hi H Q => rSlL K x lo hi H Q ∨ rSlA K x lo hi H Q
theorem sl_any {X : Cx} : SlR X (rSlX X.K) := SlR.or sl_list sl_tupA
theorem noSl_plain {b : Expr} (g : noSl b = true) : PlainIx b := fun o i => by
  cases b <;> first
    | rfl
    | exact absurd g Bool.false_ne_true
theorem atI_len {α β : Type} {xs : List α} {ys : List β} (h : xs.length = ys.length) {i : Int} {y : β} (e : atI ys i = some y) : ∃ j : Nat, ys[j]? = some y ∧ atI xs i = xs[j]? := by
  unfold atI at e ⊢
  rw [h]
  cases hj : ixN ys.length i with
  | none => rw [hj] at e; cases e
  | some j =>
    rw [hj] at e
    exact ⟨j, e, rfl⟩
theorem cut_eq (n d : Nat) (o : Option Int) : HT.sIx n d o = cutAt n d o := by cases o <;> rfl
theorem cut_all {α : Type} {xs : List α} {lo hi : Option Int} (h : cutAt xs.length 0 lo = 0 ∧ cutAt xs.length xs.length hi = xs.length) : (xs.drop (cutAt xs.length 0 lo)).take (cutAt xs.length xs.length hi - cutAt xs.length 0 lo) = xs := by
  rw [h.1, h.2]; simp
theorem RlAll.cut {K : PySem.W.Frag} {G : Hp} {δ : Option (Addr × Addr)} {xs : List V} {ds : List D} (r : RlAll K G δ xs ds) (lo hi : Option Int) : RlAll K G δ (cutV xs lo hi) (cutD ds lo hi) := by
  unfold cutV cutD
  rw [cut_eq, cut_eq, r.length]
  exact (r.drop _).take _

section
variable {S : SC} {W : WX} {sc : Scope} {X : Cx}
theorem J.ix {a b : CE} {x y : Expr} {p : Pos} (g : noSl y = true) (ha : JE S W sc a x) (hb : JE S W sc b y) : JE S W sc (.ix a b) (.Subscript x y p) := by
  obtain ⟨ta, pa, sa⟩ := ha
  obtain ⟨tb, pb, sb⟩ := hb
  refine ⟨tOp (rIxA S.K) ta tb, fun X x tk => pe_ix (by rw [← x.K]; exact ix_any) (pa X x tk) (pb X x tk) (noSl_plain g), ?_⟩
  intro δ G H ρ σ E Q R a h k
  refine sa δ G H ρ σ E _ _ a h fun G1 H1 v1 d1 n1 r1 q1 => sb δ G1 H1 ρ σ E _ _ (a.next n1) q1 fun G2 H2 v2 d2 n2 r2 q2 => ?_
  have r1' := r1.mono n2.grow
  have n := n1.trans n2
  unfold ixW at q2
  split at q2
  · obtain ⟨z, e, q⟩ := q2
    obtain ⟨a', xs, rfl, h1, _, ra⟩ := r1'.of_lst n2.wd
    obtain ⟨j, e1, e2⟩ := atI_len (ra.length) e
    obtain ⟨v, hv, rv⟩ := ra.get e1
    exact .inl ⟨a', xs, _, v, rfl, r2.of_int, SqL.of h1, e2.trans hv, k _ _ _ _ n rv q⟩
  · obtain ⟨z, e, q⟩ := q2
    obtain ⟨a', xs, rfl, h1, _, ra⟩ := r1'.of_tup n2.wd
    obtain ⟨j, e1, e2⟩ := atI_len (ra.length) e
    obtain ⟨v, hv, rv⟩ := ra.get e1
    exact .inr (.inl ⟨a', xs, _, v, rfl, r2.of_int, h1, e2.trans hv, k _ _ _ _ n rv q⟩)
  · obtain ⟨z, c, e, q⟩ := q2
    exact .inr (.inr ⟨_, _, c, r1'.of_str, r2.of_int, sz5 z, e, k _ _ _ _ n (.str _) q⟩)
  · exact q2.elim
theorem J.sl {a : CE} {lo hi : CP} {x : Expr} {l h : Option Expr} {p p2 : Pos} (ha : JE S W sc a x) (hl : JO S W sc lo l) (hh : JO S W sc hi h) : JE S W sc (.sl a lo hi) (.Subscript x (.Slice l h none p2) p) := by
  obtain ⟨ta, pa, sa⟩ := ha
  obtain ⟨tl, pl, sl⟩ := hl
  obtain ⟨th, ph, sh⟩ := hh
  refine ⟨L2.tSl (rSlX S.K) ta tl th, fun X x tk => pe_slice (by rw [← x.K]; exact sl_any) (pa X x tk) (pl X x tk) (ph X x tk), ?_⟩
  intro δ G H ρ σ E Q R a h k
  refine sa δ G H ρ σ E _ _ a h fun G1 H1 v1 d1 n1 r1 q1 => sl δ G1 H1 ρ σ E _ _ (a.next n1) q1 fun G2 H2 o2 n2 q2 => sh δ G2 H2 ρ σ E _ _ (a.next (n1.trans n2)) q2 fun G3 H3 o3 n3 q3 => ?_
  have n := n1.trans (n2.trans n3)
  have r := (r1.mono n2.grow).mono n3.grow
  unfold slW at q3
  split at q3
  · obtain ⟨a', xs, rfl, h1, _, ra⟩ := r.of_lst n3.wd
    refine .inl ⟨a', xs, rfl, SqL.of h1, fun p hp => ?_⟩
    obtain ⟨m, rr⟩ := nx_lst n3.wd hp (ra.cut o2 o3)
    exact k _ _ _ _ (n.trans m) rr q3
  · obtain ⟨a', xs, e, h1, _, ra⟩ := r.of_tup n3.wd
    subst e
    refine .inr ⟨a', xs, rfl, h1, fun z => ?_, fun _ p hp => ?_⟩
    · rw [cut_eq, cut_eq, ra.length] at z
      unfold cutD at q3
      rw [cut_all z] at q3
      exact k _ _ _ _ n r q3
    · obtain ⟨m, rr⟩ := nx_tup n3.wd hp (ra.cut o2 o3)
      exact k _ _ _ _ (n.trans m) rr q3
  · exact q3.elim
theorem J.rev {a : CE} {x : Expr} {k : Nat} {p1 p2 p3 p : Pos} (ha : JE S W sc a x) : JE S W sc (.rev a) (.Subscript x (.Slice none none (some (.UnaryOp .USub (.Constant (.int 1) k p1) p2)) p3) p) := by
  obtain ⟨ta, pa, sa⟩ := ha
  refine ⟨tRevA S.K ta, fun X x tk => by rw [← x.K]; exact pe_revA (pa X x tk), ?_⟩
  intro δ G H ρ σ E Q R a h k
  refine sa δ G H ρ σ E _ _ a h fun G1 H1 v1 d1 n1 r1 q1 => ?_
  unfold revW at q1
  split at q1
  · obtain ⟨a', xs, rfl, h1, _, ra⟩ := r1.of_lst n1.wd
    refine .inl ⟨a', xs, rfl, SqL.of h1, fun p hp => ?_⟩
    obtain ⟨m, rr⟩ := nx_lst n1.wd hp ra.reverse
    exact k _ _ _ _ (n1.trans m) rr q1
  · obtain ⟨a', xs, rfl, h1, _, ra⟩ := r1.of_tup n1.wd
    refine .inr ⟨a', xs, rfl, h1, fun p hp => ?_⟩
    obtain ⟨m, rr⟩ := nx_tup n1.wd hp ra.reverse
    exact k _ _ _ _ (n1.trans m) rr q1
  · exact q1.elim
theorem J.tup {c : CEs} {es : List Expr} {m : Nat} {p : Pos} (ha : JA S W sc c es) : JE S W sc (.tup c) (.Tuple es m p) := by
  obtain ⟨ta, pa, sa⟩ := ha.ta
  refine ⟨tTup ta, fun X x tk => pe_tup (pa X x tk), ?_⟩
  intro δ G H ρ σ E Q R a h k
  refine sa δ G H ρ σ E _ _ a h fun G1 H1 vs ds n1 r1 _ q1 => ⟨by rw [r1.length]; exact sz5 q1.1, fun p hp => ?_⟩
  obtain ⟨m, rr⟩ := nx_tup n1.wd hp r1
  exact k _ _ _ _ (n1.trans m) rr q1.2
theorem J.lst {c : CEs} {es : List Expr} {p : Pos} (ha : JA S W sc c es) : JE S W sc (.lst c) (.List es p) := by
  obtain ⟨ta, pa, sa⟩ := ha.ta
  refine ⟨tLst ta, fun X x tk => pe_lst (pa X x tk), ?_⟩
  intro δ G H ρ σ E Q R a h k
  refine sa δ G H ρ σ E _ _ a h fun G1 H1 vs ds n1 r1 _ q1 => ⟨by rw [r1.length]; exact sz5 q1.1, fun p hp => ?_⟩
  obtain ⟨m, rr⟩ := nx_lst n1.wd hp r1
  exact k _ _ _ _ (n1.trans m) rr q1.2

/-! isinstance -/
def clsD : D → String
  | .none => "NoneType"
  | .bool _ => "bool"
  | .int _ => "int"
  | .str _ => "str"
  | .list _ => "list"
  | .tuple _ => "tuple"
  | .dict _ => "dict"
def tyS : Ty → String
  | .int => "int"
  | .bool => "bool"
  | .str => "str"
  | .tuple => "tuple"
  | .list => "list"
  | .dict => "dict"
theorem kit_at (d : D) (t : Ty) : kitB (clsD d) (tyS t) = some (isiD t d) := by
  cases d <;> cases t <;> (simp only [clsD, tyS, isiD]; decide +kernel)
theorem tyx_of {K : PySem.W.Frag} {δ : Option (Addr × Addr)} {G H : Hp} {v : V} {d : D} (w : Wd δ G H) (r : Rl K G δ v d) : TyX K H v (.type (clsD d)) := by
  cases r with
  | non => exact .base .non
  | bl b => exact .base (.bl b)
  | int i => exact .base (.int i)
  | str x => exact .base (.str x)
  | lst h1 _ => exact .base (.lst (w.ex _ _ h1))
  | tup h1 _ =>
    rcases Evl.ex_t w.ex h1 with (h | ⟨o, h⟩) | ⟨o, its, n, h, hc, _⟩
    · exact .base (.tup h)
    · exact .fTuple h
    · exact .kTuple h hc
  | dic h1 _ => exact .base (.dK (w.ex _ _ h1))
  | deck e =>
    obtain ⟨_, _, kn, ns, m, c, _, h1, _⟩ := w.dk _ e
    exact .base (.dK h1)
theorem boot_ty (t : Ty) : bootBuiltins (tyN t) = some (.type (tyS t)) := by cases t <;> decide +kernel
theorem back_plain {pos : Pos} {env : PySem.Env} : ∀ {es : List Expr}, (∀ e ∈ es, isStar e = false) → (backTo pos (starEach es env)).any (·.1) = false
  | [], _ => rfl
  | e :: es, h => by
    rw [star_one (h e (List.mem_cons_self ..))]
    have ih := back_plain (pos := pos) (env := env) fun x hx => h x (List.mem_cons_of_mem _ hx)
    show (false || (backTo pos (starEach es env)).any (·.1)) = false
    rw [ih]; rfl
theorem J.isi {a : CE} {t : Ty} {x : Expr} {z : Str} {p p2 q : Pos} (so : SOk S) (g1 : glC sc "isinstance" = true) (g2 : ("isinstance" : Str) ∈ S.cf.bl) (gs : isStar x = false) (hz : z = tyN t) (g3 : glC sc z = true) (g4 : z ∈ S.cf.bl) (ha : JE S W sc a x) :
    JE S W sc (.isi a t) (.Call (.Name "isinstance" p) [x, .Name z p2] [] q) := by
  obtain ⟨ta, pa, sa⟩ := ha
  refine ⟨tCB (rIsi S.K) (tCons ta (tCons (tC (.ty (tyS t))) tNil)), fun X h tk => ?_, ?_⟩
  · rw [← h.K]
    have m1 : X.mg "isinstance" = none := by rw [h.mg]; exact so.bl _ g2
    have m2 : X.mg z = none := by rw [h.mg]; exact so.bl _ g4
    have e2 : PE X (.Name z p2) (tC (.ty (tyS t))) := pe_bltn (u := .type (tyS t)) (h.gl g3).1 m2 (by rw [hz]; exact boot_ty t) rfl (by rw [hz]; cases t <;> decide) (h.gl g3).2
    exact pe_callB call_isi (h.gl g1).1 m1 boot_isinstance (pa_cons (pa X h tk) (pa_cons e2 pa_nil) (star_one gs)) (he := star_one gs)
  · intro δ G H ρ σ E Q R a h k
    refine sa δ G H ρ σ E _ _ a h fun G1 H1 v1 d1 n1 r1 q1 => ?_
    exact ⟨v1, _, _, _, _, rfl, .ty _, tyx_of n1.wd r1, kit_ty (kit_at d1 t), k _ _ _ _ n1 (.bl _) q1⟩

/-! built-ins by name -/
theorem boot_bi (f : Bi) (hf : f ≠ .gcd) : bootBuiltins (biN f) = some (biV f) := by cases f <;> first | exact absurd rfl hf | decide +kernel
theorem J.bi {f : Bi} {c : CEs} {e : Expr} {es : List Expr} {p q : Pos} (so : SOk S) (hc : S.cal = true) (g1 : glC sc (biN f) = true) (g2 : if f = .gcd then S.cf.gcd = true else biN f ∈ S.cf.bl) (gs : ∀ x ∈ e :: es, isStar x = false) (ha : JA S W sc c (e :: es)) :
    JE S W sc (.bi f c) (.Call (.Name (biN f) p) (e :: es) [] q) := by
  obtain ⟨ta, pa, sa⟩ := ha.ta
  refine ⟨fun σ H Q => ta σ H fun vs H1 => ∃ δ, rBi S.K δ f vs H1 Q, fun X h tk => ?_, ?_⟩
  · rw [← h.K]
    have cb : CallR X (biV f) fun vs H1 Q => ∃ δ, rBi X.K δ f vs H1 Q := by
      intro pins s σ H xs us Q I r hq
      obtain ⟨δ, hq⟩ := hq
      exact call_bi (h.cal hc) h.gd h.units f pins s σ H xs us Q I r hq
    have he := star_one (es := es) (env := X.env) (gs e (List.mem_cons_self ..))
    have hp := back_plain (pos := q) (env := X.env) fun x hx => gs x (List.mem_cons_of_mem e hx)
    by_cases hf : f = .gcd
    · subst hf
      rw [if_pos rfl] at g2
      have m : X.mg "gcd" = some (.builtin "math.gcd") := by rw [h.mg]; exact so.gcd g2
      exact pe_callBfun cb (h.gl g1).1 m (pa X h tk) (h.gl g1).2 he hp
    · rw [if_neg hf] at g2
      have m : X.mg (biN f) = none := by rw [h.mg]; exact so.bl _ g2
      have b := boot_bi f hf
      have hn : biN f ≠ "__name__" := by cases f <;> decide
      cases f <;> first
        | exact absurd rfl hf
        | exact pe_callB cb (h.gl g1).1 m b (pa X h tk) hn (h.gl g1).2 he hp
        | exact pe_callTy cb (h.gl g1).1 m b (pa X h tk) hn (h.gl g1).2 he hp
  · intro δ G H ρ σ E Q R a h k
    exact sa δ G H ρ σ E _ _ a h fun G1 H1 vs ds n1 r1 _ q1 => ⟨δ, bi_ok f n1.wd r1 q1 fun G2 H2 v d n2 r q => k _ _ _ _ (n1.trans n2) r q⟩

/-! calls of defs -/
theorem sp_of {f : Str} {n : Nat} {δ : Option (Addr × Addr)} {G H : Hp} {ρ : Env} {σ : L2.St} {E : EPo} {vs : List V} {ds : List D} {Q : DP} {R : VK} (a : At S W δ G H ρ σ E) (r : RlAll S.K G δ vs ds) (l : ds.length = n) (h : S.Φ f ds Q E)
    (k : ∀ G' H' v d, Nx δ G H G' H' → Rl S.K G' δ v d → Q d → R v H') : spF S.K S.mg S.cf.er S.Φ f n vs H R fun cls d H2 => W cls d σ H2 :=
  ⟨δ, G, ds, Q, E, a.wd, r, l, h, k, a.xc⟩
end
end Ey

end
section
set_option Elab.async false
set_option linter.all false
set_option maxRecDepth 100000
set_option maxHeartbeats 1000000
/-! Ey8: calls of defs, dict displays, targets, walks, comprehensions. -/
namespace Ey
open PySem PySem.Spec PyProof.Rows L2
open Evl (Ex)

/-! ### an object of our own, behind what else happens -/
section
variable {δ : Option (Addr × Addr)} {G H G1 H1 : Hp} {p : Addr} {o : HO}
theorem deck_upd2 {q : Addr × Addr} (h : DeckAt H q) (n1 : p ≠ q.1) (n2 : p ≠ q.2) : DeckAt (L2.upd H p o) q := by
  obtain ⟨kn, ns, m, c, k, h1, h2, l⟩ := h
  exact ⟨kn, ns, m, c, k, by rw [upd_ne n1.symm]; exact h1, by rw [upd_ne n2.symm]; exact h2, l⟩
theorem Nx.put (n : Nx δ G H G1 H1) (h : H p = none) (g : G1 p = none) (d : NotDk δ p) : Nx δ G H G1 (upd H1 p o) :=
  ⟨⟨fun a u e => by rw [upd_ne (ne_of_none e g)]; exact n.wd.ex a u e, fun q e => let ⟨a, b, k⟩ := n.wd.dk q e; ⟨a, b, deck_upd2 k (d q e).1 (d q e).2⟩⟩, n.grow,
    fun a u e z y => let ⟨i, j⟩ := n.keep a u e z y; ⟨by rw [upd_ne (ne_of_none e h)]; exact i, j⟩⟩
theorem Nx.fix (n : Nx δ G H G1 H1) (h : H p = none) (e1 : H1 p = some o) (g : G1 p = none) (d : NotDk δ p) : Nx δ G H (upd G1 p o) H1 :=
  ⟨Nx.know n.wd e1 g d, n.grow.trans (Evl.Ex.new g), fun a u e z y => let ⟨i, j⟩ := n.keep a u e z y; ⟨i, by rw [upd_ne (ne_of_none e h)]; exact j⟩⟩
end

section
variable {S : SC} {W : WX} {sc : Scope} {X : Cx}
/-! ### calls -/
theorem kw_all {env : PySem.Env} {pos : Pos} : ∀ {ks : List Str} {ws : List Keyword}, kwC ks ws = true → (backToKw pos (keywordEach ws env)).all (·.1.isSome) = true ∧ (backToKw pos (keywordEach ws env)).filterMap (·.1) = ks ∧ (backToKw pos (keywordEach ws env)).any (·.1.isNone) = false
  | [], [], _ => ⟨rfl, rfl, rfl⟩
  | [], _ :: _, h => by simp [kwC] at h
  | _ :: _, [], h => by simp [kwC] at h
  | k :: ks, ⟨nm, e, p⟩ :: ws, h => by
    simp only [kwC, Bool.and_eq_true, decide_eq_true_eq] at h
    obtain ⟨h1, h2⟩ := h
    subst h1
    obtain ⟨a, b, c⟩ := kw_all (env := env) (pos := pos) h2
    refine ⟨?_, ?_, ?_⟩
    · show (true && (backToKw pos (keywordEach ws env)).all (·.1.isSome)) = true
      rw [a]; rfl
    · show k :: (backToKw pos (keywordEach ws env)).filterMap (·.1) = k :: ks
      rw [b]
    · show (false || (backToKw pos (keywordEach ws env)).any (·.1.isNone)) = false
      rw [c]; rfl
theorem kwC_len : ∀ {ks : List Str} {ws : List Keyword}, kwC ks ws = true → ks.length = ws.length
  | [], [], _ => rfl
  | [], _ :: _, h => by simp [kwC] at h
  | _ :: _, [], h => by simp [kwC] at h
  | k :: ks, w :: ws, h => by
    simp only [kwC, Bool.and_eq_true] at h
    exact congrArg (· + 1) (kwC_len h.2)
theorem J.call {f : Str} {c : CEs} {e : Expr} {es : List Expr} {p q : Pos} (so : SOk S) (g1 : glC sc f = true) (g2 : (S.cf.fn.lookup f).isSome = true) (ha : JA S W sc c (e :: es)) : JE S W sc (.call f c) (.Call (.Name f p) (e :: es) [] q) := by
  obtain ⟨ts, lt, pa, sa⟩ := ha
  obtain ⟨ps, hp⟩ := Option.isSome_iff_exists.mp g2
  obtain ⟨a, fd, m, kp, bd, F, _⟩ := so.fn f ps hp
  refine ⟨tCallW (spF S.K S.mg S.cf.er S.Φ f ps.length) W (tAll ts), fun X h tk => ?_, ?_⟩
  · have z := pa X h tk
    have ns := z.nostar
    obtain ⟨e1, e2, e3, e4, e5⟩ := (⟨h.prog, h.w, h.K, h.mg, h.base⟩ : X.prog = S.prog ∧ X.w = S.w ∧ X.K = S.K ∧ X.mg = S.mg ∧ X.base = S.base)
    refine pe_callG (k := S.lv) (f := a) (fd := fd) (ps := ps) (by rw [e1, e2, e3, e4, e5]; exact F) h.rm h.gd tk (h.gl g1).1 (by rw [e4]; exact m) (by rw [e3]; exact kp) (by rw [e3]; exact bd) z.pa (h.gl g1).2 (star_one (ns e (List.mem_cons_self ..)))
      (back_plain fun x hx => ns x (List.mem_cons_of_mem e hx))
  · intro δ G H ρ σ E Q R a h k
    exact sa δ G H ρ σ E _ _ a h fun G1 H1 vs ds n1 r1 _ q1 => sp_of (a.next n1) r1 (so.len f ps ds Q E hp q1) q1 fun G2 H2 v d n2 r q => k _ _ _ _ (n1.trans n2) r q
theorem J.call0 {f : Str} {p q : Pos} (so : SOk S) (g1 : glC sc f = true) (g2 : (S.cf.fn.lookup f).isSome = true) : JE S W sc (.call f .nil) (.Call (.Name f p) [] [] q) := by
  obtain ⟨ps, hp⟩ := Option.isSome_iff_exists.mp g2
  obtain ⟨a, fd, m, kp, bd, F, _⟩ := so.fn f ps hp
  refine ⟨tCallW (spF S.K S.mg S.cf.er S.Φ f ps.length) W tNil, fun X h tk => ?_, ?_⟩
  · obtain ⟨e1, e2, e3, e4, e5⟩ := (⟨h.prog, h.w, h.K, h.mg, h.base⟩ : X.prog = S.prog ∧ X.w = S.w ∧ X.K = S.K ∧ X.mg = S.mg ∧ X.base = S.base)
    exact pe_callG0 (k := S.lv) (f := a) (fd := fd) (ps := ps) (by rw [e1, e2, e3, e4, e5]; exact F) h.rm h.gd tk (h.gl g1).1 (by rw [e4]; exact m) (by rw [e3]; exact kp) (by rw [e3]; exact bd) (h.gl g1).2
  · intro δ G H ρ σ E Q R a h k
    exact sp_of a .nil (so.len f ps [] Q E hp h) h k
theorem J.con {x : Str} {k : Key} {p : Pos} (so : SOk S) (g1 : glC sc x = true) (g2 : (x, k) ∈ S.cf.cn) : JE S W sc (.con x k) (.Name x p) := by
  obtain ⟨u, m, r⟩ := so.cn _ g2
  refine ⟨tC (kV k), fun X h _ => pe_glob (h.gl g1).1 (by rw [h.mg]; exact m) r (h.gl g1).2, ?_⟩
  intro δ G H ρ σ E Q R a h q
  exact q _ _ _ _ (Nx.refl a.wd) (by cases k <;> first | exact .int _ | exact .str _) h
theorem rows_of {K : PySem.W.Frag} {δ : Option (Addr × Addr)} {G H : Hp} (w : Wd δ G H) : ∀ {vs : List V} {ks : List (List Int)}, RlAll K G δ vs (ks.map fun k => PyData.tuple (k.map PyData.int)) →
    ∃ ps : List (Addr × List Int), vs = ps.map (fun p => V.ref p.1) ∧ ps.map (·.2) = ks ∧ ∀ p ∈ ps, SqT K H p.1 (p.2.map V.int)
  | [], [], _ => ⟨[], rfl, rfl, fun p hp => nomatch hp⟩
  | [], _ :: _, h => nomatch h
  | _ :: _, [], h => nomatch h
  | v :: vs, k :: ks, .cons r t => by
    obtain ⟨ps, rfl, rfl, h3⟩ := rows_of w t
    obtain ⟨a, xs, rfl, h1, _, ra⟩ := r.of_tup w
    have ei : intsOf (k.map PyData.int) = some k := by
      clear r ra t
      induction k with
      | nil => rfl
      | cons i r ih => simp [intsOf, ih]
    rw [ints_of ra ei] at h1
    refine ⟨(a, k) :: ps, rfl, rfl, fun p hp => ?_⟩
    rcases List.mem_cons.mp hp with rfl | hp
    · exact h1
    · exact h3 p hp
theorem texts_of {K : PySem.W.Frag} {δ : Option (Addr × Addr)} {G : Hp} : ∀ {vs : List V} {ss : List Str}, RlAll K G δ vs (ss.map PyData.str) → vs = ss.map V.str
  | [], [], _ => rfl
  | [], _ :: _, h => nomatch h
  | _ :: _, [], h => nomatch h
  | v :: vs, s :: ss, .cons r t => by rw [r.of_str, texts_of t]; rfl
theorem J.lens {c : CE} {e : Expr} {p p2 q pos : Pos} (so : SOk S) (hc : S.cal = true) (g1 : glC sc "len" = true) (g2 : ("len" : Str) ∈ S.cf.bl) (g3 : glC sc "set" = true) (g4 : ("set" : Str) ∈ S.cf.bl) (gs : isStar e = false) (ha : JE S W sc c e) :
    JE S W sc (.lens c) (.Call (.Name "len" p) [.Call (.Name "set" p2) [e] [] q] [] pos) := by
  obtain ⟨ta, pa, sa⟩ := ha
  refine ⟨St.tLens S.K ta, fun X h tk => ?_, ?_⟩
  · rw [← h.K]
    exact St.pe_lens (h.cal hc) (by have := h.units; omega) (h.gl g1).1 (by rw [h.mg]; exact so.bl _ g2) (h.gl g3).1 (by rw [h.mg]; exact so.bl _ g4) (pa X h tk) (star_one gs)
  · intro δ G H ρ σ E Q R a h k
    refine sa δ G H ρ σ E _ _ a h fun G1 H1 v1 d1 n1 r1 q1 => ?_
    obtain ⟨xs, rfl, hx, hq⟩ := q1
    obtain ⟨l, ys, rfl, h1, _, ra⟩ := r1.of_lst n1.wd
    refine ⟨l, rfl, ?_⟩
    rcases hx with ⟨⟨ss, rfl⟩, b⟩ | ⟨⟨ks, rfl⟩, b⟩
    · rw [texts_of ra] at h1
      refine .inl ⟨ss, SqL.of h1, by simpa using b, fun L nd hm => k _ _ _ _ n1 (.int _) ?_⟩
      have z := hq (L.map PyData.str) (nd.map _ fun x y ne e => ne (by injection e)) fun y => by
        simp only [List.mem_map, hm]
      rw [List.length_map] at z
      exact z
    · obtain ⟨ps, rfl, rfl, h3⟩ := rows_of n1.wd ra
      refine .inr ⟨ps, SqL.of h1, h3, by simpa using b, fun L nd hm => k _ _ _ _ n1 (.int _) ?_⟩
      have inj : ∀ x y : List Int, x ≠ y → PyData.tuple (x.map PyData.int) ≠ PyData.tuple (y.map PyData.int) := fun x y ne e => by
        injection e with e
        exact ne (List.map_inj_right (fun a b (h : PyData.int a = PyData.int b) => by injection h) |>.mp e)
      have z := hq (L.map fun k => PyData.tuple (k.map PyData.int)) (nd.map _ inj) fun y => by
        simp only [List.mem_map, hm]
      rw [List.length_map] at z
      exact z
theorem rl_getD {K : PySem.W.Frag} {δ : Option (Addr × Addr)} {G : Hp} : ∀ {vs : List V} {ds : List D}, RlAll K G δ vs ds → ∀ j, Rl K G δ (vs.getD j .non) (ds.getD j .none)
  | _, _, .nil, j => by simpa using Rl.non
  | _, _, .cons r _, 0 => by simpa using r
  | _, _, .cons _ t, j + 1 => by simpa using rl_getD t j
theorem rl_seat {K : PySem.W.Frag} {δ : Option (Addr × Addr)} {G : Hp} {vs : List V} {ds : List D} (t : RlAll K G δ vs ds) : ∀ pm : List Nat, RlAll K G δ (pm.map fun j => vs.getD j .non) (pm.map fun j => ds.getD j .none)
  | [] => .nil
  | j :: r => .cons (rl_getD t j) (rl_seat t r)
theorem J.callK {f : Str} {c ck : CEs} {ks : List Str} {pm : List Nat} {es : List Expr} {ws : List Keyword} {p q : Pos} (so : SOk S) (g1 : glC sc f = true) (g2 : (S.cf.fn.lookup f).isSome = true) (g3 : (f, es.length, ks, pm) ∈ S.cf.kw) (g4 : kwC ks ws = true)
    (ha : JA S W sc c es) (hl : lenC c = es.length) (hk : JA S W sc ck (ws.map (·.value))) (hl2 : lenC ck = ws.length) : JE S W sc (.callK f c ks ck pm) (.Call (.Name f p) es ws q) := by
  obtain ⟨ts, lt, pa, sa⟩ := ha
  obtain ⟨tw, lw, pk, sk⟩ := hk
  obtain ⟨ps, hp⟩ := Option.isSome_iff_exists.mp g2
  obtain ⟨a, fd, m, kp, bd, F, kb⟩ := so.fn f ps hp
  have kb' := kb _ _ _ g3
  refine ⟨tCallKW (spF S.K S.mg S.cf.er S.Φ f ps.length) W es.length ks.length pm (tAll ts) (tAll tw), fun X h tk => ?_, ?_⟩
  · have z := pa X h tk
    have y := pk X h tk
    have ns := z.nostar
    obtain ⟨e1, e2, e3, e4, e5⟩ := (⟨h.prog, h.w, h.K, h.mg, h.base⟩ : X.prog = S.prog ∧ X.w = S.w ∧ X.K = S.K ∧ X.mg = S.mg ∧ X.base = S.base)
    obtain ⟨k1, k2, k3⟩ := kw_all (env := X.env) (pos := q) g4
    cases es with
    | nil =>
      have ez : ts = [] := by
        have := z.len
        cases ts with
        | nil => rfl
        | cons _ _ => simp at this
      subst ez
      exact pe_callGK0 (k := S.lv) (f := a) (fd := fd) (ps := ps) (by rw [e1, e2, e3, e4, e5]; exact F) h.rm h.gd tk (h.gl g1).1 (by rw [e4]; exact m) (by rw [e3]; exact kp) kb' y.pk (h.gl g1).2 k1 k2 (by rw [k3]; rfl)
    | cons e es =>
      have so1 := star_one (es := es) (env := X.env) (ns e (List.mem_cons_self ..))
      exact pe_callGK (k := S.lv) (f := a) (fd := fd) (ps := ps) (by rw [e1, e2, e3, e4, e5]; exact F) h.rm h.gd tk (h.gl g1).1 (by rw [e4]; exact m) (by rw [e3]; exact kp) kb' z.pa y.pk (h.gl g1).2 so1 k1 k2 (by
        rw [back_plain ns, k3]; rfl)
  · intro δ G H ρ σ E Q R a h k
    refine sa δ G H ρ σ E _ _ a h fun G1 H1 vs ds n1 r1 l1 q1 => ⟨by rw [r1.length, l1, hl], ?_⟩
    refine sk δ G1 H1 ρ σ E _ _ (a.next n1) q1 fun G2 H2 zs us n2 r2 l2 q2 => ⟨by rw [r2.length, l2, hl2, kwC_len g4], ?_⟩
    refine sp_of (a.next (n1.trans n2)) ((r1.mono n2.grow).append (rl_seat r2 pm)) (so.len f ps _ Q E hp q2) q2 fun G3 H3 v d n3 r q => k _ _ _ _ (n1.trans (n2.trans n3)) r q

/-! ### dict displays -/
def prTs : List Key → List TE → List (TE × TE)
  | k :: ks, t :: ts => (tC (kV k), t) :: prTs ks ts
  | _, _ => []
theorem pe_key {k : Key} {e : Expr} (h : keyC k (some e) = true) : PE X e (tC (kV k)) := by
  cases k with
  | inl i =>
    simp only [keyC] at h
    split at h
    · rename_i j hj
      obtain ⟨k, p, rfl⟩ := asCst_of hj
      have : i = j := by simpa using h
      subst this
      exact pe_int
    · cases h
  | inr x =>
    simp only [keyC] at h
    split at h
    · rename_i j hj
      obtain ⟨k, p, rfl⟩ := asCst_of hj
      have : x = j := by simpa using h
      subst this
      exact pe_str
    · cases h
theorem pps_of {pos : Pos} : ∀ {ks : List Key} {keys : List (Option Expr)} {vals : List Expr} {ts : List TE}, keysC ks keys = true → keys.length = vals.length → PEs X vals ts → PPs X pos keys vals (prTs ks ts)
  | [], [], [], [], _, _, _ => pps_nil
  | [], [], [], _ :: _, _, _, h => h.elim
  | [], [], _ :: _, _, _, l, _ => by simp at l
  | [], _ :: _, _, _, h, _, _ => by simp [keysC] at h
  | _ :: _, [], _, _, h, _, _ => by simp [keysC] at h
  | k :: ks, e :: es, [], _, _, l, _ => by simp at l
  | k :: ks, e :: es, v :: vs, [], _, _, h => h.elim
  | k :: ks, e :: es, v :: vs, t :: ts, h, l, z => by
    simp only [keysC, Bool.and_eq_true] at h
    cases e with
    | none => simp [keyC] at h
    | some e => exact pps_cons (pe_key h.1) z.2.1 (pps_of h.2 (by simpa using l) z.2.2)
theorem pairs_eq (σ : L2.St) : ∀ (ks : List Key) (ts : List TE) (H : Hp) (Q : List (V × V) → Hp → Prop), ks.length = ts.length → tPairs (prTs ks ts) σ H Q = tAll ts σ H fun vs H' => Q ((ks.zip vs).map fun p => (kV p.1, p.2)) H'
  | [], [], _, _, _ => rfl
  | [], _ :: _, _, _, h => by simp at h
  | _ :: _, [], _, _, h => by simp at h
  | k :: ks, t :: ts, H, Q, h => by
    have ih := fun H Q => pairs_eq σ ks ts H Q (by simpa using h)
    show t σ H (fun y H2 => tPairs (prTs ks ts) σ H2 fun ps H3 => Q ((kV k, y) :: ps) H3) = t σ H fun x H1 => tAll ts σ H1 fun xs H2 => Q (((k :: ks).zip (x :: xs)).map fun p => (kV p.1, p.2)) H2
    congr 1
    funext y H2
    rw [ih]
    rfl
theorem merge_new : ∀ {more kvs : List (Key × V)}, (more.map (·.1)).Nodup → (∀ p ∈ more, ∀ q ∈ kvs, q.1 ≠ p.1) → mergeK kvs more = kvs ++ more
  | [], kvs, _, _ => by simp [mergeK]
  | (k, v) :: more, kvs, nd, ap => by
    rw [List.map_cons, List.nodup_cons] at nd
    have hk : (kvs.any fun kv => decide (kv.1 = k)) = false := by
      rw [List.any_eq_false]
      intro q hq
      simpa using ap (k, v) (List.mem_cons_self ..) q hq
    have e : putK kvs k v = kvs ++ [(k, v)] := by unfold putK; rw [hk]; rfl
    show mergeK (putK kvs k v) more = _
    rw [e, merge_new nd.2 fun p hp q hq => ?_, List.append_assoc]
    · rfl
    · rcases List.mem_append.mp hq with z | z
      · exact ap p (List.mem_cons_of_mem _ hp) q z
      · have : q = (k, v) := by simpa using z
        subst this
        intro h
        exact nd.1 (List.mem_map.mpr ⟨p, hp, h.symm⟩)
theorem rlkv_zip {K : PySem.W.Frag} {δ : Option (Addr × Addr)} {G : Hp} : ∀ {ks : List Key} {vs : List V} {ds : List D}, RlAll K G δ vs ds → RlKv K G δ (ks.zip vs) ((ks.zip ds).map fun p => (kD p.1, p.2))
  | [], _, _, _ => .nil
  | _ :: _, _, _, .nil => .nil
  | _ :: ks, _, _, .cons r t => .cons r (rlkv_zip t)
theorem J.dis {ks : List Key} {c : CEs} {keys : List (Option Expr)} {vals : List Expr} {p : Pos} (g1 : keysC ks keys = true) (g2 : ks.Nodup) (g3 : ks ≠ []) (g4 : ks.length ≤ 15) (g5 : ks.length = vals.length) (ha : JA S W sc c vals) (hl : lenC c = vals.length) : JE S W sc (.dis ks c) (.Dict keys vals p) := by
  obtain ⟨ts, lt, pa, sa⟩ := ha
  have lk : ∀ {ks : List Key} {keys : List (Option Expr)}, keysC ks keys = true → ks.length = keys.length ∧ keys.all (·.isSome) = true := by
    intro ks
    induction ks with
    | nil =>
      intro keys h
      cases keys with
      | nil => exact ⟨rfl, rfl⟩
      | cons _ _ => simp [keysC] at h
    | cons k ks ih =>
      intro keys h
      cases keys with
      | nil => simp [keysC] at h
      | cons e keys =>
        simp only [keysC, Bool.and_eq_true] at h
        obtain ⟨a, b⟩ := ih h.2
        cases e with
        | none => simp [keyC] at h
        | some e => exact ⟨congrArg (· + 1) a, by rw [List.all_cons, b]; rfl⟩
  obtain ⟨l1, l2⟩ := lk g1
  refine ⟨tDisp (prTs ks ts), fun X x tk => ?_, ?_⟩
  · exact pe_disp (pps_of g1 (l1.symm.trans g5) (pa X x tk)) l2 (l1.symm.trans g5) (by
      rintro rfl
      exact g3 (by simpa using l1)) (by rw [← l1]; exact g4)
  · intro δ G H ρ σ E Q R a h k p hp
    have hg := free_of a.wd.ex hp
    have nd := a.wd.notdk hp
    have n0 : Nx δ G H G (upd H p (.dK [])) := Nx.newH a.wd hp
    rw [pairs_eq σ ks ts _ _ (by rw [g5, ← hl, lt])]
    refine sa δ G _ ρ σ E _ _ (a.next n0) h fun G1 H1 vs ds n1 r1 l1 q1 => ?_
    obtain ⟨e1, f1⟩ := n1.keep p _ upd_same hg nd
    have lz : (ks.zip vs).length ≤ 15 := by rw [List.length_zip]; omega
    refine ⟨e1, ks.zip vs, rfl, lz, ?_⟩
    have lv : ks.length = vs.length := by rw [g5, ← hl, ← l1, r1.length]
    have em : mergeK [] (ks.zip vs) = ks.zip vs := by
      rw [merge_new ?_ (fun _ _ _ hq => by simp at hq)]
      · rfl
      · rw [List.map_fst_zip (by omega)]; exact g2
    rw [em]
    have n2 := ((n0.trans n1).put (o := .dK (ks.zip vs)) hp f1 nd)
    have n3 := n2.fix hp upd_same f1 nd
    exact k _ _ _ _ n3 (.dic upd_same (rlkv_zip (r1.mono (Evl.Ex.new f1)))) q1
end
end Ey

end
section
set_option Elab.async false
set_option linter.all false
set_option maxRecDepth 100000
set_option maxHeartbeats 1000000
/-! Ey9: targets, walks, comprehensions; what the checker says of expressions. -/
namespace Ey
open PySem PySem.Spec PyProof.Rows L2
open Evl (Ex)

/-! ### targets -/
mutual
def gOf (K : PySem.W.Frag) : Tg → TG
  | .one i => gName i
  | .tup ts => fun v σ H Q => gTup K (lenT ts) (gsOf K ts) v σ H Q ∨ gLst K (lenT ts) (gsOf K ts) v σ H Q
def gsOf (K : PySem.W.Frag) : Tgs → TGs
  | .nil => gNil
  | .cons t r => gCons (gOf K t) (gsOf K r)
end
section
variable {α : Type} {f : D → α} {K : PySem.W.Frag} {δ : Option (Addr × Addr)} {G H : Hp} {own : List Nat} {P : List α → L2.St → Prop}
mutual
theorem g_ok (w : Wd δ G H) (hP : ∀ i v d ρ σ, i ∈ own → Rl K G δ v d → P ρ σ → P (ρ.set i (f d)) (σ.set i (some v))) : ∀ (tg : Tg) {v : V} {d : D} {ρ : List α} {σ : L2.St} {Q : List α → Prop} {R : L2.St → Hp → Prop}, (∀ i ∈ tgVars tg, i ∈ own) → Rl K G δ v d → tgW f tg d ρ Q → P ρ σ →
    (∀ ρ' σ', P ρ' σ' → Q ρ' → R σ' H) → gOf K tg v σ H R
  | .one i, v, d, ρ, σ, Q, R, ho, r, h, p, k => by
    unfold gOf
    simp only [tgW] at h
    exact k _ _ (hP i v d ρ σ (ho i (by simp [tgVars])) r p) h
  | .tup ts, v, d, ρ, σ, Q, R, ho, r, h, p, k => by
    cases d <;> first
      | (simp [tgW] at h; done)
      | skip
    · rename_i ds
      simp only [tgW] at h
      obtain ⟨a, xs, rfl, h1, _, ra⟩ := r.of_lst w
      unfold gOf
      exact .inr ⟨a, xs, rfl, SqL.of h1, ra.length.trans h.1, gs_ok w hP ts (fun i hi => ho i (by simpa [tgVars] using hi)) ra h.2 p k⟩
    · rename_i ds
      simp only [tgW] at h
      obtain ⟨a, xs, rfl, h1, _, ra⟩ := r.of_tup w
      unfold gOf
      exact .inl ⟨a, xs, rfl, h1, ra.length.trans h.1, gs_ok w hP ts (fun i hi => ho i (by simpa [tgVars] using hi)) ra h.2 p k⟩
theorem gs_ok (w : Wd δ G H) (hP : ∀ i v d ρ σ, i ∈ own → Rl K G δ v d → P ρ σ → P (ρ.set i (f d)) (σ.set i (some v))) : ∀ (ts : Tgs) {vs : List V} {ds : List D} {ρ : List α} {σ : L2.St} {Q : List α → Prop} {R : L2.St → Hp → Prop}, (∀ i ∈ tgsVars ts, i ∈ own) → RlAll K G δ vs ds → tgsW f ts ds ρ Q → P ρ σ →
    (∀ ρ' σ', P ρ' σ' → Q ρ' → R σ' H) → gsOf K ts vs σ H R
  | .nil, _, _, ρ, σ, Q, R, ho, .nil, h, p, k => by
    unfold gsOf
    simp only [tgsW] at h
    exact ⟨rfl, k _ _ p h⟩
  | .nil, _, _, ρ, σ, Q, R, ho, .cons _ _, h, p, k => by simp [tgsW] at h
  | .cons _ _, _, _, ρ, σ, Q, R, ho, .nil, h, p, k => by simp [tgsW] at h
  | .cons t r, _, _, ρ, σ, Q, R, ho, .cons rv rt, h, p, k => by
    unfold gsOf
    simp only [tgsW] at h
    refine ⟨_, _, rfl, g_ok w hP t (fun i hi => ho i (by simp [tgsVars, hi])) rv h p fun ρ' σ' p' q => ?_⟩
    exact gs_ok w hP r (fun i hi => ho i (by simp [tgsVars, hi])) rt q p' k
end
end
section
variable {S : SC} {W : WX} {sc : Scope} {X : Cx}
theorem assign_plain {env : PySem.Env} : ∀ {es : List Expr}, (∀ e ∈ es, isStarE e = false) → (assignEach es env).length = es.length ∧ (assignEach es env).findIdx? (·.1) = none ∧ (assignEach es env).map (·.2) = es.map (fun e => assign e env)
  | [], _ => ⟨rfl, rfl, rfl⟩
  | e :: es, h => by
    obtain ⟨a, b, c⟩ := assign_plain (env := env) fun y hy => h y (List.mem_cons_of_mem _ hy)
    have he := h e (List.mem_cons_self ..)
    have eq : assignEach (e :: es) env = (false, assign e env) :: assignEach es env := by
      cases e <;> first
        | rfl
        | exact absurd he (by simp [isStarE])
    rw [eq]
    refine ⟨congrArg (· + 1) a, ?_, congrArg (_ :: ·) c⟩
    rw [List.findIdx?_cons, b]; rfl
mutual
theorem pg_of (so : SOk S) (h : Sx S sc X) (hc : X.calm = true) : ∀ {tg : Tg} {e : Expr}, tgC S.N sc tg e = true → PG X e (gOf S.K tg)
  | .one i, e, g => by
    simp only [tgC] at g
    unfold gOf
    split at g
    case h_1 x hx =>
      obtain ⟨p, rfl⟩ := asName_of hx
      obtain ⟨l1, l2, l3⟩ := h.loc g
      exact pg_name (by rw [h.N]; exact so.nd) l1 l2 l3
    case h_2 => cases g
  | .tup ts, e, g => by
    simp only [tgC] at g
    unfold gOf
    split at g
    case h_1 es hx =>
      obtain ⟨m, p, rfl⟩ := asTup_of hx
      obtain ⟨a, b, c⟩ := pgs_of so h hc g
      obtain ⟨l1, l2, _⟩ := assign_plain (env := X.env) b
      rw [← h.K]
      rw [← h.K] at a
      have z1 := pg_tup (k := m) (pos := p) hc a (l1.trans c.symm) l2
      have z2 := pg_lst (k := m) (pos := p) hc a (l1.trans c.symm) l2
      exact ⟨fun pins s σ H v u Q I r hw => hw.elim (z1.run pins s σ H v u Q I r) (z2.run pins s σ H v u Q I r)⟩
    case h_2 => cases g
theorem pgs_of (so : SOk S) (h : Sx S sc X) (hc : X.calm = true) : ∀ {ts : Tgs} {es : List Expr}, tgsC S.N sc ts es = true → PGs X es (gsOf S.K ts) ∧ (∀ e ∈ es, isStarE e = false) ∧ lenT ts = es.length
  | .nil, [], g => by unfold gsOf; exact ⟨pgs_nil, fun e he => by simp at he, rfl⟩
  | .nil, _ :: _, g => by simp [tgsC] at g
  | .cons _ _, [], g => by simp [tgsC] at g
  | .cons t r, e :: es, g => by
    simp only [tgsC, Bool.and_eq_true, Bool.not_eq_true'] at g
    obtain ⟨⟨g0, g1⟩, g2⟩ := g
    obtain ⟨a, b, c⟩ := pgs_of so h hc g2
    unfold gsOf
    refine ⟨pgs_cons (pg_of so h hc g1) a ?_, fun y hy => (List.mem_cons.mp hy).elim (fun z => by rw [z]; exact g0) (b y), congrArg (· + 1) c⟩
    cases e <;> first
      | rfl
      | exact absurd g0 (by simp [isStarE])
end
/-! ### slots set -/
theorem es_set {K : PySem.W.Frag} {G : Hp} {δ : Option (Addr × Addr)} {ρ : Env} {σ : L2.St} {v : V} {d : D} (i : Nat) (e : ES K G δ ρ σ) (r : Rl K G δ v d) : ES K G δ (ρ.set i (some d)) (σ.set i (some v)) := by
  refine ⟨by rw [List.length_set, List.length_set]; exact e.1, fun j x hx => ?_⟩
  by_cases z : i = j
  · subst z
    have hi : i < ρ.length := by
      have := (List.getElem?_eq_some_iff.mp hx).1
      simpa using this
    rw [List.getElem?_set_self hi] at hx
    have : d = x := by simpa using hx
    subst this
    exact ⟨v, by rw [List.getElem?_set_self (by rw [← e.1]; exact hi)], r⟩
  · rw [List.getElem?_set_ne z] at hx
    obtain ⟨u, hu, ru⟩ := e.2 j x hx
    exact ⟨u, by rw [List.getElem?_set_ne z]; exact hu, ru⟩
theorem es_none {K : PySem.W.Frag} {G : Hp} {δ : Option (Addr × Addr)} {ρ : Env} {σ : L2.St} (i : Nat) (e : ES K G δ ρ σ) : ES K G δ (ρ.set i none) (σ.set i none) := by
  refine ⟨by rw [List.length_set, List.length_set]; exact e.1, fun j x hx => ?_⟩
  by_cases z : i = j
  · subst z
    by_cases hi : i < ρ.length
    · rw [List.getElem?_set_self hi] at hx; cases hx
    · rw [List.getElem?_eq_none (by simpa using hi)] at hx; cases hx
  · rw [List.getElem?_set_ne z] at hx
    obtain ⟨u, hu, ru⟩ := e.2 j x hx
    exact ⟨u, by rw [List.getElem?_set_ne z]; exact hu, ru⟩
theorem es_wipe {K : PySem.W.Frag} {G : Hp} {δ : Option (Addr × Addr)} {ρ : Env} {σ : L2.St} (e : ES K G δ ρ σ) : ∀ vs : List Nat, ES K G δ (wipeD ρ vs) (wipe σ vs)
  | [] => e
  | v :: vs => es_none v (es_wipe e vs)
theorem wipe_get (σ : L2.St) : ∀ (vs : List Nat) (j : Nat), (wipe σ vs)[j]? = if j ∈ vs ∧ j < σ.length then some none else σ[j]?
  | [], j => by simp [wipe]
  | v :: vs, j => by
    unfold wipe
    by_cases z : v = j
    · subst z
      by_cases hv : v < σ.length
      · rw [List.getElem?_set_self (by rw [wipe_length]; exact hv)]
        simp [hv]
      · rw [List.getElem?_eq_none (by rw [List.length_set, wipe_length]; omega)]
        simp [hv]
    · rw [List.getElem?_set_ne z, wipe_get σ vs j]
      have : j ∈ v :: vs ↔ j ∈ vs := by simp [Ne.symm z]
      simp only [this]
theorem wipe_set {i : Nat} {x : Option V} {own : List Nat} (h : i ∈ own) (σ : L2.St) : wipe (σ.set i x) own = wipe σ own := by
  apply List.ext_getElem?
  intro j
  rw [wipe_get, wipe_get, List.length_set]
  by_cases z : j ∈ own ∧ j < σ.length
  · rw [if_pos z, if_pos z]
  · rw [if_neg z, if_neg z]
    by_cases hj : i = j
    · subst hj
      have : ¬ i < σ.length := fun q => z ⟨h, q⟩
      rw [List.getElem?_eq_none (by rw [List.length_set]; omega), List.getElem?_eq_none (by omega)]
    · rw [List.getElem?_set_ne hj]
theorem wipe_wipe (own : List Nat) (σ : L2.St) : wipe (wipe σ own) own = wipe σ own := by
  apply List.ext_getElem?
  intro j
  rw [wipe_get, wipe_length]
  by_cases z : j ∈ own ∧ j < σ.length
  · rw [if_pos z, wipe_get, if_pos z]
  · rw [if_neg z]

/-! ### walks -/
def iSeq (K : PySem.W.Frag) (te : TE) : TI := fun σ H R => te σ H fun x H1 => ∃ a xs, x = .ref a ∧ ((SqL K H1 a xs ∧ R (Itl K a) H1) ∨ (SqT K H1 a xs ∧ R (Itt K a) H1))
theorem pi_seq {X : Cx} {tg e : Expr} {te : TE} (he : PE X e te) : PI X tg e (iSeq X.K te) := by
  refine ⟨fun pins s σ H R I h => thn (he.run pins s σ H _ I h) fun v s1 ⟨x, H1, I1, r1, a, xs, e, q1⟩ => ?_⟩
  subst e
  cases r1
  have fr := I1.hok.fresh (Nat.le_refl s1.heap.objs.size)
  have fp : ∀ b ∈ [s1.heap.objs.size], FpOk X pins H1 b := fun b hb => by
    rw [List.mem_singleton] at hb
    rw [hb]
    exact I1.fpOk (Nat.le_refl _) fr
  rcases q1 with ⟨hq, q⟩ | ⟨hq, q⟩
  · obtain ⟨its, rv, pl, _⟩ := I1.list hq
    exact wpAny_pyIter_list pl.isList ⟨_, [s1.heap.objs.size], _, _, H1, rfl, I1.kept (t' := s1.toks) fun _ _ z => Heap.get?_push_of_some _ z, turn_list a _, ⟨_, Heap.get?_push_size _ rfl, rfl, rfl⟩, fp, q⟩
  · obtain ⟨its, rv, pl, _⟩ := I1.tuple hq
    exact wpAny_pyIter_tuple (items := its.toArray) pl ⟨_, [s1.heap.objs.size], _, _, H1, rfl, I1.kept (t' := s1.toks) fun _ _ z => Heap.get?_push_of_some _ z, turn_tuple a _, ⟨_, Heap.get?_push_size _ rfl, rfl, rfl⟩, fp, q⟩
theorem wk_list {K : PySem.W.Frag} {δ : Option (Addr × Addr)} {G0 : Hp} {a : Addr} {xs : List V} {ds : List D} (h : G0 a = some (.lst xs)) (r : RlAll K G0 δ xs ds) : Wk K δ G0 (Itl K a) ds := by
  intro G H i w e
  have hH : H a = some (.lst xs) := w.ex _ _ (e _ _ h)
  refine ⟨fun hi => ?_, fun hi => ⟨xs, SqL.of hH, by rw [r.length]; exact hi⟩⟩
  obtain ⟨v, hv, rv⟩ := r.get (List.getElem?_eq_getElem hi)
  refine ⟨⟨xs, v, SqL.of hH, hv⟩, fun x H' hy => ?_⟩
  obtain ⟨rfl, hx⟩ := hy
  have := hx xs (SqL.of hH)
  rw [hv] at this; cases this
  exact ⟨G, _, Nx.refl w, List.getElem?_eq_getElem hi, rv.mono e⟩
theorem wk_tup {K : PySem.W.Frag} {δ : Option (Addr × Addr)} {G0 : Hp} {a : Addr} {xs : List V} {ds : List D} (h : SqT K G0 a xs) (r : RlAll K G0 δ xs ds) : Wk K δ G0 (Itt K a) ds := by
  intro G H i w e
  have hH : SqT K H a xs := Evl.ex_t w.ex (Evl.ex_t e h)
  refine ⟨fun hi => ?_, fun hi => ⟨xs, hH, by rw [r.length]; exact hi⟩⟩
  obtain ⟨v, hv, rv⟩ := r.get (List.getElem?_eq_getElem hi)
  refine ⟨⟨xs, v, hH, hv⟩, fun x H' hy => ?_⟩
  obtain ⟨rfl, hx⟩ := hy
  have := hx xs hH
  rw [hv] at this; cases this
  exact ⟨G, _, Nx.refl w, List.getElem?_eq_getElem hi, rv.mono e⟩
theorem JI.seq {c : CE} {tg e : Expr} (ha : JE S W sc c e) : JI S W sc (.seq c) tg e := by
  obtain ⟨ta, pa, sa⟩ := ha
  refine ⟨iSeq S.K ta, fun X x tk => by rw [← x.K]; exact pi_seq (pa X x tk), ?_⟩
  intro δ G H ρ σ E Q R a h k
  refine sa δ G H ρ σ E _ _ a h fun G1 H1 v1 d1 n1 r1 q1 => ?_
  rcases q1 with ⟨ds, rfl, q⟩ | ⟨ds, rfl, q⟩
  · obtain ⟨a', xs, rfl, h1, g1, ra⟩ := r1.of_lst n1.wd
    exact ⟨a', xs, rfl, .inl ⟨SqL.of h1, k _ _ _ _ n1 (wk_list g1 ra) q⟩⟩
  · obtain ⟨a', xs, rfl, h1, g1, ra⟩ := r1.of_tup n1.wd
    exact ⟨a', xs, rfl, .inr ⟨h1, k _ _ _ _ n1 (wk_tup g1 ra) q⟩⟩
theorem wk_str {K : PySem.W.Frag} {δ : Option (Addr × Addr)} {G0 : Hp} (s : Str) : Wk K δ G0 (Its s) (sgnD s) := by
  intro G H i w e
  have l : (sgnD s).length = s.cps.size := by simp [sgnD]
  refine ⟨fun hi => ⟨by rw [l] at hi; exact hi, fun x H' hy => ?_⟩, fun hi => by rw [l] at hi; exact hi⟩
  obtain ⟨rfl, c, hc, rfl⟩ := hy
  refine ⟨G, .str ⟨#[c]⟩, Nx.refl w, ?_, .str _⟩
  simp [sgnD, hc]
theorem JI.sgn {c : CE} {tg e : Expr} (ha : JE S W sc c e) : JI S W sc (.sgn c) tg e := by
  obtain ⟨ta, pa, sa⟩ := ha
  refine ⟨iStr ta, fun X x tk => pi_str (pa X x tk), ?_⟩
  intro δ G H ρ σ E Q R a h k
  refine sa δ G H ρ σ E _ _ a h fun G1 H1 v1 d1 n1 r1 q1 => ?_
  obtain ⟨s, rfl, q⟩ := q1
  exact ⟨s, r1.of_str, k _ _ _ _ n1 (wk_str s) q⟩
theorem wk_range {K : PySem.W.Frag} {δ : Option (Addr × Addr)} {G0 : Hp} (lo : Int) (n : Nat) : Wk K δ G0 (Itr lo n) (rngD lo n) := by
  intro G H i w e
  have l : (rngD lo n).length = n := by simp [rngD]
  refine ⟨fun hi => ⟨by rw [l] at hi; exact hi, fun x H' hy => ?_⟩, fun hi => by rw [l] at hi; exact hi⟩
  obtain ⟨rfl, rfl⟩ := hy
  rw [l] at hi
  exact ⟨G, .int (lo + i), Nx.refl w, by simp [rngD, hi], .int _⟩
theorem enum_len : ∀ (i : Nat) (xs : List D), (enumD i xs).length = xs.length
  | _, [] => rfl
  | i, x :: xs => by simp [enumD, enum_len (i + 1) xs]
theorem enum_get : ∀ (k i : Nat) (xs : List D) (x : D), xs[i]? = some x → (enumD k xs)[i]? = some (.tuple [.int (k + i : Nat), x])
  | k, i, [], x, h => by simp at h
  | k, 0, y :: xs, x, h => by simp at h; subst h; rfl
  | k, i + 1, y :: xs, x, h => by
    have q := enum_get (k + 1) i xs x (by simpa using h)
    have e : k + 1 + i = k + (i + 1) := by omega
    rw [e] at q
    exact q
theorem JI.enum {c : CE} {tg e : Expr} {p q : Pos} (so : SOk S) (g1 : glC sc "enumerate" = true) (g2 : ("enumerate" : Str) ∈ S.cf.bl) (gu : (asTup tg).isSome = true) (gs : isStar e = false) (ha : JE S W sc c e) :
    JI S W sc (.enum c) tg (.Call (.Name "enumerate" p) [e] [] q) := by
  obtain ⟨ta, pa, sa⟩ := ha
  obtain ⟨el, hel⟩ := Option.isSome_iff_exists.mp gu
  obtain ⟨kk, tp, rfl⟩ := asTup_of hel
  refine ⟨En.iEnumT S.K (tCons ta tNil), fun X x tk => by
    rw [← x.K]
    exact En.pi_enumT (x.gl g1).1 (by rw [x.mg]; exact so.bl _ g2) (pa_cons (pa X x tk) pa_nil (star_one gs)) (by rw [star_one gs]; rfl), ?_⟩
  intro δ G H ρ σ E Q R a h k
  refine sa δ G H ρ σ E _ _ a h fun G1 H1 v1 d1 n1 r1 q1 => ?_
  rcases q1 with ⟨xs, rfl, q⟩ | ⟨xs, rfl, q⟩
  · obtain ⟨a1, us, rfl, h1, g1, ra⟩ := r1.of_lst n1.wd
    refine ⟨a1, us, rfl, .inl ⟨SqL.of h1, k _ _ _ _ n1 (fun G H i w e => ?_) q⟩⟩
    have s1 : SqL S.K H a1 us := SqL.of (w.ex _ _ (e _ _ g1))
    refine ⟨fun hi => ?_, fun hi => ⟨us, s1, by rw [enum_len] at hi; rw [ra.length]; exact hi⟩⟩
    rw [enum_len] at hi
    have i1 := List.getElem?_eq_getElem (l := xs) (i := i) hi
    obtain ⟨v, hv, rv⟩ := ra.get i1
    refine ⟨⟨us, v, s1, hv⟩, fun x H' hy => ?_⟩
    obtain ⟨T, x1, rfl, hT, rfl, y1⟩ := hy
    have z1 := y1 us s1
    rw [hv] at z1; cases z1
    obtain ⟨n, r⟩ := nx_tup w hT (.cons (.int i) (.cons (rv.mono e) .nil))
    refine ⟨_, _, n, enum_get 0 i xs _ i1, ?_⟩
    rw [Nat.zero_add]
    exact r
  · obtain ⟨a1, us, rfl, h1, g1, ra⟩ := r1.of_tup n1.wd
    refine ⟨a1, us, rfl, .inr ⟨h1, k _ _ _ _ n1 (fun G H i w e => ?_) q⟩⟩
    have s1 : SqT S.K H a1 us := Evl.ex_t w.ex (Evl.ex_t e g1)
    refine ⟨fun hi => ?_, fun hi => ⟨us, s1, by rw [enum_len] at hi; rw [ra.length]; exact hi⟩⟩
    rw [enum_len] at hi
    have i1 := List.getElem?_eq_getElem (l := xs) (i := i) hi
    obtain ⟨v, hv, rv⟩ := ra.get i1
    refine ⟨⟨us, v, s1, hv⟩, fun x H' hy => ?_⟩
    obtain ⟨T, x1, rfl, hT, rfl, y1⟩ := hy
    have z1 := y1 us s1
    rw [hv] at z1; cases z1
    obtain ⟨n, r⟩ := nx_tup w hT (.cons (.int i) (.cons (rv.mono e) .nil))
    refine ⟨_, _, n, enum_get 0 i xs _ i1, ?_⟩
    rw [Nat.zero_add]
    exact r
theorem JI.zip {c d : CE} {tg e f : Expr} {p q : Pos} (so : SOk S) (g1 : glC sc "zip" = true) (g2 : ("zip" : Str) ∈ S.cf.bl) (gu : (asTup tg).isSome = true) (gs : isStar e = false) (gt : isStar f = false) (ha : JE S W sc c e) (hb : JE S W sc d f) :
    JI S W sc (.zip c d) tg (.Call (.Name "zip" p) [e, f] [] q) := by
  obtain ⟨ta, pa, sa⟩ := ha
  obtain ⟨tb, pb, sb⟩ := hb
  obtain ⟨el, hel⟩ := Option.isSome_iff_exists.mp gu
  obtain ⟨kk, tp, rfl⟩ := asTup_of hel
  refine ⟨RZ.iZipA S.K (tCons ta (tCons tb tNil)), fun X x tk => by
    rw [← x.K]
    exact RZ.pi_zipA (x.gl g1).1 (by rw [x.mg]; exact so.bl _ g2) (pa_cons (pa X x tk) (pa_cons (pb X x tk) pa_nil (star_one gt)) (star_one gs)) (star_one gs) (by rw [star_one gt]; rfl), ?_⟩
  intro δ G H ρ σ E Q R a h k
  refine sa δ G H ρ σ E _ _ a h fun G1 H1 v1 d1 n1 r1 q1 => sb δ G1 H1 ρ σ E _ _ (a.next n1) q1 fun G2 H2 v2 d2 n2 r2 q2 => ?_
  have r1 := r1.mono n2.grow
  have lz : ∀ (xs ys : List D), (zipD xs ys).length = min xs.length ys.length := by
    intro xs
    induction xs with
    | nil => intro ys; simp [zipD]
    | cons x xs ih => intro ys; cases ys with
      | nil => simp [zipD]
      | cons y ys => simp [zipD, ih, Nat.succ_min_succ]
  have gz : ∀ (xs ys : List D) (i : Nat) (x y : D), xs[i]? = some x → ys[i]? = some y → (zipD xs ys)[i]? = some (.tuple [x, y]) := by
    intro xs
    induction xs with
    | nil => intro ys i x y h; simp at h
    | cons u xs ih => intro ys i x y h1 h2; cases ys with
      | nil => simp at h2
      | cons w ys => cases i with
        | zero =>
          simp at h1 h2
          subst h1; subst h2; rfl
        | succ i => exact ih ys i x y (by simpa using h1) (by simpa using h2)
  rcases q2 with ⟨xs, ys, rfl, rfl, q⟩ | ⟨xs, ys, rfl, rfl, q⟩
  · obtain ⟨a1, us, rfl, h1, g1, ra⟩ := r1.of_lst n2.wd
    obtain ⟨b1, vs, rfl, h2, g2, rb⟩ := r2.of_lst n2.wd
    refine ⟨a1, b1, us, vs, rfl, .inl ⟨SqL.of h1, SqL.of h2, k _ _ _ _ (n1.trans n2) (fun G H i w e => ?_) q⟩⟩
    have s1 : SqL S.K H a1 us := SqL.of (w.ex _ _ (e _ _ g1))
    have s2 : SqL S.K H b1 vs := SqL.of (w.ex _ _ (e _ _ g2))
    refine ⟨fun hi => ?_, fun hi => ⟨us, vs, s1, s2, by rw [lz] at hi; rw [ra.length, rb.length]; omega⟩⟩
    rw [lz] at hi
    have i1 := List.getElem?_eq_getElem (l := xs) (i := i) (by omega)
    have i2 := List.getElem?_eq_getElem (l := ys) (i := i) (by omega)
    obtain ⟨v, hv, rv⟩ := ra.get i1
    obtain ⟨u, hu, ru⟩ := rb.get i2
    refine ⟨⟨us, vs, v, u, s1, s2, hv, hu⟩, fun x H' hy => ?_⟩
    obtain ⟨T, x1, x2, rfl, hT, rfl, y1, y2⟩ := hy
    have z1 := y1 us s1
    have z2 := y2 vs s2
    rw [hv] at z1; cases z1
    rw [hu] at z2; cases z2
    obtain ⟨n, r⟩ := nx_tup w hT (.cons (rv.mono e) (.cons (ru.mono e) .nil))
    exact ⟨_, _, n, gz xs ys i _ _ i1 i2, r⟩
  · obtain ⟨a1, us, rfl, h1, g1, ra⟩ := r1.of_tup n2.wd
    obtain ⟨b1, vs, rfl, h2, g2, rb⟩ := r2.of_tup n2.wd
    refine ⟨a1, b1, us, vs, rfl, .inr ⟨h1, h2, k _ _ _ _ (n1.trans n2) (fun G H i w e => ?_) q⟩⟩
    have s1 : SqT S.K H a1 us := Evl.ex_t w.ex (Evl.ex_t e g1)
    have s2 : SqT S.K H b1 vs := Evl.ex_t w.ex (Evl.ex_t e g2)
    refine ⟨fun hi => ?_, fun hi => ⟨us, vs, s1, s2, by rw [lz] at hi; rw [ra.length, rb.length]; omega⟩⟩
    rw [lz] at hi
    have i1 := List.getElem?_eq_getElem (l := xs) (i := i) (by omega)
    have i2 := List.getElem?_eq_getElem (l := ys) (i := i) (by omega)
    obtain ⟨v, hv, rv⟩ := ra.get i1
    obtain ⟨u, hu, ru⟩ := rb.get i2
    refine ⟨⟨us, vs, v, u, s1, s2, hv, hu⟩, fun x H' hy => ?_⟩
    obtain ⟨T, x1, x2, rfl, hT, rfl, y1, y2⟩ := hy
    have z1 := y1 us s1
    have z2 := y2 vs s2
    rw [hv] at z1; cases z1
    rw [hu] at z2; cases z2
    obtain ⟨n, r⟩ := nx_tup w hT (.cons (rv.mono e) (.cons (ru.mono e) .nil))
    exact ⟨_, _, n, gz xs ys i _ _ i1 i2, r⟩
theorem JI.rng1 {c : CE} {tg e : Expr} {p q : Pos} (so : SOk S) (g1 : glC sc "range" = true) (g2 : ("range" : Str) ∈ S.cf.bl) (gs : isStar e = false) (ha : JE S W sc c e) : JI S W sc (.rng1 c) tg (.Call (.Name "range" p) [e] [] q) := by
  obtain ⟨ta, pa, sa⟩ := ha
  refine ⟨iRng1 (tCons ta tNil), fun X x tk => pi_range1 (x.gl g1).1 (by rw [x.mg]; exact so.bl _ g2) (pa_cons (pa X x tk) pa_nil (star_one gs)) (star_one gs), ?_⟩
  intro δ G H ρ σ E Q R a h k
  refine sa δ G H ρ σ E _ _ a h fun G1 H1 v1 d1 n1 r1 q1 => ?_
  obtain ⟨i, rfl, b, q⟩ := q1
  exact ⟨i, by rw [r1.of_int], b.1, b.2, k _ _ _ _ n1 (wk_range 0 _) q⟩
theorem JI.rng2 {c d : CE} {tg e f : Expr} {p q : Pos} (so : SOk S) (g1 : glC sc "range" = true) (g2 : ("range" : Str) ∈ S.cf.bl) (gs : isStar e = false) (gt : isStar f = false) (ha : JE S W sc c e) (hb : JE S W sc d f) : JI S W sc (.rng2 c d) tg (.Call (.Name "range" p) [e, f] [] q) := by
  obtain ⟨ta, pa, sa⟩ := ha
  obtain ⟨tb, pb, sb⟩ := hb
  refine ⟨iRng2 (tCons ta (tCons tb tNil)), fun X x tk => pi_range2 (x.gl g1).1 (by rw [x.mg]; exact so.bl _ g2) (pa_cons (pa X x tk) (pa_cons (pb X x tk) pa_nil (star_one gt)) (star_one gs)) (by rw [star_one gs, star_one gt]; rfl) (star_one gt), ?_⟩
  intro δ G H ρ σ E Q R a h k
  refine sa δ G H ρ σ E _ _ a h fun G1 H1 v1 d1 n1 r1 q1 => sb δ G1 H1 ρ σ E _ _ (a.next n1) q1 fun G2 H2 v2 d2 n2 r2 q2 => ?_
  obtain ⟨i, j, rfl, rfl, b, q⟩ := q2
  exact ⟨i, j, by rw [r1.of_int, r2.of_int], b, k _ _ _ _ (n1.trans n2) (wk_range i _) q⟩
end
end Ey

end
section
set_option Elab.async false
set_option linter.all false
set_option maxRecDepth 100000
set_option maxHeartbeats 1000000
/-! Ey10: the deck's ints, comprehensions, and the checker's word for expressions. -/
namespace Ey
open PySem PySem.Spec PyProof.Rows L2
open Evl (Ex)

theorem Rl.of_deck {K : PySem.W.Frag} {δ : Option (Addr × Addr)} {G : Hp} {v : V} (h : Rl K G δ v deckD) : ∃ p, δ = some p ∧ v = .ref p.1 := by
  unfold deckD at h
  generalize hd : PyData.dict [(.none, .none)] = d at h
  cases h with
  | @dic a kvs ds h1 h2 =>
    cases hd
    generalize hk : [((PyData.none : D), (PyData.none : D))] = l at h2
    cases h2 with
    | nil => cases hk
    | @cons k v kvs d ds r1 r2 =>
      have : kD k = .none := by
        injection hk with e1 e2
        injection e1 with e3 e4
        exact e3.symm
      cases k <;> simp [kD] at this
  | deck e => exact ⟨_, e, rfl⟩
  | _ => cases hd
theorem deck_get {H : Hp} {p : Addr × Addr} (h : DeckAt H p) {f : Str} (hf : f = "mixed" ∨ f = "draws") : ∃ i, DGet H p.1 (.str f) (some (.int i)) := by
  obtain ⟨kn, ns, m, c, k, h1, _⟩ := h
  rcases hf with rfl | rfl
  · refine ⟨m, ?_⟩
    have z := DGet.k (k := .inr "mixed") h1
    subst k
    exact z
  · refine ⟨c, ?_⟩
    have z := DGet.k (k := .inr "draws") h1
    subst k
    exact z
section
variable {S : SC} {W : WX} {sc : Scope} {X : Cx}
theorem J.dkI {j : Nat} {f z : Str} {k : Nat} {p p2 q : Pos} (g : varC S.N sc j z = true) (hf : f = "mixed" ∨ f = "draws") : JE S W sc (.dkI j f) (.Subscript (.Name z p) (.Constant (.str f) k p2) q) := by
  obtain ⟨_, pv, _⟩ := J.var (S := S) (W := W) (sc := sc) (p := p) g
  simp only [varC, Bool.and_eq_true, decide_eq_true_eq, Bool.not_eq_true'] at g
  obtain ⟨⟨⟨g1, g2⟩, g3⟩, g4⟩ := g
  refine ⟨tDGet (tVar j) (tC (.str f)), fun X x tk => pe_dget (by have := x.units; omega) (pe_var (by rw [x.N]; exact g1) (x.vis g2) g3 g4) pe_str (fun _ _ => rfl), ?_⟩
  intro δ G H ρ σ E Q R a h k
  obtain ⟨h1, h2⟩ := h
  obtain ⟨v, hv, rv⟩ := a.es.2 j _ h1
  obtain ⟨q, hq, rfl⟩ := rv.of_deck
  obtain ⟨_, _, dk⟩ := a.wd.dk q hq
  obtain ⟨i, di⟩ := deck_get dk hf
  exact ⟨_, hv, q.1, .int i, rfl, di, k _ _ _ _ (Nx.refl a.wd) (.int i) (h2 i)⟩

/-! ### comprehensions -/
def W0 : WX := fun _ _ _ _ => False
theorem lookup_rel {x : Str} {k : NameKind} : ∀ {names : List (Str × NameKind)}, names.lookup x = some k → ∀ f : Str × NameKind → Str × NameKind, (∀ y, (f y).1 = y.1 ∧ ((f y).2 = y.2 ∨ (y.2 = .free ∧ (f y).2 = .cell))) →
    (names.map f).lookup x = some k ∨ (k = .free ∧ (names.map f).lookup x = some .cell)
  | [], h, _, _ => by simp at h
  | (n, k') :: r, h, f, hf => by
    obtain ⟨f1, f2⟩ := hf (n, k')
    rw [List.map_cons]
    generalize f (n, k') = y at f1 f2
    obtain ⟨y1, y2⟩ := y
    simp only at f1 f2
    subst f1
    rw [List.lookup_cons] at h ⊢
    by_cases z : (x == y1) = true
    · rw [z] at h ⊢
      simp only [Option.some.injEq] at h ⊢
      subst h
      rcases f2 with f2 | ⟨f2, f3⟩
      · exact .inl f2
      · exact .inr ⟨f2, f3⟩
    · rw [Bool.not_eq_true] at z
      rw [z] at h ⊢
      exact lookup_rel h f hf
theorem Sx.blk (x : Sx S sc X) (s : Shared) (H : Hp) (scope : Scope) (C : Addr) (cl : List (Str × Addr)) (fp : List Addr) : Sx S scope (X.blk s H scope (compEnvC scope cl C X.env) fp) where
  prog := x.prog
  w := x.w
  K := x.K
  mg := x.mg
  base := x.base
  N := x.N
  cal := x.cal
  look := fun y k e => by
    show (relS scope X.env.scope).names.lookup y = some k ∨ (k = .free ∧ (relS scope X.env.scope).names.lookup y = some .cell)
    unfold relS
    refine lookup_rel e _ fun z => ?_
    obtain ⟨n, k⟩ := z
    simp only
    by_cases h : (k == NameKind.free && X.env.scope.kind == .function && X.env.scope.names.lookup n == some .cell) = true
    · rw [if_pos h]
      simp only [Bool.and_eq_true, beq_iff_eq] at h
      exact ⟨rfl, .inr ⟨h.1.1, rfl⟩⟩
    · rw [if_neg h]
      exact ⟨rfl, .inl rfl⟩
  fn := fun y e => by
    show (scope.names.lookup y == some .cell) = true
    rw [e]; rfl
  gd := x.gd
  rm := x.rm
theorem takes_blk {s : Shared} {H : Hp} {scope : Scope} {ce : PySem.Env} {fp : List Addr} : Takes (X.blk s H scope ce fp) W0 := fun _ _ ⟨_, _, _, _, _, _, _, _, _, _, _, _, _, _, _, _, w⟩ => w.elim
theorem Sx.blkOk (x : Sx S sc X) {scope : Scope} {own : List (Str × Nat)} (g : blkC S.N sc scope own = true) : BlkOk X.N X.env.scope scope own := by
  have b := blkOk_by g
  rw [x.N]
  refine ⟨b.kind, b.uniq, b.ix, fun y hy e => ?_, b.own⟩
  rcases b.free y hy e with z | z
  · rcases x.look _ _ z with q | ⟨q, _⟩
    · exact .inl q
    · cases q
  · rcases x.look _ _ z with q | ⟨_, q⟩
    · exact .inr q
    · exact .inl q
theorem folded_plain {e : Expr} (g : isSetE e = false) (env : PySem.Env) (x : Value) : foldedSetIterable e env x = pure x := by
  cases e <;> first
    | rfl
    | exact absurd g (by simp [isSetE])
theorem J.lc {own : List (Str × Nat)} {tg : Tg} {it : CI} {ifs : CTo} {elt : CE} {x t i : Expr} {fs : List Expr} {s : Scope} {p : Pos} (so : SOk S) (hc : S.cal = true) (g1 : blkC S.N sc s own = true) (g2 : isSetE i = false) (g3 : tgC S.N s tg t = true)
    (g4 : ∀ j ∈ tgVars tg, j ∈ own.map (·.2)) (hi : JI S W sc it t i) (hf : JTs S W0 s ifs fs) (he : JE S W0 s elt x) : JE S W sc (.lc own tg it ifs elt) (.ListComp x [⟨t, i, fs, 0⟩] s p) := by
  obtain ⟨wi, pi, si⟩ := hi
  obtain ⟨tf, pf, sf⟩ := hf
  obtain ⟨te, pe, se⟩ := he
  refine ⟨tLc wi (gOf S.K tg) tf te (own.map (·.2)), fun X h tk => ?_, ?_⟩
  · exact pe_lc (h.cal hc) (by rw [h.N]; exact so.nd) (pi X h tk) (h.blkOk g1) (fun s1 H C cl fp => pg_of so (h.blk s1 H s C cl fp) (h.cal hc) g3) (fun s1 H C cl fp => pf _ (h.blk s1 H s C cl fp) takes_blk)
      (fun s1 H C cl fp => pe _ (h.blk s1 H s C cl fp) takes_blk) (fun y => folded_plain g2 _ y)
  · intro δ G H ρ σ E Q R a h k
    refine si δ G H ρ σ E _ _ a h fun G1 H1 J items n1 wk q1 => ?_
    intro Dl hD
    have hG := free_of n1.wd.ex hD
    have nd := n1.wd.notdk hD
    refine ⟨fun i m H2 => m = items.length - i ∧ i ≤ items.length ∧ ∃ G2 av acc, acc.length ≤ i ∧ Nx δ G1 H1 G2 H2 ∧ H2 Dl = some (.lst av) ∧ G2 Dl = none ∧ RlAll S.K G2 δ av acc ∧
      lcGo (fun x R => tgW some tg x (wipeD ρ (own.map (·.2))) fun ρ' => wpTo S.Φ ifs E0 ρ' fun b => if b = true then wpE S.Φ elt E0 ρ' fun y => R (some y) else R none) (items.drop i) acc fun ys => Q (.list ys), ⟨_, rfl, Nat.zero_le _, G1, [], [], Nat.zero_le _, Nx.newH n1.wd hD, upd_same, hG, .nil, by simpa using q1.2⟩, ?_⟩
    rintro i m H2 ⟨rfl, hle, G2, av, acc, la, n2, hH2, hG2, ra, go⟩
    obtain ⟨wk1, wk2⟩ := wk G2 H2 i n2.wd n2.grow
    by_cases hi : i < items.length
    · obtain ⟨hgo, hy⟩ := wk1 hi
      refine .inr ⟨hgo, fun H' => ∃ G3 av acc, acc.length ≤ i + 1 ∧ Nx δ G1 H1 G3 H' ∧ H' Dl = some (.lst av) ∧ G3 Dl = none ∧ RlAll S.K G3 δ av acc ∧
        lcGo (fun x R => tgW some tg x (wipeD ρ (own.map (·.2))) fun ρ' => wpTo S.Φ ifs E0 ρ' fun b => if b = true then wpE S.Φ elt E0 ρ' fun y => R (some y) else R none) (items.drop (i + 1)) acc fun ys => Q (.list ys), fun H' ⟨G3, av3, acc3, z⟩ => ⟨_, by omega, rfl, by omega, G3, av3, acc3, z⟩, ?_⟩
      intro x H3 hx
      obtain ⟨G3, d, n3, hd, rd⟩ := hy x H3 hx
      have ed : items.drop i = d :: items.drop (i + 1) := by
        have := List.drop_eq_getElem_cons hi
        rw [this]
        rw [List.getElem?_eq_getElem hi] at hd
        cases hd; rfl
      rw [ed] at go
      unfold lcGo at go
      have kp := n3.keep Dl _ hH2 hG2 nd
      have n03 := n1.trans (n2.trans n3)
      refine g_ok (own := own.map (·.2)) (P := fun ρ' σ' => ES S.K G3 δ ρ' σ' ∧ wipe σ' (own.map (·.2)) = wipe σ (own.map (·.2))) n3.wd (fun i v d ρ σ' hi r p => ⟨es_set i p.1 r, by rw [wipe_set hi]; exact p.2⟩) tg g4 rd go
        ⟨es_wipe ⟨a.es.1, a.es.2.mono n03.grow⟩ _, wipe_wipe _ _⟩ fun ρ' σ' p q => ?_
      refine ⟨p.2, ?_⟩
      have at1 : At S W0 δ G3 H3 ρ' σ' E0 := ⟨n3.wd, p.1, fun _ _ _ _ _ _ _ e => e.elim⟩
      refine sf δ G3 H3 _ _ E0 _ _ at1 q fun G4 H4 b n4 q4 => ?_
      have kp4 := n4.keep Dl _ kp.1 kp.2 nd
      cases b with
      | false =>
        exact ⟨G4, av, acc, by omega, n2.trans (n3.trans n4), kp4.1, kp4.2, ra.mono (n3.trans n4).grow, q4⟩
      | true =>
        refine se δ G4 H4 _ _ E0 _ _ (at1.next n4) q4 fun G5 H5 y d5 n5 r5 q5 => ?_
        have kp5 := n5.keep Dl _ kp4.1 kp4.2 nd
        have nn := n2.trans (n3.trans (n4.trans n5))
        have sz : acc.length < sizeLine := by
          have := q1.1
          rw [sizeLine_eq]; omega
        refine ⟨av, kp5.1, by rw [ra.length]; exact sz, G5, av ++ [y], acc ++ [d5], by rw [List.length_append]; exact Nat.succ_le_succ la, nn.put hD kp5.2 nd, upd_same, kp5.2, ?_, q5⟩
        exact (ra.mono (n3.trans (n4.trans n5)).grow).append (.cons r5 .nil)
    · have e : i = items.length := by omega
      subst e
      refine .inl ⟨wk2 (Nat.le_refl _), ?_⟩
      rw [List.drop_length] at go
      have n4 := n2.fix hD hH2 hG2 nd
      exact k _ _ _ _ (n1.trans n4) (.lst upd_same (ra.mono (Evl.Ex.new hG2))) go
end
end Ey

end
section
set_option Elab.async false
set_option linter.all false
set_option maxRecDepth 100000
set_option maxHeartbeats 4000000
/-! Ey11: the checker's word, for expressions. -/
namespace Ey
open PySem PySem.Spec PyProof.Rows L2
open Evl (Ex)

theorem okEs_len {cf : Cfg} {N : List Str} {cal : Bool} {sc : Scope} : ∀ {c : CEs} {es : List Expr}, okEs cf N cal sc c es = true → lenC c = es.length
  | .nil, [], _ => rfl
  | .nil, _ :: _, h => by simp [okEs] at h
  | .cons _ _, [], h => by simp [okEs] at h
  | .cons _ r, _ :: es, h => by
    simp only [okEs, Bool.and_eq_true] at h
    exact congrArg (· + 1) (okEs_len h.2)
theorem okEs_star {cf : Cfg} {N : List Str} {cal : Bool} {sc : Scope} : ∀ {c : CEs} {es : List Expr}, okEs cf N cal sc c es = true → ∀ e ∈ es, isStar e = false
  | .nil, [], _, _, he => by simp at he
  | .nil, _ :: _, h, _, _ => by simp [okEs] at h
  | .cons _ _, [], h, _, _ => by simp [okEs] at h
  | .cons _ r, _ :: es, h, e, he => by
    simp only [okEs, Bool.and_eq_true, Bool.not_eq_true'] at h
    rcases List.mem_cons.mp he with z | z
    · rw [z]; exact h.1.1
    · exact okEs_star h.2 e z
variable {S : SC}
mutual
theorem okE_ok (so : SOk S) : ∀ (c : CE) (W : WX) (sc : Scope) (e : Expr), okE S.cf S.N S.cal sc c e = true → JE S W sc c e
  | .var i, W, sc, e, h => by
    unfold okE at h
    split at h
    · rename_i x hx; obtain ⟨p, rfl⟩ := asName_of hx; exact J.var h
    · cases h
  | .non, W, sc, e, h => by
    unfold okE at h
    obtain ⟨k, p, rfl⟩ := isNonE_of h
    exact J.cst (v := .non) (d := .none) (fun _ _ _ q => q) (fun _ _ => .non) fun _ => pe_non
  | .bl b, W, sc, e, h => by
    unfold okE at h
    split at h
    · rename_i x hx; obtain ⟨k, p, rfl⟩ := asCst_of hx
      obtain rfl := of_decide_eq_true h
      exact J.cst (v := .bl b) (d := .bool b) (fun _ _ _ q => q) (fun _ _ => .bl b) fun _ => pe_bl
    · cases h
  | .int i, W, sc, e, h => by
    unfold okE at h
    split at h
    · rename_i x hx; obtain ⟨k, p, rfl⟩ := asCst_of hx
      obtain rfl := of_decide_eq_true h
      exact J.cst (v := .int i) (d := .int i) (fun _ _ _ q => q) (fun _ _ => .int i) fun _ => pe_int
    · cases h
  | .str i, W, sc, e, h => by
    unfold okE at h
    split at h
    · rename_i x hx; obtain ⟨k, p, rfl⟩ := asCst_of hx
      obtain rfl := of_decide_eq_true h
      exact J.cst (v := .str i) (d := .str i) (fun _ _ _ q => q) (fun _ _ => .str i) fun _ => pe_str
    · cases h
  | .bin o a b, W, sc, e, h => by
    unfold okE at h
    split at h
    · rename_i x q y hx; obtain ⟨p, rfl⟩ := asBin_of hx
      simp only [Bool.and_eq_true] at h
      exact J.bin h.1.1 (okE_ok so a W sc _ h.1.2) (okE_ok so b W sc _ h.2)
    · cases h
  | .neg a, W, sc, e, h => by
    unfold okE at h
    split at h
    · rename_i x hx; obtain ⟨p, rfl⟩ := asUn_of hx
      exact J.neg (okE_ok so a W sc _ h)
    · cases h
  | .cmp o a b, W, sc, e, h => by
    unfold okE at h
    split at h
    · rename_i x q y hx; obtain ⟨p, rfl⟩ := asCmp_of hx
      simp only [Bool.and_eq_true, Bool.not_eq_true'] at h
      exact J.cmp h.1.1.1.2 h.1.1.2 (okE_ok so a W sc _ h.1.2) (okE_ok so b W sc _ h.2)
    · cases h
  | .chn o o' a b c, W, sc, e, h => by
    unfold okE at h
    split at h
    · rename_i x q y r z hx; obtain ⟨p, rfl⟩ := asChn_of hx
      simp only [Bool.and_eq_true, Bool.not_eq_true'] at h
      exact J.chn h.1.1.1.1.1.2 h.1.1.1.1.2 h.1.1.1.2 (okE_ok so a W sc _ h.1.1.2) (okE_ok so b W sc _ h.1.2) (okE_ok so c W sc _ h.2)
    · cases h
  | .and a b, W, sc, e, h => by
    unfold okE at h
    split at h
    · rename_i x r hx; obtain ⟨y, q, p, rfl, rfl⟩ := asBool_of hx
      simp only [Bool.and_eq_true] at h
      obtain ⟨h1, h2⟩ := h
      split at h2
      · rename_i z hz
        obtain ⟨o', p', e'⟩ := asOne_of hz
        cases e'
        exact J.and (okE_ok so a W sc _ h1) (J.one (okE_ok so b W sc _ h2))
      · exact J.and (okE_ok so a W sc _ h1) (okE_ok so b W sc _ h2)
    · cases h
  | .or a b, W, sc, e, h => by
    unfold okE at h
    split at h
    · rename_i x r hx; obtain ⟨y, q, p, rfl, rfl⟩ := asBool_of hx
      simp only [Bool.and_eq_true] at h
      obtain ⟨h1, h2⟩ := h
      split at h2
      · rename_i z hz
        obtain ⟨o', p', e'⟩ := asOne_of hz
        cases e'
        exact J.or (okE_ok so a W sc _ h1) (J.one (okE_ok so b W sc _ h2))
      · exact J.or (okE_ok so a W sc _ h1) (okE_ok so b W sc _ h2)
    · cases h
  | .not a, W, sc, e, h => by
    unfold okE at h
    split at h
    · rename_i x hx; obtain ⟨p, rfl⟩ := asUn_of hx
      exact J.not (okE_ok so a W sc _ h)
    · cases h
  | .ite t a b, W, sc, e, h => by
    unfold okE at h
    split at h
    · rename_i x y z hx; obtain ⟨p, rfl⟩ := asIte_of hx
      simp only [Bool.and_eq_true] at h
      exact J.ite (okT_ok so t W sc _ h.1.1) (okE_ok so a W sc _ h.1.2) (okE_ok so b W sc _ h.2)
    · cases h
  | .tup es, W, sc, e, h => by
    unfold okE at h
    split at h
    · rename_i xs hx; obtain ⟨k, p, rfl⟩ := asTup_of hx
      exact J.tup (okEs_ok so es W sc _ h)
    · cases h
  | .lst es, W, sc, e, h => by
    unfold okE at h
    split at h
    · rename_i xs hx; obtain ⟨p, rfl⟩ := asLst_of hx
      exact J.lst (okEs_ok so es W sc _ h)
    · cases h
  | .dis ks es, W, sc, e, h => by
    unfold okE at h
    split at h
    · rename_i xs ys hx; obtain ⟨p, rfl⟩ := asDis_of hx
      simp only [Bool.and_eq_true, decide_eq_true_eq] at h
      exact J.dis h.1.1.1.1.1 h.1.1.1.2 h.1.1.2 h.1.2 h.2 (okEs_ok so es W sc _ h.1.1.1.1.2) (okEs_len h.1.1.1.1.2)
    · cases h
  | .ix a b, W, sc, e, h => by
    unfold okE at h
    split at h
    · rename_i x y hx; obtain ⟨p, rfl⟩ := asSub_of hx
      simp only [Bool.and_eq_true] at h
      exact J.ix h.1.1 (okE_ok so a W sc _ h.1.2) (okE_ok so b W sc _ h.2)
    · cases h
  | .sl a lo hi, W, sc, e, h => by
    unfold okE at h
    split at h
    · rename_i x y hx; obtain ⟨p, rfl⟩ := asSub_of hx
      split at h
      · rename_i l u hy; obtain ⟨p2, rfl⟩ := asSlc_of hy
        simp only [Bool.and_eq_true] at h
        exact J.sl (okE_ok so a W sc _ h.1.1) (okP_ok so lo W sc _ h.1.2) (okP_ok so hi W sc _ h.2)
      · cases h
    · cases h
  | .rev a, W, sc, e, h => by
    unfold okE at h
    split at h
    · rename_i x y hx; obtain ⟨p, rfl⟩ := asSub_of hx
      simp only [Bool.and_eq_true] at h
      obtain ⟨k, p1, p2, p3, rfl⟩ := isRev_of h.1
      exact J.rev (okE_ok so a W sc _ h.2)
    · cases h
  | .call f es, W, sc, e, h => by
    unfold okE at h
    split at h
    · rename_i g xs hx; obtain ⟨p, q, rfl⟩ := asCall_of hx
      simp only [Bool.and_eq_true, decide_eq_true_eq] at h
      obtain ⟨⟨⟨⟨h1, h2⟩, h3⟩, h4⟩, h6⟩ := h
      subst h2
      cases xs with
      | nil =>
        cases es with
        | nil => exact J.call0 so h3 h4
        | cons _ _ => simp [okEs] at h6
      | cons x xs => exact J.call so h3 h4 (okEs_ok so es W sc _ h6)
    · cases h
  | .callK f es ks kes pm, W, sc, e, h => by
    unfold okE at h
    split at h
    · rename_i g xs ws hx; obtain ⟨p, q, rfl⟩ := asCall_of hx
      simp only [Bool.and_eq_true, decide_eq_true_eq] at h
      obtain ⟨⟨⟨⟨⟨⟨⟨⟨⟨h1, h2⟩, h3⟩, h4⟩, h5⟩, h6⟩, h7⟩, h8⟩, h9⟩, h10⟩ := h
      subst h2
      exact J.callK so h3 h4 h6 h7 (okEs_ok so es W sc _ h8) (okEs_len h8) (okEs_ok so kes W sc _ h9) ((okEs_len h9).trans (by simp))
    · cases h
  | .bi f es, W, sc, e, h => by
    unfold okE at h
    split at h
    · rename_i g xs hx; obtain ⟨p, q, rfl⟩ := asCall_of hx
      simp only [Bool.and_eq_true, decide_eq_true_eq] at h
      obtain ⟨⟨⟨⟨⟨h1, h2⟩, h3⟩, h4⟩, h5⟩, h6⟩ := h
      subst h2
      cases xs with
      | nil => exact absurd rfl h5
      | cons x xs => exact J.bi so h1 h3 (by split <;> rename_i z <;> simp [z] at h4 <;> exact h4) (okEs_star h6) (okEs_ok so es W sc _ h6)
    · cases h
  | .isi a t, W, sc, e, h => by
    unfold okE at h
    split at h
    · rename_i g x y hx; obtain ⟨p, q, rfl⟩ := asCall_of hx
      simp only [Bool.and_eq_true, decide_eq_true_eq, Bool.not_eq_true'] at h
      obtain ⟨⟨⟨⟨⟨h1, h2⟩, h3⟩, h4⟩, h5⟩, h6⟩ := h
      subst h1
      split at h6
      · rename_i z hz; obtain ⟨p2, rfl⟩ := asName_of hz
        simp only [Bool.and_eq_true, decide_eq_true_eq] at h6
        exact J.isi so h2 h3 h4 h6.1.1 h6.1.2 h6.2 (okE_ok so a W sc _ h5)
      · cases h6
    · cases h
  | .lens a, W, sc, e, h => by
    unfold okE at h
    split at h
    · rename_i g x hx; obtain ⟨p, q, rfl⟩ := asCall_of hx
      simp only [Bool.and_eq_true, decide_eq_true_eq, Bool.not_eq_true'] at h
      obtain ⟨⟨⟨⟨⟨h1, h2⟩, h3⟩, h4⟩, h5⟩, h6⟩ := h
      subst h2
      split at h6
      · rename_i z y hy; obtain ⟨p', q', rfl⟩ := asCall_of hy
        simp only [Bool.and_eq_true, decide_eq_true_eq, Bool.not_eq_true'] at h6
        obtain ⟨⟨⟨⟨k1, k2⟩, k3⟩, k4⟩, k5⟩ := h6
        subst k1
        exact J.lens so h1 h3 h4 k2 k3 k4 (okE_ok so a W sc _ k5)
      · cases h6
    · cases h
  | .con x k, W, sc, e, h => by
    unfold okE at h
    split at h
    · rename_i z hz; obtain ⟨p, rfl⟩ := asName_of hz
      simp only [Bool.and_eq_true, decide_eq_true_eq, List.any_eq_true] at h
      obtain ⟨⟨h1, h2⟩, w, h3, rfl⟩ := h
      subst h1
      exact J.con so h2 h3
    · cases h
  | .lc own tg it ifs elt, W, sc, e, h => by
    unfold okE at h
    split at h
    · rename_i x t i fs s hx; obtain ⟨p, rfl⟩ := asLc_of hx
      simp only [Bool.and_eq_true, List.all_eq_true, decide_eq_true_eq, Bool.not_eq_true'] at h
      obtain ⟨⟨⟨⟨⟨⟨⟨h1, h2⟩, h3⟩, h4⟩, h5⟩, h6⟩, h7⟩, h8⟩ := h
      exact J.lc so h1 h2 h3 h5 h8 (okI_ok so it W sc _ _ h4) (okTo_ok so ifs W0 s _ h6) (okE_ok so elt W0 s _ h7)
    · cases h
  | .dkI j f, W, sc, e, h => by
    unfold okE at h
    split at h
    · rename_i x y hx; obtain ⟨p, rfl⟩ := asSub_of hx
      simp only [Bool.and_eq_true, decide_eq_true_eq] at h
      obtain ⟨⟨⟨h1, h2⟩, h3⟩, h4⟩ := h
      unfold keyIsE at h3
      split at h2
      · rename_i z hz; obtain ⟨p2, rfl⟩ := asName_of hz
        split at h3
        · rename_i u hu; obtain ⟨k, p3, rfl⟩ := asCst_of hu
          obtain rfl := of_decide_eq_true h3
          exact J.dkI h2 h4
        · cases h3
      · cases h2
    · cases h
theorem okEs_ok (so : SOk S) : ∀ (c : CEs) (W : WX) (sc : Scope) (e : List Expr), okEs S.cf S.N S.cal sc c e = true → JA S W sc c e
  | .nil, W, sc, [], _ => JA.nil
  | .nil, W, sc, _ :: _, h => by simp [okEs] at h
  | .cons _ _, W, sc, [], h => by simp [okEs] at h
  | .cons c r, W, sc, e :: es, h => by
    simp only [okEs, Bool.and_eq_true, Bool.not_eq_true'] at h
    exact JA.cons h.1.1 (okE_ok so c W sc e h.1.2) (okEs_ok so r W sc es h.2)
theorem okP_ok (so : SOk S) : ∀ (c : CP) (W : WX) (sc : Scope) (e : Option Expr), okP S.cf S.N S.cal sc c e = true → JO S W sc c e
  | .no, W, sc, none, _ => JO.no
  | .no, W, sc, some _, h => by simp [okP] at h
  | .yes _, W, sc, none, h => by simp [okP] at h
  | .yes c, W, sc, some e, h => JO.yes (okE_ok so c W sc e (by simpa [okP] using h))
theorem okTo_ok (so : SOk S) : ∀ (c : CTo) (W : WX) (sc : Scope) (e : List Expr), okTo S.cf S.N S.cal sc c e = true → JTs S W sc c e
  | .no, W, sc, [], _ => JTs.no
  | .no, W, sc, _ :: _, h => by simp [okTo] at h
  | .yes _, W, sc, [], h => by simp [okTo] at h
  | .yes _, W, sc, _ :: _ :: _, h => by simp [okTo] at h
  | .yes c, W, sc, [e], h => JTs.yes (okT_ok so c W sc e (by simpa [okTo] using h))
theorem okT_ok (so : SOk S) : ∀ (c : CT) (W : WX) (sc : Scope) (e : Expr), okT S.cf S.N S.cal sc c e = true → JT S W sc c e
  | .val c, W, sc, e, h => by
    simp only [okT, Bool.and_eq_true] at h
    exact JT.val h.1 (okE_ok so c W sc e h.2)
  | .cmp o a b, W, sc, e, h => by
    unfold okT at h
    split at h
    · rename_i x q y hx; obtain ⟨p, rfl⟩ := asCmp_of hx
      simp only [Bool.and_eq_true, Bool.not_eq_true'] at h
      exact JT.cmp h.1.1.1.2 h.1.1.2 (okE_ok so a W sc _ h.1.2) (okE_ok so b W sc _ h.2)
    · cases h
  | .chn o o' a b c, W, sc, e, h => by
    unfold okT at h
    split at h
    · rename_i x q y r z hx; obtain ⟨p, rfl⟩ := asChn_of hx
      simp only [Bool.and_eq_true, Bool.not_eq_true'] at h
      exact JT.chn h.1.1.1.1.1.2 h.1.1.1.1.2 h.1.1.1.2 (okE_ok so a W sc _ h.1.1.2) (okE_ok so b W sc _ h.1.2) (okE_ok so c W sc _ h.2)
    · cases h
  | .and a b, W, sc, e, h => by
    unfold okT at h
    split at h
    · rename_i x r hx; obtain ⟨y, q, p, rfl, rfl⟩ := asBool_of hx
      simp only [Bool.and_eq_true] at h
      obtain ⟨h1, h2⟩ := h
      split at h2
      · rename_i z hz
        obtain ⟨o', p', e'⟩ := asOne_of hz
        cases e'
        exact JT.and (okT_ok so a W sc _ h1) (JT.one (okT_ok so b W sc _ h2))
      · exact JT.and (okT_ok so a W sc _ h1) (okT_ok so b W sc _ h2)
    · cases h
  | .or a b, W, sc, e, h => by
    unfold okT at h
    split at h
    · rename_i x r hx; obtain ⟨y, q, p, rfl, rfl⟩ := asBool_of hx
      simp only [Bool.and_eq_true] at h
      obtain ⟨h1, h2⟩ := h
      split at h2
      · rename_i z hz
        obtain ⟨o', p', e'⟩ := asOne_of hz
        cases e'
        exact JT.or (okT_ok so a W sc _ h1) (JT.one (okT_ok so b W sc _ h2))
      · exact JT.or (okT_ok so a W sc _ h1) (okT_ok so b W sc _ h2)
    · cases h
  | .not a, W, sc, e, h => by
    unfold okT at h
    split at h
    · rename_i x hx; obtain ⟨p, rfl⟩ := asUn_of hx
      exact JT.not (okT_ok so a W sc _ h)
    · cases h
theorem okI_ok (so : SOk S) : ∀ (c : CI) (W : WX) (sc : Scope) (tg e : Expr), okI S.cf S.N S.cal sc c tg e = true → JI S W sc c tg e
  | .seq c, W, sc, tg, e, h => JI.seq (okE_ok so c W sc e (by simpa [okI] using h))
  | .sgn c, W, sc, tg, e, h => JI.sgn (okE_ok so c W sc e (by simpa [okI] using h))
  | .rng1 c, W, sc, tg, e, h => by
    unfold okI at h
    split at h
    · rename_i g x hx; obtain ⟨p, q, rfl⟩ := asCall_of hx
      simp only [Bool.and_eq_true, decide_eq_true_eq, Bool.not_eq_true'] at h
      obtain ⟨⟨⟨⟨h1, h2⟩, h3⟩, h4⟩, h5⟩ := h
      subst h1
      exact JI.rng1 so h2 h3 h4 (okE_ok so c W sc _ h5)
    · cases h
  | .rng2 c d, W, sc, tg, e, h => by
    unfold okI at h
    split at h
    · rename_i g x y hx; obtain ⟨p, q, rfl⟩ := asCall_of hx
      simp only [Bool.and_eq_true, decide_eq_true_eq, Bool.not_eq_true'] at h
      obtain ⟨⟨⟨⟨⟨⟨h1, h2⟩, h3⟩, h4⟩, h5⟩, h6⟩, h7⟩ := h
      subst h1
      exact JI.rng2 so h2 h3 h4 h5 (okE_ok so c W sc _ h6) (okE_ok so d W sc _ h7)
    · cases h
  | .enum c, W, sc, tg, e, h => by
    unfold okI at h
    split at h
    · rename_i g x hx; obtain ⟨p, q, rfl⟩ := asCall_of hx
      simp only [Bool.and_eq_true, decide_eq_true_eq, Bool.not_eq_true'] at h
      obtain ⟨⟨⟨⟨⟨h1, h2⟩, h3⟩, h4⟩, h5⟩, h6⟩ := h
      subst h1
      exact JI.enum so h2 h3 h4 h5 (okE_ok so c W sc _ h6)
    · cases h
  | .zip c d, W, sc, tg, e, h => by
    unfold okI at h
    split at h
    · rename_i g x y hx; obtain ⟨p, q, rfl⟩ := asCall_of hx
      simp only [Bool.and_eq_true, decide_eq_true_eq, Bool.not_eq_true'] at h
      obtain ⟨⟨⟨⟨⟨⟨⟨h1, h2⟩, h3⟩, h4⟩, h5⟩, h6⟩, h7⟩, h8⟩ := h
      subst h1
      exact JI.zip so h2 h3 h4 h5 h6 (okE_ok so c W sc _ h7) (okE_ok so d W sc _ h8)
    · cases h
end
end Ey

end
section
set_option Elab.async false
set_option linter.all false
set_option maxRecDepth 100000
set_option maxHeartbeats 1000000
/-! Ey12: slots with data and lists of our own; what an expression does to them. -/
namespace Ey
open PySem PySem.Spec PyProof.Rows L2
open Evl (Ex)

structure SR (K : PySem.W.Frag) (δ : Option (Addr × Addr)) (G0 H0 B G H : Hp) (st : Sls) (σ : L2.St) : Prop where
  nx : Nx δ G0 H0 G H
  ex : Ex B G
  len : st.length = σ.length
  dd : ∀ (i : Nat) (d : D), st[i]? = some (Sl.d d) → ∃ v, σ[i]? = some (some v) ∧ Rl K G δ v d
  ow : ∀ (i : Nat) (xs : List D), st[i]? = some (Sl.own xs) → ∃ a vs, σ[i]? = some (some (.ref a)) ∧ H a = some (.lst vs) ∧ G a = none ∧ H0 a = none ∧ NotDk δ a ∧ RlAll K G δ vs xs
  inj : ∀ (i j : Nat) (xs ys : List D) (a : Addr), st[i]? = some (Sl.own xs) → st[j]? = some (Sl.own ys) → σ[i]? = some (some (V.ref a)) → σ[j]? = some (some (V.ref a)) → i = j

/-- a list of our own that vs may look at -/
def Ow (vs : List Nat) (st : Sls) (σ : L2.St) (a : Addr) : Prop := ∃ (i : Nat) (xs : List D), i ∈ vs ∧ st[i]? = some (Sl.own xs) ∧ σ[i]? = some (some (.ref a))
open Classical in
noncomputable def shG (G H : Hp) (P : Addr → Prop) : Hp := fun a => if P a then H a else G a
open Classical in
noncomputable def hdG (G : Hp) (P : Addr → Prop) : Hp := fun a => if P a then none else G a
section
variable {G H : Hp} {P : Addr → Prop} {a : Addr}
theorem sh_in (h : P a) : shG G H P a = H a := by unfold shG; rw [if_pos h]
theorem sh_out (h : ¬ P a) : shG G H P a = G a := by unfold shG; rw [if_neg h]
theorem hd_in (h : P a) : hdG G P a = none := by unfold hdG; rw [if_pos h]
theorem hd_out (h : ¬ P a) : hdG G P a = G a := by unfold hdG; rw [if_neg h]
end

theorem view_get (vs : List Nat) : ∀ (st : Sls) (k i : Nat), (viewFrom vs k st)[i]? = (st[i]?).map fun s => match s with
    | .no => none
    | .d x => some x
    | .own xs => if k + i ∈ vs then some (.list xs) else none
  | [], k, i => by simp [viewFrom]
  | s :: r, k, 0 => by cases s <;> simp [viewFrom]
  | s :: r, k, i + 1 => by
    have e : k + (i + 1) = k + 1 + i := by omega
    cases s <;> simp [viewFrom, view_get vs r (k + 1) i, e]
theorem view_len (vs : List Nat) : ∀ (st : Sls) (k : Nat), (viewFrom vs k st).length = st.length
  | [], _ => rfl
  | s :: r, k => by cases s <;> simp [viewFrom, view_len vs r (k + 1)]

section
variable {S : SC} {W : WX} {δ : Option (Addr × Addr)} {G0 H0 B G H G2 H2 : Hp} {st : Sls} {σ : L2.St} {vs : List Nat} {E : EPo}
theorem SR.own_no (s : SR S.K δ G0 H0 B G H st σ) {a : Addr} (h : Ow vs st σ a) : G a = none ∧ H0 a = none ∧ NotDk δ a ∧ ∃ us, H a = some (.lst us) := by
  obtain ⟨i, xs, _, h1, h2⟩ := h
  obtain ⟨b, us, e, h3, h4, h5, h6, _⟩ := s.ow i xs h1
  rw [h2] at e; cases e
  exact ⟨h4, h5, h6, us, h3⟩
theorem SR.sh_ex (s : SR S.K δ G0 H0 B G H st σ) : Ex G (shG G H (Ow vs st σ)) := fun a o e => by
  by_cases h : Ow vs st σ a
  · rw [(s.own_no h).1] at e; cases e
  · rw [sh_out h]; exact e
theorem SR.sh (s : SR S.K δ G0 H0 B G H st σ) (vs : List Nat) : Nx δ G0 H0 (shG G H (Ow vs st σ)) H := by
  refine ⟨⟨fun a o e => ?_, fun q e => ?_⟩, s.nx.grow.trans s.sh_ex, fun a o e n d => ?_⟩
  · by_cases h : Ow vs st σ a
    · rw [sh_in h] at e; exact e
    · rw [sh_out h] at e; exact s.nx.wd.ex a o e
  · obtain ⟨a, b, k⟩ := s.nx.wd.dk q e
    refine ⟨?_, ?_, k⟩
    · rw [sh_out fun h => ((s.own_no h).2.2.1 q e).1 rfl]; exact a
    · rw [sh_out fun h => ((s.own_no h).2.2.1 q e).2 rfl]; exact b
  · obtain ⟨i, j⟩ := s.nx.keep a o e n d
    exact ⟨i, by rw [sh_out fun h => by rw [(s.own_no h).2.1] at e; cases e]; exact j⟩
theorem SR.es (s : SR S.K δ G0 H0 B G H st σ) (vs : List Nat) : ES S.K (shG G H (Ow vs st σ)) δ (viewOf vs st) σ := by
  refine ⟨(view_len vs st 0).trans s.len, fun i d h => ?_⟩
  unfold viewOf at h
  rw [view_get] at h
  cases hs : st[i]? with
  | none => rw [hs] at h; cases h
  | some z =>
    rw [hs] at h
    cases z with
    | no => simp at h
    | d x =>
      have : x = d := by simpa using h
      subst this
      obtain ⟨v, e, r⟩ := s.dd i x hs
      exact ⟨v, e, r.mono s.sh_ex⟩
    | own xs =>
      simp only [Option.map_some, Nat.zero_add] at h
      by_cases hi : i ∈ vs
      · rw [if_pos hi] at h
        have : PyData.list xs = d := by simpa using h
        subst this
        obtain ⟨a, us, e, h1, _, _, _, r⟩ := s.ow i xs hs
        exact ⟨_, e, .lst (by rw [sh_in ⟨i, xs, hi, hs, e⟩]; exact h1) (r.mono s.sh_ex)⟩
      · rw [if_neg hi] at h; cases h
/-- what is wished of errors, all along a body -/
def XC (S : SC) (W : WX) (δ : Option (Addr × Addr)) (G0 H0 : Hp) (E : EPo) : Prop := ∀ σ G' H' x y cls dd, Nx δ G0 H0 G' H' → E x y → XRel S.K S.mg S.cf.er G' δ x y cls dd H' → W cls dd σ H'
theorem SR.at (s : SR S.K δ G0 H0 B G H st σ) (x : XC S W δ G0 H0 E) (vs : List Nat) : At S W δ (shG G H (Ow vs st σ)) H (viewOf vs st) σ E :=
  ⟨(s.sh vs).wd, s.es vs, fun _ _ _ _ _ _ n => x σ _ _ _ _ _ _ ((s.sh vs).trans n)⟩

theorem SR.others (s : SR S.K δ G0 H0 B G H st σ) (n : Nx δ (shG G H (Ow vs st σ)) H G2 H2) {i : Nat} {xs : List D} {a : Addr} {us : List V} (h1 : st[i]? = some (.own xs)) (h2 : σ[i]? = some (some (.ref a))) (h3 : H a = some (.lst us)) :
    H2 a = some (.lst us) ∧ (i ∉ vs → G2 a = none ∧ ¬ Ow vs st σ a) ∧ (i ∈ vs → G2 a = some (.lst us) ∧ Ow vs st σ a) := by
  obtain ⟨b, us', e, g1, g2, g3, g4, _⟩ := s.ow i xs h1
  rw [h2] at e; cases e
  rw [h3] at g1; cases g1
  by_cases hi : i ∈ vs
  · have o : Ow vs st σ a := ⟨i, xs, hi, h1, h2⟩
    have e2 := n.grow a _ (by rw [sh_in o]; exact h3)
    exact ⟨n.wd.ex a _ e2, fun z => absurd hi z, fun _ => ⟨e2, o⟩⟩
  · have o : ¬ Ow vs st σ a := fun ⟨j, ys, hj, j1, j2⟩ => hi (by rw [s.inj i j xs ys a h1 j1 h2 j2]; exact hj)
    obtain ⟨k1, k2⟩ := n.keep a _ h3 (by rw [sh_out o]; exact g2) g4
    exact ⟨k1, fun _ => ⟨k2, o⟩, fun z => absurd z hi⟩
theorem SR.hd_ex (s : SR S.K δ G0 H0 B G H st σ) (n : Nx δ (shG G H (Ow vs st σ)) H G2 H2) : Ex G (hdG G2 (Ow vs st σ)) := fun a o e => by
  have z : ¬ Ow vs st σ a := fun h => by rw [(s.own_no h).1] at e; cases e
  rw [hd_out z]
  exact n.grow a o (by rw [sh_out z]; exact e)
/-- behind an expression: our lists are ours again -/
theorem SR.back (s : SR S.K δ G0 H0 B G H st σ) (n : Nx δ (shG G H (Ow vs st σ)) H G2 H2) : SR S.K δ G0 H0 B (hdG G2 (Ow vs st σ)) H2 st σ ∧ TupIn G2 (hdG G2 (Ow vs st σ)) := by
  have nn := (s.sh vs).trans n
  have hx := s.hd_ex n
  refine ⟨⟨⟨⟨fun a o e => ?_, fun q e => ?_⟩, s.nx.grow.trans hx, fun a o e m d => ?_⟩, s.ex.trans hx, s.len, fun i d h => ?_, fun i xs h => ?_, s.inj⟩, ?_⟩
  · by_cases h : Ow vs st σ a
    · rw [hd_in h] at e; cases e
    · rw [hd_out h] at e; exact nn.wd.ex a o e
  · obtain ⟨a, b, k⟩ := nn.wd.dk q e
    refine ⟨?_, ?_, k⟩
    · by_cases h : Ow vs st σ q.1
      · exact hd_in h
      · rw [hd_out h]; exact a
    · by_cases h : Ow vs st σ q.2
      · exact hd_in h
      · rw [hd_out h]; exact b
  · obtain ⟨i, j⟩ := nn.keep a o e m d
    refine ⟨i, ?_⟩
    by_cases h : Ow vs st σ a
    · exact hd_in h
    · rw [hd_out h]; exact j
  · obtain ⟨v, e, r⟩ := s.dd i d h
    exact ⟨v, e, r.mono hx⟩
  · obtain ⟨a, us, e, h1, h2, h3, h4, r⟩ := s.ow i xs h
    obtain ⟨k1, k2, k3⟩ := s.others n h e h1
    refine ⟨a, us, e, k1, ?_, h3, h4, r.mono hx⟩
    by_cases hi : i ∈ vs
    · exact hd_in (k3 hi).2
    · rw [hd_out (k2 hi).2]; exact (k2 hi).1
  · intro a us h
    have z : ¬ Ow vs st σ a := fun o => by
      obtain ⟨i, xs, hi, h1, h2⟩ := id o
      obtain ⟨_, _, _, us', h3⟩ := s.own_no o
      have e2 := n.grow a _ (by rw [sh_in o]; exact h3)
      rcases h with h | ⟨ob, h⟩ <;> (rw [e2] at h; cases h)
    unfold Rd at h ⊢
    rw [hd_out z]; exact h
theorem SR.backOf (s : SR S.K δ G0 H0 B G H st σ) (n : Nx δ (shG G H (Ow vs st σ)) H G2 H2) (nb : noOwn vs st = true) : SR S.K δ G0 H0 B G2 H2 st σ := by
  have z : ∀ a, ¬ Ow vs st σ a := fun a ⟨i, xs, hi, h1, h2⟩ => by
    have := List.all_eq_true.mp nb i hi
    rw [h1] at this; cases this
  have e : hdG G2 (Ow vs st σ) = G2 := funext fun a => hd_out (z a)
  have := (s.back n).1
  rw [e] at this; exact this

/-! frozen -/
theorem frz1_get (i j : Nat) (st : Sls) : (frz1 i st)[j]? = if i = j then (st[j]?).map (fun s => match s with | .own xs => .d (.list xs) | s => s) else st[j]? := by
  unfold frz1
  by_cases h : i = j
  · subst h
    rw [if_pos rfl]
    cases e : st[i]? with
    | none => simp [e]
    | some z =>
      have hl : i < st.length := (List.getElem?_eq_some_iff.mp e).1
      cases z <;> simp only [Option.map_some] <;> first | exact e | rw [List.getElem?_set_self hl]
  · rw [if_neg h]
    cases e : st[i]? with
    | none => simp
    | some z => cases z <;> simp [List.getElem?_set_ne h]
theorem frz_get (j : Nat) : ∀ (vs : List Nat) (st : Sls), (frz vs st)[j]? = if j ∈ vs then (st[j]?).map (fun s => match s with | .own xs => .d (.list xs) | s => s) else st[j]?
  | [], st => by simp [frz]
  | i :: r, st => by
    show (frz r (frz1 i st))[j]? = _
    rw [frz_get j r, frz1_get]
    by_cases h : i = j
    · subst h
      cases e : st[i]? with
      | none => by_cases hr : i ∈ r <;> simp [e, hr]
      | some z => by_cases hr : i ∈ r <;> cases z <;> simp [e, hr]
    · have : j ∈ i :: r ↔ j ∈ r := by simp [Ne.symm h]
      rw [if_neg h]
      simp only [this]
theorem frz_len : ∀ (vs : List Nat) (st : Sls), (frz vs st).length = st.length
  | [], _ => rfl
  | i :: r, st => by
    show (frz r (frz1 i st)).length = _
    rw [frz_len r]
    unfold frz1
    split <;> simp
theorem SR.froz (s : SR S.K δ G0 H0 B G H st σ) (n : Nx δ (shG G H (Ow vs st σ)) H G2 H2) : SR S.K δ G0 H0 B G2 H2 (frz vs st) σ := by
  have nn := (s.sh vs).trans n
  have gx : Ex G G2 := (s.sh_ex (vs := vs)).trans n.grow
  have own_of : ∀ (i : Nat) (xs : List D), (frz vs st)[i]? = some (.own xs) → st[i]? = some (.own xs) ∧ i ∉ vs := fun i xs h => by
    rw [frz_get] at h
    by_cases hi : i ∈ vs
    · rw [if_pos hi] at h
      cases e : st[i]? with
      | none => rw [e] at h; cases h
      | some z => rw [e] at h; cases z <;> simp at h
    · rw [if_neg hi] at h; exact ⟨h, hi⟩
  refine ⟨nn, s.ex.trans gx, (frz_len vs st).trans s.len, fun i d h => ?_, fun i xs h => ?_, fun i j xs ys a h1 h2 => s.inj i j xs ys a (own_of i xs h1).1 (own_of j ys h2).1⟩
  · rw [frz_get] at h
    by_cases hi : i ∈ vs
    · rw [if_pos hi] at h
      cases e : st[i]? with
      | none => rw [e] at h; cases h
      | some z =>
        rw [e] at h
        cases z with
        | no => simp at h
        | d x =>
          have : x = d := by simpa using h
          subst this
          obtain ⟨v, e, r⟩ := s.dd i x e
          exact ⟨v, e, r.mono gx⟩
        | own xs =>
          have : PyData.list xs = d := by simpa using h
          subst this
          obtain ⟨a, us, e1, h1, _, _, _, r⟩ := s.ow i xs e
          obtain ⟨_, _, k3⟩ := s.others n e e1 h1
          exact ⟨_, e1, .lst (k3 hi).1 (r.mono gx)⟩
    · rw [if_neg hi] at h
      obtain ⟨v, e, r⟩ := s.dd i d h
      exact ⟨v, e, r.mono gx⟩
  · obtain ⟨h, hi⟩ := own_of i xs h
    obtain ⟨a, us, e, h1, h2, h3, h4, r⟩ := s.ow i xs h
    obtain ⟨k1, k2, k3⟩ := s.others n h e h1
    exact ⟨a, us, e, k1, (k2 hi).1, h3, h4, r.mono gx⟩
/-- what happens beside our lists -/
theorem SR.step (s : SR S.K δ G0 H0 B G H st σ) (n : Nx δ G H G2 H2) : SR S.K δ G0 H0 B G2 H2 st σ := by
  refine ⟨s.nx.trans n, s.ex.trans n.grow, s.len, fun i d h => ?_, fun i xs h => ?_, s.inj⟩
  · obtain ⟨v, e, r⟩ := s.dd i d h
    exact ⟨v, e, r.mono n.grow⟩
  · obtain ⟨a, us, e, h1, h2, h3, h4, r⟩ := s.ow i xs h
    obtain ⟨k1, k2⟩ := n.keep a _ h1 h2 h4
    exact ⟨a, us, e, k1, k2, h3, h4, r.mono n.grow⟩
theorem SR.base (s : SR S.K δ G0 H0 B G H st σ) {B' : Hp} (h : Ex B' B) : SR S.K δ G0 H0 B' G H st σ := ⟨s.nx, h.trans s.ex, s.len, s.dd, s.ow, s.inj⟩
theorem SR.rebase (s : SR S.K δ G0 H0 B G H st σ) : SR S.K δ G0 H0 G G H st σ := ⟨s.nx, Evl.Ex.refl _, s.len, s.dd, s.ow, s.inj⟩

/-- an expression over slots -/
theorem ev {t : TE} {c : CE} {Q : DP} {R : VK} (se : SemE S W t (wpE S.Φ c)) (s : SR S.K δ G0 H0 B G H st σ) (x : XC S W δ G0 H0 E) (h : wpE S.Φ c E (viewOf vs st) Q)
    (k : ∀ G' H' v d, SR S.K δ G0 H0 B G' H' (aft vs d st) σ → Rl S.K G' δ v d → Q d → R v H') : t σ H R :=
  se δ _ H _ σ E Q R (s.at x vs) h fun G' H' v d n r q => by
    by_cases z : noList d = true
    · obtain ⟨b, t⟩ := s.back n
      exact k _ _ v d (by unfold aft; rw [if_pos z]; exact b) (r.tups t _ _ z) q
    · exact k _ _ v d (by unfold aft; rw [if_neg z]; exact s.froz n) r q
theorem evT {t : TT} {c : CT} {Q : Bool → Prop} {R : Bool → Hp → Prop} (se : SemT S W t (wpT S.Φ c)) (s : SR S.K δ G0 H0 B G H st σ) (x : XC S W δ G0 H0 E) (h : wpT S.Φ c E (viewOf vs st) Q)
    (k : ∀ G' H' b, SR S.K δ G0 H0 B G' H' st σ → Q b → R b H') : t σ H R :=
  se δ _ H _ σ E Q R (s.at x vs) h fun G' H' b n q => k _ _ b (s.back n).1 q
/-- the end of a body: all may be seen -/
theorem evR {t : TE} {c : CE} {Q : DP} {R : VK} (se : SemE S W t (wpE S.Φ c)) (s : SR S.K δ G0 H0 B G H st σ) (x : XC S W δ G0 H0 E) (h : wpE S.Φ c E (viewOf vs st) Q)
    (k : ∀ G' H' v d, Nx δ G0 H0 G' H' → Rl S.K G' δ v d → Q d → R v H') : t σ H R :=
  se δ _ H _ σ E Q R (s.at x vs) h fun G' H' v d n r q => k _ _ v d ((s.sh vs).trans n) r q
end
end Ey

end
section
set_option Elab.async false
set_option linter.all false
set_option maxRecDepth 100000
set_option maxHeartbeats 1000000
/-! Ey13: expressions that make a new list. -/
namespace Ey
open PySem PySem.Spec PyProof.Rows L2
open Evl (Ex)

def SemF (S : SC) (W : WX) (t : TE) (m : EPo → Env → DP → Prop) : Prop := ∀ δ G H ρ σ E Q R, At S W δ G H ρ σ E → m E ρ Q →
  (∀ G' H' p us xs, Nx δ G H G' H' → H p = none → H' p = some (.lst us) → G' p = none → NotDk δ p → RlAll S.K G' δ us xs → Q (.list xs) → R (.ref p) H') → t σ H R
def JF (S : SC) (W : WX) (sc : Scope) (c : CE) (e : Expr) : Prop := ∃ t, (∀ X, Sx S sc X → Takes X W → PE X e t) ∧ SemF S W t (wpE S.Φ c)
theorem Nx.fresh {δ : Option (Addr × Addr)} {G H G1 H1 : Hp} {p : Addr} (n : Nx δ G H G1 H1) (h : H1 p = none) : H p = none := by
  cases e : H p with
  | none => rfl
  | some o =>
    exfalso
    have g1 : G1 p = none := free_of n.wd.ex h
    have g : G p = none := free_of n.grow g1
    have d : NotDk δ p := n.wd.notdk h
    rw [(n.keep p o e g d).1] at h
    cases h
section
variable {S : SC} {W : WX} {sc : Scope} {X : Cx}
theorem SemF.e {t : TE} {m : EPo → Env → DP → Prop} (h : SemF S W t m) : SemE S W t m := fun δ G H ρ σ E Q R a hm k =>
  h δ G H ρ σ E Q R a hm fun G' H' p us xs n h0 h1 g d r q => k _ _ _ _ (n.fix h0 h1 g d) (.lst upd_same (r.mono (Evl.Ex.new g))) q
theorem JF.lst {c : CEs} {es : List Expr} {p : Pos} (ha : JA S W sc c es) : JF S W sc (.lst c) (.List es p) := by
  obtain ⟨ta, pa, sa⟩ := ha.ta
  refine ⟨tLst ta, fun X x tk => pe_lst (pa X x tk), ?_⟩
  intro δ G H ρ σ E Q R a h k
  refine sa δ G H ρ σ E _ _ a h fun G1 H1 vs ds n1 r1 _ q1 => ⟨by rw [r1.length]; exact sz5 q1.1, fun p hp => ?_⟩
  exact k G1 _ p vs ds (n1.trans (Nx.newH n1.wd hp)) (n1.fresh hp) upd_same (free_of n1.wd.ex hp) (n1.wd.notdk hp) r1 q1.2
theorem JF.add {a b : CE} {x y : Expr} {p : Pos} (ha : JE S W sc a x) (hb : JE S W sc b y) : ∃ t, (∀ X, Sx S sc X → Takes X W → PE X (.BinOp x .Add y p) t) ∧
    SemF S W t (fun E ρ Q => wpE S.Φ a E ρ fun d => ∃ xs, d = .list xs ∧ wpE S.Φ b E ρ fun d => ∃ ys, d = .list ys ∧ xs.length + ys.length ≤ 100000 ∧ Q (.list (xs ++ ys))) := by
  obtain ⟨ta, pa, sa⟩ := ha
  obtain ⟨tb, pb, sb⟩ := hb
  refine ⟨tOp rCat ta tb, fun X x tk => pe_op op_cat (pa X x tk) (pb X x tk), ?_⟩
  intro δ G H ρ σ E Q R a h k
  refine sa δ G H ρ σ E _ _ a h fun G1 H1 v1 d1 n1 r1 q1 => ?_
  obtain ⟨xs, rfl, q1⟩ := q1
  refine sb δ G1 H1 ρ σ E _ _ (a.next n1) q1 fun G2 H2 v2 d2 n2 r2 q2 => ?_
  obtain ⟨ys, rfl, l, q2⟩ := q2
  obtain ⟨a1, us, rfl, h1, _, ra⟩ := (r1.mono n2.grow).of_lst n2.wd
  obtain ⟨b1, vs, rfl, h2, _, rb⟩ := r2.of_lst n2.wd
  have n := n1.trans n2
  refine ⟨a1, b1, us, vs, rfl, rfl, h1, h2, by rw [ra.length, rb.length]; exact sz5 l, fun p hp => ?_⟩
  exact k G2 _ p _ _ (n.trans (Nx.newH n.wd hp)) (n.fresh hp) upd_same (free_of n.wd.ex hp) (n.wd.notdk hp) (ra.append rb) q2
theorem JF.list {c : CE} {e : Expr} {p q : Pos} (so : SOk S) (hc : S.cal = true) (g1 : glC sc "list" = true) (g2 : ("list" : Str) ∈ S.cf.bl) (gs : isStar e = false) (ha : JE S W sc c e) : JF S W sc (.bi .list (.cons c .nil)) (.Call (.Name "list" p) [e] [] q) := by
  obtain ⟨ta, pa, sa⟩ := ha
  refine ⟨tCB (fun xs H Q => ∃ p ys, xs = [.ref p] ∧ (SqL S.K H p ys ∨ SqT S.K H p ys) ∧ ∀ l, H l = none → Q (.ref l) (upd H l (.lst ys))) (tCons ta tNil), fun X h tk => ?_, ?_⟩
  · rw [← h.K]
    have m : X.mg "list" = none := by rw [h.mg]; exact so.bl _ g2
    exact pe_callTy call_list_of (h.gl g1).1 m (boot_bi .list (by decide)) (pa_cons (pa X h tk) pa_nil (star_one gs)) (by decide) (h.gl g1).2 (star_one gs) rfl
  · intro δ G H ρ σ E Q R a h k
    refine sa δ G H ρ σ E _ _ a h fun G1 H1 v1 d1 n1 r1 q1 => ?_
    have fin : ∀ (p : Addr) us xs, RlAll S.K G1 δ us xs → Q (.list xs) → ∀ l, H1 l = none → R (.ref l) (upd H1 l (.lst us)) := fun _ us xs r q l hl =>
      k G1 _ l us xs (n1.trans (Nx.newH n1.wd hl)) (n1.fresh hl) upd_same (free_of n1.wd.ex hl) (n1.wd.notdk hl) r q
    cases d1 <;> first
      | exact False.elim q1
      | skip
    · obtain ⟨b, us, rfl, h1, _, ra⟩ := r1.of_lst n1.wd
      exact ⟨b, us, rfl, .inl (SqL.of h1), fin b us _ ra q1⟩
    · obtain ⟨b, us, rfl, h1, _, ra⟩ := r1.of_tup n1.wd
      exact ⟨b, us, rfl, .inr h1, fin b us _ ra q1⟩
/-- a comprehension, as a value and at a name's store -/
theorem J.lcX {own : List (Str × Nat)} {tg : Tg} {it : CI} {ifs : CTo} {elt : CE} {x t i : Expr} {fs : List Expr} {s : Scope} {p : Pos} (so : SOk S) (hc : S.cal = true) (g1 : blkC S.N sc s own = true) (g2 : isSetE i = false) (g3 : tgC S.N s tg t = true)
    (g4 : ∀ j ∈ tgVars tg, j ∈ own.map (·.2)) (hi : JI S W sc it t i) (hf : JTs S W0 s ifs fs) (he : JE S W0 s elt x) : ∃ te, (∀ X, Sx S sc X → Takes X W → PE X (.ListComp x [⟨t, i, fs, 0⟩] s p) te ∧
      ∀ (j : Nat) (y : Str) (py spos : Pos), X.N[j]? = some y → X.env.scope.names.lookup y = some .local → swapsWith (.ListComp x [⟨t, i, fs, 0⟩] s p) (some (.Name y py)) spos.line X.env = pure true → PS X (.Assign [.Name y py] (.ListComp x [⟨t, i, fs, 0⟩] s p) spos) (tAsg te (gName j))) ∧
      SemF S W te (wpE S.Φ (.lc own tg it ifs elt)) := by
  obtain ⟨wi, pi, si⟩ := hi
  obtain ⟨tf, pf, sf⟩ := hf
  obtain ⟨te, pe, se⟩ := he
  refine ⟨tLc wi (gOf S.K tg) tf te (own.map (·.2)), fun X h tk => ⟨?_, fun j y py spos hj hy hsw => ?_⟩, ?_⟩
  · exact pe_lc (h.cal hc) (by rw [h.N]; exact so.nd) (pi X h tk) (h.blkOk g1) (fun s1 H C cl fp => pg_of so (h.blk s1 H s C cl fp) (h.cal hc) g3) (fun s1 H C cl fp => pf _ (h.blk s1 H s C cl fp) takes_blk)
      (fun s1 H C cl fp => pe _ (h.blk s1 H s C cl fp) takes_blk) (fun y => folded_plain g2 _ y)
  · exact ps_setLc (h.cal hc) (by rw [h.N]; exact so.nd) hj hy hsw (pi X h tk) (h.blkOk g1) (fun s1 H C cl fp => pg_of so (h.blk s1 H s C cl fp) (h.cal hc) g3) (fun s1 H C cl fp => pf _ (h.blk s1 H s C cl fp) takes_blk)
      (fun s1 H C cl fp => pe _ (h.blk s1 H s C cl fp) takes_blk) (fun y => folded_plain g2 _ y)
  · intro δ G H ρ σ E Q R a h k
    refine si δ G H ρ σ E _ _ a h fun G1 H1 J items n1 wk q1 => ?_
    intro Dl hD
    have hG := free_of n1.wd.ex hD
    have nd := n1.wd.notdk hD
    refine ⟨fun i m H2 => m = items.length - i ∧ i ≤ items.length ∧ ∃ G2 av acc, acc.length ≤ i ∧ Nx δ G1 H1 G2 H2 ∧ H2 Dl = some (.lst av) ∧ G2 Dl = none ∧ RlAll S.K G2 δ av acc ∧
      lcGo (fun x R => tgW some tg x (wipeD ρ (own.map (·.2))) fun ρ' => wpTo S.Φ ifs E0 ρ' fun b => if b = true then wpE S.Φ elt E0 ρ' fun y => R (some y) else R none) (items.drop i) acc fun ys => Q (.list ys), ⟨_, rfl, Nat.zero_le _, G1, [], [], Nat.zero_le _, Nx.newH n1.wd hD, upd_same, hG, .nil, by simpa using q1.2⟩, ?_⟩
    rintro i m H2 ⟨rfl, hle, G2, av, acc, la, n2, hH2, hG2, ra, go⟩
    obtain ⟨wk1, wk2⟩ := wk G2 H2 i n2.wd n2.grow
    by_cases hi : i < items.length
    · obtain ⟨hgo, hy⟩ := wk1 hi
      refine .inr ⟨hgo, fun H' => ∃ G3 av acc, acc.length ≤ i + 1 ∧ Nx δ G1 H1 G3 H' ∧ H' Dl = some (.lst av) ∧ G3 Dl = none ∧ RlAll S.K G3 δ av acc ∧
        lcGo (fun x R => tgW some tg x (wipeD ρ (own.map (·.2))) fun ρ' => wpTo S.Φ ifs E0 ρ' fun b => if b = true then wpE S.Φ elt E0 ρ' fun y => R (some y) else R none) (items.drop (i + 1)) acc fun ys => Q (.list ys), fun H' ⟨G3, av3, acc3, z⟩ => ⟨_, by omega, rfl, by omega, G3, av3, acc3, z⟩, ?_⟩
      intro x H3 hx
      obtain ⟨G3, d, n3, hd, rd⟩ := hy x H3 hx
      have ed : items.drop i = d :: items.drop (i + 1) := by
        have := List.drop_eq_getElem_cons hi
        rw [this]
        rw [List.getElem?_eq_getElem hi] at hd
        cases hd; rfl
      rw [ed] at go
      unfold lcGo at go
      have kp := n3.keep Dl _ hH2 hG2 nd
      have n03 := n1.trans (n2.trans n3)
      refine g_ok (own := own.map (·.2)) (P := fun ρ' σ' => ES S.K G3 δ ρ' σ' ∧ wipe σ' (own.map (·.2)) = wipe σ (own.map (·.2))) n3.wd (fun i v d ρ σ' hi r p => ⟨es_set i p.1 r, by rw [wipe_set hi]; exact p.2⟩) tg g4 rd go
        ⟨es_wipe ⟨a.es.1, a.es.2.mono n03.grow⟩ _, wipe_wipe _ _⟩ fun ρ' σ' p q => ?_
      refine ⟨p.2, ?_⟩
      have at1 : At S W0 δ G3 H3 ρ' σ' E0 := ⟨n3.wd, p.1, fun _ _ _ _ _ _ _ e => e.elim⟩
      refine sf δ G3 H3 _ _ E0 _ _ at1 q fun G4 H4 b n4 q4 => ?_
      have kp4 := n4.keep Dl _ kp.1 kp.2 nd
      cases b with
      | false =>
        exact ⟨G4, av, acc, by omega, n2.trans (n3.trans n4), kp4.1, kp4.2, ra.mono (n3.trans n4).grow, q4⟩
      | true =>
        refine se δ G4 H4 _ _ E0 _ _ (at1.next n4) q4 fun G5 H5 y d5 n5 r5 q5 => ?_
        have kp5 := n5.keep Dl _ kp4.1 kp4.2 nd
        have nn := n2.trans (n3.trans (n4.trans n5))
        have sz : acc.length < sizeLine := by
          have := q1.1
          rw [sizeLine_eq]; omega
        refine ⟨av, kp5.1, by rw [ra.length]; exact sz, G5, av ++ [y], acc ++ [d5], by rw [List.length_append]; exact Nat.succ_le_succ la, nn.put hD kp5.2 nd, upd_same, kp5.2, ?_, q5⟩
        exact (ra.mono (n3.trans (n4.trans n5)).grow).append (.cons r5 .nil)
    · have e : i = items.length := by omega
      subst e
      refine .inl ⟨wk2 (Nat.le_refl _), ?_⟩
      rw [List.drop_length] at go
      exact k G2 H2 Dl av acc (n1.trans n2) (n1.fresh hD) hH2 hG2 nd ra go
end
end Ey

end
section
set_option Elab.async false
set_option linter.all false
set_option maxRecDepth 100000
set_option maxHeartbeats 1000000
/-! Ey14: core statements and their texts. -/
namespace Ey
open PySem PySem.Spec PyProof.Rows L2
open Evl (Ex)

structure Sd (S : SC) (sc : Scope) (X : Cx) : Prop where
  sx : Sx S sc X
  scp : X.env.scope = sc
  kf : sc.kind = .function
  ps : PassesOwn (model X.prog X.w) X.A X.env X.xe
  st : X.stack = X.env :: X.outer
  fr : X.env.frame = some X.env.locals
structure EndOk (S : SC) (δ : Option (Addr × Addr)) (G0 H0 B : Hp) (D : En) (D' : Ends) : Prop where
  nx : ∀ G H st σ, SR S.K δ G0 H0 B G H st σ → D.nx st → D'.nx σ H
  rt : ∀ G H v d, Nx δ G0 H0 G H → Rl S.K G δ v d → D.rt d → D'.rt v H
  bk : ∀ G H st σ, SR S.K δ G0 H0 B G H st σ → D.bk st → D'.bk σ H
  ct : ∀ G H st σ, SR S.K δ G0 H0 B G H st σ → D.ct st → D'.ct σ H
def SemS (S : SC) (W : WX) (t : TS) (m : EPo → En → Sls → Prop) : Prop := ∀ E δ G0 H0 B G H st σ D D', SR S.K δ G0 H0 B G H st σ → XC S W δ G0 H0 E → m E D st → EndOk S δ G0 H0 B D D' → t D' σ H
def JS (S : SC) (W : WX) (sc : Scope) (c : CS) (s : Stmt) : Prop := ∃ t, (∀ X, Sd S sc X → Takes X W → PS X s t) ∧ SemS S W t (fun E => wpS S.Φ E c)
def JSs (S : SC) (W : WX) (sc : Scope) (c : CSs) (s : List Stmt) : Prop := ∃ t, (∀ X, Sd S sc X → Takes X W → PSs X s t) ∧ SemS S W t (fun E => wpSs S.Φ E c)

section
variable {S : SC} {W : WX} {E : EPo} {sc : Scope} {δ : Option (Addr × Addr)} {G0 H0 B G H G2 H2 : Hp} {st : Sls} {σ : L2.St} {vs : List Nat}
theorem SR.set (s : SR S.K δ G0 H0 B G H st σ) {v : V} {d : D} (i : Nat) (r : Rl S.K G δ v d) : SR S.K δ G0 H0 B G H (st.set i (.d d)) (σ.set i (some v)) := by
  have get : ∀ (j : Nat) (z : Sl), (st.set i (.d d))[j]? = some z → (i = j ∧ i < st.length ∧ z = .d d) ∨ (i ≠ j ∧ st[j]? = some z) := fun j z h => by
    by_cases e : i = j
    · subst e
      have hl : i < st.length := by have := (List.getElem?_eq_some_iff.mp h).1; simpa using this
      rw [List.getElem?_set_self hl] at h
      exact .inl ⟨rfl, hl, by simpa using h.symm⟩
    · rw [List.getElem?_set_ne e] at h
      exact .inr ⟨e, h⟩
  refine ⟨s.nx, s.ex, by rw [List.length_set, List.length_set]; exact s.len, fun j x h => ?_, fun j xs h => ?_, fun j k xs ys a h1 h2 h3 h4 => ?_⟩
  · rcases get j _ h with ⟨rfl, hl, e⟩ | ⟨e, h⟩
    · cases e
      exact ⟨v, by rw [List.getElem?_set_self (by rw [← s.len]; exact hl)], r⟩
    · obtain ⟨u, h1, h2⟩ := s.dd j x h
      exact ⟨u, by rw [List.getElem?_set_ne e]; exact h1, h2⟩
  · rcases get j _ h with ⟨_, _, e⟩ | ⟨e, h⟩
    · cases e
    · obtain ⟨a, us, h1, h2⟩ := s.ow j xs h
      exact ⟨a, us, by rw [List.getElem?_set_ne e]; exact h1, h2⟩
  · rcases get j _ h1 with ⟨_, _, e⟩ | ⟨e1, h1⟩
    · cases e
    · rcases get k _ h2 with ⟨_, _, e⟩ | ⟨e2, h2⟩
      · cases e
      · rw [List.getElem?_set_ne e1] at h3
        rw [List.getElem?_set_ne e2] at h4
        exact s.inj j k xs ys a h1 h2 h3 h4
theorem SR.setOwn (s : SR S.K δ G0 H0 B G H st σ) {p : Addr} {us : List V} {xs : List D} (i : Nat) (h1 : H p = some (.lst us)) (h2 : G p = none) (h3 : H0 p = none) (h4 : NotDk δ p) (r : RlAll S.K G δ us xs)
    (ne : ∀ (j : Nat) (ys : List D), st[j]? = some (Sl.own ys) → σ[j]? ≠ some (some (.ref p))) : SR S.K δ G0 H0 B G H (st.set i (.own xs)) (σ.set i (some (.ref p))) := by
  have get : ∀ (j : Nat) (z : Sl), (st.set i (.own xs))[j]? = some z → (i = j ∧ i < st.length ∧ z = .own xs) ∨ (i ≠ j ∧ st[j]? = some z) := fun j z h => by
    by_cases e : i = j
    · subst e
      have hl : i < st.length := by have := (List.getElem?_eq_some_iff.mp h).1; simpa using this
      rw [List.getElem?_set_self hl] at h
      exact .inl ⟨rfl, hl, by simpa using h.symm⟩
    · rw [List.getElem?_set_ne e] at h
      exact .inr ⟨e, h⟩
  have hs : ∀ j, i = j → i < st.length → (σ.set i (some (.ref p)))[j]? = some (some (.ref p)) := fun j e hl => by
    subst e
    rw [List.getElem?_set_self (by rw [← s.len]; exact hl)]
  refine ⟨s.nx, s.ex, by rw [List.length_set, List.length_set]; exact s.len, fun j x h => ?_, fun j ys h => ?_, fun j k ys zs a g1 g2 g3 g4 => ?_⟩
  · rcases get j _ h with ⟨_, _, e⟩ | ⟨e, h⟩
    · cases e
    · obtain ⟨u, h1, h2⟩ := s.dd j x h
      exact ⟨u, by rw [List.getElem?_set_ne e]; exact h1, h2⟩
  · rcases get j _ h with ⟨e, hl, e2⟩ | ⟨e, h⟩
    · cases e2
      exact ⟨p, us, hs j e hl, h1, h2, h3, h4, r⟩
    · obtain ⟨a, us, h1, h2⟩ := s.ow j ys h
      exact ⟨a, us, by rw [List.getElem?_set_ne e]; exact h1, h2⟩
  · rcases get j _ g1 with ⟨e, hl, _⟩ | ⟨e1, g1⟩
    · rcases get k _ g2 with ⟨e', _, _⟩ | ⟨e2, g2⟩
      · rw [← e, ← e']
      · rw [hs j e hl] at g3
        rw [List.getElem?_set_ne e2] at g4
        cases g3
        exact absurd g4 (ne k zs g2)
    · rcases get k _ g2 with ⟨e', hl, _⟩ | ⟨e2, g2⟩
      · rw [hs k e' hl] at g4
        rw [List.getElem?_set_ne e1] at g3
        cases g4
        exact absurd g3 (ne j ys g1)
      · rw [List.getElem?_set_ne e1] at g3
        rw [List.getElem?_set_ne e2] at g4
        exact s.inj j k ys zs a g1 g2 g3 g4
/-- a list of our own is written -/
theorem SR.upd (s : SR S.K δ G0 H0 B G H st σ) {i : Nat} {a : Addr} {us : List V} {xs ys : List D} (h1 : st[i]? = some (Sl.own ys)) (h2 : σ[i]? = some (some (.ref a))) (r : RlAll S.K G δ us xs) : SR S.K δ G0 H0 B G (L2.upd H a (.lst us)) (st.set i (.own xs)) σ := by
  obtain ⟨b, us0, e, g1, g2, g3, g4, _⟩ := s.ow i ys h1
  rw [h2] at e; cases e
  have hl : i < st.length := (List.getElem?_eq_some_iff.mp h1).1
  have get : ∀ (j : Nat) (z : Sl), (st.set i (.own xs))[j]? = some z → (i = j ∧ z = .own xs) ∨ (i ≠ j ∧ st[j]? = some z) := fun j z h => by
    by_cases e : i = j
    · subst e
      rw [List.getElem?_set_self hl] at h
      exact .inl ⟨rfl, by simpa using h.symm⟩
    · rw [List.getElem?_set_ne e] at h
      exact .inr ⟨e, h⟩
  refine ⟨s.nx.put g3 g2 g4, s.ex, by rw [List.length_set]; exact s.len, fun j x h => ?_, fun j zs h => ?_, fun j k zs ws c f1 f2 f3 f4 => ?_⟩
  · rcases get j _ h with ⟨_, e⟩ | ⟨e, h⟩
    · cases e
    · exact s.dd j x h
  · rcases get j _ h with ⟨rfl, e⟩ | ⟨e, h⟩
    · cases e
      exact ⟨a, us, h2, upd_same, g2, g3, g4, r⟩
    · obtain ⟨c, us', k1, k2, k3⟩ := s.ow j zs h
      refine ⟨c, us', k1, ?_, k3⟩
      have : c ≠ a := fun z => by
        subst z
        exact e (s.inj i j ys zs c h1 h h2 k1)
      rw [upd_ne this]; exact k2
  · rcases get j _ f1 with ⟨rfl, _⟩ | ⟨e1, f1⟩
    · rcases get k _ f2 with ⟨rfl, _⟩ | ⟨e2, f2⟩
      · rfl
      · exact s.inj i k ys ws c h1 f2 f3 f4
    · rcases get k _ f2 with ⟨rfl, _⟩ | ⟨e2, f2⟩
      · exact s.inj j i zs ys c f1 h1 f3 f4
      · exact s.inj j k zs ws c f1 f2 f3 f4
theorem SR.backRl (s : SR S.K δ G0 H0 B G H st σ) (n : Nx δ (shG G H (Ow vs st σ)) H G2 H2) {v : V} {d : D} (r : Rl S.K G2 δ v d) (c : (noList d || noOwn vs st) = true) : ∃ G', SR S.K δ G0 H0 B G' H2 st σ ∧ Rl S.K G' δ v d := by
  by_cases z : noList d = true
  · obtain ⟨b, t⟩ := s.back n
    exact ⟨_, b, r.tups t _ _ z⟩
  · have nb : noOwn vs st = true := by simpa [z] using c
    exact ⟨_, s.backOf n nb, r⟩
theorem SR.backAll (s : SR S.K δ G0 H0 B G H st σ) (n : Nx δ (shG G H (Ow vs st σ)) H G2 H2) {us : List V} {xs : List D} (r : RlAll S.K G2 δ us xs) (c : (noLists xs || noOwn vs st) = true) :
    ∃ G', SR S.K δ G0 H0 B G' H2 st σ ∧ RlAll S.K G' δ us xs ∧ ∀ p, G2 p = none → G' p = none := by
  by_cases z : noLists xs = true
  · obtain ⟨b, t⟩ := s.back n
    refine ⟨_, b, r.tups t _ _ z, fun p hp => ?_⟩
    by_cases o : Ow vs st σ p
    · exact hd_in o
    · rw [hd_out o]; exact hp
  · have nb : noOwn vs st = true := by simpa [z] using c
    exact ⟨_, s.backOf n nb, r, fun _ h => h⟩
/-- a new list comes to a slot -/
theorem evF {t : TE} {c : CE} {Q : DP} {R : VK} (se : SemF S W t (wpE S.Φ c)) (s : SR S.K δ G0 H0 B G H st σ) (x : XC S W δ G0 H0 E) (h : wpE S.Φ c E (viewOf vs st) Q)
    (k : ∀ (H' : Hp) (p : Addr) (xs : List D), Q (.list xs) → ((noLists xs || noOwn vs st) = true → ∀ i, ∃ G', SR S.K δ G0 H0 B G' H' (st.set i (.own xs)) (σ.set i (some (.ref p)))) → R (.ref p) H') : t σ H R :=
  se δ _ H _ σ E Q R (s.at x vs) h fun G' H' p us xs n hp h1 g d r q => k H' p xs q fun c i => by
    obtain ⟨G3, b, r3, e⟩ := s.backAll n r c
    refine ⟨G3, b.setOwn i h1 (e p g) ((s.sh vs).fresh hp) d r3 fun j ys hj hs => ?_⟩
    obtain ⟨a, us', f1, f2, _⟩ := s.ow j ys hj
    rw [f1] at hs; cases hs
    rw [hp] at f2; cases f2

/-! ### the text's side -/
def swB (sc : Scope) (x : Str) (py : Pos) (value : Expr) : Bool := match (match value with
    | .ListComp _ _ s _ => some s | .SetComp _ _ s _ => some s | .DictComp _ _ _ s _ => some s
    | _ => none) with
  | some s => decide (sc.names.lookup x = some .local) && py.line == value.pos.line && !(s.names.any fun (n, k) => n == x && (k == .local || k == .cell))
  | none => false
theorem sw_of {X : Cx} (h : Sd S sc X) (x : Str) (py : Pos) (value : Expr) (l : Nat) : swapsWith value (some (.Name x py)) l X.env = pure (swB sc x py value) := by
  have hb : X.env.blockKind = .function := by
    have : X.env.scope.kind = .function := by rw [h.scp]; exact h.kf
    unfold Env.blockKind; rw [this]; rfl
  have hk : X.env.kindOf x = sc.names.lookup x := by
    show X.env.scope.names.lookup x = _
    rw [h.scp]
  have e : ∀ o : Option NameKind, (o == some NameKind.local) = decide (o = some .local) := fun o => by
    cases o with
    | none => rfl
    | some k => cases k <;> rfl
  cases value <;> first
    | rfl
    | (unfold swapsWith swB
       simp only [hb, hk, e]
       rfl)
end
end Ey

end
section
set_option Elab.async false
set_option linter.all false
set_option maxRecDepth 100000
set_option maxHeartbeats 1000000
/-! Ey15: the rules of statements. -/
namespace Ey
open PySem PySem.Spec PyProof.Rows L2
open Evl (Ex)

def isCompE : Expr → Bool
  | .ListComp _ _ _ _ => true
  | .SetComp _ _ _ _ => true
  | .DictComp _ _ _ _ _ => true
  | _ => false
def isTupE : Expr → Bool
  | .Tuple _ _ _ => true
  | _ => false
section
variable {S : SC} {W : WX} {E : EPo} {sc : Scope}
theorem JS.asg {i : Nat} {c : CE} {x : Str} {e : Expr} {px p : Pos} (so : SOk S) (g : locC S.N sc i x = true) (sw : swB sc x px e = false) (h : JE S W sc c e) : JS S W sc (.asg i c) (.Assign [.Name x px] e p) := by
  obtain ⟨te, pe, se⟩ := h
  refine ⟨tAsg te (gName i), fun X d tk => ?_, ?_⟩
  · obtain ⟨l1, l2, l3⟩ := d.sx.loc g
    exact ps_set (by rw [d.sx.N]; exact so.nd) l1 l2 (pe X d.sx tk) (by rw [sw_of d, sw]) l3
  · intro E δ G0 H0 B G H st σ D D' s x h k
    simp only [wpS] at h
    exact ev se s x h fun G' H' v d s' r q => k.nx _ _ _ _ (s'.set i r) q
theorem JS.asgLc {i : Nat} {x : Str} {e : Expr} {px p : Pos} {m : En → Sls → Prop} {me : EPo → Env → DP → Prop} {te : TE} (so : SOk S) (g : locC S.N sc i x = true) (gl : sc.names.lookup x = some .local) (sw : swB sc x px e = true) 
    (pe : ∀ X, Sx S sc X → Takes X W → ∀ (j : Nat) (y : Str) (py spos : Pos), X.N[j]? = some y → X.env.scope.names.lookup y = some .local → swapsWith e (some (.Name y py)) spos.line X.env = pure true → PS X (.Assign [.Name y py] e spos) (tAsg te (gName j))) :
    ∀ X, Sd S sc X → Takes X W → PS X (.Assign [.Name x px] e p) (tAsg te (gName i)) := fun X d tk => by
  obtain ⟨l1, l2, l3⟩ := d.sx.loc g
  exact pe X d.sx tk i x px p l1 (by rw [d.scp]; exact gl) (by rw [sw_of d, sw])
theorem sem_asg {i : Nat} {c : CE} {te : TE} (se : SemE S W te (wpE S.Φ c)) : SemS S W (tAsg te (gName i)) (fun E => wpS S.Φ E (.asg i c)) := by
  intro E δ G0 H0 B G H st σ D D' s x h k
  simp only [wpS] at h
  exact ev se s x h fun G' H' v d s' r q => k.nx _ _ _ _ (s'.set i r) q
theorem sem_asgL {i : Nat} {c : CE} {te : TE} (se : SemF S W te (wpE S.Φ c)) : SemS S W (tAsg te (gName i)) (fun E => wpS S.Φ E (.asgL i c)) := by
  intro E δ G0 H0 B G H st σ D D' s x h k
  simp only [wpS] at h
  refine evF se s x h fun H' p xs q z => ?_
  obtain ⟨ys, e, c, q⟩ := q
  cases e
  obtain ⟨G', s'⟩ := z c i
  exact k.nx _ _ _ _ s' q
theorem JS.asgL {i : Nat} {c : CE} {x : Str} {e : Expr} {px p : Pos} (so : SOk S) (g : locC S.N sc i x = true) (sw : swB sc x px e = false) (h : JF S W sc c e) : JS S W sc (.asgL i c) (.Assign [.Name x px] e p) := by
  obtain ⟨te, pe, se⟩ := h
  refine ⟨tAsg te (gName i), fun X d tk => ?_, sem_asgL se⟩
  obtain ⟨l1, l2, l3⟩ := d.sx.loc g
  exact ps_set (by rw [d.sx.N]; exact so.nd) l1 l2 (pe X d.sx tk) (by rw [sw_of d, sw]) l3
/-- targets behind a tuple's value -/
theorem swapped_none {ts : List Expr} {k : Nat} {p : Pos} {e : Expr} {env : PySem.Env} (h : isTupE e = false) : swappedStores [.Tuple ts k p] e env = pure none := by
  cases e <;> first
    | rfl
    | exact absurd h (by simp [isTupE])
theorem sole_false {ts : List Expr} {k : Nat} {p : Pos} {e : Expr} {l : Nat} {env : PySem.Env} : swapsWithSole [.Tuple ts k p] e l env = pure false := by cases e <;> rfl
theorem sem_asgT {tg : Tg} {c : CE} {te : TE} (se : SemE S W te (wpE S.Φ c)) : SemS S W (tAsg te (gOf S.K tg)) (fun E => wpS S.Φ E (.asgT tg c)) := by
  intro E δ G0 H0 B G H st σ D D' s x h k
  simp only [wpS] at h
  refine ev se s x h fun G' H' v d s' r q => ?_
  exact g_ok (own := tgVars tg) (P := fun st' σ' => SR S.K δ G0 H0 B G' H' st' σ') s'.nx.wd (fun i v d ρ σ' _ r p => p.set i r) tg (fun _ h => h) r q s' fun st' σ' p q => k.nx _ _ _ _ p q
theorem JS.asgT {ts : Tgs} {c : CE} {es : List Expr} {m : Nat} {e : Expr} {px p : Pos} (so : SOk S) (hc : S.cal = true) (g : tgC S.N sc (.tup ts) (.Tuple es m px) = true) (hw : ∀ X, Sd S sc X → swappedStores [.Tuple es m px] e X.env = pure none) (h : JE S W sc c e) : JS S W sc (.asgT (.tup ts) c) (.Assign [.Tuple es m px] e p) := by
  obtain ⟨te, pe, se⟩ := h
  exact ⟨tAsg te (gOf S.K (.tup ts)), fun X d tk => ps_asg (pe X d.sx tk) (pg_of so d.sx (d.sx.cal hc) g) sole_false (hw X d) rfl, sem_asgT se⟩
theorem JS.ret {c : CE} {e : Expr} {p : Pos} (h : JE S W sc c e) : JS S W sc (.ret c) (.Return (some e) p) := by
  obtain ⟨te, pe, se⟩ := h
  refine ⟨tRet te, fun X d tk => ps_ret (pe X d.sx tk), ?_⟩
  intro E δ G0 H0 B G H st σ D D' s x h k
  simp only [wpS] at h
  exact evR se s x h fun G' H' v d n r q => k.rt _ _ _ _ n r q
theorem JS.retN {p : Pos} : JS S W sc .retN (.Return none p) :=
  ⟨tRetN, fun X d tk => ps_retN, fun E δ G0 H0 B G H st σ D D' s x h k => by
    simp only [wpS] at h
    exact k.rt _ _ _ _ s.nx .non h⟩
theorem JS.drop {c : CE} {e : Expr} {p : Pos} (g : isCompE e = false) (h : JE S W sc c e) : JS S W sc (.drop c) (.Expr e p) := by
  obtain ⟨te, pe, se⟩ := h
  refine ⟨tDrop te, fun X d tk => ps_expr (pe X d.sx tk) (by cases e <;> first | rfl | exact absurd g (by simp [isCompE])), ?_⟩
  intro E δ G0 H0 B G H st σ D D' s x h k
  simp only [wpS] at h
  exact se δ _ H _ σ E _ _ (s.at x (vE c)) h fun G' H' v d n r q => k.nx _ _ _ _ (s.back n).1 q
theorem JS.pass {p : Pos} : JS S W sc .pass (.Pass p) := ⟨tNext, fun X d tk => ps_pass, fun E δ G0 H0 B G H st σ D D' s x h k => k.nx _ _ _ _ s (by simpa [wpS] using h)⟩
theorem JS.brk {p : Pos} : JS S W sc .brk (.Break p) := ⟨tBreak, fun X d tk => ps_break, fun E δ G0 H0 B G H st σ D D' s x h k => k.bk _ _ _ _ s (by simpa [wpS] using h)⟩
theorem JS.cont {p : Pos} : JS S W sc .cont (.Continue p) := ⟨tCont, fun X d tk => ps_continue, fun E δ G0 H0 B G H st σ D D' s x h k => k.ct _ _ _ _ s (by simpa [wpS] using h)⟩
theorem JSs.nil : JSs S W sc .nil [] := ⟨tNext, fun X d tk => pss_nil, fun E δ G0 H0 B G H st σ D D' s x h k => k.nx _ _ _ _ s (by simpa [wpSs] using h)⟩
theorem JSs.cons {c : CS} {r : CSs} {s : Stmt} {ss : List Stmt} (h1 : JS S W sc c s) (h2 : JSs S W sc r ss) : JSs S W sc (.cons c r) (s :: ss) := by
  obtain ⟨t1, p1, s1⟩ := h1
  obtain ⟨t2, p2, s2⟩ := h2
  refine ⟨tSeq t1 t2, fun X d tk => pss_cons (p1 X d tk) (p2 X d tk), ?_⟩
  intro E δ G0 H0 B G H st σ D D' s x h k
  simp only [wpSs] at h
  exact s1 E δ G0 H0 B G H st σ _ _ s x h ⟨fun G H st σ s' q => s2 E δ G0 H0 B G H st σ D D' s' x q k, k.rt, k.bk, k.ct⟩
theorem JS.ite {t : CT} {a b : CSs} {e : Expr} {as bs : List Stmt} {p : Pos} (ht : JT S W sc t e) (ha : JSs S W sc a as) (hb : JSs S W sc b bs) : JS S W sc (.ite t a b) (.If e as bs p) := by
  obtain ⟨tt, pt, st'⟩ := ht
  obtain ⟨ta, pa, sa⟩ := ha
  obtain ⟨tb, pb, sb⟩ := hb
  refine ⟨tIfS tt ta tb, fun X d tk => ps_if (pt X d.sx tk).1 (pa X d tk) (pb X d tk), ?_⟩
  intro E δ G0 H0 B G H st σ D D' s x h k
  simp only [wpS] at h
  refine evT st' s x h fun G' H' b s' q => ?_
  cases b with
  | true => exact sa E δ G0 H0 B G' H' st σ D D' s' x q k
  | false => exact sb E δ G0 H0 B G' H' st σ D D' s' x q k
theorem JS.whl {t : CT} {b : CSs} {e : Expr} {bs : List Stmt} {p : Pos} (ht : JT S W sc t e) (hb : JSs S W sc b bs) : JS S W sc (.whl t b) (.While e bs [] p) := by
  obtain ⟨tt, pt, st'⟩ := ht
  obtain ⟨tb, pb, sb⟩ := hb
  refine ⟨tWhile tt tb, fun X d tk => ps_while d.ps (pt X d.sx tk).1 (pb X d tk), ?_⟩
  intro E δ G0 H0 B G H st σ D D' s x h k
  simp only [wpS] at h
  obtain ⟨n, h⟩ := h
  refine ⟨fun m σ H => ∃ G st, SR S.K δ G0 H0 B G H st σ ∧ whlGo (fun st Q => wpT S.Φ t E (viewOf (vT t) st) Q) (wpSs S.Φ E b) D m st, ⟨n, G, st, s, h⟩, ?_⟩
  rintro m σ H ⟨G, st, s, h⟩
  cases m with
  | zero => exact h.elim
  | succ m =>
    simp only [whlGo] at h
    refine evT st' s x h fun G' H' b s' q => ?_
    cases b with
    | false => exact k.nx _ _ _ _ s' q
    | true =>
      refine ⟨fun σ H => ∃ G st, SR S.K δ G0 H0 B G H st σ ∧ whlGo (fun st Q => wpT S.Φ t E (viewOf (vT t) st) Q) (wpSs S.Φ E b) D m st, fun σ' H' z => ⟨m, Nat.lt_succ_self m, z⟩, ?_⟩
      exact sb E δ G0 H0 B G' H' st σ _ _ s' x q ⟨fun G H st σ s' q => ⟨G, st, s', q⟩, k.rt, fun G H st σ s' q => k.nx _ _ _ _ s' q, fun G H st σ s' q => ⟨G, st, s', q⟩⟩
theorem JS.for {tg : Tg} {it : CI} {b : CSs} {te e : Expr} {bs : List Stmt} {p : Pos} (so : SOk S) (hc : S.cal = true) (g : tgC S.N sc tg te = true) (g2 : isSetE e = false) (hi : JI S W sc it te e) (hb : JSs S W sc b bs) : JS S W sc (.for tg it b) (.For te e bs [] p) := by
  obtain ⟨wi, pi, si⟩ := hi
  obtain ⟨tb, pb, sb⟩ := hb
  refine ⟨tFor wi (gOf S.K tg) tb, fun X d tk => ps_for d.ps (d.sx.cal hc) (pi X d.sx tk) (pg_of so d.sx (d.sx.cal hc) g) (pb X d tk) (fun y => folded_plain g2 _ y), ?_⟩
  intro E δ G0 H0 B G H st σ D D' s x h k
  simp only [wpS] at h
  refine si δ _ H _ σ E _ _ (s.at x (vI it)) h fun G1 H1 J items n1 wk q1 => ?_
  have s1 := (s.froz n1)
  have bg : Ex B G1 := s1.ex
  refine ⟨fun i m σ H => m = items.length - i ∧ i ≤ items.length ∧ ∃ G st, SR S.K δ G0 H0 G1 G H st σ ∧ forGo tg (wpSs S.Φ E b) D (items.drop i) st, ⟨_, rfl, Nat.zero_le _, G1, _, s1.rebase, by simpa using q1⟩, ?_⟩
  rintro i m σ H ⟨rfl, hle, G2, st2, s2, go⟩
  obtain ⟨wk1, wk2⟩ := wk G2 H i s2.nx.wd s2.ex
  by_cases hi : i < items.length
  · obtain ⟨hgo, hy⟩ := wk1 hi
    refine .inr ⟨hgo, fun σ' H' => ∃ G st, SR S.K δ G0 H0 G1 G H' st σ' ∧ forGo tg (wpSs S.Φ E b) D (items.drop (i + 1)) st, fun σ' H' z => ⟨_, by omega, rfl, by omega, z⟩, ?_⟩
    intro v H3 hx
    obtain ⟨G3, d, n3, hd, rd⟩ := hy v H3 hx
    have ed : items.drop i = d :: items.drop (i + 1) := by
      have := List.drop_eq_getElem_cons hi
      rw [this]
      rw [List.getElem?_eq_getElem hi] at hd
      cases hd; rfl
    rw [ed] at go
    simp only [forGo] at go
    have s3 : SR S.K δ G0 H0 G1 G3 H3 st2 σ := s2.step n3
    refine g_ok (own := tgVars tg) (P := fun st' σ' => SR S.K δ G0 H0 G1 G3 H3 st' σ') n3.wd (fun i v d ρ σ' _ r p => p.set i r) tg (fun _ h => h) rd go s3 fun st' σ' p q => ?_
    exact sb E δ G0 H0 G1 G3 H3 st' σ' _ _ p x q ⟨fun G H st σ s' q => ⟨G, st, s', q⟩, k.rt, fun G H st σ s' q => k.nx _ _ _ _ (s'.base bg) q, fun G H st σ s' q => ⟨G, st, s', q⟩⟩
  · have e : i = items.length := by omega
    subst e
    rw [List.drop_length] at go
    exact .inl ⟨wk2 (Nat.le_refl _), k.nx _ _ _ _ (s2.base bg) go⟩
end
end Ey

end
section
set_option Elab.async false
set_option linter.all false
set_option maxRecDepth 100000
set_option maxHeartbeats 1000000
/-! Ey16: lists of our own: append, extend, insert, an item set; stores of several. -/
namespace Ey
open PySem PySem.Spec PyProof.Rows L2
open Evl (Ex)
section
variable {S : SC} {W : WX} {E : EPo} {sc : Scope} {X : Cx} {δ : Option (Addr × Addr)} {G0 H0 B G H G2 H2 : Hp} {st : Sls} {σ : L2.St} {vs : List Nat}
theorem few_one {e : Expr} (g : isStar e = false) {cpos : Pos} : ((backTo cpos (starEach [e] X.env)).all (fun x => !x.1) && (backToKw cpos (keywordEach [] X.env)).all (fun x => x.1.isSome)
      && decide ([e].length + ([] : List Keyword).length + (if ([] : List Keyword).isEmpty then 0 else 1) < 30)) = true := by
  rw [star_one g]; rfl
theorem base_plain {o : Expr} (h : ∀ f es ks p, o ≠ .Call f es ks p) {m : Str} {env : PySem.Env} {w : Sem Value} : attributeBase o m env w = w := by
  cases o <;> first
    | rfl
    | exact absurd rfl (h _ _ _ _)
theorem app_run {te : TE} {c : CE} {i : Nat} (se : SemE S W te (wpE S.Φ c)) (s : SR S.K δ G0 H0 B G H st σ) (x : XC S W δ G0 H0 E) {D : En} (h : wpApp S.Φ E i c D st) {R : VK} (k : ∀ G H st, SR S.K δ G0 H0 B G H st σ → D.nx st → R .non H) : 
    ∃ a us, σ[i]? = some (some (V.ref a)) ∧ H a = some (.lst us) ∧ tCons te tNil σ H fun ws H2 => rAppend (.ref a) ws H2 R := by
  obtain ⟨xs, hx, lz, h⟩ := h
  obtain ⟨a, us, e, h1, h2, h3, h4, r⟩ := s.ow i xs hx
  refine ⟨a, us, e, h1, ?_⟩
  refine se δ _ H _ σ E _ _ (s.at x (vE c)) h fun G' H' v d n rd q => ?_
  obtain ⟨cc, q⟩ := q
  obtain ⟨G3, s3, r3⟩ := s.backRl n rd cc
  obtain ⟨b, us3, e3, k1, k2, k3, k4, ra⟩ := s3.ow i xs hx
  rw [e] at e3; cases e3
  refine ⟨a, us3, v, rfl, rfl, k1, by rw [ra.length, sizeLine_eq]; omega, ?_⟩
  exact k G3 _ _ (s3.upd hx e (ra.append (.cons r3 .nil))) q
theorem JS.app {i : Nat} {c : CE} {z : Str} {e : Expr} {p1 apos cpos p : Pos} (g : varC S.N sc i z = true) (gs : isStar e = false) (hl : (apos.endLine == cpos.line) = true) (h : JE S W sc c e) :
    JS S W sc (.app i c) (.Expr (.Call (.Attribute (.Name z p1) "append" apos) [e] [] cpos) p) := by
  obtain ⟨te, pe, se⟩ := h
  simp only [varC, Bool.and_eq_true, decide_eq_true_eq, Bool.not_eq_true'] at g
  obtain ⟨⟨⟨g1, g2⟩, g3⟩, g4⟩ := g
  refine ⟨tDrop (tBM S.K "list" rAppend (tVar i) (tCons te tNil)), fun X d tk => ?_, ?_⟩
  · rw [← d.sx.K]
    exact ps_expr (pe_bm PySem.F.plainAttrs_list PySem.F.slot_list_append PySem.F.type_list_append mt_append (pe_var (by rw [d.sx.N]; exact g1) (d.sx.vis g2) g3 g4) (pa_cons (pe X d.sx tk) pa_nil (star_one gs))
      (base_plain (fun _ _ _ _ z => by cases z)) (few_one gs) hl (star_one gs) rfl) rfl
  · intro E δ G0 H0 B G H st σ D D' s x h k
    simp only [wpS] at h
    obtain ⟨a, us, e1, h1, q⟩ := app_run (R := fun _ H1 => D'.nx σ H1) se s x h fun G H st s q => k.nx _ _ _ _ s q
    exact ⟨_, e1, .inl ⟨rfl, _, SqL.of h1⟩, q⟩
theorem JS.appI {t : CT} {i j : Nat} {c : CE} {y z : Str} {e b : Expr} {p0 p1 p2 apos cpos p : Pos} (g : varC S.N sc i y = true) (f : varC S.N sc j z = true) (gs : isStar e = false) (hl : (apos.endLine == cpos.line) = true) (ht : JT S W sc t b) (h : JE S W sc c e) :
    JS S W sc (.appI t i j c) (.Expr (.Call (.Attribute (.IfExp b (.Name y p1) (.Name z p2) p0) "append" apos) [e] [] cpos) p) := by
  obtain ⟨te, pe, se⟩ := h
  obtain ⟨tt, pt, st'⟩ := ht
  simp only [varC, Bool.and_eq_true, decide_eq_true_eq, Bool.not_eq_true'] at g f
  obtain ⟨⟨⟨g1, g2⟩, g3⟩, g4⟩ := g
  obtain ⟨⟨⟨f1, f2⟩, f3⟩, f4⟩ := f
  refine ⟨tDrop (tBM S.K "list" rAppend (tIf tt (tVar i) (tVar j)) (tCons te tNil)), fun X d tk => ?_, ?_⟩
  · rw [← d.sx.K]
    exact ps_expr (pe_bm PySem.F.plainAttrs_list PySem.F.slot_list_append PySem.F.type_list_append mt_append (pe_ifExp (pt X d.sx tk).1 (pe_var (by rw [d.sx.N]; exact g1) (d.sx.vis g2) g3 g4) (pe_var (by rw [d.sx.N]; exact f1) (d.sx.vis f2) f3 f4)) (pa_cons (pe X d.sx tk) pa_nil (star_one gs))
      (base_plain (fun _ _ _ _ z => by cases z)) (few_one gs) hl (star_one gs) rfl) rfl
  · intro E δ G0 H0 B G H st σ D D' s x h k
    simp only [wpS] at h
    refine evT st' s x h fun G' H' b s' q => ?_
    cases b with
    | true =>
      obtain ⟨a, us, e1, h1, q⟩ := app_run (R := fun _ H1 => D'.nx σ H1) se s' x q fun G H st s q => k.nx _ _ _ _ s q
      exact ⟨_, e1, .inl ⟨rfl, _, SqL.of h1⟩, q⟩
    | false =>
      obtain ⟨a, us, e1, h1, q⟩ := app_run (R := fun _ H1 => D'.nx σ H1) se s' x q fun G H st s q => k.nx _ _ _ _ s q
      exact ⟨_, e1, .inl ⟨rfl, _, SqL.of h1⟩, q⟩
theorem JS.ext {i : Nat} {c : CE} {z : Str} {e : Expr} {p1 apos cpos p : Pos} (g : varC S.N sc i z = true) (gs : isStar e = false) (hl : (apos.endLine == cpos.line) = true) (h : JE S W sc c e) :
    JS S W sc (.ext i c) (.Expr (.Call (.Attribute (.Name z p1) "extend" apos) [e] [] cpos) p) := by
  obtain ⟨te, pe, se⟩ := h
  simp only [varC, Bool.and_eq_true, decide_eq_true_eq, Bool.not_eq_true'] at g
  obtain ⟨⟨⟨g1, g2⟩, g3⟩, g4⟩ := g
  refine ⟨tDrop (tBM S.K "list" rExtend (tVar i) (tCons te tNil)), fun X d tk => ?_, ?_⟩
  · rw [← d.sx.K]
    exact ps_expr (pe_bm PySem.F.plainAttrs_list PySem.F.slot_list_extend PySem.F.type_list_extend mt_extend (pe_var (by rw [d.sx.N]; exact g1) (d.sx.vis g2) g3 g4) (pa_cons (pe X d.sx tk) pa_nil (star_one gs))
      (base_plain (fun _ _ _ _ z => by cases z)) (few_one gs) hl (star_one gs) rfl) rfl
  · intro E δ G0 H0 B G H st σ D D' s x h k
    simp only [wpS] at h
    obtain ⟨xs, hx, h⟩ := h
    obtain ⟨a, us, e, h1, h2, h3, h4, r⟩ := s.ow i xs hx
    refine ⟨_, e, .inl ⟨rfl, _, SqL.of h1⟩, ?_⟩
    refine se δ _ H _ σ E _ _ (s.at x (vE c)) h fun G' H' v d n rd q => ?_
    obtain ⟨ys, rfl, lz, cc, q⟩ := q
    obtain ⟨b, us2, rfl, hb, gb, rb⟩ := rd.of_lst n.wd
    obtain ⟨G3, s3, r3, _⟩ := s.backAll n rb cc
    obtain ⟨b', us3, e3, k1, k2, k3, k4, ra⟩ := s3.ow i xs hx
    rw [e] at e3; cases e3
    refine ⟨a, b, us3, us2, rfl, rfl, k1, hb, by rw [ra.length, rb.length]; exact sz5 lz, ?_⟩
    exact k.nx _ _ _ _ (s3.upd hx e (ra.append r3)) q
def rInsV : V → List V → Hp → VK → Prop := fun x vs H Q => ∃ (a : Addr) (us : List V) (j : Int) (v : V), x = V.ref a ∧ vs = [V.int j, v] ∧ H a = some (.lst us) ∧ us.length < sizeLine ∧ 0 ≤ j ∧ j < 2 ^ 63 ∧
  Q V.non (L2.upd H a (.lst (us.take j.toNat ++ [v] ++ us.drop j.toNat)))
theorem JS.ins {i : Nat} {ck c : CE} {z : Str} {ek e : Expr} {p1 apos cpos p : Pos} (g : varC S.N sc i z = true) (gk : isStar ek = false) (gs : isStar e = false) (hl : (apos.endLine == cpos.line) = true) (hk : JE S W sc ck ek) (h : JE S W sc c e) :
    JS S W sc (.ins i ck c) (.Expr (.Call (.Attribute (.Name z p1) "insert" apos) [ek, e] [] cpos) p) := by
  obtain ⟨tk', pk, sk⟩ := hk
  obtain ⟨te, pe, se⟩ := h
  simp only [varC, Bool.and_eq_true, decide_eq_true_eq, Bool.not_eq_true'] at g
  obtain ⟨⟨⟨g1, g2⟩, g3⟩, g4⟩ := g
  refine ⟨tDrop (tBM S.K "list" rInsV (tVar i) (tCons tk' (tCons te tNil))), fun X d tk => ?_, ?_⟩
  · rw [← d.sx.K]
    exact ps_expr (pe_bm PySem.F.plainAttrs_list PySem.F.slot_list_insert PySem.F.type_list_insert mt_insert (pe_var (by rw [d.sx.N]; exact g1) (d.sx.vis g2) g3 g4) (pa_cons (pk X d.sx tk) (pa_cons (pe X d.sx tk) pa_nil (star_one gs)) (star_one gk))
      (base_plain (fun _ _ _ _ z => by cases z)) (by rw [star_one gk, star_one gs]; rfl) hl (star_one gk) (by rw [star_one gs]; rfl)) rfl
  · intro E δ G0 H0 B G H st σ D D' s x h k
    simp only [wpS] at h
    obtain ⟨xs, hx, h⟩ := h
    obtain ⟨a, us, e, h1, h2, h3, h4, r⟩ := s.ow i xs hx
    refine ⟨_, e, .inl ⟨rfl, _, SqL.of h1⟩, ?_⟩
    refine sk δ _ H _ σ E _ _ (s.at x (vE ck)) h fun G1 H1 v1 d1 n1 r1 q1 => ?_
    obtain ⟨j, rfl, lj, lz, q1⟩ := q1
    have s1 := (s.back n1).1
    refine se δ _ H1 _ σ E _ _ (s1.at x (vE c)) q1 fun G' H' v d n rd q => ?_
    obtain ⟨cc, q⟩ := q
    obtain ⟨G3, s3, r3⟩ := s1.backRl n rd cc
    obtain ⟨b', us3, e3, k1, k2, k3, k4, ra⟩ := s3.ow i xs hx
    rw [e] at e3; cases e3
    refine ⟨a, us3, (j : Int), v, rfl, by rw [r1.of_int], k1, by rw [ra.length, sizeLine_eq]; omega, by omega, by have := lz; omega, ?_⟩
    refine k.nx _ _ _ _ (s3.upd hx e ?_) q
    rw [Int.toNat_natCast]
    exact ((ra.take j).append (.cons r3 .nil)).append (ra.drop j)
theorem JS.stI {i : Nat} {ck c : CE} {z : Str} {ek e : Expr} {p1 tpos p : Pos} (g : varC S.N sc i z = true) (gw : ∀ X, Sd S sc X → swapsWith e (some (.Subscript (.Name z p1) ek tpos)) p.line X.env = pure false) (gk : noSl ek = true) (hk : JE S W sc ck ek) (h : JE S W sc c e) :
    JS S W sc (.stI i ck c) (.Assign [.Subscript (.Name z p1) ek tpos] e p) := by
  obtain ⟨tk', pk, sk⟩ := hk
  obtain ⟨te, pe, se⟩ := h
  simp only [varC, Bool.and_eq_true, decide_eq_true_eq, Bool.not_eq_true'] at g
  obtain ⟨⟨⟨g1, g2⟩, g3⟩, g4⟩ := g
  refine ⟨tAsg te (gSub (tVar i) tk' rSetL), fun X d tk => ?_, ?_⟩
  · exact ps_asg (pe X d.sx tk) (pg_sub (pe_var (by rw [d.sx.N]; exact g1) (d.sx.vis g2) g3 g4) (pk X d.sx tk) set_list (by intro _; cases ek <;> first | rfl | exact absurd gk Bool.false_ne_true)) (gw X d) (by cases e <;> rfl) rfl
  · intro E δ G0 H0 B G H st σ D D' s x h k
    simp only [wpS] at h
    obtain ⟨xs, hx, h⟩ := h
    refine se δ _ H _ σ E _ _ (s.at x (vE c)) h fun G1 H1 v d n rd q => ?_
    obtain ⟨cc, q⟩ := q
    obtain ⟨G2, s2, r2⟩ := s.backRl n rd cc
    obtain ⟨a, us, e, h1, h2, h3, h4, r⟩ := s2.ow i xs hx
    refine ⟨_, e, ?_⟩
    refine sk δ _ H1 _ σ E _ _ (s2.at x (vE ck)) q fun G3 H3 v3 d3 n3 r3 q3 => ?_
    obtain ⟨m, j, rfl, hj, q3⟩ := q3
    have s3 := (s2.back n3).1
    have gx := s2.hd_ex n3
    obtain ⟨b', us3, e3, k1, k2, k3, k4, ra⟩ := s3.ow i xs hx
    rw [e] at e3; cases e3
    refine ⟨a, us3, m, j, rfl, r3.of_int, k1, by rw [ra.length]; exact hj, ?_⟩
    exact k.nx _ _ _ _ (s3.upd hx e (RlAll.set (r2.mono gx) j ra)) q3
theorem seq_at {m n : Nat} (h : m < n) : seqIndex? (m : Int) n = some m := by
  unfold seqIndex?
  have h1 : ¬ ((m : Int) < 0) := by omega
  have h2 : (0 ≤ (m : Int) && (m : Int) < n) = true := by
    rw [Bool.and_eq_true, decide_eq_true_eq, decide_eq_true_eq]
    omega
  simp only [if_neg h1, h2, if_pos, Int.toNat_natCast]
theorem RlAll.out {K : PySem.W.Frag} {δ : Option (Addr × Addr)} {G : Hp} : ∀ {us : List V} {xs : List D} (m : Nat), RlAll K G δ us xs → RlAll K G δ (us.eraseIdx m) (xs.eraseIdx m)
  | _, _, _, .nil => .nil
  | _, _, 0, .cons _ t => t
  | _, _, m + 1, .cons r t => .cons r (RlAll.out m t)
/-- found.append(left.pop(e)) -/
theorem JS.appPop {i j : Nat} {c : CE} {y z : Str} {e : Expr} {p1 p2 apos cpos bpos dpos p : Pos} (g : varC S.N sc i y = true) (f : varC S.N sc j z = true) (gs : isStar e = false) (hl : (apos.endLine == cpos.line) = true) (hl2 : (bpos.endLine == dpos.line) = true) (h : JE S W sc c e) :
    JS S W sc (.appPop i j c) (.Expr (.Call (.Attribute (.Name y p1) "append" apos) [.Call (.Attribute (.Name z p2) "pop" bpos) [e] [] dpos] [] cpos) p) := by
  obtain ⟨te, pe, se⟩ := h
  simp only [varC, Bool.and_eq_true, decide_eq_true_eq, Bool.not_eq_true'] at g f
  obtain ⟨⟨⟨g1, g2⟩, g3⟩, g4⟩ := g
  obtain ⟨⟨⟨f1, f2⟩, f3⟩, f4⟩ := f
  refine ⟨tDrop (tBM S.K "list" rAppend (tVar i) (tCons (tBM S.K "list" rPopAt (tVar j) (tCons te tNil)) tNil)), fun X d tk => ?_, ?_⟩
  · rw [← d.sx.K]
    exact ps_expr (pe_bm PySem.F.plainAttrs_list PySem.F.slot_list_append PySem.F.type_list_append mt_append (pe_var (by rw [d.sx.N]; exact g1) (d.sx.vis g2) g3 g4)
      (pa_cons (pe_bm PySem.F.plainAttrs_list PySem.F.slot_list_pop PySem.F.type_list_pop mt_popAt (pe_var (by rw [d.sx.N]; exact f1) (d.sx.vis f2) f3 f4) (pa_cons (pe X d.sx tk) pa_nil (star_one gs)) (base_plain (fun _ _ _ _ z => by cases z)) (few_one gs) hl2 (star_one gs) rfl) pa_nil (star_one rfl))
      (base_plain (fun _ _ _ _ z => by cases z)) (few_one rfl) hl (star_one rfl) rfl) rfl
  · intro E δ G0 H0 B G H st σ D D' s x h k
    simp only [wpS] at h
    obtain ⟨ne, xs, ys, hx, hy, lz, h⟩ := h
    obtain ⟨a, us, e1, a1, _⟩ := s.ow i xs hx
    obtain ⟨b, vs, e2, b1, _⟩ := s.ow j ys hy
    refine ⟨_, e1, .inl ⟨rfl, _, SqL.of a1⟩, ?_⟩
    refine ⟨_, e2, .inl ⟨rfl, _, SqL.of b1⟩, ?_⟩
    refine se δ _ H _ σ E _ _ (s.at x (vE c)) h fun G' H' v d n rd q => ?_
    obtain ⟨m, z, rfl, lm, hz, q⟩ := q
    have s3 := (s.back n).1
    obtain ⟨b', vs3, e3, k1, k2, k3, k4, rb⟩ := s3.ow j ys hy
    rw [e2] at e3; cases e3
    obtain ⟨w, hw, rw'⟩ := rb.get hz
    have lm' : m < vs3.length := (List.getElem?_eq_some_iff.mp hw).1
    refine ⟨b, vs3, m, m, w, rfl, by rw [rd.of_int], k1, by omega, by omega, seq_at lm', hw, ?_⟩
    have s4 := s3.upd hy e2 (RlAll.out m rb)
    have hx' : (st.set j (.own (ys.eraseIdx m)))[i]? = some (Sl.own xs) := by rw [List.getElem?_set_ne (Ne.symm ne)]; exact hx
    obtain ⟨a', us4, e4, l1, l2, l3, l4, ra⟩ := s4.ow i xs hx'
    rw [e1] at e4; cases e4
    refine ⟨a, us4, w, rfl, rfl, l1, by rw [ra.length, sizeLine_eq]; omega, ?_⟩
    exact k.nx _ _ _ _ (s4.upd hx' e1 (ra.append (.cons rw' .nil))) q
end
end Ey

end
section
set_option Elab.async false
set_option linter.all false
set_option maxRecDepth 100000
set_option maxHeartbeats 1000000
/-! Ey16b: the deck. -/
namespace Ey
open PySem PySem.Spec PyProof.Rows L2
open Evl (Ex)
section
variable {S : SC} {W : WX} {E : EPo} {sc : Scope} {X : Cx} {δ : Option (Addr × Addr)} {G0 H0 B G H G2 H2 : Hp} {st : Sls} {σ : L2.St} {p : Addr × Addr}
/-- the deck changes -/
theorem SR.deck (s : SR S.K δ G0 H0 B G H st σ) (e : δ = some p) {a : Addr} (ha : a = p.1 ∨ a = p.2) {o : HO} (d : DeckAt (L2.upd H a o) p) : SR S.K δ G0 H0 B G (L2.upd H a o) st σ := by
  have far : ∀ {b : Addr}, NotDk δ b → b ≠ a := fun n z => by
    obtain ⟨n1, n2⟩ := n p e
    rcases ha with rfl | rfl
    · exact n1 z
    · exact n2 z
  have ga : G a = none := by
    obtain ⟨g1, g2, _⟩ := s.nx.wd.dk p e
    rcases ha with rfl | rfl
    · exact g1
    · exact g2
  refine ⟨⟨⟨fun b u h => ?_, fun q h => ?_⟩, s.nx.grow, fun b u h n m => ?_⟩, s.ex, s.len, s.dd, fun i xs h => ?_, s.inj⟩
  · rw [upd_ne (ne_of_none h ga)]; exact s.nx.wd.ex b u h
  · obtain ⟨g1, g2, _⟩ := s.nx.wd.dk q h
    rw [e] at h; cases h
    exact ⟨g1, g2, d⟩
  · obtain ⟨k1, k2⟩ := s.nx.keep b u h n m
    exact ⟨by rw [upd_ne (far m)]; exact k1, k2⟩
  · obtain ⟨b, us, e1, h1, h2, h3, h4, r⟩ := s.ow i xs h
    exact ⟨b, us, e1, by rw [upd_ne (far h4)]; exact h1, h2, h3, h4, r⟩
theorem SR.deckOf (s : SR S.K δ G0 H0 B G H st σ) {j : Nat} (h : st[j]? = some (Sl.d deckD)) : ∃ p, δ = some p ∧ σ[j]? = some (some (.ref p.1)) ∧ DeckAt H p := by
  obtain ⟨v, e, r⟩ := s.dd j _ h
  obtain ⟨p, hp, rfl⟩ := r.of_deck
  exact ⟨p, hp, e, (s.nx.wd.dk p hp).2.2⟩
theorem JS.dkSet {j : Nat} {f : Str} {c : CE} {z : Str} {e : Expr} {k1 : Nat} {p1 p2 tp p : Pos} (g : varC S.N sc j z = true) (hf : f = "mixed" ∨ f = "draws") (gc : ∀ X, Sd S sc X → swapsWith e (some (.Subscript (.Name z p1) (.Constant (.str f) k1 p2) tp)) p.line X.env = pure false) (h : JE S W sc c e) :
    JS S W sc (.dkSet j f c) (.Assign [.Subscript (.Name z p1) (.Constant (.str f) k1 p2) tp] e p) := by
  obtain ⟨te, pe, se⟩ := h
  simp only [varC, Bool.and_eq_true, decide_eq_true_eq, Bool.not_eq_true'] at g
  obtain ⟨⟨⟨g1, g2⟩, g3⟩, g4⟩ := g
  refine ⟨sDPut (tVar j) (tC (.str f)) te, fun X d tk => ps_dput (by have := d.sx.units; omega) (pe_var (by rw [d.sx.N]; exact g1) (d.sx.vis g2) g3 g4) pe_str (pe X d.sx tk) (gc X d), ?_⟩
  intro E δ G0 H0 B G H st σ D D' s x h k
  simp only [wpS] at h
  obtain ⟨h1, h⟩ := h
  refine se δ _ H _ σ E _ _ (s.at x (vE c)) h fun G1 H1 v d n r q => ?_
  obtain ⟨i, rfl, q⟩ := q
  have s1 := (s.back n).1
  obtain ⟨q', hq, e1, dk⟩ := s1.deckOf h1
  obtain ⟨kn, ns, m, cc, kk, d1, d2, d3⟩ := dk
  have v' := r.of_int
  subst v'
  have ne : q'.2 ≠ q'.1 := fun z => by rw [z, d1] at d2; cases d2
  subst kk
  rcases hf with rfl | rfl
  · refine ⟨_, e1, q'.1, _, rfl, DPut.k (k := .inr "mixed") d1 (by rw [sizeLine_eq]; show 3 < 16777216; decide), ?_⟩
    exact k.nx _ _ _ _ (s1.deck hq (.inl rfl) ⟨deckKey, ns, i, cc, rfl, upd_same, by rw [upd_ne ne]; exact d2, d3⟩) q
  · refine ⟨_, e1, q'.1, _, rfl, DPut.k (k := .inr "draws") d1 (by rw [sizeLine_eq]; show 3 < 16777216; decide), ?_⟩
    exact k.nx _ _ _ _ (s1.deck hq (.inl rfl) ⟨deckKey, ns, m, i, rfl, upd_same, by rw [upd_ne ne]; exact d2, d3⟩) q
/-- the cell taken: text -/
def asCell : Stmt → Option ((Str × Str × Str × Str × Str × Str) × (Str × Str × Str × Str × Str) × (Str × Str × Str × Str × Str) × (Int × Int × Int) × List Stmt)
  | .If (.Compare (.Subscript (.Name z1 _) (.Constant (.str k1) _ _) _) [.NotEq] [.List [] _] _)
      (.Assign [.Name c1 _] (.Call (.Attribute (.Subscript (.Name z2 _) (.Constant (.str k2) _ _) _) q1 ap1) [] [] cp1) _ ::
        .If (.Compare (.Name c2 _) [.GtE] [.BinOp (.Constant (.int a) _ _) .Pow (.Constant (.int b) _ _) _] _)
          [.Expr (.Call (.Attribute (.Subscript (.Name z3 _) (.Constant (.str k3) _ _) _) q2 ap2) [.BinOp (.Name c3 _) .FloorDiv (.Call (.Name f1 _) [.Constant (.int m) _ _, .Name y1 _] [] _) _] [] cp2) _,
            .Return (some (.BinOp (.Call (.Name f2 _) [.Name c4 _] [] _) .Mod (.Name y2 _) _)) _] [] _ :: bs) [] _ =>
    if (ap1.endLine == cp1.line) = true ∧ (ap2.endLine == cp2.line) = true then some ((z1, z2, z3, k1, k2, k3), (c1, c2, c3, c4, y1), (y2, q1, q2, f1, f2), (a, b, m), bs) else none
  | _ => none
def cellC (cf : Cfg) (N : List Str) (cal : Bool) (sc : Scope) (j i m : Nat) : Stmt → Option (List Stmt)
  | s => match asCell s with
    | some ((z1, z2, z3, k1, k2, k3), (c1, c2, c3, c4, y1), (y2, q1, q2, f1, f2), (a, b, k), bs) =>
      if (cal && varC N sc j z1 && decide (z2 = z1 ∧ z3 = z1 ∧ k1 = deckKey ∧ k2 = deckKey ∧ k3 = deckKey ∧ c2 = c1 ∧ c3 = c1 ∧ c4 = c1 ∧ y2 = y1 ∧ q1 = "pop" ∧ q2 = "append" ∧ f1 = "max" ∧ f2 = "int" ∧ a = 10 ∧ b = 18 ∧ k = 2) && varC N sc i c1 && locC N sc i c1 && varC N sc m y1 &&
        glC sc "max" && glC sc "int" && decide (("max" : Str) ∈ cf.bl) && decide (("int" : Str) ∈ cf.bl) && decide (i ≠ m) && decide (i ≠ j)) = true then some bs else none
    | none => none
theorem varC_of {j : Nat} {z : Str} (g : varC S.N sc j z = true) (d : Sx S sc X) {p : Pos} : PE X (.Name z p) (tVar j) := by
  simp only [varC, Bool.and_eq_true, decide_eq_true_eq, Bool.not_eq_true'] at g
  exact pe_var (by rw [d.N]; exact g.1.1.1) (d.vis g.1.1.2) g.1.2 g.2
def rMx : List V → Hp → VK → Prop := fun xs H Q => ∃ i j, xs = [V.int i, V.int j] ∧ Q (.int (if j > i then j else i)) H
def rI1 : List V → Hp → VK → Prop := fun xs H Q => (∃ i, xs = [V.int i] ∧ Q (.int i) H) ∨ ∃ k, xs = [V.bl k] ∧ Q (.int (if k then 1 else 0)) H
def tKey (j : Nat) : TE := tDGet (tVar j) (tC (.str deckKey))
def tCellIf (K : PySem.W.Frag) (j : Nat) : TT := tTest (tOp (rEqE K not) (tKey j) (tLst tNil))
def tPop (K : PySem.W.Frag) (j : Nat) : TE := tBM0 K "list" rPop (tKey j)
def tBig (i : Nat) : TT := tTest (tOp (rI0 fun i j => .bl (decide (j ≤ i))) (tVar i) (tOp (rI CPow fun i j => .int (i ^ j.toNat)) (tC (.int 10)) (tC (.int 18))))
def tBack (K : PySem.W.Frag) (j i m : Nat) : TE := tBM K "list" rAppend (tKey j) (tCons (tOp (rI CDivX fun i j => .int (i.fdiv j)) (tVar i) (tCB rMx (tCons (tC (.int 2)) (tCons (tVar m) tNil)))) tNil)
def tHand (i m : Nat) : TE := tOp (rI (fun _ j => j ≠ 0) fun i j => .int (i.fmod j)) (tCB rI1 (tCons (tVar i) tNil)) (tVar m)
def tCell (K : PySem.W.Frag) (j i m : Nat) (tb : TS) : TS := tIfS (tCellIf K j) (tSeq (tAsg (tPop K j) (gName i)) (tSeq (tIfS (tBig i) (tSeq (tDrop (tBack K j i m)) (tRet (tHand i m))) tNext) tb)) tNext
theorem key_run {R : VK} {j : Nat} {m c : Int} (h1 : σ[j]? = some (some (V.ref p.1))) (h2 : H p.1 = some (.dK [(.inr deckKey, .ref p.2), (.inr "mixed", .int m), (.inr "draws", .int c)])) (q : R (.ref p.2) H) : tKey j σ H R :=
  ⟨_, h1, p.1, .ref p.2, rfl, DGet.k (k := .inr deckKey) h2, q⟩
theorem sem_cell {j i m : Nat} {b : CSs} {tb : TS} (him : i ≠ m) (hij : i ≠ j) (sb : SemS S W tb (fun E => wpSs S.Φ E b)) : SemS S W (tCell S.K j i m tb) (fun E => wpS S.Φ E (.dkCell j i m b)) := by
  intro E δ G0 H0 B G H st σ D D' s x h k
  simp only [wpS] at h
  obtain ⟨h1, hi, ⟨kk, hm, k0, k1, hr⟩, hb, hn⟩ := h
  obtain ⟨p, hp, e1, dk⟩ := s.deckOf h1
  obtain ⟨kn, ns, mx, cc, rfl, d1, d2, d3⟩ := dk
  have ne : p.2 ≠ p.1 := fun z => by rw [z, d1] at d2; cases d2
  obtain ⟨vm, em, rm⟩ := s.dd m _ hm
  have := rm.of_int
  subst this
  refine key_run e1 d1 ⟨Nat.zero_le _, fun q hq => ?_⟩
  have a1 : L2.upd H q (.lst []) p.1 = _ := (upd_ne (ne_of_none d1 hq)).trans d1
  have a2 : L2.upd H q (.lst []) p.2 = _ := (upd_ne (ne_of_none d2 hq)).trans d2
  have s1 : SR S.K δ G0 H0 B G (L2.upd H q (.lst [])) st σ := s.step (Nx.newH s.nx.wd hq)
  refine .inr ⟨p.2, q, _, rfl, rfl, a2, upd_same, ?_⟩
  refine ⟨_, rfl, ?_⟩
  by_cases z : ns = []
  · subst z
    exact k.nx _ _ _ _ s1 hn
  · have zt : (not (ns.map V.int).isEmpty) = true := by cases ns with
      | nil => exact absurd rfl z
      | cons _ _ => rfl
    dsimp only
    rw [if_pos zt]
    have hlen : 0 < ns.length := List.length_pos_iff.mpr z
    refine key_run e1 a1 ⟨.inl ⟨rfl, _, SqL.of a2⟩, p.2, _, V.int (ns.getLast z), rfl, rfl, a2, ?_, ?_⟩
    · rw [List.getElem?_map, List.length_map, List.getLast_eq_getElem, List.getElem?_eq_getElem (by omega)]; rfl
    · rw [← List.map_dropLast]
      generalize hH2 : L2.upd (L2.upd H q (.lst [])) p.2 (.lst (ns.dropLast.map V.int)) = H2
      have b1 : H2 p.1 = some (.dK [(.inr deckKey, V.ref p.2), (.inr "mixed", V.int mx), (.inr "draws", V.int cc)]) := by rw [← hH2]; exact (upd_ne ne.symm).trans a1
      have b2 : H2 p.2 = some (.lst (ns.dropLast.map V.int)) := by rw [← hH2]; exact upd_same
      have l2 : ns.dropLast.length ≤ 99 := by rw [List.length_dropLast]; omega
      have s2 : SR S.K δ G0 H0 B G H2 st σ := by
        rw [← hH2]
        refine s1.deck hp (.inr rfl) ⟨deckKey, ns.dropLast, mx, cc, rfl, ?_, ?_, by omega⟩
        · rw [hH2]; exact b1
        · rw [hH2]; exact b2
      have s3 := s2.set i (.int (ns.getLast z))
      have ei : (σ.set i (some (V.int (ns.getLast z))))[i]? = some (some (.int (ns.getLast z))) := List.getElem?_set_self (by rw [← s.len]; exact hi)
      have ej : (σ.set i (some (V.int (ns.getLast z))))[j]? = some (some (.ref p.1)) := by
        rw [List.getElem?_set_ne hij]; exact e1
      have em' : (σ.set i (some (V.int (ns.getLast z))))[m]? = some (some (.int kk)) := by
        rw [List.getElem?_set_ne him]; exact em
      refine ⟨_, ei, 10, 18, rfl, rfl, ⟨by omega, by omega, by decide⟩, _, _, rfl, rfl, _, rfl, ?_⟩
      dsimp only
      split
      · refine key_run ej b1 ⟨.inl ⟨rfl, _, SqL.of b2⟩, _, ei, _, em', _, _, rfl, _, _, rfl, rfl, ?_, p.2, _, _, rfl, rfl, b2, by rw [List.length_map, sizeLine_eq]; omega, ?_⟩
        · refine ⟨by split <;> omega, ?_⟩
          have : (if kk > 2 then kk else 2).natAbs < 2 ^ 64 := by split <;> omega
          exact Nat.lt_of_lt_of_le (Nat.log2_lt (by split <;> omega) |>.mpr this) (by decide)
        · refine ⟨_, ei, .inl ⟨_, rfl, _, em', _, _, rfl, rfl, by omega, ?_⟩⟩
          have s4 := s3.deck hp (.inr rfl) (a := p.2) (o := .lst ((ns.dropLast ++ [(ns.getLast z).fdiv (if kk > 2 then kk else 2)]).map V.int)) ⟨deckKey, _, mx, cc, rfl, (upd_ne ne.symm).trans b1, upd_same, by rw [List.length_append]; simp at l2 ⊢; omega⟩
          rw [List.map_append] at s4
          exact k.rt _ _ _ _ s4.nx (.int _) (hr _)
      · exact sb E δ G0 H0 B G H2 _ _ D D' s3 x (hb _) k
theorem JS.dkCell {j i m : Nat} {b : CSs} {s : Stmt} {bs : List Stmt} (so : SOk S) (g : cellC S.cf S.N S.cal sc j i m s = some bs) (hb : JSs S W sc b bs) : JS S W sc (.dkCell j i m b) s := by
  obtain ⟨tb, pb, sb⟩ := hb
  unfold cellC at g
  dsimp only at g
  split at g
  · rename_i z1 z2 z3 k1 k2 k3 c1 c2 c3 c4 y1 y2 q1 q2 f1 f2 a b' k bs' hs
    split at g
    · rename_i hh
      have : bs' = bs := by simpa using g
      subst this
      simp only [Bool.and_eq_true, decide_eq_true_eq] at hh
      obtain ⟨⟨⟨⟨⟨⟨⟨⟨⟨⟨⟨hcal, v1⟩, rfl, rfl, rfl, rfl, rfl, rfl, rfl, rfl, rfl, rfl, rfl, rfl, rfl, rfl, rfl, rfl⟩, v2⟩, l2⟩, v3⟩, gm⟩, gi⟩, bm⟩, bi⟩, him⟩, hij⟩ := hh
      unfold asCell at hs
      split at hs
      · split at hs
        · rename_i hl
          simp only [Option.some.injEq, Prod.mk.injEq] at hs
          obtain ⟨⟨rfl, rfl, rfl, rfl, rfl, rfl⟩, ⟨rfl, rfl, rfl, rfl, rfl⟩, ⟨rfl, rfl, rfl, rfl, rfl⟩, ⟨rfl, rfl, rfl⟩, rfl⟩ := hs
          refine ⟨tCell S.K j i m tb, fun X d tk => ?_, sem_cell him hij sb⟩
          have u1 : X.A.units + 1 < cLine := by have := d.sx.units; omega
          have mm : X.mg "max" = none := by rw [d.sx.mg]; exact so.bl _ bm
          have mi : X.mg "int" = none := by rw [d.sx.mg]; exact so.bl _ bi
          obtain ⟨n1, n2, n3⟩ := d.sx.loc l2
          unfold tCell tCellIf tPop tBig tBack tHand
          rw [← d.sx.K]
          refine ps_if (pt_cmpR (op_neE (by have := d.sx.units; omega)) (pe_dget u1 (varC_of v1 d.sx) pe_str (fun _ _ => rfl)) (pe_lst pa_nil) rfl) (pss_cons (ps_set (by rw [d.sx.N]; exact so.nd) n1 n2 
            (pe_bm0 PySem.F.plainAttrs_list PySem.F.slot_list_pop PySem.F.type_list_pop mt_pop (pe_dget u1 (varC_of v1 d.sx) pe_str (fun _ _ => rfl)) rfl hl.1) rfl n3) (pss_cons (ps_if (pt_cmpR op_ge (varC_of v2 d.sx) (pe_op op_pow pe_int pe_int) rfl) 
            (pss_cons (ps_expr (pe_bm PySem.F.plainAttrs_list PySem.F.slot_list_append PySem.F.type_list_append mt_append (pe_dget u1 (varC_of v1 d.sx) pe_str (fun _ _ => rfl)) (pa_cons (pe_op op_fdivX (varC_of v2 d.sx) 
              (pe_callB (call_max2 (d.sx.cal hcal)) (d.sx.gl gm).1 mm (boot_bi .max2 (by decide)) (pa_cons pe_int (pa_cons (varC_of v3 d.sx) pa_nil)))) pa_nil) rfl rfl hl.2) rfl)
            (pss_one (ps_ret (pe_op op_modN (pe_callTy call_int1 (d.sx.gl gi).1 mi (boot_bi .int (by decide)) (pa_cons (varC_of v2 d.sx) pa_nil)) (varC_of v3 d.sx))))) pss_nil) (pb X d tk))) pss_nil
        · cases hs
      · cases hs
    · cases g
  · cases g
end
end Ey

end
section
set_option Elab.async false
set_option linter.all false
set_option maxRecDepth 100000
set_option maxHeartbeats 1000000
/-! Ey17: stores of several values at once. -/
namespace Ey
open PySem PySem.Spec PyProof.Rows L2
open Evl (Ex)

def isStE : Expr → Bool
  | .Starred _ _ => true
  | _ => false
/-- the stores come in the swapped order -/
def par2B (sc : Scope) (x y : Str) (px py : Pos) (a b : Expr) : Bool := decide (sc.names.lookup x = some .local) && decide (sc.names.lookup y = some .local) && py.line == px.line && !(x == y) && !isStE a && !isStE b && !(foldedForSure 8 a && foldedForSure 8 b) && !(constantsAlone 8 a && constantsAlone 8 b)
def par3B (sc : Scope) (x y z : Str) (px py pz : Pos) (a b c : Expr) : Bool := decide (sc.names.lookup x = some .local) && decide (sc.names.lookup y = some .local) && decide (sc.names.lookup z = some .local) && py.line == px.line && pz.line == px.line && !(x == y) && !(x == z) && !(y == z) &&
  !isStE a && !isStE b && !isStE c && !(foldedForSure 8 a && foldedForSure 8 b && foldedForSure 8 c) && !(constantsAlone 8 a && constantsAlone 8 b && constantsAlone 8 c)
section
variable {S : SC} {sc : Scope} {X : Cx}
theorem sd_block (d : Sd S sc X) : X.env.blockKind = .function := by
  have : X.env.scope.kind = .function := by rw [d.scp]; exact d.kf
  unfold Env.blockKind; rw [this]; rfl
theorem sd_kind (d : Sd S sc X) (x : Str) : X.env.kindOf x = sc.names.lookup x := by
  show X.env.scope.names.lookup x = _
  rw [d.scp]
theorem sw2 (d : Sd S sc X) {x y : Str} {px py pt pt2 : Pos} {a b : Expr} {kt k2 : Nat} (h : par2B sc x y px py a b = true) : swappedStores [.Tuple [.Name x px, .Name y py] kt pt] (.Tuple [a, b] k2 pt2) X.env = pure (some [x, y]) := by
  simp only [par2B, Bool.and_eq_true, decide_eq_true_eq, Bool.not_eq_true'] at h
  obtain ⟨⟨⟨⟨⟨⟨⟨h1, h2⟩, h3⟩, h4⟩, h5⟩, h6⟩, h7⟩, h8⟩ := h
  have h4' : (y == x) = false := by rw [Bool.beq_comm]; exact h4
  have h3' : py.line = px.line := by simpa using h3
  have f7 : ¬ (foldedForSure 8 a = true ∧ foldedForSure 8 b = true) := by simpa using h7
  have f8 : ¬ (constantsAlone 8 a = true ∧ constantsAlone 8 b = true) := by simpa using h8
  unfold swappedStores
  simp [sd_block d, sd_kind d, h1, h2, Expr.pos, List.eraseDups_cons, h4', List.filterMap_cons, h3', f7, f8]
  intro z
  exfalso
  rcases z with z | z
  · cases a <;> first | (simp at z; done) | (simp [isStE] at h5; done)
  · cases b <;> first | (simp at z; done) | (simp [isStE] at h6; done)
theorem sw3 (d : Sd S sc X) {x y z : Str} {px py pz pt pt2 : Pos} {a b c : Expr} {kt k2 : Nat} (h : par3B sc x y z px py pz a b c = true) : swappedStores [.Tuple [.Name x px, .Name y py, .Name z pz] kt pt] (.Tuple [a, b, c] k2 pt2) X.env = pure (some [x, y, z]) := by
  simp only [par3B, Bool.and_eq_true, decide_eq_true_eq, Bool.not_eq_true'] at h
  obtain ⟨⟨⟨⟨⟨⟨⟨⟨⟨⟨⟨⟨h1, h2⟩, h0⟩, h3⟩, h3z⟩, h4⟩, h4a⟩, h4b⟩, h5⟩, h6⟩, h6c⟩, h7⟩, h8⟩ := h
  have e1 : (y == x) = false := by rw [Bool.beq_comm]; exact h4
  have e2 : (z == x) = false := by rw [Bool.beq_comm]; exact h4a
  have e3 : (z == y) = false := by rw [Bool.beq_comm]; exact h4b
  have h3' : py.line = px.line := by simpa using h3
  have h3'' : pz.line = px.line := by simpa using h3z
  have f7 : ¬ (foldedForSure 8 a = true ∧ foldedForSure 8 b = true ∧ foldedForSure 8 c = true) := by simpa [and_assoc] using h7
  have f8 : ¬ (constantsAlone 8 a = true ∧ constantsAlone 8 b = true ∧ constantsAlone 8 c = true) := by simpa [and_assoc] using h8
  unfold swappedStores
  simp [sd_block d, sd_kind d, h1, h2, h0, Expr.pos, List.eraseDups_cons, e1, e2, e3, List.filterMap_cons, h3', h3'', f7, f8]
  intro z
  exfalso
  rcases z with z | z | z
  · cases a <;> first | (simp at z; done) | (simp [isStE] at h5; done)
  · cases b <;> first | (simp at z; done) | (simp [isStE] at h6; done)
  · cases c <;> first | (simp at z; done) | (simp [isStE] at h6c; done)
/-- the stores come as written: a name is a cell's, or all values are folded, or there are more than three -/
def parN (sc : Scope) (ts vs : List Expr) : Bool := !(vs.any isStE) && (!(ts.length == 2 || ts.length == 3) || ts.any (fun t => match t with | .Name x _ => decide (sc.names.lookup x ≠ some .local) | _ => true) || vs.all (foldedForSure 8))
theorem fm_all {α β : Type} {f : α → Option β} : ∀ {l : List α}, (l.filterMap f).length = l.length → ∀ x ∈ l, (f x).isSome = true
  | [], _, _, h => by simp at h
  | a :: l, h, x, hx => by
    rw [List.filterMap_cons] at h
    cases e : f a with
    | none =>
      rw [e] at h
      have := List.length_filterMap_le f l
      simp at h
      omega
    | some b =>
      rw [e] at h
      rcases List.mem_cons.mp hx with z | z
      · subst z; rw [e]; rfl
      · exact fm_all (by simpa using h) x z
theorem swN (d : Sd S sc X) {ts vs : List Expr} {pt pt2 : Pos} {kt k2 : Nat} (h : parN sc ts vs = true) : swappedStores [.Tuple ts kt pt] (.Tuple vs k2 pt2) X.env = pure none := by
  simp only [parN, Bool.and_eq_true, Bool.or_eq_true, Bool.not_eq_true'] at h
  unfold swappedStores
  dsimp only
  split
  · rfl
  · rename_i c1
    skip
    split
    · rfl
    · skip
      split
      · rfl
      · rename_i c3
        skip
        split
        · rfl
        · rename_i c4
          exfalso
          obtain ⟨_, (h | h) | h⟩ := h
          · simp at c1
            rcases Bool.or_eq_false_iff.mp h with ⟨z1, z2⟩
            simp at z1 z2
            exact z2 (c1.1.1 z1)
          · rw [List.any_eq_true] at h
            obtain ⟨t, ht, hq⟩ := h
            rw [Bool.not_eq_true, Bool.or_eq_false_iff] at c3
            have c3' := c3.1
            rw [bne_eq_false_iff_eq] at c3'
            have := fm_all c3' t ht
            cases t <;> simp at this hq
            simp only [sd_kind d] at this
            exact hq this.1
          · exact c4 h
end
end Ey

end
section
set_option Elab.async false
set_option linter.all false
set_option maxRecDepth 100000
set_option maxHeartbeats 1000000
/-! Ey18: stores of several values, some of them lists of our own. -/
namespace Ey
open PySem PySem.Spec PyProof.Rows L2
open Evl (Ex)

def RlF (K : PySem.W.Frag) (G' : Hp) (δ : Option (Addr × Addr)) (H H' : Hp) : List Bool → List V → List D → Prop
  | [], [], [] => True
  | false :: fl, v :: vs, d :: ds => Rl K G' δ v d ∧ RlF K G' δ H H' fl vs ds
  | true :: fl, v :: vs, d :: ds => (∃ p us xs, v = V.ref p ∧ d = .list xs ∧ H' p = some (.lst us) ∧ G' p = none ∧ H p = none ∧ NotDk δ p ∧ RlAll K G' δ us xs ∧ ∀ j : Nat, fl[j]? = some true → vs[j]? ≠ some (V.ref p)) ∧ RlF K G' δ H H' fl vs ds
  | _, _, _ => False
def SemAF (S : SC) (W : WX) (fl : List Bool) (t : TA) (m : EPo → Env → (List D → Prop) → Prop) : Prop := ∀ δ G H ρ σ E Q R, At S W δ G H ρ σ E → m E ρ Q → (∀ G' H' vs ds, Nx δ G H G' H' → RlF S.K G' δ H H' fl vs ds → Q ds → R vs H') → t σ H R
def JAF (S : SC) (W : WX) (sc : Scope) (fl : List Bool) (c : CEs) (es : List Expr) : Prop := ∃ ts, (∀ X, Sx S sc X → Takes X W → PEs X es ts) ∧ SemAF S W fl (tAll ts) (wpEs S.Φ c)
section
variable {S : SC} {W : WX} {E : EPo} {sc : Scope} {X : Cx} {δ : Option (Addr × Addr)} {G0 H0 B G H G2 H2 : Hp} {st : Sls} {σ : L2.St} {vs : List Nat}
theorem RlF.mono {K : PySem.W.Frag} {G1 H1 G' H' : Hp} (n0 : Nx δ G H G1 H1) (n : Nx δ G1 H1 G' H') : ∀ {fl : List Bool} {vs : List V} {ds : List D}, RlF K G1 δ H H1 fl vs ds → RlF K G' δ H H' fl vs ds
  | [], [], [], _ => trivial
  | false :: fl, v :: vs, d :: ds, h => ⟨h.1.mono n.grow, RlF.mono n0 n h.2⟩
  | true :: fl, v :: vs, d :: ds, ⟨⟨p, us, xs, e, e2, h1, h2, h3, h4, h5, h6⟩, h⟩ => by
    obtain ⟨k1, k2⟩ := n.keep p _ h1 h2 h4
    exact ⟨⟨p, us, xs, e, e2, k1, k2, h3, h4, h5.mono n.grow, h6⟩, RlF.mono n0 n h⟩
/-- seen from earlier on -/
theorem RlF.back {K : PySem.W.Frag} {G1 H1 G' H' : Hp} (n : Nx δ G H G1 H1) : ∀ {fl : List Bool} {vs : List V} {ds : List D}, RlF K G' δ H1 H' fl vs ds → RlF K G' δ H H' fl vs ds ∧ ∀ (p : Addr) (o : HO), H1 p = some o → ∀ j : Nat, fl[j]? = some true → vs[j]? ≠ some (V.ref p)
  | [], [], [], _ => ⟨trivial, fun _ _ _ j hj => by simp at hj⟩
  | false :: fl, v :: vs, d :: ds, h => by
    obtain ⟨a, b⟩ := RlF.back n h.2
    refine ⟨⟨h.1, a⟩, fun p o hp j hj => ?_⟩
    cases j with
    | zero => simp at hj
    | succ j => simpa using b p o hp j (by simpa using hj)
  | true :: fl, v :: vs, d :: ds, ⟨⟨p, us, xs, e, e2, h1, h2, h3, h4, h5, h6⟩, h⟩ => by
    obtain ⟨a, b⟩ := RlF.back n h
    refine ⟨⟨⟨p, us, xs, e, e2, h1, h2, n.fresh h3, h4, h5, h6⟩, a⟩, fun q o hq j hj => ?_⟩
    cases j with
    | zero =>
      intro z
      subst e
      have : p = q := by simpa using z
      subst this
      rw [h3] at hq; cases hq
    | succ j => simpa using b q o hq j (by simpa using hj)
theorem JAF.nil : JAF S W sc [] .nil [] := ⟨[], fun _ _ _ => trivial, fun δ G H ρ σ E Q R a h k => k _ _ [] [] (Nx.refl a.wd) trivial h⟩
theorem JAF.consD {c : CE} {r : CEs} {e : Expr} {es : List Expr} {fl : List Bool} (g : isStar e = false) (ha : JE S W sc c e) (hr : JAF S W sc fl r es) : JAF S W sc (false :: fl) (.cons c r) (e :: es) := by
  obtain ⟨ta, pa, sa⟩ := ha
  obtain ⟨tr, pr, sr⟩ := hr
  refine ⟨ta :: tr, fun X x tk => ⟨g, pa X x tk, pr X x tk⟩, ?_⟩
  intro δ G H ρ σ E Q R a h k
  exact sa δ G H ρ σ E _ _ a h fun G1 H1 v1 d1 n1 r1 q1 => sr δ G1 H1 ρ σ E _ _ (a.next n1) q1 fun G2 H2 vs ds n2 r2 q2 => k _ _ (v1 :: vs) (d1 :: ds) (n1.trans n2) ⟨r1.mono n2.grow, (RlF.back n1 r2).1⟩ q2
theorem JAF.consF {c : CE} {r : CEs} {e : Expr} {es : List Expr} {fl : List Bool} (g : isStar e = false) (ha : JF S W sc c e) (hr : JAF S W sc fl r es) : JAF S W sc (true :: fl) (.cons c r) (e :: es) := by
  obtain ⟨ta, pa, sa⟩ := ha
  obtain ⟨tr, pr, sr⟩ := hr
  refine ⟨ta :: tr, fun X x tk => ⟨g, pa X x tk, pr X x tk⟩, ?_⟩
  intro δ G H ρ σ E Q R a h k
  refine sa δ G H ρ σ E _ _ a h fun G1 H1 p us xs n1 h0 h1 g1 d1 r1 q1 => sr δ G1 H1 ρ σ E _ _ (a.next n1) q1 fun G2 H2 vs ds n2 r2 q2 => ?_
  obtain ⟨k1, k2⟩ := n2.keep p _ h1 g1 d1
  obtain ⟨b1, b2⟩ := RlF.back n1 r2
  exact k _ _ (V.ref p :: vs) (.list xs :: ds) (n1.trans n2) ⟨⟨p, us, xs, rfl, rfl, k1, k2, h0, d1, r1.mono n2.grow, b2 p _ h1⟩, b1⟩ q2
def setV : List Nat → List V → L2.St → L2.St
  | i :: r, v :: vs, σ => setV r vs (σ.set i (some v))
  | _, _, σ => σ
theorem par_set {K : PySem.W.Frag} (hK : S.K = K) {Hs : Hp} (b : Bool) : ∀ {fl : List Bool} {vs : List V} {ds : List D} {is : List Nat} {st : Sls} {σ : L2.St}, is.length = fl.length → RlF K G δ Hs H fl vs ds → parOk b fl ds = true → (∀ p, Hs p = none → H0 p = none) →
    (∀ j : Nat, fl[j]? = some true → ∀ p, vs[j]? = some (V.ref p) → ∀ (k : Nat) (ys : List D), st[k]? = some (Sl.own ys) → σ[k]? ≠ some (some (V.ref p))) → SR S.K δ G0 H0 B G H st σ → SR S.K δ G0 H0 B G H (setPar is fl ds st) (setV is vs σ)
  | [], [], [], [], st, σ, _, _, _, _, _, s => s
  | [], [], [], _ :: _, st, σ, l, _, _, _, _, s => by simp at l
  | false :: fl, v :: vs, d :: ds, i :: is, st, σ, l, h, c, z, ne, s => by
    simp only [parOk, Bool.and_eq_true] at c
    have r := h.1
    rw [← hK] at r
    refine par_set (is := is) hK b (by simpa using l) h.2 c.2 z (fun j hj p hp k ys hk => ?_) (s.set i r)
    by_cases e : i = k
    · subst e
      rw [List.getElem?_set] at hk
      split at hk
      · split at hk <;> cases hk
      · exact absurd rfl (by assumption)
    · rw [List.getElem?_set_ne e] at hk ⊢
      exact ne (j + 1) (by simpa using hj) p (by simpa using hp) k ys hk
  | true :: fl, v :: vs, d :: ds, i :: is, st, σ, l, ⟨⟨p, us, xs, e, e2, h1, h2, h3, h4, h5, h6⟩, h⟩, c, z, ne, s => by
    subst e; subst e2
    simp only [parOk, Bool.and_eq_true] at c
    rw [← hK] at h5
    refine par_set (is := is) hK b (by simpa using l) h c.2 z (fun j hj q hq k ys hk => ?_) (s.setOwn i h1 h2 (z p h3) h4 h5 fun k ys hk => ne 0 rfl p rfl k ys hk)
    by_cases e : i = k
    · subst e
      rw [List.getElem?_set]
      rw [if_pos rfl]
      split
      · intro w
        have : p = q := by simpa using w
        subst this
        exact h6 j hj hq
      · simp
    · rw [List.getElem?_set_ne e] at hk ⊢
      exact ne (j + 1) (by simpa using hj) q (by simpa using hq) k ys hk
  | [], [], _ :: _, _, _, _, _, h, _, _, _, _ => h.elim
  | [], _ :: _, _, _, _, _, _, h, _, _, _, _ => h.elim
  | _ :: _, _, _, [], _, _, l, _, _, _, _, _ => by simp at l
  | false :: _, [], _, _, _, _, _, h, _, _, _, _ => h.elim
  | false :: _, _ :: _, [], _, _, _, _, h, _, _, _, _ => h.elim
  | true :: _, [], _, _, _, _, _, h, _, _, _, _ => h.elim
  | true :: _, _ :: _, [], _, _, _, _, h, _, _, _, _ => h.elim
theorem RlF.tups {K : PySem.W.Frag} {G' G3 H' : Hp} (t : TupIn G' G3) (g : ∀ p, G' p = none → G3 p = none) : ∀ {fl : List Bool} {vs : List V} {ds : List D}, RlF K G' δ H H' fl vs ds → parOk false fl ds = true → RlF K G3 δ H H' fl vs ds
  | [], [], [], _, _ => trivial
  | false :: fl, v :: vs, d :: ds, h, c => by
    simp only [parOk, Bool.and_eq_true, Bool.or_false] at c
    exact ⟨h.1.tups t _ _ c.1, RlF.tups t g h.2 c.2⟩
  | true :: fl, v :: vs, d :: ds, ⟨⟨p, us, xs, e, e2, h1, h2, h3, h4, h5, h6⟩, h⟩, c => by
    subst e2
    simp only [parOk, Bool.and_eq_true, Bool.or_false] at c
    exact ⟨⟨p, us, xs, e, rfl, h1, g p h2, h3, h4, h5.tups t _ _ c.1, h6⟩, RlF.tups t g h c.2⟩
theorem RlF.len {K : PySem.W.Frag} {G' H' : Hp} : ∀ {fl : List Bool} {vs : List V} {ds : List D}, RlF K G' δ H H' fl vs ds → vs.length = fl.length
  | [], [], [], _ => rfl
  | false :: fl, v :: vs, d :: ds, h => congrArg (· + 1) (RlF.len h.2)
  | true :: fl, v :: vs, d :: ds, h => congrArg (· + 1) (RlF.len h.2)
  | [], [], _ :: _, h => h.elim
  | [], _ :: _, _, h => h.elim
  | false :: _, [], _, h => h.elim
  | false :: _, _ :: _, [], h => h.elim
  | true :: _, [], _, h => h.elim
  | true :: _, _ :: _, [], h => h.elim
theorem par_run {ta : TA} {c : CEs} {is : List Nat} {fl : List Bool} (hl : is.length = fl.length) (se : SemAF S W fl ta (wpEs S.Φ c)) (s : SR S.K δ G0 H0 B G H st σ) (x : XC S W δ G0 H0 E) {De : En} (h : wpS S.Φ E (.par is fl c) De st) {R : List V → Hp → Prop}
    (k : ∀ G H st vs, vs.length = fl.length → SR S.K δ G0 H0 B G H st (setV is vs σ) → De.nx st → R vs H) : ta σ H R := by
  simp only [wpS] at h
  refine se δ _ H _ σ E _ _ (s.at x (vEs c)) h fun G' H' vs ds n r q => ?_
  obtain ⟨c1, q⟩ := q
  have hz : ∀ p, H p = none → H0 p = none := fun p hp => (s.sh (vEs c)).fresh hp
  have ne : ∀ {H' : Hp} {fl : List Bool} {vs : List V} {ds : List Ey.D} {G' : Hp}, RlF S.K G' δ H H' fl vs ds → ∀ j : Nat, fl[j]? = some true → ∀ p, vs[j]? = some (V.ref p) → ∀ (k : Nat) (ys : List Ey.D), st[k]? = some (Sl.own ys) → σ[k]? ≠ some (some (V.ref p)) := by
    intro H' fl vs ds G' r j hj p hp k ys hk hs
    obtain ⟨a, us, e1, e2, _⟩ := s.ow k ys hk
    rw [e1] at hs; cases hs
    exact (RlF.back (Nx.refl (s.sh (vEs c)).wd) r).2 _ _ e2 j hj hp
  by_cases nb : noOwn (vEs c) st = true
  · exact k _ _ _ _ r.len (par_set rfl _ hl r c1 hz (ne r) (s.backOf n nb)) q
  · have nb' : noOwn (vEs c) st = false := by simpa using nb
    rw [nb'] at c1
    obtain ⟨b, t⟩ := s.back n
    have r3 := RlF.tups t (fun p hp => by
      by_cases o : Ow (vEs c) st σ p
      · exact hd_in o
      · rw [hd_out o]; exact hp) r c1
    exact k _ _ _ _ r.len (par_set rfl _ hl r3 c1 hz (ne r3) b) q
theorem JS.par2 {i j : Nat} {fl : List Bool} {c : CEs} {x y : Str} {a b : Expr} {px py pt pt2 p : Pos} {kt k2 : Nat} (so : SOk S) (hc : S.cal = true) (hij : i ≠ j) (hf : fl.length = 2) (gi : S.N[i]? = some x) (gj : S.N[j]? = some y) (g : par2B sc x y px py a b = true) (h : JAF S W sc fl c [a, b]) :
    JS S W sc (.par [i, j] fl c) (.Assign [.Tuple [.Name x px, .Name y py] kt pt] (.Tuple [a, b] k2 pt2) p) := by
  obtain ⟨ts, pe, se⟩ := h
  have g' := g
  simp only [par2B, Bool.and_eq_true, decide_eq_true_eq, Bool.not_eq_true'] at g'
  refine ⟨tPar i j (tAll ts), fun X d tk => ps_par (d.sx.cal hc) (by rw [d.sx.N]; exact so.nd) (by rw [d.sx.N]; exact gi) (by rw [d.sx.N]; exact gj) hij (by rw [d.scp]; exact g'.1.1.1.1.1.1.1) (by rw [d.scp]; exact g'.1.1.1.1.1.1.2) (pe X d.sx tk).pa (sw2 d g) rfl, ?_⟩
  intro E δ G0 H0 B G H st σ D D' s xc h k
  refine par_run (by simp [hf]) se s xc h fun G H st vs l s' q => ?_
  rw [hf] at l
  match vs, l with
  | [v, w], _ => exact ⟨v, w, rfl, k.nx _ _ _ _ s' q⟩
theorem JS.par3 {i j l : Nat} {fl : List Bool} {c : CEs} {x y z : Str} {a b e : Expr} {px py pz pt pt2 p : Pos} {kt k2 : Nat} (so : SOk S) (hc : S.cal = true) (hij : i ≠ j) (hil : i ≠ l) (hjl : j ≠ l) (hf : fl.length = 3) (gi : S.N[i]? = some x) (gj : S.N[j]? = some y) (gl : S.N[l]? = some z)
    (g : par3B sc x y z px py pz a b e = true) (h : JAF S W sc fl c [a, b, e]) : JS S W sc (.par [i, j, l] fl c) (.Assign [.Tuple [.Name x px, .Name y py, .Name z pz] kt pt] (.Tuple [a, b, e] k2 pt2) p) := by
  obtain ⟨ts, pe, se⟩ := h
  have g' := g
  simp only [par3B, Bool.and_eq_true, decide_eq_true_eq, Bool.not_eq_true'] at g'
  refine ⟨tPar3 i j l (tAll ts), fun X d tk => ps_par3 (d.sx.cal hc) (by rw [d.sx.N]; exact so.nd) (by rw [d.sx.N]; exact gi) (by rw [d.sx.N]; exact gj) (by rw [d.sx.N]; exact gl) hij hil hjl (by rw [d.scp]; exact g'.1.1.1.1.1.1.1.1.1.1.1.1) (by rw [d.scp]; exact g'.1.1.1.1.1.1.1.1.1.1.1.2) (by rw [d.scp]; exact g'.1.1.1.1.1.1.1.1.1.1.2) (pe X d.sx tk).pa (sw3 d g) rfl, ?_⟩
  intro E δ G0 H0 B G H st σ D D' s xc h k
  refine par_run (by simp [hf]) se s xc h fun G H st vs l s' q => ?_
  rw [hf] at l
  match vs, l with
  | [u, v, w], _ => exact ⟨u, v, w, rfl, k.nx _ _ _ _ s' q⟩
end
end Ey

end
section
set_option Elab.async false
set_option linter.all false
set_option maxRecDepth 100000
set_option maxHeartbeats 1000000
/-! Ey18b: raise X(e); try: .., except X as n: return ... -/
namespace Ey
open PySem PySem.Spec PyProof.Rows L2
open Evl (Ex)

theorem XRel.next {K : PySem.W.Frag} {mg : Str → Option Value} {er : List Str} {δ : Option (Addr × Addr)} {G H G' H' : Hp} {x : Str} {y : D} {cls : Value} {dd : Option Addr} (n : Nx δ G H G' H') (h : XRel K mg er G δ x y cls dd H) : XRel K mg er G' δ x y cls dd H' := by
  obtain ⟨hx, C, a, v, h1, h2, h3, h4, h5, h6, h7⟩ := h
  obtain ⟨k1, k2⟩ := n.keep a _ h4 h6 h7
  exact ⟨hx, C, a, v, h1, h2, h3, k1, h5.mono n.grow, k2, h7⟩

/-! ### the checker's word -/
def asRaise : Stmt → Option (Str × List Expr)
  | .Raise (some (.Call (.Name x _) es [] _)) none _ => some (x, es)
  | _ => none
theorem asRaise_of {s : Stmt} {x : Str} {es : List Expr} (h : asRaise s = some (x, es)) : ∃ p1 p2 p, s = .Raise (some (.Call (.Name x p1) es [] p2)) none p := by
  unfold asRaise at h
  split at h
  · simp only [Option.some.injEq, Prod.mk.injEq] at h
    obtain ⟨rfl, rfl⟩ := h; exact ⟨_, _, _, rfl⟩
  · cases h
def asTry : Stmt → Option (List Stmt × List ExceptHandler)
  | .Try b hs [] [] _ => some (b, hs)
  | _ => none
theorem asTry_of {s : Stmt} {b : List Stmt} {hs : List ExceptHandler} (h : asTry s = some (b, hs)) : ∃ p, s = .Try b hs [] [] p := by
  unfold asTry at h
  split at h
  · simp only [Option.some.injEq, Prod.mk.injEq] at h
    obtain ⟨rfl, rfl⟩ := h; exact ⟨_, rfl⟩
  · cases h
def asHd : ExceptHandler → Option (Str × Str × Expr)
  | .ExceptHandler (some (.Name x _)) (some n) [.Return (some e) _] _ => some (x, n, e)
  | _ => none
theorem asHd_of {h : ExceptHandler} {x n : Str} {e : Expr} (z : asHd h = some (x, n, e)) : ∃ p1 p2 p, h = .ExceptHandler (some (.Name x p1)) (some n) [.Return (some e) p2] p := by
  unfold asHd at z
  split at z
  · simp only [Option.some.injEq, Prod.mk.injEq] at z
    obtain ⟨rfl, rfl, rfl⟩ := z; exact ⟨_, _, _, rfl⟩
  · cases z
def asAtt : Expr → Option (Expr × Str)
  | .Attribute e f _ => some (e, f)
  | _ => none
theorem asAtt_of {e o : Expr} {f : Str} (h : asAtt e = some (o, f)) : ∃ p, e = .Attribute o f p := by
  cases e <;> simp only [asAtt, reduceCtorEq, Option.some.injEq, Prod.mk.injEq] at h
  obtain ⟨rfl, rfl⟩ := h; exact ⟨_, rfl⟩
/-- isinstance(n, C) -/
def isiH (cf : Cfg) (sc : Scope) (n : Str) (C : Str) (e : Expr) : Bool := match asCall e with
  | some (g, [x, y], []) => decide (g = "isinstance") && glC sc g && decide (g ∈ cf.bl) && decide (asName x = some n) && decide (asName y = some C) && glC sc C && decide (C ∈ cf.eb)
  | _ => false
mutual
def okH (cf : Cfg) (sc : Scope) (n : Str) : CH → Expr → Bool
  | .non, e => isNonE e
  | .bl b, e => match asCst e with
    | some (.bool c) => decide (b = c)
    | _ => false
  | .int i, e => match asCst e with
    | some (.int j) => decide (i = j)
    | _ => false
  | .str x, e => match asCst e with
    | some (.str y) => decide (x = y)
    | _ => false
  | .fld f, e => match asAtt e with
    | some (o, g) => decide (g = f) && decide (asName o = some n)
    | none => false
  | .isi C, e => isiH cf sc n C e
  | .tup es, e => match asTup e with
    | some xs => decide (xs.length ≤ 1000) && okHs cf sc n es xs
    | none => false
  | .ite C a b, e => match asIte e with
    | some (t, x, y) => isiH cf sc n C t && okH cf sc n a x && okH cf sc n b y
    | none => false
def okHs (cf : Cfg) (sc : Scope) (n : Str) : CHs → List Expr → Bool
  | .nil, [] => true
  | .cons c r, e :: es => !isStar e && okH cf sc n c e && okHs cf sc n r es
  | _, _ => false
end
def okHd (cf : Cfg) (N : List Str) (sc : Scope) : List Hd → List ExceptHandler → Bool
  | [], [] => true
  | h :: r, e :: es => (match asHd e with
    | some (x, n, v) => decide (h.x = x) && glC sc x && decide (x ∈ cf.eb) && decide (N[h.i]? = some n) && decide (sc.names.lookup n = some .local) && !(n == ("__debug__" : Str)) && !(n == ("__classdict__" : Str)) && okH cf sc n h.h v
    | none => false) && okHd cf N sc r es
  | _, _ => false

/-! ### what a suite returns -/
def JH (S : SC) (sc : Scope) (i : Nat) (h : CH) (e : Expr) : Prop := ∃ t : Addr → Value → Option Addr → TE,
  (∀ X a oe cls d pn, Sd S sc X → Zc cls d oe → (∃ vs, oe.data = .fields vs) → PE (X.suite a ((a, oe) :: pn)) e (t a cls d)) ∧
  ∀ δ G H σ a x y cls dd R, Wd δ G H → σ[i]? = some (some (V.ref a)) → XRel S.K S.mg S.cf.er G δ x y cls dd H → chOk x h = true → (∀ G' H' v, Nx δ G H G' H' → Rl S.K G' δ v (chD x y h) → R v H') → t a cls dd σ H R
def JHs (S : SC) (sc : Scope) (i : Nat) (h : CHs) (es : List Expr) : Prop := ∃ t : Addr → Value → Option Addr → TA,
  (∀ X a oe cls d pn, Sd S sc X → Zc cls d oe → (∃ vs, oe.data = .fields vs) → PA (X.suite a ((a, oe) :: pn)) es (t a cls d)) ∧
  ∀ δ G H σ a x y cls dd R, Wd δ G H → σ[i]? = some (some (V.ref a)) → XRel S.K S.mg S.cf.er G δ x y cls dd H → chsOk x h = true → (∀ G' H' vs, Nx δ G H G' H' → RlAll S.K G' δ vs (chDs x y h) → R vs H') → t a cls dd σ H R
theorem chs_lenE (x : Str) (y : D) : ∀ (c : CHs) (cf : Cfg) (sc : Scope) (n : Str) (es : List Expr), okHs cf sc n c es = true → (chDs x y c).length = es.length
  | .nil, _, _, _, [], _ => rfl
  | .nil, _, _, _, _ :: _, h => by simp [okHs] at h
  | .cons _ _, _, _, _, [], h => by simp [okHs] at h
  | .cons c r, cf, sc, n, e :: es, h => by
    simp only [okHs, Bool.and_eq_true] at h
    simp [chDs, chs_lenE x y r cf sc n es h.2]
section
variable {S : SC} {W : WX} {sc : Scope} {i : Nat} {n : Str}
theorem JH.cst {h : CH} {e : Expr} {v : V} (hp : ∀ X, PE X e (tC v)) (r : ∀ x y G δ, Rl S.K G δ v (chD x y h)) : JH S sc i h e :=
  ⟨fun _ _ _ => tC v, fun X a oe cls d pn _ _ _ => hp _, fun δ G H σ a x y cls dd R w _ _ _ k => k _ _ _ (Nx.refl w) (r _ _ _ _)⟩
theorem Sd.loc (d : Sd S sc X) (hl : sc.names.lookup n = some .local) : X.env.scope.names.lookup n = some .local := by rw [d.scp]; exact hl
theorem JH.fld {f : Str} {p1 p : Pos} (hi : S.N[i]? = some n) (hl : sc.names.lookup n = some .local) (h1 : (n == ("__debug__" : Str)) = false) (h2 : (n == ("__classdict__" : Str)) = false) (so : SOk S) : JH S sc i (.fld f) (.Attribute (.Name n p1) f p) := by
  refine ⟨fun a cls d σ H Q => ∃ x C fI, cls = .ref C ∧ Er.ErrTxt S.K S.mg x f C fI ∧ Er.tFld f a d (tVar i) σ H Q, fun X a oe cls d pn sd hz hf => ⟨fun pins s σ H Q I hq => ?_⟩, ?_⟩
  · obtain ⟨x, C, fI, rfl, T, hq⟩ := hq
    have T' : Er.ErrTxt X.K X.mg x f C fI := by rw [sd.sx.K, sd.sx.mg]; exact T
    exact (Er.pe_fld T' hz hf (pe_var (X := X.suite a ((a, oe) :: pn)) (show X.N[i]? = some n by rw [sd.sx.N]; exact hi) (.inl (sd.loc hl)) h1 h2) rfl).run pins s σ H Q I hq
  · intro δ G H σ a x y cls dd R w hs xr ok k
    obtain ⟨hx, C, b, v, m1, e1, e2, e3, r, e4, e5⟩ := xr
    subst e1
    subst e2
    obtain ⟨C', fI, T, U⟩ := so.er x hx
    have := T.gC
    rw [m1] at this
    cases this
    have ef : f = fldOf x := by simpa [chOk] using ok
    subst ef
    exact ⟨x, C, fI, rfl, T, _, hs, rfl, b, v, rfl, e3, k _ _ _ (Nx.refl w) r⟩
theorem isi_pe {C : Str} {B : Addr} {p1 p2 p q : Pos} (so : SOk S) (hi : S.N[i]? = some n) (hl : sc.names.lookup n = some .local) (h1 : (n == ("__debug__" : Str)) = false) (h2 : (n == ("__classdict__" : Str)) = false)
    (g1 : glC sc "isinstance" = true) (g2 : ("isinstance" : Str) ∈ S.cf.bl) (g3 : glC sc C = true) (hB : S.mg C = some (.ref B)) {X : Cx} {a : Addr} {oe : Obj} {cls : Value} {d : Option Addr} {pn : List (Addr × Obj)} (sd : Sd S sc X) (hz : Zc cls d oe) (hf : ∃ vs, oe.data = .fields vs) :
    PE (X.suite a ((a, oe) :: pn)) (.Call (.Name "isinstance" p) [.Name n p1, .Name C p2] [] q) (fun σ H Q => ∃ x A fI, cls = .ref A ∧ Er.ErrTxt S.K S.mg x (fldOf x) A fI ∧ Er.IsTxt S.K A ∧ tCB (Er.rIsX S.K A a d) (tCons (tVar i) (tCons (tC (.ref B)) tNil)) σ H Q) := by
  refine ⟨fun pins s σ H Q I hq => ?_⟩
  obtain ⟨x, A, fI, rfl, T, U, hq⟩ := hq
  have T' : Er.ErrTxt X.K X.mg x (fldOf x) A fI := by rw [sd.sx.K, sd.sx.mg]; exact T
  have U' : Er.IsTxt X.K A := by rw [sd.sx.K]; exact U
  have v1 : PE (X.suite a ((a, oe) :: pn)) (.Name n p1) (tVar i) := pe_var (X := X.suite a ((a, oe) :: pn)) (show X.N[i]? = some n by rw [sd.sx.N]; exact hi) (.inl (sd.loc hl)) h1 h2
  have v2 : PE (X.suite a ((a, oe) :: pn)) (.Name C p2) (tC (.ref B)) := pe_glob (X := X.suite a ((a, oe) :: pn)) (sd.sx.gl g3).1 (show X.mg C = some (.ref B) by rw [sd.sx.mg]; exact hB) rfl (sd.sx.gl g3).2
  have m1 : X.mg "isinstance" = none := by rw [sd.sx.mg]; exact so.bl _ g2
  have cb := pe_callB (p := p) (pos := q) (Er.call_isX (a := a) (pn := pn) T' U' hz hf) (sd.sx.gl g1).1 m1 boot_isinstance (pa_cons v1 (pa_cons v2 pa_nil))
  exact cb.run pins s σ H Q I (by rw [sd.sx.K]; exact hq)
theorem isi_sem {C : Str} {B : Addr} (so : SOk S) (hB : S.mg C = some (.ref B)) (hC : C ∈ S.cf.eb) {δ : Option (Addr × Addr)} {G H : Hp} {σ : L2.St} {a : Addr} {x : Str} {y : D} {cls : Value} {dd : Option Addr} {R : VK} (hs : σ[i]? = some (some (V.ref a)))
    (xr : XRel S.K S.mg S.cf.er G δ x y cls dd H) (k : R (.bl (subE x C)) H) : ∃ x A fI, cls = .ref A ∧ Er.ErrTxt S.K S.mg x (fldOf x) A fI ∧ Er.IsTxt S.K A ∧ tCB (Er.rIsX S.K A a dd) (tCons (tVar i) (tCons (tC (.ref B)) tNil)) σ H R := by
  obtain ⟨hx, A, b, v, m1, e1, e2, e3, r, e4, e5⟩ := xr
  subst e1
  subst e2
  obtain ⟨A', fI, T, U⟩ := so.er x hx
  have := T.gC
  rw [m1] at this
  cases this
  obtain ⟨B', hB', all⟩ := so.eb C hC
  rw [hB] at hB'
  cases hB'
  exact ⟨x, A, fI, rfl, T, U, _, hs, B, b, v, subE x C, rfl, rfl, ⟨_, e3⟩, (all x hx A m1).2, k⟩
theorem isiH_of {cf : Cfg} {C : Str} {e : Expr} (h : isiH cf sc n C e = true) : ∃ p1 p2 p q, e = .Call (.Name "isinstance" p) [.Name n p1, .Name C p2] [] q ∧ glC sc "isinstance" = true ∧ ("isinstance" : Str) ∈ cf.bl ∧ glC sc C = true ∧ C ∈ cf.eb := by
  unfold isiH at h
  split at h
  · rename_i g x y hx; obtain ⟨p, q, rfl⟩ := asCall_of hx
    simp only [Bool.and_eq_true, decide_eq_true_eq] at h
    obtain ⟨⟨⟨⟨⟨⟨h1, h2⟩, h3⟩, h4⟩, h5⟩, h6⟩, h7⟩ := h
    obtain ⟨p1, rfl⟩ := asName_of h4
    obtain ⟨p2, rfl⟩ := asName_of h5
    subst h1
    exact ⟨p1, p2, p, q, rfl, h2, h3, h6, h7⟩
  · cases h
mutual
theorem okH_ok (so : SOk S) (hi : S.N[i]? = some n) (hl : sc.names.lookup n = some .local) (h1 : (n == ("__debug__" : Str)) = false) (h2 : (n == ("__classdict__" : Str)) = false) : ∀ (c : CH) (e : Expr), okH S.cf sc n c e = true → JH S sc i c e
  | .non, e, h => by
    obtain ⟨k, p, rfl⟩ := isNonE_of (by simpa [okH] using h)
    exact JH.cst (v := .non) (fun X => pe_non) fun x y G δ => by simp only [chD]; exact .non
  | .bl b, e, h => by
    unfold okH at h
    split at h
    · rename_i c hx; obtain ⟨k, p, rfl⟩ := asCst_of hx
      have e1 : b = c := by simpa using h
      subst e1
      exact JH.cst (v := .bl b) (fun X => pe_bl) fun x y G δ => by simp only [chD]; exact .bl b
    · cases h
  | .int b, e, h => by
    unfold okH at h
    split at h
    · rename_i c hx; obtain ⟨k, p, rfl⟩ := asCst_of hx
      have e1 : b = c := by simpa using h
      subst e1
      exact JH.cst (v := .int b) (fun X => pe_int) fun x y G δ => by simp only [chD]; exact .int b
    · cases h
  | .str b, e, h => by
    unfold okH at h
    split at h
    · rename_i c hx; obtain ⟨k, p, rfl⟩ := asCst_of hx
      have e1 : b = c := by simpa using h
      subst e1
      exact JH.cst (v := .str b) (fun X => pe_str) fun x y G δ => by simp only [chD]; exact .str b
    · cases h
  | .fld f, e, h => by
    unfold okH at h
    split at h
    · rename_i o g hx; obtain ⟨p, rfl⟩ := asAtt_of hx
      simp only [Bool.and_eq_true, decide_eq_true_eq] at h
      obtain ⟨e1, e2⟩ := h
      obtain ⟨p1, rfl⟩ := asName_of e2
      subst e1
      exact JH.fld hi hl h1 h2 so
    · cases h
  | .isi C, e, h => by
    obtain ⟨p1, p2, p, q, rfl, g1, g2, g3, g4⟩ := isiH_of (by simpa [okH] using h)
    obtain ⟨B, hB, _⟩ := so.eb C g4
    refine ⟨fun a cls d σ H Q => ∃ x A fI, cls = .ref A ∧ Er.ErrTxt S.K S.mg x (fldOf x) A fI ∧ Er.IsTxt S.K A ∧ tCB (Er.rIsX S.K A a d) (tCons (tVar i) (tCons (tC (.ref B)) tNil)) σ H Q, fun X a oe cls d pn sd hz hf => isi_pe so hi hl h1 h2 g1 g2 g3 hB sd hz hf, ?_⟩
    intro δ G H σ a x y cls dd R w hs xr ok k
    exact isi_sem so hB g4 hs xr (k _ _ _ (Nx.refl w) (by simp only [chD]; exact .bl _))
  | .tup es, e, h => by
    unfold okH at h
    split at h
    · rename_i xs hx; obtain ⟨k, p, rfl⟩ := asTup_of hx
      simp only [Bool.and_eq_true, decide_eq_true_eq] at h
      obtain ⟨hz, h⟩ := h
      obtain ⟨t, pt, st⟩ := okHs_ok so hi hl h1 h2 es xs h
      refine ⟨fun a cls d => tTup (t a cls d), fun X a oe cls d pn sd hz hf => pe_tup (pt X a oe cls d pn sd hz hf), ?_⟩
      intro δ G H σ a x y cls dd R w hs xr ok k
      refine st δ G H σ a x y cls dd _ w hs xr (by simpa [chOk] using ok) fun G1 H1 vs n1 r1 => ⟨?_, fun q hq => ?_⟩
      · rw [r1.length]; exact sz5 (by rw [chs_lenE x y es _ _ _ xs h]; omega)
      · obtain ⟨m, rr⟩ := nx_tup n1.wd hq r1
        exact k _ _ _ (n1.trans m) (by simpa only [chD] using rr)
    · cases h
  | .ite C a b, e, h => by
    unfold okH at h
    split at h
    · rename_i t xx yy hx; obtain ⟨p0, rfl⟩ := asIte_of hx
      simp only [Bool.and_eq_true] at h
      obtain ⟨⟨h3, h4⟩, h5⟩ := h
      obtain ⟨p1, p2, p, q, rfl, g1, g2, g3, g4⟩ := isiH_of h3
      obtain ⟨B, hB, _⟩ := so.eb C g4
      obtain ⟨ta, pa, sa⟩ := okH_ok so hi hl h1 h2 a xx h4
      obtain ⟨tb, pb, sb⟩ := okH_ok so hi hl h1 h2 b yy h5
      refine ⟨fun v cls d => tIf (fun σ H Q => (fun σ H Q => ∃ x A fI, cls = .ref A ∧ Er.ErrTxt S.K S.mg x (fldOf x) A fI ∧ Er.IsTxt S.K A ∧ tCB (Er.rIsX S.K A v d) (tCons (tVar i) (tCons (tC (.ref B)) tNil)) σ H Q) σ H fun x H' => ∃ k, TruV S.K x H' k ∧ Q k H') (ta v cls d) (tb v cls d),
        fun X v oe cls d pn sd hz hf => ?_, ?_⟩
      · have z := pt_truth (isi_pe (q := q) (p := p) (p1 := p1) (p2 := p2) so hi hl h1 h2 g1 g2 g3 hB sd hz hf (a := v) (pn := pn)) (fun whole => rfl)
        have e : (X.suite v ((v, oe) :: pn)).K = S.K := sd.sx.K
        rw [e] at z
        exact pe_ifExp z (pa X v oe cls d pn sd hz hf) (pb X v oe cls d pn sd hz hf)
      · intro δ G H σ v x y cls dd R w hs xr ok k
        refine isi_sem so hB g4 hs xr ⟨subE x C, rfl, ?_⟩
        simp only [chOk] at ok
        simp only [chD] at k
        cases e : subE x C with
        | true =>
          rw [e, if_pos rfl] at ok k
          exact sa δ G H σ v x y cls dd _ w hs xr ok k
        | false =>
          rw [e, if_neg Bool.false_ne_true] at ok k
          exact sb δ G H σ v x y cls dd _ w hs xr ok k
    · cases h
theorem okHs_ok (so : SOk S) (hi : S.N[i]? = some n) (hl : sc.names.lookup n = some .local) (h1 : (n == ("__debug__" : Str)) = false) (h2 : (n == ("__classdict__" : Str)) = false) : ∀ (c : CHs) (e : List Expr), okHs S.cf sc n c e = true → JHs S sc i c e
  | .nil, [], h => ⟨fun _ _ _ => tNil, fun X a oe cls d pn _ _ _ => pa_nil, fun δ G H σ a x y cls dd R w _ _ _ k => k _ _ _ (Nx.refl w) .nil⟩
  | .nil, _ :: _, h => by simp [okHs] at h
  | .cons _ _, [], h => by simp [okHs] at h
  | .cons c r, e :: es, h => by
    simp only [okHs, Bool.and_eq_true, Bool.not_eq_true'] at h
    obtain ⟨⟨gs, h3⟩, h4⟩ := h
    obtain ⟨ta, pa, sa⟩ := okH_ok so hi hl h1 h2 c e h3
    obtain ⟨tr, pr, sr⟩ := okHs_ok so hi hl h1 h2 r es h4
    refine ⟨fun a cls d => tCons (ta a cls d) (tr a cls d), fun X a oe cls d pn sd hz hf => pa_cons (pa X a oe cls d pn sd hz hf) (pr X a oe cls d pn sd hz hf) (star_one gs), ?_⟩
    intro δ G H σ a x y cls dd R w hs xr ok k
    simp only [chsOk, Bool.and_eq_true] at ok
    refine sa δ G H σ a x y cls dd _ w hs xr ok.1 fun G1 H1 v n1 r1 => ?_
    exact sr δ G1 H1 σ a x y cls dd _ n1.wd hs (xr.next n1) ok.2 fun G2 H2 vs n2 r2 => k _ _ _ (n1.trans n2) (.cons (r1.mono n2.grow) r2)
end
end
end Ey

end
section
set_option Elab.async false
set_option linter.all false
set_option maxRecDepth 100000
set_option maxHeartbeats 1000000
/-! Ey18c: raise and try as core statements. -/
namespace Ey
open PySem PySem.Spec PyProof.Rows L2
open Evl (Ex)
section
variable {S : SC} {W : WX} {sc : Scope}
theorem JS.raise {cx : Str} {c : CE} {e : Expr} {p1 p2 p : Pos} (so : SOk S) (hc : S.cal = true) (gl : glC sc cx = true) (hx : cx ∈ S.cf.er) (gs : isStar e = false) (h : JE S W sc c e) : JS S W sc (.raise cx c) (.Raise (some (.Call (.Name cx p1) [e] [] p2)) none p) := by
  obtain ⟨te, pe, se⟩ := h
  obtain ⟨C, fI, T, U⟩ := so.er cx hx
  refine ⟨fun _ σ H => Er.tMk C (fldOf cx) te σ H fun cls d H' => W cls d σ H', fun X d tk => ?_, ?_⟩
  · have T' : Er.ErrTxt X.K X.mg cx (fldOf cx) C fI := by rw [d.sx.K, d.sx.mg]; exact T
    exact Er.ps_err (d.sx.cal hc) T' d.sx.rm tk (pe X d.sx tk) (d.sx.gl gl).1 (d.sx.gl gl).2 (star_one gs)
  intro E δ G0 H0 B G H st σ D D' s x h k
  simp only [wpS] at h
  refine evR se s x h fun G' H' v d n r q => ⟨v, rfl, fun dd hd => ?_⟩
  have m : Nx δ G' H' G' (upd H' dd (.xd [(fldOf cx, v)])) := Nx.newH n.wd hd
  exact x σ _ _ cx d _ _ (n.trans m) q ⟨hx, C, dd, v, T.gC, rfl, rfl, upd_same, r, free_of n.wd.ex hd, n.wd.notdk hd⟩
/-- the handlers' text against their core -/
theorem hds_ok (so : SOk S) : ∀ (hs : List Hd) (es : List ExceptHandler), okHd S.cf S.N sc hs es = true → ∃ l : List (Value × Nat × Er.Suite), (∀ X, Sd S sc X → Er.Hds X es l) ∧
    ∀ (E : EPo) (W : WX) (δ : Option (Addr × Addr)) (G0 H0 B : Hp) (D : En) (D' : Ends), XC S W δ G0 H0 E → EndOk S δ G0 H0 B D D' →
      ∀ σ G' H' x y cls dd, Nx δ G0 H0 G' H' → tryE E D.rt hs x y → XRel S.K S.mg S.cf.er G' δ x y cls dd H' → Er.wAll S.K S.N.length W D' l cls dd σ H'
  | [], [], _ => ⟨[], fun _ _ => .nil, fun E W δ G0 H0 B D D' xc k σ G' H' x y cls dd n h xr => xc σ G' H' x y cls dd n h xr⟩
  | [], _ :: _, h => by simp [okHd] at h
  | _ :: _, [], h => by simp [okHd] at h
  | h :: r, e :: es, hk => by
    simp only [okHd, Bool.and_eq_true] at hk
    obtain ⟨h0, h9⟩ := hk
    split at h0
    · rename_i cx n v hx; obtain ⟨p1, p2, p, rfl⟩ := asHd_of hx
      simp only [Bool.and_eq_true, decide_eq_true_eq, Bool.not_eq_true'] at h0
      obtain ⟨⟨⟨⟨⟨⟨⟨e1, g1⟩, g2⟩, g3⟩, g4⟩, g5⟩, g6⟩, g7⟩ := h0
      obtain ⟨t, pt, st⟩ := okH_ok so g3 g4 g5 g6 h.h v g7
      obtain ⟨l, pl, sl⟩ := hds_ok so r es h9
      obtain ⟨C, hC, all⟩ := so.eb cx g2
      refine ⟨(.ref C, h.i, fun a cls d => tRet (t a cls d)) :: l, fun X sd => ?_, ?_⟩
      · exact .cons ⟨(sd.sx.gl g1).1, (sd.sx.gl g1).2, .inl (by rw [sd.sx.mg]; exact hC)⟩ (by rw [sd.sx.N]; exact g3) (sd.loc g4) (fun a oe cls d pn hz hf => pss_one (ps_ret (pt X a oe cls d pn sd hz hf))) (pl X sd)
      · intro E W δ G0 H0 B D D' xc k σ G' H' x y cls dd nx hE xr
        obtain ⟨hx', A, b, vv, m1, e3, e4, e5, r5, e6, e7⟩ := id xr
        refine ⟨subE x h.x, ?_, fun z a na hlen => ?_, fun z => ?_⟩
        · rw [e3, e1]; exact (all x hx' A m1).1
        · simp only [tryE, z, if_true] at hE
          have hl : h.i < σ.length := by rw [hlen]; exact (List.getElem?_eq_some_iff.mp g3).1
          show t a cls dd (σ.set h.i (some (.ref a))) H' _
          exact st δ G' H' _ a x y cls dd _ nx.wd (by rw [List.getElem?_set_self hl]) xr hE.1 fun G2 H2 v2 n2 r2 => k.rt _ _ _ _ (nx.trans n2) r2 hE.2
        · have hE' : tryE E D.rt r x y := by simpa only [tryE, z, Bool.false_eq_true, if_false] using hE
          exact sl E W δ G0 H0 B D D' xc k σ G' H' x y cls dd nx hE' xr
    · cases h0
theorem JS.try {b : CSs} {hs : List Hd} {bs : List Stmt} {e : ExceptHandler} {es : List ExceptHandler} {p : Pos} (so : SOk S) (hb : ∀ W', JSs S W' sc b bs) (hh : okHd S.cf S.N sc hs (e :: es) = true) : JS S W sc (.try b hs) (.Try bs (e :: es) [] [] p) := by
  obtain ⟨l, pl, sl⟩ := hds_ok so hs (e :: es) hh
  obtain ⟨tb, ht⟩ := Classical.axiomOfChoice hb
  refine ⟨fun D σ H => tb (Er.wAll S.K S.N.length W D l) D σ H, fun X d tk => ?_, ?_⟩
  · have z := Er.ps_tryA (tb := tb) (pos := p) d.st d.fr (by rw [d.sx.N]; exact so.nd) tk (fun W' pn xe tk' pa => (ht W').1 (X.tr pn xe) ⟨⟨d.sx.prog, d.sx.w, d.sx.K, d.sx.mg, d.sx.base, d.sx.N, d.sx.cal, d.sx.look, d.sx.fn, d.sx.gd, d.sx.rm⟩, d.scp, d.kf, pa, d.st, d.fr⟩ tk') (pl X d)
    rw [← d.sx.K, ← d.sx.N]
    exact z
  intro E δ G0 H0 B G H st σ D D' s x h k
  simp only [wpS] at h
  refine (ht _).2 (tryE E D.rt hs) δ G0 H0 B G H st σ D D' s (fun σ' G' H' cx y cls dd n hE xr => ?_) h k
  exact sl E W δ G0 H0 B D D' x k σ' G' H' cx y cls dd n hE xr
end
end Ey

end
section
set_option Elab.async false
set_option linter.all false
set_option maxRecDepth 100000
set_option maxHeartbeats 4000000
/-! Ey19: which text a core statement stands for; the checker's word for statements. -/
namespace Ey
open PySem PySem.Spec PyProof.Rows L2
open Evl (Ex)

def asNameP : Expr → Option (Str × Pos)
  | .Name x p => some (x, p)
  | _ => none
theorem asNameP_of {e : Expr} {x : Str} {p : Pos} (h : asNameP e = some (x, p)) : e = .Name x p := by
  cases e <;> simp only [asNameP, reduceCtorEq, Option.some.injEq, Prod.mk.injEq] at h
  obtain ⟨rfl, rfl⟩ := h; rfl
def asAsg : Stmt → Option (Expr × Expr)
  | .Assign [t] e _ => some (t, e)
  | _ => none
theorem asAsg_of {s : Stmt} {t e : Expr} (h : asAsg s = some (t, e)) : ∃ p, s = .Assign [t] e p := by
  unfold asAsg at h
  split at h
  · simp only [Option.some.injEq, Prod.mk.injEq] at h
    obtain ⟨rfl, rfl⟩ := h; exact ⟨_, rfl⟩
  · cases h
def asRet : Stmt → Option (Option Expr)
  | .Return o _ => some o
  | _ => none
theorem asRet_of {s : Stmt} {o : Option Expr} (h : asRet s = some o) : ∃ p, s = .Return o p := by
  cases s <;> simp only [asRet, reduceCtorEq, Option.some.injEq] at h
  subst h; exact ⟨_, rfl⟩
def asExp : Stmt → Option Expr
  | .Expr e _ => some e
  | _ => none
theorem asExp_of {s : Stmt} {e : Expr} (h : asExp s = some e) : ∃ p, s = .Expr e p := by
  cases s <;> simp only [asExp, reduceCtorEq, Option.some.injEq] at h
  subst h; exact ⟨_, rfl⟩
def asIfS : Stmt → Option (Expr × List Stmt × List Stmt)
  | .If e a b _ => some (e, a, b)
  | _ => none
theorem asIfS_of {s : Stmt} {e : Expr} {a b : List Stmt} (h : asIfS s = some (e, a, b)) : ∃ p, s = .If e a b p := by
  cases s <;> simp only [asIfS, reduceCtorEq, Option.some.injEq, Prod.mk.injEq] at h
  obtain ⟨rfl, rfl, rfl⟩ := h; exact ⟨_, rfl⟩
def asWhl : Stmt → Option (Expr × List Stmt)
  | .While e a [] _ => some (e, a)
  | _ => none
theorem asWhl_of {s : Stmt} {e : Expr} {a : List Stmt} (h : asWhl s = some (e, a)) : ∃ p, s = .While e a [] p := by
  unfold asWhl at h
  split at h
  · simp only [Option.some.injEq, Prod.mk.injEq] at h
    obtain ⟨rfl, rfl⟩ := h; exact ⟨_, rfl⟩
  · cases h
def asForS : Stmt → Option (Expr × Expr × List Stmt)
  | .For t e a [] _ => some (t, e, a)
  | _ => none
theorem asForS_of {s : Stmt} {t e : Expr} {a : List Stmt} (h : asForS s = some (t, e, a)) : ∃ p, s = .For t e a [] p := by
  unfold asForS at h
  split at h
  · simp only [Option.some.injEq, Prod.mk.injEq] at h
    obtain ⟨rfl, rfl, rfl⟩ := h; exact ⟨_, rfl⟩
  · cases h
/-- o.m(es), on one line -/
def asMth : Expr → Option (Expr × Str × List Expr)
  | .Call (.Attribute o m ap) es [] cp => if (ap.endLine == cp.line) = true then some (o, m, es) else none
  | _ => none
theorem asMth_of {e o : Expr} {m : Str} {es : List Expr} (h : asMth e = some (o, m, es)) : ∃ ap cp, e = .Call (.Attribute o m ap) es [] cp ∧ (ap.endLine == cp.line) = true := by
  unfold asMth at h
  split at h
  · split at h
    · simp only [Option.some.injEq, Prod.mk.injEq] at h
      obtain ⟨rfl, rfl, rfl⟩ := h
      exact ⟨_, _, rfl, by assumption⟩
    · cases h
  · cases h
def asTup2 : Expr → Option (Str × Pos × Str × Pos)
  | .Tuple [.Name x p, .Name y q] _ _ => some (x, p, y, q)
  | _ => none
theorem asTup2_of {e : Expr} {x y : Str} {p q : Pos} (h : asTup2 e = some (x, p, y, q)) : ∃ k r, e = .Tuple [.Name x p, .Name y q] k r := by
  unfold asTup2 at h
  split at h
  · simp only [Option.some.injEq, Prod.mk.injEq] at h
    obtain ⟨rfl, rfl, rfl, rfl⟩ := h; exact ⟨_, _, rfl⟩
  · cases h
def asTup3 : Expr → Option (Str × Pos × Str × Pos × Str × Pos)
  | .Tuple [.Name x p, .Name y q, .Name z r] _ _ => some (x, p, y, q, z, r)
  | _ => none
theorem asTup3_of {e : Expr} {x y z : Str} {p q r : Pos} (h : asTup3 e = some (x, p, y, q, z, r)) : ∃ k s, e = .Tuple [.Name x p, .Name y q, .Name z r] k s := by
  unfold asTup3 at h
  split at h
  · simp only [Option.some.injEq, Prod.mk.injEq] at h
    obtain ⟨rfl, rfl, rfl, rfl, rfl, rfl⟩ := h; exact ⟨_, _, rfl⟩
  · cases h
def isPass : Stmt → Bool
  | .Pass _ => true
  | _ => false
def isBrk : Stmt → Bool
  | .Break _ => true
  | _ => false
def isCnt : Stmt → Bool
  | .Continue _ => true
  | _ => false

def isLcC : CE → Bool
  | .lc _ _ _ _ _ => true
  | _ => false
/-- a form that makes a new list -/
def isNew : CE → Bool
  | .lst _ => true
  | .lc _ _ _ _ _ => true
  | .bi .list (.cons _ .nil) => true
  | _ => false
def okAF (cf : Cfg) (N : List Str) (cal : Bool) (sc : Scope) : List Bool → CEs → List Expr → Bool
  | [], .nil, [] => true
  | b :: fl, .cons c r, e :: es => !isStar e && (!b || isNew c) && okE cf N cal sc c e && okAF cf N cal sc fl r es
  | _, _, _ => false
def isTupT : Tg → Bool
  | .tup _ => true
  | _ => false

mutual
def okS (cf : Cfg) (N : List Str) (cal : Bool) (sc : Scope) : CS → Stmt → Bool
  | .asg i c, s => match asAsg s with
    | some (t, e) => (match asNameP t with
      | some (x, px) => locC N sc i x && okE cf N cal sc c e && (!swB sc x px e || (isLcC c && decide (sc.names.lookup x = some .local)))
      | none => false)
    | none => false
  | .asgL i c, s => match asAsg s with
    | some (t, e) => (match asNameP t with
      | some (x, px) => locC N sc i x && okE cf N cal sc c e && isNew c && (!swB sc x px e || (isLcC c && decide (sc.names.lookup x = some .local)))
      | none => false)
    | none => false
  | .asgT tg c, s => match asAsg s with
    | some (t, e) => (match asTup t with
      | some ts => isTupT tg && cal && tgC N sc tg t && okE cf N cal sc c e && (match asTup e with
        | some vs => parN sc ts vs
        | none => true)
      | none => false)
    | none => false
  | .par is fl c, s => match asAsg s with
    | some (t, e) => (match is, asTup e with
      | [i, j], some [a, b] => (match asTup2 t with
        | some (x, px, y, py) => cal && decide (i ≠ j) && decide (fl.length = 2) && decide (N[i]? = some x) && decide (N[j]? = some y) && par2B sc x y px py a b && okAF cf N cal sc fl c [a, b]
        | none => false)
      | [i, j, l], some [a, b, d] => (match asTup3 t with
        | some (x, px, y, py, z, pz) => cal && decide (i ≠ j) && decide (i ≠ l) && decide (j ≠ l) && decide (fl.length = 3) && decide (N[i]? = some x) && decide (N[j]? = some y) && decide (N[l]? = some z) && par3B sc x y z px py pz a b d && okAF cf N cal sc fl c [a, b, d]
        | none => false)
      | _, _ => false)
    | none => false
  | .ret c, s => match asRet s with
    | some (some e) => okE cf N cal sc c e
    | _ => false
  | .retN, s => match asRet s with
    | some none => true
    | _ => false
  | .drop c, s => match asExp s with
    | some e => !isCompE e && okE cf N cal sc c e
    | none => false
  | .ite t a b, s => match asIfS s with
    | some (e, x, y) => okT cf N cal sc t e && okSs cf N cal sc a x && okSs cf N cal sc b y
    | none => false
  | .whl t b, s => match asWhl s with
    | some (e, x) => okT cf N cal sc t e && okSs cf N cal sc b x
    | none => false
  | .for tg it b, s => match asForS s with
    | some (t, e, x) => cal && tgC N sc tg t && !isSetE e && okI cf N cal sc it t e && okSs cf N cal sc b x
    | none => false
  | .app i c, s => match asExp s with
    | some m => (match asMth m with
      | some (o, f, [e]) => (match asName o with
        | some z => decide (f = "append") && varC N sc i z && !isStar e && okE cf N cal sc c e
        | none => false)
      | _ => false)
    | none => false
  | .appI t i j c, s => match asExp s with
    | some m => (match asMth m with
      | some (o, f, [e]) => (match asIte o with
        | some (b, o1, o2) => (match asName o1, asName o2 with
          | some y, some z => decide (f = "append") && varC N sc i y && varC N sc j z && !isStar e && okT cf N cal sc t b && okE cf N cal sc c e
          | _, _ => false)
        | none => false)
      | _ => false)
    | none => false
  | .appPop i j c, s => match asExp s with
    | some m => (match asMth m with
      | some (o, f, [e]) => (match asMth e with
        | some (o2, f2, [e2]) => (match asName o, asName o2 with
          | some y, some z => decide (f = "append") && decide (f2 = "pop") && varC N sc i y && varC N sc j z && !isStar e2 && okE cf N cal sc c e2
          | _, _ => false)
        | _ => false)
      | _ => false)
    | none => false
  | .ext i c, s => match asExp s with
    | some m => (match asMth m with
      | some (o, f, [e]) => (match asName o with
        | some z => decide (f = "extend") && varC N sc i z && !isStar e && okE cf N cal sc c e
        | none => false)
      | _ => false)
    | none => false
  | .ins i k c, s => match asExp s with
    | some m => (match asMth m with
      | some (o, f, [ek, e]) => (match asName o with
        | some z => decide (f = "insert") && varC N sc i z && !isStar ek && !isStar e && okE cf N cal sc k ek && okE cf N cal sc c e
        | none => false)
      | _ => false)
    | none => false
  | .stI i k c, s => match asAsg s with
    | some (t, e) => (match asSub t with
      | some (o, ek) => (match asName o with
        | some z => varC N sc i z && noSl ek && okE cf N cal sc k ek && okE cf N cal sc c e
        | none => false)
      | none => false)
    | none => false
  | .pass, s => isPass s
  | .brk, s => isBrk s
  | .cont, s => isCnt s
  | .dkSet j f c, s => match asAsg s with
    | some (t, e) => (match asSub t with
      | some (o, ek) => (match asName o, asCst ek with
        | some z, some (.str y) => decide (y = f) && decide (f = "mixed" ∨ f = "draws") && varC N sc j z && okE cf N cal sc c e
        | _, _ => false)
      | none => false)
    | none => false
  | .dkCell j i m b, s => match cellC cf N cal sc j i m s with
    | some bs => okSs cf N cal sc b bs
    | none => false
  | .raise cx c, s => match asRaise s with
    | some (x, [e]) => cal && decide (x = cx) && glC sc x && decide (x ∈ cf.er) && !isStar e && okE cf N cal sc c e
    | _ => false
  | .try b hs, s => match asTry s with
    | some (bs, es) => decide (es ≠ []) && okSs cf N cal sc b bs && okHd cf N sc hs es
    | none => false
def okSs (cf : Cfg) (N : List Str) (cal : Bool) (sc : Scope) : CSs → List Stmt → Bool
  | .nil, [] => true
  | .cons c r, s :: ss => okS cf N cal sc c s && okSs cf N cal sc r ss
  | _, _ => false
end

section
variable {S : SC}
theorem lcX_ok (so : SOk S) {own : List (Str × Nat)} {tg : Tg} {it : CI} {ifs : CTo} {elt : CE} {W : WX} {sc : Scope} {e : Expr} (h : okE S.cf S.N S.cal sc (.lc own tg it ifs elt) e = true) : ∃ te, (∀ X, Sx S sc X → Takes X W → PE X e te ∧
      ∀ (j : Nat) (y : Str) (py spos : Pos), X.N[j]? = some y → X.env.scope.names.lookup y = some .local → swapsWith e (some (.Name y py)) spos.line X.env = pure true → PS X (.Assign [.Name y py] e spos) (tAsg te (gName j))) ∧
      SemF S W te (wpE S.Φ (.lc own tg it ifs elt)) := by
  unfold okE at h
  split at h
  · rename_i x t i fs s hx; obtain ⟨p, rfl⟩ := asLc_of hx
    simp only [Bool.and_eq_true, List.all_eq_true, decide_eq_true_eq, Bool.not_eq_true'] at h
    obtain ⟨⟨⟨⟨⟨⟨⟨h1, h2⟩, h3⟩, h4⟩, h5⟩, h6⟩, h7⟩, h8⟩ := h
    exact J.lcX so h1 h2 h3 h5 h8 (okI_ok so it W sc _ _ h4) (okTo_ok so ifs W0 s _ h6) (okE_ok so elt W0 s _ h7)
  · cases h
theorem okF_ok (so : SOk S) : ∀ {c : CE} {W : WX} {sc : Scope} {e : Expr}, isNew c = true → okE S.cf S.N S.cal sc c e = true → JF S W sc c e
  | .lst es, W, sc, e, _, h => by
    unfold okE at h
    split at h
    · rename_i xs hx; obtain ⟨p, rfl⟩ := asLst_of hx
      exact JF.lst (okEs_ok so es W sc _ h)
    · cases h
  | .lc own tg it ifs elt, W, sc, e, _, h => by
    obtain ⟨te, p, s⟩ := lcX_ok (W := W) so h
    exact ⟨te, fun X x tk => (p X x tk).1, s⟩
  | .bi .list (.cons c .nil), W, sc, e, _, h => by
    unfold okE at h
    split at h
    · rename_i g xs hx; obtain ⟨p, q, rfl⟩ := asCall_of hx
      simp only [Bool.and_eq_true, decide_eq_true_eq] at h
      obtain ⟨⟨⟨⟨⟨h1, h2⟩, h3⟩, h4⟩, h5⟩, h6⟩ := h
      subst h2
      match xs, h5, h6 with
      | [x], _, h6 =>
        simp only [okEs, Bool.and_eq_true, Bool.not_eq_true'] at h6
        exact JF.list so h1 h3 (by rw [if_neg (by decide)] at h4; exact of_decide_eq_true h4) h6.1.1 (okE_ok so c W sc _ h6.1.2)
      | _ :: _ :: _, _, h6 => simp [okEs] at h6
    · cases h
theorem okAF_ok (so : SOk S) {W : WX} {sc : Scope} : ∀ {fl : List Bool} {c : CEs} {es : List Expr}, okAF S.cf S.N S.cal sc fl c es = true → JAF S W sc fl c es
  | [], .nil, [], _ => JAF.nil
  | b :: fl, .cons c r, e :: es, h => by
    simp only [okAF, Bool.and_eq_true, Bool.not_eq_true', Bool.or_eq_true] at h
    obtain ⟨⟨⟨h1, h2⟩, h3⟩, h4⟩ := h
    cases b with
    | false => exact JAF.consD h1 (okE_ok so c W sc e h3) (okAF_ok so h4)
    | true =>
      rcases h2 with h2 | h2
      · cases h2
      · exact JAF.consF h1 (okF_ok so h2 h3) (okAF_ok so h4)
  | [], .nil, _ :: _, h => by simp [okAF] at h
  | [], .cons _ _, _, h => by simp [okAF] at h
  | _ :: _, .nil, _, h => by simp [okAF] at h
  | _ :: _, .cons _ _, [], h => by simp [okAF] at h
mutual
theorem okS_ok (so : SOk S) : ∀ (c : CS) (W : WX) (sc : Scope) (s : Stmt), okS S.cf S.N S.cal sc c s = true → JS S W sc c s
  | .asg i c, W, sc, s, h => by
    unfold okS at h
    split at h
    · rename_i t e hx; obtain ⟨p, rfl⟩ := asAsg_of hx
      split at h
      · rename_i x px hy; obtain rfl := asNameP_of hy
        simp only [Bool.and_eq_true, Bool.or_eq_true, Bool.not_eq_true', decide_eq_true_eq] at h
        obtain ⟨⟨h1, h2⟩, h3 | ⟨h3, h4⟩⟩ := h
        · exact JS.asg so h1 h3 (okE_ok so c W sc e h2)
        · cases c <;> first
            | (simp [isLcC] at h3; done)
            | skip
          rename_i own tg it ifs elt
          cases hs : swB sc x px e with
          | false => exact JS.asg so h1 hs (okE_ok so _ W sc e h2)
          | true =>
            obtain ⟨te, pe, se⟩ := lcX_ok (W := W) so h2
            exact ⟨_, JS.asgLc (m := fun _ _ => True) (me := fun _ _ _ => True) so h1 h4 hs fun X x tk => (pe X x tk).2, sem_asg se.e⟩
      · cases h
    · cases h
  | .asgL i c, W, sc, s, h => by
    unfold okS at h
    split at h
    · rename_i t e hx; obtain ⟨p, rfl⟩ := asAsg_of hx
      split at h
      · rename_i x px hy; obtain rfl := asNameP_of hy
        simp only [Bool.and_eq_true, Bool.or_eq_true, Bool.not_eq_true', decide_eq_true_eq] at h
        obtain ⟨⟨⟨h1, h2⟩, hn⟩, h3 | ⟨h3, h4⟩⟩ := h
        · exact JS.asgL so h1 h3 (okF_ok so hn h2)
        · cases c <;> first
            | (simp [isLcC] at h3; done)
            | skip
          rename_i own tg it ifs elt
          cases hs : swB sc x px e with
          | false => exact JS.asgL so h1 hs (okF_ok so hn h2)
          | true =>
            obtain ⟨te, pe, se⟩ := lcX_ok (W := W) so h2
            exact ⟨_, JS.asgLc (m := fun _ _ => True) (me := fun _ _ _ => True) so h1 h4 hs fun X x tk => (pe X x tk).2, sem_asgL se⟩
      · cases h
    · cases h
  | .asgT tg c, W, sc, s, h => by
    unfold okS at h
    split at h
    · rename_i t e hx; obtain ⟨p, rfl⟩ := asAsg_of hx
      split at h
      · rename_i ts hy; obtain ⟨k, px, rfl⟩ := asTup_of hy
        simp only [Bool.and_eq_true] at h
        obtain ⟨⟨⟨⟨h1, h2⟩, h3⟩, h4⟩, h5⟩ := h
        cases tg with
        | one i => simp [isTupT] at h1
        | tup ts' =>
          refine JS.asgT so h2 h3 (fun X d => ?_) (okE_ok so c W sc e h4)
          split at h5
          · rename_i vs hv; obtain ⟨k2, p2, rfl⟩ := asTup_of hv
            exact swN d h5
          · rename_i hv
            exact swapped_none (by cases e <;> first | rfl | (simp [asTup] at hv; done))
      · cases h
    · cases h
  | .par is fl c, W, sc, s, h => by
    unfold okS at h
    split at h
    · rename_i t e hx; obtain ⟨p, rfl⟩ := asAsg_of hx
      split at h
      · rename_i i j a b hv; obtain ⟨k2, p2, rfl⟩ := asTup_of hv
        split at h
        · rename_i x px y py ht; obtain ⟨k, q, rfl⟩ := asTup2_of ht
          simp only [Bool.and_eq_true, decide_eq_true_eq] at h
          obtain ⟨⟨⟨⟨⟨⟨h1, h2⟩, h3⟩, h4⟩, h5⟩, h6⟩, h7⟩ := h
          exact JS.par2 so h1 h2 h3 h4 h5 h6 (okAF_ok so h7)
        · cases h
      · rename_i i j l a b d hv; obtain ⟨k2, p2, rfl⟩ := asTup_of hv
        split at h
        · rename_i x px y py z pz ht; obtain ⟨k, q, rfl⟩ := asTup3_of ht
          simp only [Bool.and_eq_true, decide_eq_true_eq] at h
          obtain ⟨⟨⟨⟨⟨⟨⟨⟨⟨h1, h2⟩, h3⟩, h4⟩, h5⟩, h6⟩, h7⟩, h8⟩, h9⟩, h10⟩ := h
          exact JS.par3 so h1 h2 h3 h4 h5 h6 h7 h8 h9 (okAF_ok so h10)
        · cases h
      · cases h
    · cases h
  | .ret c, W, sc, s, h => by
    unfold okS at h
    split at h
    · rename_i e hx; obtain ⟨p, rfl⟩ := asRet_of hx
      exact JS.ret (okE_ok so c W sc e h)
    · cases h
  | .retN, W, sc, s, h => by
    unfold okS at h
    split at h
    · rename_i hx; obtain ⟨p, rfl⟩ := asRet_of hx
      exact JS.retN
    · cases h
  | .drop c, W, sc, s, h => by
    unfold okS at h
    split at h
    · rename_i e hx; obtain ⟨p, rfl⟩ := asExp_of hx
      simp only [Bool.and_eq_true, Bool.not_eq_true'] at h
      exact JS.drop h.1 (okE_ok so c W sc e h.2)
    · cases h
  | .ite t a b, W, sc, s, h => by
    unfold okS at h
    split at h
    · rename_i e x y hx; obtain ⟨p, rfl⟩ := asIfS_of hx
      simp only [Bool.and_eq_true] at h
      exact JS.ite (okT_ok so t W sc e h.1.1) (okSs_ok so a W sc x h.1.2) (okSs_ok so b W sc y h.2)
    · cases h
  | .whl t b, W, sc, s, h => by
    unfold okS at h
    split at h
    · rename_i e x hx; obtain ⟨p, rfl⟩ := asWhl_of hx
      simp only [Bool.and_eq_true] at h
      exact JS.whl (okT_ok so t W sc e h.1) (okSs_ok so b W sc x h.2)
    · cases h
  | .for tg it b, W, sc, s, h => by
    unfold okS at h
    split at h
    · rename_i t e x hx; obtain ⟨p, rfl⟩ := asForS_of hx
      simp only [Bool.and_eq_true, Bool.not_eq_true'] at h
      obtain ⟨⟨⟨⟨h1, h2⟩, h3⟩, h4⟩, h5⟩ := h
      exact JS.for so h1 h2 h3 (okI_ok so it W sc t e h4) (okSs_ok so b W sc x h5)
    · cases h
  | .app i c, W, sc, s, h => by
    unfold okS at h
    split at h
    · rename_i m hx; obtain ⟨p, rfl⟩ := asExp_of hx
      split at h
      · rename_i o f e hm; obtain ⟨ap, cp, rfl, hl⟩ := asMth_of hm
        split at h
        · rename_i z hz; obtain ⟨p1, rfl⟩ := asName_of hz
          simp only [Bool.and_eq_true, decide_eq_true_eq, Bool.not_eq_true'] at h
          obtain ⟨⟨⟨h1, h2⟩, h3⟩, h4⟩ := h
          subst h1
          exact JS.app h2 h3 hl (okE_ok so c W sc e h4)
        · cases h
      · cases h
    · cases h
  | .appI t i j c, W, sc, s, h => by
    unfold okS at h
    split at h
    · rename_i m hx; obtain ⟨p, rfl⟩ := asExp_of hx
      split at h
      · rename_i o f e hm; obtain ⟨ap, cp, rfl, hl⟩ := asMth_of hm
        split at h
        · rename_i b o1 o2 ho; obtain ⟨p0, rfl⟩ := asIte_of ho
          split at h
          · rename_i y z hy hz; obtain ⟨p1, rfl⟩ := asName_of hy; obtain ⟨p2, rfl⟩ := asName_of hz
            simp only [Bool.and_eq_true, decide_eq_true_eq, Bool.not_eq_true'] at h
            obtain ⟨⟨⟨⟨⟨h1, h2⟩, h3⟩, h4⟩, h5⟩, h6⟩ := h
            subst h1
            exact JS.appI h2 h3 h4 hl (okT_ok so t W sc b h5) (okE_ok so c W sc e h6)
          · cases h
        · cases h
      · cases h
    · cases h
  | .appPop i j c, W, sc, s, h => by
    unfold okS at h
    split at h
    · rename_i m hx; obtain ⟨p, rfl⟩ := asExp_of hx
      split at h
      · rename_i o f e hm; obtain ⟨ap, cp, rfl, hl⟩ := asMth_of hm
        split at h
        · rename_i o2 f2 e2 hm2; obtain ⟨ap2, cp2, rfl, hl2⟩ := asMth_of hm2
          split at h
          · rename_i y z hy hz; obtain ⟨p1, rfl⟩ := asName_of hy; obtain ⟨p2, rfl⟩ := asName_of hz
            simp only [Bool.and_eq_true, decide_eq_true_eq, Bool.not_eq_true'] at h
            obtain ⟨⟨⟨⟨⟨h1, h1'⟩, h2⟩, h3⟩, h4⟩, h5⟩ := h
            subst h1; subst h1'
            exact JS.appPop h2 h3 h4 hl hl2 (okE_ok so c W sc e2 h5)
          · cases h
        · cases h
      · cases h
    · cases h
  | .ext i c, W, sc, s, h => by
    unfold okS at h
    split at h
    · rename_i m hx; obtain ⟨p, rfl⟩ := asExp_of hx
      split at h
      · rename_i o f e hm; obtain ⟨ap, cp, rfl, hl⟩ := asMth_of hm
        split at h
        · rename_i z hz; obtain ⟨p1, rfl⟩ := asName_of hz
          simp only [Bool.and_eq_true, decide_eq_true_eq, Bool.not_eq_true'] at h
          obtain ⟨⟨⟨h1, h2⟩, h3⟩, h4⟩ := h
          subst h1
          exact JS.ext h2 h3 hl (okE_ok so c W sc e h4)
        · cases h
      · cases h
    · cases h
  | .ins i k c, W, sc, s, h => by
    unfold okS at h
    split at h
    · rename_i m hx; obtain ⟨p, rfl⟩ := asExp_of hx
      split at h
      · rename_i o f ek e hm; obtain ⟨ap, cp, rfl, hl⟩ := asMth_of hm
        split at h
        · rename_i z hz; obtain ⟨p1, rfl⟩ := asName_of hz
          simp only [Bool.and_eq_true, decide_eq_true_eq, Bool.not_eq_true'] at h
          obtain ⟨⟨⟨⟨⟨h1, h2⟩, h3⟩, h4⟩, h5⟩, h6⟩ := h
          subst h1
          exact JS.ins h2 h3 h4 hl (okE_ok so k W sc ek h5) (okE_ok so c W sc e h6)
        · cases h
      · cases h
    · cases h
  | .stI i k c, W, sc, s, h => by
    unfold okS at h
    split at h
    · rename_i t e hx; obtain ⟨p, rfl⟩ := asAsg_of hx
      split at h
      · rename_i o ek ho; obtain ⟨tp, rfl⟩ := asSub_of ho
        split at h
        · rename_i z hz; obtain ⟨p1, rfl⟩ := asName_of hz
          simp only [Bool.and_eq_true] at h
          obtain ⟨⟨⟨h1, h2⟩, h3⟩, h4⟩ := h
          exact JS.stI h1 (fun X d => by cases e <;> rfl) h2 (okE_ok so k W sc ek h3) (okE_ok so c W sc e h4)
        · cases h
      · cases h
    · cases h
  | .pass, W, sc, s, h => by
    unfold okS at h
    cases s <;> first | exact JS.pass | (simp [isPass] at h; done)
  | .brk, W, sc, s, h => by
    unfold okS at h
    cases s <;> first | exact JS.brk | (simp [isBrk] at h; done)
  | .cont, W, sc, s, h => by
    unfold okS at h
    cases s <;> first | exact JS.cont | (simp [isCnt] at h; done)
  | .raise cx c, W, sc, s, h => by
    unfold okS at h
    split at h
    · rename_i x e hx; obtain ⟨p1, p2, p, rfl⟩ := asRaise_of hx
      simp only [Bool.and_eq_true, decide_eq_true_eq, Bool.not_eq_true'] at h
      obtain ⟨⟨⟨⟨⟨h1, h2⟩, h3⟩, h4⟩, h5⟩, h6⟩ := h
      subst h2
      exact JS.raise so h1 h3 h4 h5 (okE_ok so c W sc e h6)
    · cases h
  | .try b hs, W, sc, s, h => by
    unfold okS at h
    split at h
    · rename_i bs es hx; obtain ⟨p, rfl⟩ := asTry_of hx
      simp only [Bool.and_eq_true, decide_eq_true_eq] at h
      obtain ⟨⟨h1, h2⟩, h3⟩ := h
      cases es with
      | nil => exact absurd rfl h1
      | cons e es => exact JS.try so (fun W' => okSs_ok so b W' sc bs h2) h3
    · cases h
  | .dkSet j f c, W, sc, s, h => by
    unfold okS at h
    split at h
    · rename_i t e hx; obtain ⟨p, rfl⟩ := asAsg_of hx
      split at h
      · rename_i o ek ho; obtain ⟨tp, rfl⟩ := asSub_of ho
        split at h
        · rename_i z y hz hy; obtain ⟨p1, rfl⟩ := asName_of hz; obtain ⟨k2, p2, rfl⟩ := asCst_of hy
          simp only [Bool.and_eq_true, decide_eq_true_eq] at h
          obtain ⟨⟨⟨h1, h2⟩, h3⟩, h4⟩ := h
          subst h1
          exact JS.dkSet h3 h2 (fun X d => by cases e <;> rfl) (okE_ok so c W sc e h4)
        · cases h
      · cases h
    · cases h
  | .dkCell j i m b, W, sc, s, h => by
    unfold okS at h
    split at h
    · rename_i bs hx
      exact JS.dkCell so hx (okSs_ok so b W sc bs h)
    · cases h
theorem okSs_ok (so : SOk S) : ∀ (c : CSs) (W : WX) (sc : Scope) (s : List Stmt), okSs S.cf S.N S.cal sc c s = true → JSs S W sc c s
  | .nil, W, sc, [], _ => JSs.nil
  | .nil, W, sc, _ :: _, h => by simp [okSs] at h
  | .cons _ _, W, sc, [], h => by simp [okSs] at h
  | .cons c r, W, sc, s :: ss, h => by
    simp only [okSs, Bool.and_eq_true] at h
    exact JSs.cons (okS_ok so c W sc s h.1) (okSs_ok so r W sc ss h.2)
end
end
end Ey

end
section
set_option Elab.async false
set_option linter.all false
set_option maxRecDepth 100000
set_option maxHeartbeats 1000000
/-! Ey20: a def by its core. -/
namespace Ey
open PySem PySem.Spec PyProof.Rows L2
open Evl (Ex)

/-- a def's text keeps a promise: the same road as the layer's own rule, with the guards told -/
theorem fnG_of {P : Program} {w : World} {K : PySem.W.Frag} {mg : Str → Option Value} {base : Heap} {k : Nat} {f : Addr} {name qual : Str} {params : Arguments} {body : List Stmt} {scope : Scope} {v1 v2 v3 v4 v5 v6 v7 : Value} {an od : Option Addr}
    {os : Array (Option Value)} {N ps : List Str} {sp : Sp} (lk : K.lookup f = some ⟨v7, od, .func (PySem.W.fnOf name qual params body scope v1 v2 v3 v4 an v5 v6), os⟩) (hc : PySem.W.codeIn K v5 qual = true) (S : FnScope N ps scope)
    (len : ∀ vs H Q E, sp vs H Q E → vs.length = ps.length)
    (hb : ∀ (A : Around) (outer : List PySem.Env) (s : Shared) (H : Hp) (vs : List V) (Q : VK) (E : XK), Room k (A.deeper (envOfC qual scope s.heap.objs.size f v5)) → A.guards = some [] → sp vs H Q E →
      ∃ t, PSs (cxOf (L2.CX P w) P w K mg base N qual scope f v5 A outer s H E) body t ∧ t { nx := fun _ H' => Q .non H', rt := Q } (start N vs) H) :
    FnG P w K mg base (k + 1) f (PySem.W.fnOf name qual params body scope v1 v2 v3 v4 an v5 v6) ps sp := by
  refine ⟨len, fun A outer s H args us vs Q E rm gd e0 bd rv pr => ?_⟩
  have lv := len _ _ _ _ pr
  have inK : K.In s.heap := e0.mod.kin.keeps fun b o e => (e0.bs b o e).1
  have lim : s.heap.NoLimit := e0.mod.nolimit.keeps fun b o e => (e0.bs b o e).1
  have kinds : ∀ y ∈ ps.zip us, scope.names.lookup y.1 = some .local ∨ (scope.names.lookup y.1 = some .cell ∧ ((cellsFrom (s.heap.objs.size + 1) scope.names []).lookup y.1).isSome = true) := fun y hy =>
    (S.par y.1 (List.of_mem_zip (a := y.1) (b := y.2) hy).1).imp id fun q => ⟨q, PySem.W.cellsFrom_some _ _ _ (.inl q)⟩
  refine codeAny_call_function rm.depth (inK _ _ lk) rfl S.co S.gen rfl (PySem.W.codeRec_of inK hc) (bd _ _ _ _ (wpAny_newFunctionEnv_cells S.kind kinds fun env he s1 x => ?_))
  subst he
  refine ⟨lim.keeps x.toInCall.keep, codeAny_func ?_⟩
  obtain ⟨t, ht, hq⟩ := hb A outer s H vs Q E (rm.deeper _) gd pr
  have I : Inv (cxOf (L2.CX P w) P w K mg base N qual scope f v5 A outer s H E) [] (start N vs) H s1 := inv_start S rm.hd e0 lv rv x
  have fin : ∀ {σ2 : L2.St} {H2 : Hp} {v : V} {u : Value} {s2 : Shared}, Inv (cxOf (L2.CX P w) P w K mg base N qual scope f v5 A outer s H E) [] σ2 H2 s2 → L2.RelV v u → Q v H2 → L2.CE outer P w H s Q u s2 :=
    fun {_ H2 v _ _} J r q => ⟨v, H2, J.os, J.bare, J.base, J.hok, r, q⟩
  refine wpAny_mono (ht.run [] s1 (start N vs) H _ I hq) (fun fl s2 hs => ?_) fun _ _ hs => hs
  match fl, hs with
  | .ret _, ⟨_, _, _, J, r, q⟩ => exact fin J r q
  | .next, ⟨_, _, J, q⟩ => exact fin (v := V.non) (u := Value.none) J rfl q
  | .brk, ⟨_, _, _, q⟩ => exact q.elim
  | .cont, ⟨_, _, _, q⟩ => exact q.elim

/-- what must be seen of a def in the module -/
structure DefAt (K : PySem.W.Frag) (mg : Str → Option Value) (cf : Cfg) (f : Str) (F : Fn) (a : Addr) (fd : FuncData) : Prop where
  mg : mg f = some (.ref a)
  keep : PySem.W.keepIn K (.ref a) = true
  bind : Binds K fd F.ps []
  kw : ∀ n ks pm, (f, n, ks, pm) ∈ cf.kw → KBd fd F.ps n ks pm
  text : ∃ (name qual : Str) (params : Arguments) (body : List Stmt) (scope : Scope) (v1 v2 v3 v4 v5 v6 v7 : Value) (an od : Option Addr) (os : Array (Option Value)), fd = PySem.W.fnOf name qual params body scope v1 v2 v3 v4 an v5 v6 ∧
    K.lookup a = some ⟨v7, od, .func fd, os⟩ ∧ PySem.W.codeIn K v5 qual = true ∧ FnScope F.N F.ps scope ∧ okSs cf F.N true scope F.body body = true

theorem view_start {K : PySem.W.Frag} {G : Hp} {δ : Option (Addr × Addr)} {N : List Str} {vs : List V} {ds : List D} (r : RlAll K G δ vs ds) (l : vs.length ≤ N.length) {H : Hp} (w : Wd δ G H) : SR K δ G H (fun _ => none) G H (ds.map Sl.d ++ List.replicate (N.length - ds.length) Sl.no) (start N vs) := by
  have lv := r.length
  have no : ∀ (i : Nat) (z : Sl), (ds.map Sl.d ++ List.replicate (N.length - ds.length) Sl.no)[i]? = some z → (∃ d, ds[i]? = some d ∧ z = .d d) ∨ z = .no := fun i z h => by
    by_cases hi : i < ds.length
    · rw [List.getElem?_append_left (by simpa using hi), List.getElem?_map] at h
      cases e : ds[i]? with
      | none => rw [e] at h; cases h
      | some d => rw [e] at h; exact .inl ⟨d, rfl, by simpa using h.symm⟩
    · rw [List.getElem?_append_right (by simpa using hi), List.getElem?_replicate] at h
      split at h
      · exact .inr (by simpa using h.symm)
      · cases h
  refine ⟨Nx.refl w, (fun a o e => absurd (show (none : Option HO) = some o from e) (by simp)), by unfold L2.start; simp [lv], fun i d h => ?_, fun i xs h => ?_, fun i j xs ys a h => ?_⟩
  · rcases no i _ h with ⟨d', hd, e⟩ | e
    · cases e
      obtain ⟨v, hv, rv⟩ := r.get hd
      refine ⟨v, ?_, rv⟩
      have hi : i < vs.length := (List.getElem?_eq_some_iff.mp hv).1
      unfold L2.start
      rw [List.getElem?_append_left (by simpa using hi), List.getElem?_map, hv]; rfl
    · cases e
  · rcases no i _ h with ⟨d', hd, e⟩ | e <;> cases e
  · rcases no i _ h with ⟨d', hd, e⟩ | e <;> cases e

section
variable {P : Program} {w : World} {K : PySem.W.Frag} {mg : Str → Option Value} {base : Heap} {cf : Cfg} {T : Tb}
/-- the module, as the checker must know it -/
structure ModAt (K : PySem.W.Frag) (mg : Str → Option Value) (cf : Cfg) (T : Tb) : Prop where
  bl : ∀ x ∈ cf.bl, mg x = none
  gcd : cf.gcd = true → mg "gcd" = some (.builtin "math.gcd")
  fn : ∀ f ps, cf.fn.lookup f = some ps → ∃ F a fd, T f = some F ∧ F.ps = ps ∧ DefAt K mg cf f F a fd
  er : ∀ x ∈ cf.er, ∃ C fI, Er.ErrTxt K mg x (fldOf x) C fI ∧ Er.IsTxt K C
  cn : ∀ p ∈ cf.cn, ∃ u, mg p.1 = some u ∧ L2.RelV (kV p.2) u
  eb : ∀ y ∈ cf.eb, ∃ B, mg y = some (.ref B) ∧ ∀ x ∈ cf.er, ∀ C, mg x = some (.ref C) → PySem.W.exmOne K (.ref C) (.ref B) = some (subE x y) ∧ PySem.W.kitOne K (.ref C) (.ref B) = some (subE x y)
theorem body_ctx {X : Cx} {scope : Scope} {S : SC} (h1 : X.prog = S.prog) (h2 : X.w = S.w) (h3 : X.K = S.K) (h4 : X.mg = S.mg) (h5 : X.base = S.base) (h6 : X.N = S.N) (h7 : X.calm = true) (h8 : X.env.scope = scope) (h9 : X.fn = fun _ => true) (g : X.A.guards = some []) (r : Room S.lv X.A) (k : scope.kind = .function)
    (p : PassesOwn (model X.prog X.w) X.A X.env X.xe) (st : X.stack = X.env :: X.outer) (fr : X.env.frame = some X.env.locals) : Sd S scope X :=
  ⟨⟨h1, h2, h3, h4, h5, h6, fun _ => h7, fun x k e => .inl (by rw [h8]; exact e), fun x _ => by rw [h9], g, r⟩, h8, k, p, st, fr⟩
theorem sound (M : ModAt K mg cf T) : ∀ (n : Nat) (f : Str) (F : Fn) (a : Addr) (fd : FuncData), T f = some F → DefAt K mg cf f F a fd → FnG P w K mg base n a fd F.ps (spF K mg cf.er (phi T n) f F.ps.length)
  | 0, f, F, a, fd, _, _ => ⟨fun vs H Q E h => by
      obtain ⟨_, _, ds, _, _, _, r, l, _⟩ := h
      rw [r.length, l], fun A outer s H args us vs Q E _ _ _ _ _ h => by
      obtain ⟨_, _, _, _, _, _, _, _, h, _⟩ := h
      exact h.elim⟩
  | n + 1, f, F, a, fd, hT, d => by
    obtain ⟨name, qual, params, body, scope, v1, v2, v3, v4, v5, v6, v7, an, od, os, rfl, lk, hc, S, ok⟩ := d.text
    refine fnG_of lk hc S (fun vs H Q E h => ?_) fun A outer s H vs Q E rm gd h => ?_
    · obtain ⟨_, _, ds, _, _, _, r, l, _⟩ := h
      rw [r.length, l]
    · obtain ⟨δ, G, ds, Q', E', wd, r, l, ⟨F', hF, l2, wp⟩, k, x⟩ := h
      rw [hT] at hF; cases hF
      obtain ⟨S0, hS0⟩ : ∃ S0 : SC, S0 = ⟨P, w, K, mg, base, phi T n, n, cf, F.N, true⟩ := ⟨_, rfl⟩
      have so : SOk S0 := by
        subst hS0
        refine ⟨S.nd, M.bl, M.gcd, fun f ps ds Q E hf h => ?_, fun f ps hf => ?_, M.er, M.cn, M.eb⟩
        · obtain ⟨F2, a2, fd2, t2, p2, _⟩ := M.fn f ps hf
          cases n with
          | zero => exact h.elim
          | succ n =>
            obtain ⟨F3, t3, l3, _⟩ := h
            have t2 : T f = some F2 := t2
            have t3 : T f = some F3 := t3
            rw [t2] at t3; cases t3
            rw [← p2]; exact l3
        · obtain ⟨F2, a2, fd2, t2, p2, d2⟩ := M.fn f ps hf
          subst p2
          exact ⟨a2, fd2, d2.mg, d2.keep, d2.bind, sound M n f F2 a2 fd2 t2 d2, d2.kw⟩
      obtain ⟨t, pt, st⟩ := okSs_ok so F.body (fun cls d _ H => E cls d H) scope body (by subst hS0; exact ok)
      have tk : Takes (cxOf (L2.CX P w) P w K mg base F.N qual scope a v5 A outer s H E) (fun cls d _ H => E cls d H) := takes_of rfl rfl rfl rfl
      refine ⟨t, pt _ (body_ctx (by subst hS0; rfl) (by subst hS0; rfl) (by subst hS0; rfl) (by subst hS0; rfl) (by subst hS0; rfl) (by subst hS0; rfl) rfl rfl rfl gd (by subst hS0; exact rm) S.kind (passes_of rfl) rfl rfl) tk, ?_⟩
      have hpl : F.ps.length ≤ F.N.length := by have := congrArg List.length S.pre; rw [List.length_take] at this; omega
      have s0 := view_start (N := F.N) r (by rw [r.length, l]; exact hpl) wd
      refine st E' δ G H (fun _ => none) G H _ _ { nx := fun _ => Q' .none, rt := Q' } { nx := fun _ H' => Q .non H', rt := Q } (by subst hS0; exact s0) (by subst hS0; exact fun σ G' H' x' y cls dd m e xr => x G' H' x' y cls dd m e xr) (by subst hS0; exact wp) ⟨fun G H st σ s q => ?_, fun G H v d m r q => ?_, fun _ _ _ _ _ q => q.elim, fun _ _ _ _ _ q => q.elim⟩
      · exact k G H .non .none (by subst hS0; exact s.nx) .non q
      · subst hS0
        exact k G H v d m r q
end
end Ey

end
section
set_option Elab.async false
set_option linter.all false
set_option maxRecDepth 100000
set_option maxHeartbeats 1000000
/-! Ey21: the deck is made. -/
namespace Ey
open PySem PySem.Spec PyProof.Rows L2
open Evl (Ex)

/-- the deck's def promises: the first argument a list of ints, all others ints -/
def spDeck (K : PySem.W.Frag) (n : Nat) : Sp := fun vs H R _ => vs.length = n ∧ ∃ (a : Addr) (rest : List V) (ns : List Int), vs = V.ref a :: rest ∧ (∀ v ∈ rest, ∃ i : Int, v = .int i ∧ i.natAbs < 2 ^ 40) ∧ SqL K H a (ns.map V.int) ∧
  ∀ (p q : Addr) (H' : Hp), Ex H H' → DeckAt H' (p, q) → R (.ref p) H'
/-- its text -/
structure DkTxt where
  e1 : Expr
  m : List Str
  c : List Str
  s : List Str
  fi : List Str
  fl : Str
  g : Int × Int × Int × Int
  cut : List Int
  k : List Str
def asDeck : List Stmt → Option DkTxt
  | [.Assign [.Name m1 _] e1 _,
      .For (.Name c1 _) (.Subscript (.Name s1 _) (.Slice none (some (.Constant (.int k1) _ _)) none _) _)
        [.Assign [.Name m2 _] (.BinOp (.Call (.Name f1 _) [.BinOp (.BinOp (.BinOp (.Name m3 _) .Mult (.Constant (.int g1) _ _) _) .Add (.BinOp (.Call (.Name f2 _) [.Name c2 _] [] _) .Mod (.Constant (.int g2) _ _) _) _) .Add (.Constant (.int g3) _ _) _] [] _) .Mod (.Constant (.int g4) _ _) _) _] [] _,
      .Return (some (.Dict [some (.Constant (.str x1) _ _), some (.Constant (.str x2) _ _), some (.Constant (.str x3) _ _)]
        [.Subscript (.Call (.Name f3 _) [.Subscript (.Name s2 _) (.Slice none (some (.Constant (.int k2) _ _)) none _) _] [] _) (.Slice none none (some (.UnaryOp .USub (.Constant (.int 1) _ _) _)) _) _, .Name m4 _, .Constant (.int 0) _ _] _)) _] =>
    some ⟨e1, [m1, m2, m3, m4], [c1, c2], [s1, s2], [f1, f2], f3, (g1, g2, g3, g4), [k1, k2], [x1, x2, x3]⟩
  | _ => none
def isIntE : Expr → Bool
  | .Constant (.int i) _ _ => decide (i.natAbs < 2 ^ 40)
  | _ => false
/-- slot 0 the script, im the mixed number, ic the cell; the first value a slot of the arguments, or an int -/
def deckC (cf : Cfg) (N ps : List Str) (sc : Scope) (im ic : Nat) (body : List Stmt) : Bool := match asDeck body with
  | some ⟨e1, [m1, m2, m3, m4], [c1, c2], [s1, s2], [f1, f2], f3, (g1, g2, g3, g4), [k1, k2], [x1, x2, x3]⟩ =>
    (isIntE e1 || (match asName e1 with | some y => varC N sc 1 y && decide (1 < ps.length) | none => false)) && decide (m2 = m1 ∧ m3 = m1 ∧ m4 = m1 ∧ c2 = c1 ∧ s2 = s1 ∧ f1 = "int" ∧ f2 = "int" ∧ f3 = "list") &&
      varC N sc im m1 && locC N sc im m1 && varC N sc ic c1 && locC N sc ic c1 && varC N sc 0 s1 && glC sc "int" && glC sc "list" && decide (("int" : Str) ∈ cf.bl) && decide (("list" : Str) ∈ cf.bl) &&
      decide (0 < g2 ∧ g2 < 2 ^ 32 ∧ 0 < g4 ∧ g4 < 2 ^ 32 ∧ g1.natAbs < 2 ^ 32 ∧ 0 ≤ k1 ∧ 0 ≤ k2 ∧ k2 ≤ 100 ∧ x1 = deckKey ∧ x2 = "mixed" ∧ x3 = "draws" ∧ im ≠ 0 ∧ ic ≠ 0 ∧ im ≠ ic ∧ im ≠ 1 ∧ ic ≠ 1 ∧ 1 ≤ ps.length)
  | _ => false
section
variable {K : PySem.W.Frag} {H : Hp} {σ : L2.St} {a : Addr} {ns : List Int}
def tCutS (K : PySem.W.Frag) (k : Int) : TE := L2.tSl (rSlL K) (tVar 0) tNoPart (tPart (tC (.int k)))
theorem cutS_run {k : Int} {R : VK} (h0 : σ[0]? = some (some (V.ref a))) (hs : SqL K H a (ns.map V.int)) (q : ∀ p, H p = none → R (.ref p) (L2.upd H p (.lst ((cutV (ns.map V.int) none (some k)))))) : tCutS K k σ H R :=
  ⟨_, h0, k, rfl, a, _, rfl, hs, q⟩
def rL1 (K : PySem.W.Frag) : List V → Hp → VK → Prop := fun xs H Q => ∃ p ys, xs = [V.ref p] ∧ (SqL K H p ys ∨ SqT K H p ys) ∧ ∀ l, H l = none → Q (.ref l) (L2.upd H l (.lst ys))
def tMix (im ic : Nat) (g1 g2 g3 g4 : Int) : TE := tOp (rI (fun _ j => j ≠ 0) fun i j => .int (i.fmod j)) (tCB rI1 (tCons (tOp (rI0 fun i j => .int (i + j)) (tOp (rI0 fun i j => .int (i + j)) (tOp (rI CMulW fun i j => .int (i * j)) (tVar im) (tC (.int g1)))
  (tOp (rI (fun _ j => j ≠ 0) fun i j => .int (i.fmod j)) (tCB rI1 (tCons (tVar ic) tNil)) (tC (.int g2)))) (tC (.int g3))) tNil)) (tC (.int g4))
def tDeckV (K : PySem.W.Frag) (im : Nat) (k : Int) : TE := tDisp [(tC (.str deckKey), tRevA K (tCB (rL1 K) (tCons (tCutS K k) tNil))), (tC (.str "mixed"), tVar im), (tC (.str "draws"), tC (.int 0))]
def tDeck (K : PySem.W.Frag) (te : TE) (im ic : Nat) (g1 g2 g3 g4 k1 k2 : Int) : TS := tSeq (tAsg te (gName im)) (tSeq (tFor (iList K (tCutS K k1)) (gName ic) (tAsg (tMix im ic g1 g2 g3 g4) (gName im))) (tRet (tDeckV K im k2)))
theorem mix_run {im ic : Nat} {g1 g2 g3 g4 x c : Int} {R : VK} (h1 : σ[im]? = some (some (V.int x))) (h2 : σ[ic]? = some (some (V.int c))) (hx : x.natAbs < 2 ^ 40) (z1 : g1.natAbs < 2 ^ 32) (z2 : 0 < g2) (z4 : 0 < g4) (z5 : g4 < 2 ^ 32) (q : ∀ y : Int, y.natAbs < 2 ^ 40 → R (.int y) H) : tMix im ic g1 g2 g3 g4 σ H R := by
  refine ⟨_, h1, x, g1, rfl, rfl, ?_, _, h2, .inl ⟨c, rfl, c, g2, rfl, rfl, by omega, _, _, rfl, rfl, _, _, rfl, rfl, .inl ⟨_, rfl, _, _, rfl, rfl, by omega, q _ ?_⟩⟩⟩
  · have a1 : x.natAbs.log2 < 40 := by
      by_cases e : x.natAbs = 0
      · rw [e]; decide
      · exact (Nat.log2_lt e).mpr hx
    have a2 : g1.natAbs.log2 < 32 := by
      by_cases e : g1.natAbs = 0
      · rw [e]; decide
      · exact (Nat.log2_lt e).mpr z1
    show _ < 1000000
    omega
  · have h0 := Int.fmod_nonneg_of_pos (x * g1 + c.fmod g2 + g3) z4
    have h9 := Int.fmod_lt_of_pos (x * g1 + c.fmod g2 + g3) z4
    omega
theorem cut_ints (ns : List Int) (lo hi : Option Int) : ∃ ms : List Int, cutV (ns.map V.int) lo hi = ms.map V.int ∧ ∀ k : Int, 0 ≤ k → lo = none → hi = some k → ms.length ≤ k.toNat := by
  refine ⟨(ns.drop (HT.sIx ns.length 0 lo)).take (HT.sIx ns.length ns.length hi - HT.sIx ns.length 0 lo), ?_, fun k h0 h1 h2 => ?_⟩
  · unfold cutV
    rw [List.length_map, List.map_take, List.map_drop]
  · subst h1; subst h2
    rw [List.length_take]
    have : HT.sIx ns.length ns.length (some k) ≤ k.toNat := by
      show (if k < 0 then (k + (ns.length : Int)).toNat else min k.toNat ns.length) ≤ k.toNat
      rw [if_neg (by omega)]
      exact Nat.min_le_left _ _
    omega
theorem deck_run {te : TE} {im ic : Nat} {g1 g2 g3 g4 k1 k2 m0 : Int} {D : Ends} (z1 : g1.natAbs < 2 ^ 32) (z2 : 0 < g2) (z4 : 0 < g4) (z5 : g4 < 2 ^ 32) (y1 : 0 ≤ k1) (y2 : 0 ≤ k2) (y3 : k2 ≤ 100) (i0 : im ≠ 0) (c0 : ic ≠ 0) (ci : im ≠ ic) (li : im < σ.length) (lc : ic < σ.length)
    (h0 : σ[0]? = some (some (V.ref a))) (hs : SqL K H a (ns.map V.int)) (hm : m0.natAbs < 2 ^ 40) (ht : ∀ R : VK, R (.int m0) H → te σ H R) (q : ∀ (p q : Addr) (H' : Hp), Ex H H' → DeckAt H' (p, q) → D.rt (.ref p) H') : tDeck K te im ic g1 g2 g3 g4 k1 k2 D σ H := by
  refine ht _ ?_
  show tSeq _ _ D (σ.set im (some (V.int m0))) H
  have e0 : (σ.set im (some (V.int m0)))[0]? = some (some (V.ref a)) := by rw [List.getElem?_set_ne i0]; exact h0
  refine cutS_run e0 hs fun p hp => ?_
  obtain ⟨ms, hms, _⟩ := cut_ints ns none (some k1)
  rw [hms]
  have hs2 : ∀ {b : Addr} {o : HO}, H b = none → SqL K (L2.upd H b o) a (ns.map V.int) := fun hb => Evl.ex_l (Evl.Ex.new hb) hs
  refine ⟨p, rfl, ⟨_, SqL.of upd_same⟩, ?_⟩
  refine ⟨fun i m σ' H' => m = ms.length - i ∧ i ≤ ms.length ∧ H' = L2.upd H p (.lst (ms.map V.int)) ∧ σ'.length = σ.length ∧ σ'[0]? = some (some (V.ref a)) ∧ ∃ x : Int, σ'[im]? = some (some (V.int x)) ∧ x.natAbs < 2 ^ 40,
    ⟨_, rfl, Nat.zero_le _, rfl, by rw [List.length_set], e0, m0, List.getElem?_set_self li, hm⟩, ?_⟩
  rintro i m σ' H' ⟨rfl, hi, rfl, hl, e0', x, hx, hb⟩
  by_cases w : i < ms.length
  · refine .inr ⟨⟨_, V.int ms[i], SqL.of upd_same, by rw [List.getElem?_map, List.getElem?_eq_getElem w]; rfl⟩, fun σ2 H2 => H2 = L2.upd H p (.lst (ms.map V.int)) ∧ σ2.length = σ.length ∧ σ2[0]? = some (some (V.ref a)) ∧ ∃ x : Int, σ2[im]? = some (some (V.int x)) ∧ x.natAbs < 2 ^ 40, fun σ2 H2 z => ⟨_, by omega, rfl, by omega, z⟩, ?_⟩
    rintro v H3 ⟨rfl, hv⟩
    have := hv _ (SqL.of upd_same)
    rw [List.getElem?_map, List.getElem?_eq_getElem w] at this
    have ev : V.int ms[i] = v := by simpa using this
    subst ev
    have lc' : ic < σ'.length := by rw [hl]; exact lc
    refine mix_run (x := x) (c := ms[i]) (by rw [List.getElem?_set_ne ci.symm]; exact hx) (List.getElem?_set_self lc') hb z1 z2 z4 z5 fun y hy => ?_
    refine ⟨rfl, by rw [List.length_set, List.length_set]; exact hl, by rw [List.getElem?_set_ne i0, List.getElem?_set_ne c0]; exact e0', y, List.getElem?_set_self (by rw [List.length_set, hl]; exact li), hy⟩
  · refine .inl ⟨⟨_, SqL.of upd_same, by rw [List.length_map]; omega⟩, ?_⟩
    have s1 := hs2 (o := .lst (ms.map V.int)) hp
    generalize hH1 : L2.upd H p (.lst (ms.map V.int)) = H1 at s1
    have x1 : Ex H H1 := by rw [← hH1]; exact Evl.Ex.new hp
    intro d hd
    have s2 : SqL K (L2.upd H1 d (.dK [])) a (ns.map V.int) := Evl.ex_l (Evl.Ex.new hd) s1
    refine cutS_run e0' s2 fun p2 hp2 => ?_
    obtain ⟨ms2, hms2, hl2⟩ := cut_ints ns none (some k2)
    rw [hms2]
    refine ⟨p2, _, rfl, .inl (SqL.of upd_same), fun p3 hp3 => ?_⟩
    refine .inl ⟨p3, _, rfl, SqL.of upd_same, fun p4 hp4 => ?_⟩
    refine ⟨_, hx, ?_⟩
    have d4 : d ≠ p4 := fun z => by
      subst z
      have := ne_of_none (upd_same (H := H1) (a := d) (o := .dK [])) hp2
      rw [upd_ne (fun z => by subst z; rw [upd_ne this, upd_same] at hp3; cases hp3), upd_ne this, upd_same] at hp4
      cases hp4
    have dd : ∀ {b : Addr} {Hx : Hp} {o : HO} {u : HO}, Hx d = some u → Hx b = none → L2.upd Hx b o d = some u := fun h1 h2 => (upd_ne (ne_of_none h1 h2)).trans h1
    have g1' := dd (o := .lst (ms2.map V.int)) (upd_same (H := H1) (a := d) (o := .dK [])) hp2
    have g2' := dd (o := .lst (ms2.map V.int)) g1' hp3
    have g3' := dd (o := .lst (ms2.map V.int).reverse) g2' hp4
    refine ⟨g3', [(.inr deckKey, V.ref p4), (.inr "mixed", V.int x), (.inr "draws", V.int 0)], rfl, (by show 3 ≤ 15; decide), ?_⟩
    have em : mergeK [] [(.inr deckKey, V.ref p4), (.inr "mixed", V.int x), (.inr "draws", V.int 0)] = [(Sum.inr deckKey, V.ref p4), (.inr "mixed", V.int x), (.inr "draws", V.int 0)] := by
      rw [merge_new (by simp only [List.map_cons, List.map_nil]; decide) (fun _ _ _ h => by simp at h)]; rfl
    rw [em]
    refine q d p4 _ ?_ ⟨deckKey, ms2.reverse, x, 0, rfl, upd_same, ?_, ?_⟩
    · refine fun b o hb => ?_
      have b1 := x1 b o hb
      have n1 : b ≠ d := ne_of_none b1 hd
      rw [upd_ne n1]
      exact Evl.Ex.new hp4 b o (Evl.Ex.new hp3 b o (Evl.Ex.new hp2 b o (by rw [upd_ne n1]; exact b1)))
    · rw [upd_ne d4.symm, upd_same, List.map_reverse]
    · rw [List.length_reverse]
      have := hl2 k2 y2 rfl rfl
      omega
end
end Ey

end
section
set_option Elab.async false
set_option linter.all false
set_option maxRecDepth 100000
set_option maxHeartbeats 1000000
/-! Ey22: the law's def, and the law. -/
namespace Ey
open PySem PySem.Spec PyProof.Rows L2
open Evl (Ex)

section
variable {P : Program} {w : World} {K : PySem.W.Frag} {mg : Str → Option Value} {base : Heap} {cf : Cfg} {T : Tb}
/-- how a def stands in the module, its text told apart -/
structure TextAt (K : PySem.W.Frag) (a : Addr) (fd : FuncData) (N ps : List Str) (scope : Scope) (body : List Stmt) : Prop where
  text : ∃ (name qual : Str) (params : Arguments) (v1 v2 v3 v4 v5 v6 v7 : Value) (an od : Option Addr) (os : Array (Option Value)), fd = PySem.W.fnOf name qual params body scope v1 v2 v3 v4 an v5 v6 ∧
    K.lookup a = some ⟨v7, od, .func fd, os⟩ ∧ PySem.W.codeIn K v5 qual = true ∧ FnScope N ps scope
theorem deck_fn {a : Addr} {fd : FuncData} {N ps : List Str} {scope : Scope} {body : List Stmt} {im ic k : Nat} (bl : ∀ x ∈ cf.bl, mg x = none) (tx : TextAt K a fd N ps scope body) (g : deckC cf N ps scope im ic body = true) : FnG P w K mg base (k + 1) a fd ps (spDeck K ps.length) := by
  obtain ⟨name, qual, params, v1, v2, v3, v4, v5, v6, v7, an, od, os, rfl, lk, hc, S⟩ := tx.text
  refine fnG_of lk hc S (fun vs H Q E h => h.1) fun A outer s H vs Q E rm gd h => ?_
  obtain ⟨hlen, sa, rest, ns, rfl, hrest, hs, hq⟩ := h
  unfold deckC at g
  split at g
  · rename_i e1 m1 m2 m3 m4 c1 c2 s1 s2 f1 f2 f3 g1 g2 g3 g4 k1 k2 x1 x2 x3 hd
    simp only [Bool.and_eq_true, decide_eq_true_eq] at g
    obtain ⟨⟨⟨⟨⟨⟨⟨⟨⟨⟨⟨ge, rfl, rfl, rfl, rfl, rfl, rfl, rfl, rfl⟩, va⟩, la⟩, vb⟩, lb⟩, vc⟩, gi⟩, gl⟩, bi⟩, bll⟩, z2, z2b, z4, z5, z1, y1, y2, y3, rfl, rfl, rfl, i0, c0, ci, i1, ic1, lp⟩ := g
    unfold asDeck at hd
    split at hd
    · replace hd := hd.symm
      simp only [Option.some.injEq, DkTxt.mk.injEq, List.cons.injEq, Prod.mk.injEq, and_true] at hd
      obtain ⟨rfl, ⟨rfl, rfl, rfl, rfl⟩, ⟨rfl, rfl⟩, ⟨rfl, rfl⟩, ⟨rfl, rfl⟩, rfl, ⟨rfl, rfl, rfl, rfl⟩, ⟨rfl, rfl⟩, rfl, rfl, rfl⟩ := hd
      obtain ⟨S0, hS0⟩ : ∃ S0 : SC, S0 = ⟨P, w, K, mg, base, fun _ _ _ _ => False, k, cf, N, true⟩ := ⟨_, rfl⟩
      have sd : Sd S0 scope (cxOf (L2.CX P w) P w K mg base N qual scope a v5 A outer s H E) := body_ctx (by subst hS0; rfl) (by subst hS0; rfl) (by subst hS0; rfl) (by subst hS0; rfl) (by subst hS0; rfl) (by subst hS0; rfl) rfl rfl rfl gd (by subst hS0; exact rm) S.kind (passes_of rfl) rfl rfl
      have eN : S0.N = N := by subst hS0; rfl
      generalize hX : cxOf (L2.CX P w) P w K mg base N qual scope a v5 A outer s H E = X at sd
      have hK : X.K = K := by rw [← hX]; rfl
      have hN : X.N = N := by rw [← hX]; rfl
      have hcal : X.calm = true := by rw [← hX]; rfl
      have mi : X.mg "int" = none := by rw [← hX]; exact bl _ bi
      have ml : X.mg "list" = none := by rw [← hX]; exact bl _ bll
      rw [← eN] at va la vb lb vc
      obtain ⟨n1, n2, n3⟩ := sd.sx.loc la
      obtain ⟨q1, q2, q3⟩ := sd.sx.loc lb
      have nd : X.N.Nodup := by rw [hN]; exact S.nd
      have hi : im < N.length := by rw [← hN]; exact (List.getElem?_eq_some_iff.mp n1).1
      have hcc : ic < N.length := by rw [← hN]; exact (List.getElem?_eq_some_iff.mp q1).1
      have pc : ∀ (k : Int) (j p1 p2 p3 p4), PE X (.Subscript (.Name _ p1) (.Slice none (some (.Constant (.int k) j p2)) none p3) p4) (tCutS X.K k) := fun k j p1 p2 p3 p4 => pe_slice sl_list (varC_of vc sd.sx) po_none (po_some pe_int)
      have hpl : ps.length ≤ N.length := by have := congrArg List.length S.pre; rw [List.length_take] at this; omega
      have hv0 : ∀ (i : Nat) (v : V), (V.ref sa :: rest)[i]? = some v → (L2.start N (V.ref sa :: rest))[i]? = some (some v) := fun i v e => by
        unfold L2.start
        rw [List.getElem?_append_left (by simpa using (List.getElem?_eq_some_iff.mp e).1), List.getElem?_map, e]; rfl
      have hln : (L2.start N (V.ref sa :: rest)).length = N.length := by
        unfold L2.start
        rw [List.length_append, List.length_map, List.length_replicate, hlen]
        omega
      suffices main : ∃ (te : TE) (m0 : Int), m0.natAbs < 2 ^ 40 ∧ PE X e1 te ∧ (∀ x ln px, swapsWith e1 (some (.Name x px)) ln X.env = pure false) ∧ (∀ R : VK, R (.int m0) H → te (L2.start N (V.ref sa :: rest)) H R) by
        obtain ⟨te, m0, hm, pe, hsw, ht⟩ := main
        refine ⟨tDeck K te im ic g1 g2 g3 g4 k1 k2, ?_, deck_run (a := sa) z1 z2 z4 z5 y1 y2 y3 i0 c0 ci (by rw [hln]; exact hi) (by rw [hln]; exact hcc) (hv0 0 _ rfl) hs hm ht hq⟩
        rw [← hK]
        refine pss_cons (ps_set nd n1 n2 pe (hsw _ _ _) n3) (pss_cons (ps_for sd.ps hcal (pi_list (pc _ _ _ _ _ _)) (pg_name nd q1 q2 q3) (pss_one (ps_set nd n1 n2 (pe_op op_modN (pe_callTy call_int1 (sd.sx.gl gi).1 mi (boot_bi .int (by decide)) (pa_cons (pe_op op_add (pe_op op_add (pe_op op_mulW (varC_of va sd.sx) pe_int) (pe_op op_modN (pe_callTy call_int1 (sd.sx.gl gi).1 mi (boot_bi .int (by decide)) (pa_cons (varC_of vb sd.sx) pa_nil)) pe_int)) pe_int) pa_nil)) pe_int) rfl n3)))
            (pss_one (ps_ret (pe_disp (pps_cons pe_str (pe_revA (pe_callTy call_list_of (sd.sx.gl gl).1 ml (boot_bi .list (by decide)) (pa_cons (pc _ _ _ _ _ _) pa_nil))) (pps_cons pe_str (varC_of va sd.sx) (pps_cons pe_str pe_int pps_nil))) rfl rfl nofun (by show 3 ≤ 15; decide)))))
      rw [Bool.or_eq_true] at ge
      rcases ge with ge | ge
      · cases e1 <;> first | (simp [isIntE] at ge; done) | skip
        rename_i c j p
        cases c <;> first | (simp [isIntE] at ge; done) | skip
        rename_i i
        exact ⟨tC (.int i), i, by simpa [isIntE] using ge, pe_int, fun _ _ _ => rfl, fun R h => h⟩
      · split at ge
        · rename_i y hy
          obtain ⟨p, rfl⟩ := asName_of hy
          simp only [Bool.and_eq_true, decide_eq_true_eq] at ge
          obtain ⟨ge, l1⟩ := ge
          rw [← eN] at ge
          have : ∃ v, rest[0]? = some v := by
            have : 0 < rest.length := by simp at hlen; omega
            exact ⟨_, List.getElem?_eq_getElem this⟩
          obtain ⟨v, hv⟩ := this
          obtain ⟨i, rfl, hb⟩ := hrest v (List.mem_of_getElem? hv)
          exact ⟨tVar 1, i, hb, varC_of ge sd.sx, fun _ _ _ => rfl, fun R h => ⟨_, hv0 1 _ (by simpa using hv), h⟩⟩
        · cases ge
    · cases hd
  · cases g
end
end Ey

end
section
set_option Elab.async false
set_option linter.all false
set_option maxRecDepth 100000
set_option maxHeartbeats 1000000
/-! Ey23: the law's def, the law. -/
namespace Ey
open PySem PySem.Spec PyProof.Rows L2
open Evl (Ex)

def spLaw (K : PySem.W.Frag) : Sp := fun vs H R _ => ∃ (a : Addr) (ns : List Int), vs = [V.ref a] ∧ SqL K H a (ns.map V.int) ∧ ∀ H', R (.bl true) H'
def asLaw : List Stmt → Option (Str × Str × Str × List Expr × List Stmt)
  | .Assign [.Name dk _] (.Call (.Name f _) (.Name s _ :: es) [] _) _ :: rest => some (dk, f, s, es, rest)
  | _ => none
def lawC (cf : Cfg) (N : List Str) (sc : Scope) (id : Nat) (more : Nat) (core : CSs) (body : List Stmt) : Bool := match asLaw body with
  | some (dk, f, s, es, rest) => decide (f = "_law_deck") && glC sc f && locC N sc id dk && varC N sc 0 s && es.all isIntE && decide (es.length = more) && okSs cf N true sc core rest
  | none => false
/-- what the law's body must say of its core -/
def LawWp (T : Tb) (n : Nat) (many id : Nat) (core : CSs) : Prop := wpSs (phi T n) E0 core { nx := fun _ => False, rt := fun d => d = .bool true } ((List.replicate many Sl.no).set id (.d deckD))

theorem ints_args {X : Cx} : ∀ {es : List Expr}, es.all isIntE = true → ∃ ts vs, PEs X es ts ∧ vs.length = es.length ∧ (∀ v ∈ vs, ∃ i : Int, v = V.int i ∧ i.natAbs < 2 ^ 40) ∧ ∀ σ H Q, Q vs H → tAll ts σ H Q
  | [], _ => ⟨[], [], trivial, rfl, fun _ h => by simp at h, fun _ _ _ h => h⟩
  | e :: es, h => by
    simp only [List.all_cons, Bool.and_eq_true] at h
    obtain ⟨ts, vs, a, b, c, d⟩ := ints_args (X := X) h.2
    have he := h.1
    cases e <;> first | (simp [isIntE] at he; done) | skip
    rename_i c j p
    cases c <;> first | (simp [isIntE] at he; done) | skip
    rename_i i
    exact ⟨tC (.int i) :: ts, .int i :: vs, ⟨rfl, pe_int, a⟩, congrArg (· + 1) b, fun v hv => (List.mem_cons.mp hv).elim (fun z => ⟨i, z, by simpa [isIntE] using he⟩) (c v), fun σ H Q q => d _ _ _ q⟩
section
variable {P : Program} {w : World} {K : PySem.W.Frag} {mg : Str → Option Value} {base : Heap} {cf : Cfg} {T : Tb}
theorem sok_of (M : ModAt K mg cf T) (n : Nat) {N : List Str} (nd : N.Nodup) : SOk ⟨P, w, K, mg, base, phi T n, n, cf, N, true⟩ := by
  refine ⟨nd, M.bl, M.gcd, fun f ps ds Q E hf h => ?_, fun f ps hf => ?_, M.er, M.cn, M.eb⟩
  · obtain ⟨F2, a2, fd2, t2, p2, _⟩ := M.fn f ps hf
    cases n with
    | zero => exact h.elim
    | succ n =>
      obtain ⟨F3, t3, l3, _⟩ := h
      have t3 : T f = some F3 := t3
      rw [t2] at t3; cases t3
      rw [← p2]; exact l3
  · obtain ⟨F2, a2, fd2, t2, p2, d2⟩ := M.fn f ps hf
    subst p2
    exact ⟨a2, fd2, d2.mg, d2.keep, d2.bind, sound M n f F2 a2 fd2 t2 d2, d2.kw⟩
theorem law_fn (M : ModAt K mg cf T) {a da : Addr} {fd dfd : FuncData} {N dps : List Str} {x : Str} {scope : Scope} {body : List Stmt} {id n : Nat} {core : CSs} (tx : TextAt K a fd N [x] scope body) (g : lawC cf N scope id (dps.length - 1) core body = true)
    (dm : mg "_law_deck" = some (.ref da)) (dk : PySem.W.keepIn K (.ref da) = true) (db : Binds K dfd dps []) (dl : 1 ≤ dps.length) (hd : FnG P w K mg base n da dfd dps (spDeck K dps.length)) (wp : LawWp T n N.length id core) : FnG P w K mg base (n + 1) a fd [x] (spLaw K) := by
  obtain ⟨name, qual, params, v1, v2, v3, v4, v5, v6, v7, an, od, os, rfl, lk, hc, S⟩ := tx.text
  refine fnG_of lk hc S (fun vs H Q E ⟨_, _, e, _⟩ => by rw [e]; rfl) fun A outer s H vs Q E rm gd h => ?_
  obtain ⟨sa, ns, rfl, hs, hq⟩ := h
  unfold lawC at g
  split at g
  · rename_i d f sn es rest hx
    simp only [Bool.and_eq_true, decide_eq_true_eq] at g
    obtain ⟨⟨⟨⟨⟨⟨rfl, gf⟩, ld⟩, vs0⟩, gi⟩, gl⟩, ok⟩ := g
    unfold asLaw at hx
    split at hx
    · replace hx := hx.symm
      simp only [Option.some.injEq, Prod.mk.injEq] at hx
      obtain ⟨rfl, rfl, rfl, rfl, rfl⟩ := hx
      have so := sok_of (P := P) (w := w) (base := base) M n S.nd
      generalize hS0 : (⟨P, w, K, mg, base, phi T n, n, cf, N, true⟩ : SC) = S0 at so
      have sd : Sd S0 scope (cxOf (L2.CX P w) P w K mg base N qual scope a v5 A outer s H E) := body_ctx (by subst hS0; rfl) (by subst hS0; rfl) (by subst hS0; rfl) (by subst hS0; rfl) (by subst hS0; rfl) (by subst hS0; rfl) rfl rfl rfl gd (by subst hS0; exact rm) S.kind (passes_of rfl) rfl rfl
      obtain ⟨t, pt, st⟩ := okSs_ok so core (fun cls d _ H => E cls d H) scope rest (by subst hS0; exact ok)
      have tk : Takes (cxOf (L2.CX P w) P w K mg base N qual scope a v5 A outer s H E) (fun cls d _ H => E cls d H) := takes_of rfl rfl rfl rfl
      have pt' := pt _ sd tk
      obtain ⟨ts, us, pe, ul, ub, ur⟩ := ints_args (X := cxOf (L2.CX P w) P w K mg base N qual scope a v5 A outer s H E) gi
      have eN : S0.N = N := by subst hS0; rfl
      rw [← eN] at ld vs0
      obtain ⟨n1, n2, n3⟩ := sd.sx.loc ld
      refine ⟨tSeq (tAsg (tCallW (spDeck K dps.length) (fun cls d _ H => E cls d H) (tCons (tVar 0) (tAll ts))) (gName id)) t, pss_cons (ps_set S.nd n1 n2 (pe_callG (k := n) hd rm gd tk (sd.sx.gl gf).1 dm dk db (pa_cons (varC_of vs0 sd.sx) pe.pa rfl) (sd.sx.gl gf).2 rfl (back_plain pe.nostar)) rfl n3) pt', ?_⟩
      have h0 : (L2.start N [V.ref sa])[0]? = some (some (V.ref sa)) := rfl
      refine ⟨_, h0, ur _ _ _ ⟨by rw [List.length_cons, ul, gl]; omega, sa, us, ns, rfl, ub, hs, fun p q H' ex da => ?_⟩⟩
      have hid : id < N.length := (List.getElem?_eq_some_iff.mp n1).1
      have hln : (L2.start N [V.ref sa]).length = N.length := by
        unfold L2.start
        have : 1 ≤ N.length := by omega
        simp; omega
      have no : ∀ (i : Nat) (z : Sl), ((List.replicate N.length Sl.no).set id (.d deckD))[i]? = some z → (i = id ∧ z = .d deckD) ∨ z = .no := fun i z h => by
        by_cases e : id = i
        · subst e
          rw [List.getElem?_set_self (by simpa using hid)] at h
          exact .inl ⟨rfl, by simpa using h.symm⟩
        · rw [List.getElem?_set_ne e, List.getElem?_replicate] at h
          split at h
          · exact .inr (by simpa using h.symm)
          · cases h
      have wd : Wd (some (p, q)) (fun _ => none) H' := ⟨fun a o e => absurd (show (none : Option HO) = some o from e) (by simp), fun r e => by cases e; exact ⟨rfl, rfl, da⟩⟩
      have sr : SR K (some (p, q)) (fun _ => none) H' (fun _ => none) (fun _ => none) H' ((List.replicate N.length Sl.no).set id (.d deckD)) ((L2.start N [V.ref sa]).set id (some (V.ref p))) := by
        refine ⟨Nx.refl wd, Evl.Ex.refl _, by simp [hln], fun i d h => ?_, fun i xs h => ?_, fun i j xs ys b h => ?_⟩
        · rcases no i _ h with ⟨rfl, e⟩ | e
          · cases e
            exact ⟨.ref p, List.getElem?_set_self (by rw [hln]; exact hid), Rl.deck (p := (p, q)) rfl⟩
          · cases e
        · rcases no i _ h with ⟨rfl, e⟩ | e <;> cases e
        · rcases no i _ h with ⟨rfl, e⟩ | e <;> cases e
      refine st E0 (some (p, q)) (fun _ => none) H' (fun _ => none) (fun _ => none) H' _ _ { nx := fun _ => False, rt := fun d => d = .bool true } { nx := fun _ H' => Q .non H', rt := Q } (by subst hS0; exact sr) (fun _ _ _ _ _ _ _ _ e => e.elim) (by subst hS0; exact wp) ⟨fun _ _ _ _ _ q => q.elim, fun G H v d _ r q => ?_, fun _ _ _ _ _ q => q.elim, fun _ _ _ _ _ q => q.elim⟩
      have q : d = .bool true := q
      subst q
      rw [r.of_bool]
      exact hq H
    · cases hx
  · cases g
end
end Ey

end
section
set_option Elab.async false
set_option linter.all false
set_option maxRecDepth 100000
set_option maxHeartbeats 1000000
/-! Ey24: the head, for promises that know of the guards (the layer's head turned to FnG). -/
namespace Ey
open PySem PySem.Spec PyProof.Rows L2
open Evl (Ex)

abbrev Fin0 (sT : Shared) : Result → Shared → Prop := fun r s' => r = .ok (.ret (.bool true)) ∧ OldK sT.heap s'.heap ∧ s'.os = sT.os ∧ AllBare s'.gens
section
variable {P : Program} {w : World} {K : PySem.W.Frag} {mg mb : Str → Option Value} {k : Nat} {fa a : Addr} {fd : FuncData} {x : Str} {sT : Shared} {us : List Value} {ns : List Int}
theorem no_air {H : Hp} {e : Value} {s' : Shared} : L2.CX P w [] H sT (fun _ _ _ => False) e s' → False := fun ⟨_, _, _, _, _, _, _, _, _, _, _, _, z⟩ => z
theorem head_core (kin : K.In sT.heap) (nsg : sT.heap.Ns mainGlobals mg) (nsb : sT.heap.Ns builtinsNs mb) (bb : ∀ x : Str, x ≠ "__name__" → mb x = bootBuiltins x) (nl : sT.heap.NoLimit) (gn : sT.gens = #[])
    (oa : sT.heap.get? a = some { cls := .type "list", data := .seq us.toArray }) (rm : Room k callerA) (F : ∀ base : Heap, K.In base → base.Ns mainGlobals mg → FnG P w K mg base k fa fd [x] (spLaw K))
    (bd : ∀ (s : Shared) (u : Value), BindsTo s fd ⟨[u], []⟩ [(x, u)]) (H : Hp) (on : Only H) (sq : SqL K H a (ns.map V.int)) (ok : HOk P w H sT.heap) (only : ∀ b, H b ≠ none → b = a) (out : H a ≠ none → K.lookup a = none) :
    codeAny (model P w) callerA (.call (.ref fa) ⟨[.ref a], []⟩) (Fin0 sT) sT := by
  have away : ∀ {b : Addr} {o : Obj} {es : Array DictEntry} {ep : Nat}, sT.heap.get? b = some o → o.data = .dict es ep → H b = none := fun {b o es ep} e d => by
    cases q : H b with
    | none => rfl
    | some u =>
      obtain rfl : b = a := only b (by rw [q]; simp)
      rw [oa] at e; cases e
      exact absurd (show Data.seq us.toArray _ = Data.dict es ep from d) (by simp)
  have nsK : ∀ {b : Addr} {m : Str → Option Value}, sT.heap.Ns b m → (hidT sT.heap H).Ns b m := fun ⟨o, es, ep, e, d, r⟩ => ⟨o, es, ep, hidT_get e (away e d), d, r⟩
  have inB : K.In (hidT sT.heap H) := fun b o e => hidT_get (kin b o e) (by
    cases q : H b with
    | none => rfl
    | some u =>
      obtain rfl : b = a := only b (by rw [q]; simp)
      rw [out (by rw [q]; simp)] at e; cases e)
  have md : Mod K mg (hidT sT.heap H) := ⟨inB, nsK nsg, ⟨mb, nsK nsb, bb⟩, nl.imp fun mc h => ⟨nsK h.1, h.2⟩⟩
  have e0 : Env0 P w K mg (hidT sT.heap H) callerA [] sT H := ⟨rfl, md, fun b o e => of_hidT e, Nat.le_of_eq (hidT_size _ _), trivial, fun b hb => absurd (show b ∈ ([] : List Addr) from hb) (by simp), ok, .of_eq gn⟩
  have run := (F _ inB (nsK nsg)).run callerA [] sT H ⟨[.ref a], []⟩ [.ref a] [.ref a] (fun v _ => v = .bl true) (fun _ _ _ => False) rm rfl e0 (bd sT (.ref a)) (.cons rfl .nil) ⟨a, ns, rfl, sq, fun _ => rfl⟩
  refine codeAny_mono run fun r s' h => ?_
  match r, h with
  | .error e, h => exact (no_air h).elim
  | .ok .next, h => exact h.elim
  | .ok .brk, h => exact h.elim
  | .ok .cont, h => exact h.elim
  | .ok (.ret u), ⟨v, H', os, bare, un, ok', r', q⟩ =>
    subst q
    obtain rfl : u = Value.bool true := r'
    refine ⟨rfl, OldK.of_keep fun b o e => ?_, os, bare⟩
    cases q : H b with
    | none => exact un.keep b o e q (fun z => absurd (show b ∈ ([] : List Addr) from z) (by simp)) (by simp)
    | some u =>
      rcases on b with z | ⟨ob, xs, z⟩
      · rw [q] at z; cases z
      · obtain ⟨g1, _⟩ := ok b _ z
        obtain ⟨g2, _⟩ := ok' b _ (un.frzs b ob _ z)
        rw [e] at g1; cases g1
        exact g2
theorem head_call (kin : K.In sT.heap) (nsg : sT.heap.Ns mainGlobals mg) (nsb : sT.heap.Ns builtinsNs mb) (bb : ∀ x : Str, x ≠ "__name__" → mb x = bootBuiltins x) (nl : sT.heap.NoLimit) (gn : sT.gens = #[])
    (oa : sT.heap.get? a = some { cls := .type "list", data := .seq us.toArray }) (ai : IntsAre us ns) (le : ns.length ≤ sizeLine) (rm : Room k callerA) (F : ∀ base : Heap, K.In base → base.Ns mainGlobals mg → FnG P w K mg base k fa fd [x] (spLaw K))
    (bd : ∀ (s : Shared) (u : Value), BindsTo s fd ⟨[u], []⟩ [(x, u)]) : codeAny (model P w) callerA (.call (.ref fa) ⟨[.ref a], []⟩) (Fin0 sT) sT := by
  have rv := vals_ints ai
  have lu := ai.length
  cases hk : K.lookup a with
  | some o =>
    have e := kin a o hk
    rw [oa] at e; cases e
    exact head_core (ns := ns) kin nsg nsb bb nl gn oa rm F bd (fun _ => none) (fun _ => .inl rfl) (.inr ⟨_, us.toArray, _, hk, rfl, rfl, rfl, by rw [List.size_toArray, lu]; exact le, by simpa using rv⟩) (fun b u z => absurd (show (none : Option HO) = some u from z) (by simp)) (fun b z => absurd rfl z) fun z => absurd rfl z
  | none =>
    obtain ⟨ob, hob⟩ : ∃ ob : Obj, ob = { cls := .type "list", data := .seq us.toArray } := ⟨_, rfl⟩
    have pos : ∀ {b : Addr}, b = a → (if b = a then some (HO.frz ob (.lst (ns.map V.int))) else none) = some (HO.frz ob (.lst (ns.map V.int))) := fun z => if_pos z
    have neg : ∀ {b : Addr}, b ≠ a → (if b = a then some (HO.frz ob (.lst (ns.map V.int))) else none) = none := fun z => if_neg z
    refine head_core (ns := ns) kin nsg nsb bb nl gn oa rm F bd (fun b => if b = a then some (.frz ob (.lst (ns.map V.int))) else none) (fun b => ?_) (.inl (.inr ⟨ob, pos rfl⟩)) (fun b u z => ?_) (fun b z => ?_) fun _ => hk
    · by_cases e : b = a
      · exact .inr ⟨_, _, pos e⟩
      · exact .inl (neg e)
    · by_cases e : b = a
      · have z' := (pos e).symm.trans z
        cases z'
        subst e
        exact ⟨by rw [hob]; exact oa, by rw [List.length_map]; exact le, us, _, rv, oa⟩
      · have z' := (neg e).symm.trans z
        cases z'
    · by_cases e : b = a
      · exact e
      · exact absurd (neg e) z
end
/-- the goal that the head leaves, by the law's promise -/
theorem walk_G {l : PySem.W.OpenLaw} {n k : Nat} {q : Program} {loose : List Str} {XP : (Str → Option Value) → Heap → Prop} {YP : World → Heap → Prop} {d : DefRec} {K : Params → PySem.W.Frag} {x : Str} (hn : l.most = some n) (hz : n ≤ sizeLine) (nd : d.params.defaults = []) (rm : Room k callerA)
    (hY : ∀ (w : World) (h : Heap), YP w h → (K w.params).In h)
    (F : ∀ (w : World) (mg : Str → Option Value) (fa : Addr) (h : Heap), (K w.params).In h → h.Ns mainGlobals mg → mg d.name = some (.ref fa) → ∃ fd : FuncData, (∀ (s : Shared) (u : Value), BindsTo s fd ⟨[u], []⟩ [(x, u)]) ∧
      ∀ base : Heap, (K w.params).In base → base.Ns mainGlobals mg → FnG l.prog w (K w.params) mg base k fa fd [x] (spLaw (K w.params))) :
    PySem.W.WalkO q loose XP YP l.row.toRowW d [] (fun f vs => PySem.call f vs) := by
  refine Att.attach_call hn nd fun w s0 s1 mg mb fa o pm cd doc a vs ns G Y ho hd hcd hmg hobj hints hlen hg => ?_
  have kin := hY w _ Y
  obtain ⟨fd, bd, hF⟩ := F w mg fa _ kin G.T.g hmg
  exact head_call kin G.T.g G.T.b G.T.builtins G.T.nolimit hg hobj hints (Nat.le_trans hlen hz) rm hF bd
end Ey

end
section
set_option Elab.async false
set_option linter.all false
set_option maxRecDepth 100000
set_option maxHeartbeats 4000000
/-! Ey25: what is wished may be weakened; more calls may be nested. -/
namespace Ey
open PySem

def PLe (Φ Φ' : Phi) : Prop := ∀ f xs Q Q' E E', (∀ x y, E x y → E' x y) → (∀ d, Q d → Q' d) → Φ f xs Q E → Φ' f xs Q' E'
theorem binW_le {o : BO} {x y : D} {Q Q' : DP} (k : ∀ d, Q d → Q' d) (h : binW o x y Q) : binW o x y Q' := by
  unfold binW at h ⊢
  split at h <;> first
    | exact k _ h
    | exact ⟨h.1, k _ h.2⟩
    | exact h.elim
theorem cmpW_le {o : CO} {x y : D} {Q Q' : Bool → Prop} (k : ∀ c, Q c → Q' c) (h : cmpW o x y Q) : cmpW o x y Q' := by
  unfold cmpW at h ⊢
  split at h <;> first
    | exact k _ h
    | exact ⟨h.1, k _ h.2⟩
    | (obtain ⟨c, e, q⟩ := h; exact ⟨c, e, k _ q⟩)
    | exact h.elim
theorem lensW_le {xs : List D} {Q Q' : DP} (k : ∀ d, Q d → Q' d) (h : lensW xs Q) : lensW xs Q' := ⟨h.1, fun L a b => k _ (h.2 L a b)⟩
theorem biW_le {f : Bi} {xs : List D} {Q Q' : DP} (k : ∀ d, Q d → Q' d) (h : biW f xs Q) : biW f xs Q' := by
  unfold biW at h ⊢
  split at h <;> first
    | exact k _ h
    | exact ⟨h.1, k _ h.2⟩
    | (obtain ⟨a, b, c⟩ := h; exact ⟨a, b, k _ c⟩)
    | (obtain ⟨a, b, c, d⟩ := h; exact ⟨a, b, c, fun m p q => k _ (d m p q)⟩)
    | exact h.elim
theorem truW_le {d : D} {Q Q' : Bool → Prop} (k : ∀ c, Q c → Q' c) (h : truW d Q) : truW d Q' := by
  cases d <;> first
    | exact k _ h
    | exact ⟨h.1, k _ h.2⟩
theorem ixW_le {x y : D} {Q Q' : DP} (k : ∀ d, Q d → Q' d) (h : ixW x y Q) : ixW x y Q' := by
  unfold ixW at h ⊢
  split at h <;> first
    | (obtain ⟨a, b, c⟩ := h; exact ⟨a, b, k _ c⟩)
    | (obtain ⟨z, a, b, c⟩ := h; exact ⟨z, a, b, k _ c⟩)
    | exact h.elim
theorem slW_le {x : D} {l u : Option Int} {Q Q' : DP} (k : ∀ d, Q d → Q' d) (h : slW x l u Q) : slW x l u Q' := by
  cases x <;> first | exact k _ h | exact h.elim
theorem revW_le {x : D} {Q Q' : DP} (k : ∀ d, Q d → Q' d) (h : revW x Q) : revW x Q' := by
  cases x <;> first | exact k _ h | exact h.elim
mutual
theorem tgW_le {α : Type} {f : D → α} : ∀ {t : Tg} {x : D} {ρ : List α} {Q Q' : List α → Prop}, (∀ ρ, Q ρ → Q' ρ) → tgW f t x ρ Q → tgW f t x ρ Q'
  | .one i, x, ρ, Q, Q', k, h => by simp only [tgW] at h ⊢; exact k _ h
  | .tup ts, x, ρ, Q, Q', k, h => by
    cases x <;> first
      | (simp [tgW] at h; done)
      | skip
    all_goals
      simp only [tgW] at h ⊢
      exact ⟨h.1, tgsW_le k h.2⟩
theorem tgsW_le {α : Type} {f : D → α} : ∀ {t : Tgs} {x : List D} {ρ : List α} {Q Q' : List α → Prop}, (∀ ρ, Q ρ → Q' ρ) → tgsW f t x ρ Q → tgsW f t x ρ Q'
  | .nil, [], ρ, Q, Q', k, h => by simp only [tgsW] at h ⊢; exact k _ h
  | .nil, _ :: _, ρ, Q, Q', k, h => by simp [tgsW] at h
  | .cons _ _, [], ρ, Q, Q', k, h => by simp [tgsW] at h
  | .cons t r, x :: xs, ρ, Q, Q', k, h => by
    simp only [tgsW] at h ⊢
    exact tgW_le (fun ρ' h => tgsW_le k h) h
end
theorem lcGo_le {s s' : D → (Option D → Prop) → Prop} (hs : ∀ x R R', (∀ r, R r → R' r) → s x R → s' x R') {Q Q' : List D → Prop} (k : ∀ l, Q l → Q' l) : ∀ {xs acc : List D}, lcGo s xs acc Q → lcGo s' xs acc Q'
  | [], acc, h => k _ h
  | x :: xs, acc, h => by
    simp only [lcGo] at h ⊢
    refine hs x _ _ (fun r h => ?_) h
    cases r with
    | none => exact lcGo_le hs k h
    | some y => exact lcGo_le hs k h
section
variable {Φ Φ' : Phi}
mutual
theorem wpE_le (H : PLe Φ Φ') : ∀ (e : CE) {E E' : EPo} {ρ : Env} {Q Q' : DP}, (∀ x y, E x y → E' x y) → (∀ d, Q d → Q' d) → wpE Φ e E ρ Q → wpE Φ' e E' ρ Q'
  | .var i, E, E', ρ, Q, Q', kE, k, h => by simp only [wpE] at h ⊢; obtain ⟨d, a, b⟩ := h; exact ⟨d, a, k _ b⟩
  | .non, E, E', ρ, Q, Q', kE, k, h => by simp only [wpE] at h ⊢; exact k _ h
  | .bl b, E, E', ρ, Q, Q', kE, k, h => by simp only [wpE] at h ⊢; exact k _ h
  | .int b, E, E', ρ, Q, Q', kE, k, h => by simp only [wpE] at h ⊢; exact k _ h
  | .str b, E, E', ρ, Q, Q', kE, k, h => by simp only [wpE] at h ⊢; exact k _ h
  | .bin o a b, E, E', ρ, Q, Q', kE, k, h => by simp only [wpE] at h ⊢; exact wpE_le H a kE (fun x h => wpE_le H b kE (fun y h => binW_le k h) h) h
  | .neg a, E, E', ρ, Q, Q', kE, k, h => by simp only [wpE] at h ⊢; exact wpE_le H a kE (fun x ⟨i, e, h⟩ => ⟨i, e, k _ h⟩) h
  | .cmp o a b, E, E', ρ, Q, Q', kE, k, h => by simp only [wpE] at h ⊢; exact wpE_le H a kE (fun x h => wpE_le H b kE (fun y h => cmpW_le (fun c => k _) h) h) h
  | .chn o p a b c, E, E', ρ, Q, Q', kE, k, h => by
    simp only [wpE] at h ⊢
    refine wpE_le H a kE (fun x h => wpE_le H b kE (fun y h => cmpW_le (fun t h => ?_) h) h) h
    cases t with
    | true => exact wpE_le H c kE (fun z h => cmpW_le (fun c => k _) h) h
    | false => exact k _ h
  | .and a b, E, E', ρ, Q, Q', kE, k, h => by
    simp only [wpE] at h ⊢
    refine wpE_le H a kE (fun x ⟨c, e, h⟩ => ⟨c, e, ?_⟩) h
    cases c with
    | true => exact wpE_le H b kE k h
    | false => exact k _ h
  | .or a b, E, E', ρ, Q, Q', kE, k, h => by
    simp only [wpE] at h ⊢
    refine wpE_le H a kE (fun x ⟨c, e, h⟩ => ⟨c, e, ?_⟩) h
    cases c with
    | true => exact k _ h
    | false => exact wpE_le H b kE k h
  | .not a, E, E', ρ, Q, Q', kE, k, h => by simp only [wpE] at h ⊢; exact wpE_le H a kE (fun x ⟨i, e, h⟩ => ⟨i, e, k _ h⟩) h
  | .ite t a b, E, E', ρ, Q, Q', kE, k, h => by
    simp only [wpE] at h ⊢
    refine wpT_le H t kE (fun c h => ?_) h
    cases c with
    | true => exact wpE_le H a kE k h
    | false => exact wpE_le H b kE k h
  | .tup es, E, E', ρ, Q, Q', kE, k, h => by simp only [wpE] at h ⊢; exact wpEs_le H es kE (fun xs h => ⟨h.1, k _ h.2⟩) h
  | .lst es, E, E', ρ, Q, Q', kE, k, h => by simp only [wpE] at h ⊢; exact wpEs_le H es kE (fun xs h => ⟨h.1, k _ h.2⟩) h
  | .dis ks es, E, E', ρ, Q, Q', kE, k, h => by simp only [wpE] at h ⊢; exact wpEs_le H es kE (fun xs h => k _ h) h
  | .ix a b, E, E', ρ, Q, Q', kE, k, h => by simp only [wpE] at h ⊢; exact wpE_le H a kE (fun x h => wpE_le H b kE (fun y h => ixW_le k h) h) h
  | .sl a l u, E, E', ρ, Q, Q', kE, k, h => by simp only [wpE] at h ⊢; exact wpE_le H a kE (fun x h => wpP_le H l kE (fun y h => wpP_le H u kE (fun z h => slW_le k h) h) h) h
  | .rev a, E, E', ρ, Q, Q', kE, k, h => by simp only [wpE] at h ⊢; exact wpE_le H a kE (fun x h => revW_le k h) h
  | .call f es, E, E', ρ, Q, Q', kE, k, h => by simp only [wpE] at h ⊢; exact wpEs_le H es kE (fun xs h => H _ _ _ _ _ _ kE k h) h
  | .callK f es ks kes pm, E, E', ρ, Q, Q', kE, k, h => by simp only [wpE] at h ⊢; exact wpEs_le H es kE (fun xs h => wpEs_le H kes kE (fun ys h => H _ _ _ _ _ _ kE k h) h) h
  | .bi f es, E, E', ρ, Q, Q', kE, k, h => by simp only [wpE] at h ⊢; exact wpEs_le H es kE (fun xs h => biW_le k h) h
  | .isi a t, E, E', ρ, Q, Q', kE, k, h => by simp only [wpE] at h ⊢; exact wpE_le H a kE (fun x h => k _ h) h
  | .lens a, E, E', ρ, Q, Q', kE, k, h => by simp only [wpE] at h ⊢; exact wpE_le H a kE (fun x ⟨xs, e, h⟩ => ⟨xs, e, lensW_le k h⟩) h
  | .con x b, E, E', ρ, Q, Q', kE, k, h => by simp only [wpE] at h ⊢; exact k _ h
  | .lc own tg it ifs elt, E, E', ρ, Q, Q', kE, k, h => by
    simp only [wpE] at h ⊢
    refine wpI_le H it kE (fun items h => ⟨h.1, lcGo_le (fun x R R' hR h => tgW_le (fun ρ' h => wpTo_le H ifs (fun _ _ h => h) (fun b h => ?_) h) h) (fun l h => k _ h) h.2⟩) h
    cases b with
    | true => exact wpE_le H elt (fun _ _ h => h) (fun y h => hR _ h) h
    | false => exact hR _ h
  | .dkI j f, E, E', ρ, Q, Q', kE, k, h => by simp only [wpE] at h ⊢; exact ⟨h.1, fun i => k _ (h.2 i)⟩
theorem wpEs_le (H : PLe Φ Φ') : ∀ (e : CEs) {E E' : EPo} {ρ : Env} {Q Q' : List D → Prop}, (∀ x y, E x y → E' x y) → (∀ d, Q d → Q' d) → wpEs Φ e E ρ Q → wpEs Φ' e E' ρ Q'
  | .nil, E, E', ρ, Q, Q', kE, k, h => by simp only [wpEs] at h ⊢; exact k _ h
  | .cons e r, E, E', ρ, Q, Q', kE, k, h => by simp only [wpEs] at h ⊢; exact wpE_le H e kE (fun x h => wpEs_le H r kE (fun xs h => k _ h) h) h
theorem wpP_le (H : PLe Φ Φ') : ∀ (e : CP) {E E' : EPo} {ρ : Env} {Q Q' : Option Int → Prop}, (∀ x y, E x y → E' x y) → (∀ d, Q d → Q' d) → wpP Φ e E ρ Q → wpP Φ' e E' ρ Q'
  | .no, E, E', ρ, Q, Q', kE, k, h => by simp only [wpP] at h ⊢; exact k _ h
  | .yes e, E, E', ρ, Q, Q', kE, k, h => by simp only [wpP] at h ⊢; exact wpE_le H e kE (fun x ⟨i, e, h⟩ => ⟨i, e, k _ h⟩) h
theorem wpTo_le (H : PLe Φ Φ') : ∀ (e : CTo) {E E' : EPo} {ρ : Env} {Q Q' : Bool → Prop}, (∀ x y, E x y → E' x y) → (∀ d, Q d → Q' d) → wpTo Φ e E ρ Q → wpTo Φ' e E' ρ Q'
  | .no, E, E', ρ, Q, Q', kE, k, h => by simp only [wpTo] at h ⊢; exact k _ h
  | .yes e, E, E', ρ, Q, Q', kE, k, h => by simp only [wpTo] at h ⊢; exact wpT_le H e kE k h
theorem wpT_le (H : PLe Φ Φ') : ∀ (e : CT) {E E' : EPo} {ρ : Env} {Q Q' : Bool → Prop}, (∀ x y, E x y → E' x y) → (∀ d, Q d → Q' d) → wpT Φ e E ρ Q → wpT Φ' e E' ρ Q'
  | .val e, E, E', ρ, Q, Q', kE, k, h => by simp only [wpT] at h ⊢; exact wpE_le H e kE (fun x h => truW_le k h) h
  | .cmp o a b, E, E', ρ, Q, Q', kE, k, h => by simp only [wpT] at h ⊢; exact wpE_le H a kE (fun x h => wpE_le H b kE (fun y h => cmpW_le k h) h) h
  | .chn o p a b c, E, E', ρ, Q, Q', kE, k, h => by
    simp only [wpT] at h ⊢
    refine wpE_le H a kE (fun x h => wpE_le H b kE (fun y h => cmpW_le (fun t h => ?_) h) h) h
    cases t with
    | true => exact wpE_le H c kE (fun z h => cmpW_le k h) h
    | false => exact k _ h
  | .and a b, E, E', ρ, Q, Q', kE, k, h => by
    simp only [wpT] at h ⊢
    refine wpT_le H a kE (fun c h => ?_) h
    cases c with
    | true => exact wpT_le H b kE k h
    | false => exact k _ h
  | .or a b, E, E', ρ, Q, Q', kE, k, h => by
    simp only [wpT] at h ⊢
    refine wpT_le H a kE (fun c h => ?_) h
    cases c with
    | true => exact k _ h
    | false => exact wpT_le H b kE k h
  | .not a, E, E', ρ, Q, Q', kE, k, h => by simp only [wpT] at h ⊢; exact wpT_le H a kE (fun c h => k _ h) h
theorem wpI_le (H : PLe Φ Φ') : ∀ (e : CI) {E E' : EPo} {ρ : Env} {Q Q' : List D → Prop}, (∀ x y, E x y → E' x y) → (∀ d, Q d → Q' d) → wpI Φ e E ρ Q → wpI Φ' e E' ρ Q'
  | .seq e, E, E', ρ, Q, Q', kE, k, h => by
    simp only [wpI] at h ⊢
    exact wpE_le H e kE (fun x h => h.elim (fun ⟨xs, e, h⟩ => .inl ⟨xs, e, k _ h⟩) fun ⟨xs, e, h⟩ => .inr ⟨xs, e, k _ h⟩) h
  | .sgn e, E, E', ρ, Q, Q', kE, k, h => by simp only [wpI] at h ⊢; exact wpE_le H e kE (fun x ⟨s, e, h⟩ => ⟨s, e, k _ h⟩) h
  | .rng1 e, E, E', ρ, Q, Q', kE, k, h => by simp only [wpI] at h ⊢; exact wpE_le H e kE (fun x ⟨i, e, b, h⟩ => ⟨i, e, b, k _ h⟩) h
  | .rng2 a b, E, E', ρ, Q, Q', kE, k, h => by simp only [wpI] at h ⊢; exact wpE_le H a kE (fun x h => wpE_le H b kE (fun y ⟨i, j, e, f, b, h⟩ => ⟨i, j, e, f, b, k _ h⟩) h) h
  | .enum e, E, E', ρ, Q, Q', kE, k, h => by
    simp only [wpI] at h ⊢
    exact wpE_le H e kE (fun x h => h.elim (fun ⟨xs, e, h⟩ => .inl ⟨xs, e, k _ h⟩) fun ⟨xs, e, h⟩ => .inr ⟨xs, e, k _ h⟩) h
  | .zip a b, E, E', ρ, Q, Q', kE, k, h => by
    simp only [wpI] at h ⊢
    exact wpE_le H a kE (fun x h => wpE_le H b kE (fun y h => h.elim (fun ⟨xs, ys, e, f, h⟩ => .inl ⟨xs, ys, e, f, k _ h⟩) fun ⟨xs, ys, e, f, h⟩ => .inr ⟨xs, ys, e, f, k _ h⟩) h) h
end
structure ELe (D D' : En) : Prop where
  nx : ∀ st, D.nx st → D'.nx st
  rt : ∀ d, D.rt d → D'.rt d
  bk : ∀ st, D.bk st → D'.bk st
  ct : ∀ st, D.ct st → D'.ct st
theorem wpApp_le (H : PLe Φ Φ') {E E' : EPo} (kE : ∀ x y, E x y → E' x y) {i : Nat} {e : CE} {De De' : En} (k : ELe De De') {st : Sls} (h : wpApp Φ E i e De st) : wpApp Φ' E' i e De' st := by
  obtain ⟨xs, a, b, h⟩ := h
  exact ⟨xs, a, b, wpE_le H e kE (fun d h => ⟨h.1, k.nx _ h.2⟩) h⟩
theorem tryE_le {E E' : EPo} {R R' : DP} (kE : ∀ x y, E x y → E' x y) (k : ∀ d, R d → R' d) : ∀ (hs : List Hd) (x : Str) (y : Ey.D), tryE E R hs x y → tryE E' R' hs x y
  | [], x, y, h => kE x y h
  | a :: r, x, y, h => by
    simp only [tryE] at h ⊢
    split
    · rename_i z
      rw [if_pos z] at h
      exact ⟨h.1, k _ h.2⟩
    · rename_i z
      rw [if_neg z] at h
      exact tryE_le kE k r x y h
theorem forGo_le {tg : Tg} {B B' : En → Sls → Prop} (hB : ∀ (De De' : En) (st : Sls), ELe De De' → B De st → B' De' st) {De De' : En} (k : ELe De De') : ∀ {xs : List Ey.D} {st : Sls}, forGo tg B De xs st → forGo tg B' De' xs st
  | [], st, h => k.nx _ h
  | x :: xs, st, h => by
    simp only [forGo] at h ⊢
    refine tgW_le (fun st' h => hB _ _ _ ?_ h) h
    exact ⟨fun st h => forGo_le hB k h, k.rt, k.nx, fun st h => forGo_le hB k h⟩
theorem whlGo_le {T T' : Sls → (Bool → Prop) → Prop} (hT : ∀ (st : Sls) (Q Q' : Bool → Prop), (∀ b, Q b → Q' b) → T st Q → T' st Q') {B B' : En → Sls → Prop} (hB : ∀ (De De' : En) (st : Sls), ELe De De' → B De st → B' De' st) {De De' : En} (k : ELe De De') :
    ∀ {n : Nat} {st : Sls}, whlGo T B De n st → whlGo T' B' De' n st
  | 0, st, h => h.elim
  | n + 1, st, h => by
    simp only [whlGo] at h ⊢
    refine hT _ _ _ (fun b h => ?_) h
    cases b with
    | true =>
      refine hB _ _ _ ?_ h
      exact ⟨fun st h => whlGo_le hT hB k h, k.rt, k.nx, fun st h => whlGo_le hT hB k h⟩
    | false => exact k.nx _ h
mutual
theorem wpS_le (H : PLe Φ Φ') : ∀ (c : CS) {E E' : EPo} {De De' : En} {st : Sls}, (∀ x y, E x y → E' x y) → ELe De De' → wpS Φ E c De st → wpS Φ' E' c De' st
  | .asg i e, _, _, _, _, st, kE, k, h => by simp only [wpS] at h ⊢; exact wpE_le H e kE (fun d h => k.nx _ h) h
  | .asgL i e, _, _, _, _, st, kE, k, h => by simp only [wpS] at h ⊢; exact wpE_le H e kE (fun d ⟨xs, a, b, h⟩ => ⟨xs, a, b, k.nx _ h⟩) h
  | .asgT tg e, _, _, _, _, st, kE, k, h => by simp only [wpS] at h ⊢; exact wpE_le H e kE (fun d h => tgW_le k.nx h) h
  | .par is fl es, _, _, _, _, st, kE, k, h => by simp only [wpS] at h ⊢; exact wpEs_le H es kE (fun d h => ⟨h.1, k.nx _ h.2⟩) h
  | .ret e, _, _, _, _, st, kE, k, h => by simp only [wpS] at h ⊢; exact wpE_le H e kE k.rt h
  | .retN, _, _, _, _, st, kE, k, h => by simp only [wpS] at h ⊢; exact k.rt _ h
  | .drop e, _, _, _, _, st, kE, k, h => by simp only [wpS] at h ⊢; exact wpE_le H e kE (fun d h => k.nx _ h) h
  | .ite t a b, _, _, _, _, st, kE, k, h => by
    simp only [wpS] at h ⊢
    refine wpT_le H t kE (fun c h => ?_) h
    cases c with
    | true => exact wpSs_le H a kE k h
    | false => exact wpSs_le H b kE k h
  | .whl t b, _, _, _, _, st, kE, k, h => by
    simp only [wpS] at h ⊢
    obtain ⟨n, h⟩ := h
    refine ⟨n, whlGo_le ?_ ?_ k h⟩
    · exact fun st Q Q' k h => wpT_le H t kE k h
    · exact fun De De' st k h => wpSs_le H b kE k h
  | .for tg it b, _, _, _, _, st, kE, k, h => by 
    simp only [wpS] at h ⊢
    refine wpI_le H it kE (fun xs h => ?_) h
    refine forGo_le ?_ k h
    exact fun De De' st k h => wpSs_le H b kE k h
  | .app i e, _, _, _, _, st, kE, k, h => by simp only [wpS] at h ⊢; exact wpApp_le H kE k h
  | .appI t i j e, _, _, _, _, st, kE, k, h => by
    simp only [wpS] at h ⊢
    refine wpT_le H t kE (fun c h => ?_) h
    cases c <;> exact wpApp_le H kE k h
  | .appPop i j e, _, _, _, _, st, kE, k, h => by simp only [wpS] at h ⊢; obtain ⟨ne, xs, ys, a, b, c, h⟩ := h; exact ⟨ne, xs, ys, a, b, c, wpE_le H e kE (fun d ⟨m, z, a, b, c, h⟩ => ⟨m, z, a, b, c, k.nx _ h⟩) h⟩
  | .ext i e, _, _, _, _, st, kE, k, h => by simp only [wpS] at h ⊢; obtain ⟨xs, a, h⟩ := h; exact ⟨xs, a, wpE_le H e kE (fun d ⟨ys, a, b, c, h⟩ => ⟨ys, a, b, c, k.nx _ h⟩) h⟩
  | .ins i n e, _, _, _, _, st, kE, k, h => by
    simp only [wpS] at h ⊢
    obtain ⟨xs, a, h⟩ := h
    exact ⟨xs, a, wpE_le H n kE (fun d ⟨j, a, b, c, h⟩ => ⟨j, a, b, c, wpE_le H e kE (fun d h => ⟨h.1, k.nx _ h.2⟩) h⟩) h⟩
  | .stI i n e, _, _, _, _, st, kE, k, h => by
    simp only [wpS] at h ⊢
    obtain ⟨xs, a, h⟩ := h
    exact ⟨xs, a, wpE_le H e kE (fun d h => ⟨h.1, wpE_le H n kE (fun d ⟨m, j, a, b, h⟩ => ⟨m, j, a, b, k.nx _ h⟩) h.2⟩) h⟩
  | .raise x e, _, _, _, _, st, kE, k, h => by simp only [wpS] at h ⊢; exact wpE_le H e kE (fun d h => kE _ _ h) h
  | .try b hs, _, _, _, _, st, kE, k, h => by simp only [wpS] at h ⊢; exact wpSs_le H b (tryE_le kE k.rt hs) k h
  | .pass, _, _, _, _, st, kE, k, h => by simp only [wpS] at h ⊢; exact k.nx _ h
  | .brk, _, _, _, _, st, kE, k, h => by simp only [wpS] at h ⊢; exact k.bk _ h
  | .cont, _, _, _, _, st, kE, k, h => by simp only [wpS] at h ⊢; exact k.ct _ h
  | .dkSet j f e, _, _, _, _, st, kE, k, h => by simp only [wpS] at h ⊢; exact ⟨h.1, wpE_le H e kE (fun d ⟨i, a, h⟩ => ⟨i, a, k.nx _ h⟩) h.2⟩
  | .dkCell j i m b, _, _, _, _, st, kE, k, h => by
    simp only [wpS] at h ⊢
    obtain ⟨a, a2, ⟨n, b1, b2, b3, h1⟩, h2, h3⟩ := h
    exact ⟨a, a2, ⟨n, b1, b2, b3, fun i => k.rt _ (h1 i)⟩, fun i => wpSs_le H b kE k (h2 i), k.nx _ h3⟩
theorem wpSs_le (H : PLe Φ Φ') : ∀ (c : CSs) {E E' : EPo} {De De' : En} {st : Sls}, (∀ x y, E x y → E' x y) → ELe De De' → wpSs Φ E c De st → wpSs Φ' E' c De' st
  | .nil, _, _, _, _, st, kE, k, h => by simp only [wpSs] at h ⊢; exact k.nx _ h
  | .cons s r, _, _, _, _, st, kE, k, h => by 
    simp only [wpSs] at h ⊢
    refine wpS_le H s kE ?_ h
    exact ⟨fun st h => wpSs_le H r kE k h, k.rt, k.bk, k.ct⟩
end
end
theorem phi_le (T : Tb) : ∀ {n m : Nat}, n ≤ m → PLe (phi T n) (phi T m)
  | 0, _, _ => fun _ _ _ _ _ _ _ _ h => h.elim
  | n + 1, m + 1, l => fun f xs Q Q' E E' kE k ⟨F, a, b, h⟩ => ⟨F, a, b, by
      refine wpSs_le (phi_le T (Nat.le_of_succ_le_succ l)) F.body kE ?_ h
      exact ⟨fun _ h => k _ h, k, fun _ h => h.elim, fun _ h => h.elim⟩⟩
/-- a larger table -/
theorem phi_sub {S T : Tb} (st : ∀ f F, S f = some F → T f = some F) : ∀ n : Nat, PLe (phi S n) (phi T n)
  | 0 => fun _ _ _ _ _ _ _ _ h => h.elim
  | n + 1 => fun f xs Q Q' E E' kE k ⟨F, a, b, h⟩ => ⟨F, st _ _ a, b, by
      refine wpSs_le (phi_sub st n) F.body kE ?_ h
      exact ⟨fun _ h => k _ h, k, fun _ h => h.elim, fun _ h => h.elim⟩⟩
/-- a call in a larger table, with more room -/
theorem phi_up {S T : Tb} (st : ∀ f F, S f = some F → T f = some F) {n m : Nat} (l : n ≤ m) {f : Str} {xs : List D} {Q : DP} {E : EPo} (h : phi S n f xs Q E) : phi T m f xs Q E :=
  phi_le T l f xs Q Q E E (fun _ _ h => h) (fun _ h => h) (phi_sub st n f xs Q Q E E (fun _ _ h => h) (fun _ h => h) h)
end Ey

end
section
set_option Elab.async false
set_option linter.all false
set_option maxRecDepth 100000
set_option maxHeartbeats 1000000
/-! Ey26: a module by a table of its defs. -/
namespace Ey
open PySem PySem.Spec PyProof.Rows L2
open Evl (Ex)

/-- the defs of the module stand in the table T -/
def AllAt (K : PySem.W.Frag) (mg : Str → Option Value) (cf : Cfg) (T : Tb) : List (Str × List Str) → Prop
  | [] => True
  | p :: r => (∃ F a fd, T p.1 = some F ∧ F.ps = p.2 ∧ DefAt K mg cf p.1 F a fd) ∧ AllAt K mg cf T r
theorem AllAt.find {K : PySem.W.Frag} {mg : Str → Option Value} {cf : Cfg} {T : Tb} : ∀ {tb : List (Str × List Str)}, AllAt K mg cf T tb → ∀ f ps, tb.lookup f = some ps → ∃ F a fd, T f = some F ∧ F.ps = ps ∧ DefAt K mg cf f F a fd
  | [], _, f, ps, h => by simp at h
  | (g, qs) :: r, h, f, ps, e => by
    rw [List.lookup_cons] at e
    by_cases z : (f == g) = true
    · rw [z] at e
      have z' : f = g := by simpa using z
      subst z'
      have e' : qs = ps := by simpa using e
      subst e'
      exact h.1
    · rw [Bool.not_eq_true] at z
      rw [z] at e
      exact AllAt.find h.2 f ps e
/-- all pairs of classes, as isinstance and except ask -/
def PairAt (K : PySem.W.Frag) (mg : Str → Option Value) (er : List Str) (y : Str) : Prop :=
  ∃ B, mg y = some (.ref B) ∧ ∀ x ∈ er, ∀ C, mg x = some (.ref C) → PySem.W.exmOne K (.ref C) (.ref B) = some (subE x y) ∧ PySem.W.kitOne K (.ref C) (.ref B) = some (subE x y)
theorem modAt {K : PySem.W.Frag} {mg : Str → Option Value} {cf : Cfg} {T : Tb} (bl : ∀ x ∈ cf.bl, mg x = none) (gcd : cf.gcd = true → mg "gcd" = some (.builtin "math.gcd")) (h : AllAt K mg cf T cf.fn)
    (er : ∀ x ∈ cf.er, ∃ C fI, Er.ErrTxt K mg x (fldOf x) C fI ∧ Er.IsTxt K C) (eb : ∀ y ∈ cf.eb, PairAt K mg cf.er y) (cn : ∀ p ∈ cf.cn, ∃ u, mg p.1 = some u ∧ L2.RelV (kV p.2) u := by exact fun _ h => nomatch h) : ModAt K mg cf T :=
  ⟨bl, gcd, fun f ps hf => h.find f ps hf, er, cn, eb⟩
/-- what the top's facts say of a pair of classes -/
theorem pair_of {K : PySem.W.Frag} {C B : Addr} {b : Bool} (h1 : PySem.W.subIn K (.ref B) (.type "BaseException") = some true) (hd : PySem.W.isClsIn K B = true) (ht : PySem.W.typeIn K (.ref B) = some (.type "type")) (h4 : PySem.W.subIn K (.ref C) (.ref B) = some b) (hb : C = B → b = true) :
    PySem.W.exmOne K (.ref C) (.ref B) = some b ∧ PySem.W.kitOne K (.ref C) (.ref B) = some b := by
  have k : PySem.W.kitCls K (.ref C) (.ref B) = some b := by
    have hd' : (PySem.W.clsIn K B).isSome = true := hd
    simp only [PySem.W.kitCls, hd', ht, h4]
    simp
  refine ⟨?_, ?_⟩
  · unfold PySem.W.exmOne
    rw [h1, k]
    simp
  · unfold PySem.W.kitOne
    by_cases z : C = B
    · subst z
      rw [if_pos (beq_self_eq_true _), hb rfl]
    · rw [if_neg (by simpa using z)]
      exact k
theorem kw_none {cf : Cfg} {f : Str} {fd : FuncData} {ps : List Str} (h : f ∉ cf.kw.map (·.1)) : ∀ n ks pm, (f, n, ks, pm) ∈ cf.kw → KBd fd ps n ks pm := fun _ _ _ hm => absurd (List.mem_map_of_mem (f := fun p : Str × Nat × List Str × List Nat => p.1) hm) h
theorem inT {K : PySem.W.Frag} {mg : Str → Option Value} {cf : Cfg} {T : Tb} {f : Str} {F : Fn} {ps : List Str} (t : T f = some F) (e : F.ps = ps) (h : ∃ a fd, DefAt K mg cf f F a fd) : ∃ F a fd, T f = some F ∧ F.ps = ps ∧ DefAt K mg cf f F a fd := by
  obtain ⟨a, fd, d⟩ := h
  exact ⟨F, a, fd, t, e, d⟩
/-- a def of the text, from what the top has written -/
theorem defAt {K : PySem.W.Frag} {mg : Str → Option Value} {cf : Cfg} {f : Str} {F : Fn} {a : Addr} {st : Stmt} {od an : Option Addr} {sl : Array (Option Value)} {oc kV dc pm cd ct : Value} (hm : mg f = some (.ref a))
    (l : K.lookup a = some ⟨oc, od, .func (PySem.W.fnOf f f (defArgs st) (defBody st) (defScope st) .none kV dc pm an cd ct), sl⟩) (c : PySem.W.codeIn K cd f = true) (k : PySem.W.keepIn K (.ref a) = true) (S : FnScope F.N F.ps (defScope st)) (ok : okSs cf F.N true (defScope st) F.body (defBody st) = true)
    (b : ∀ us : List Value, us.length = F.ps.length → bindArgs (PySem.W.fnOf f f (defArgs st) (defBody st) (defScope st) .none kV dc pm an cd ct) ⟨us, []⟩ = pure (F.ps.zip us))
    (kw : ∀ n ks pm', (f, n, ks, pm') ∈ cf.kw → KBd (PySem.W.fnOf f f (defArgs st) (defBody st) (defScope st) .none kV dc pm an cd ct) F.ps n ks pm') : ∃ a fd, DefAt K mg cf f F a fd :=
  ⟨a, _, hm, k, Binds.all b, kw, f, f, _, _, _, _, _, _, _, _, _, _, _, _, _, rfl, l, c, S, ok⟩
theorem textAt {K : PySem.W.Frag} {f : Str} {N ps : List Str} {a : Addr} {st : Stmt} {od an : Option Addr} {sl : Array (Option Value)} {oc kV dc pm cd ct : Value}
    (l : K.lookup a = some ⟨oc, od, .func (PySem.W.fnOf f f (defArgs st) (defBody st) (defScope st) .none kV dc pm an cd ct), sl⟩) (c : PySem.W.codeIn K cd f = true) (S : FnScope N ps (defScope st)) : TextAt K a (PySem.W.fnOf f f (defArgs st) (defBody st) (defScope st) .none kV dc pm an cd ct) N ps (defScope st) (defBody st) :=
  ⟨f, f, _, _, _, _, _, _, _, _, _, _, _, rfl, l, c, S⟩
end Ey

end
section
set_option Elab.async false
set_option linter.all false
set_option maxRecDepth 100000
/-! Ey27: how long the repr of data gets; data that are good to be shown. -/
namespace Ey
open PySem
mutual
/-- a bound of the length of repr -/
def wt : D → Nat
  | .none => 4
  | .bool _ => 5
  | .int i => 20 * i.natAbs.log2 + 60
  | .str x => (reprText x).length
  | .list xs => wts xs + 4
  | .tuple xs => wts xs + 4
  | .dict kvs => wtk kvs + 4
def wts : List D → Nat
  | [] => 0
  | x :: xs => wt x + 2 + wts xs
def wtk : List (D × D) → Nat
  | [] => 0
  | (k, v) :: r => wt k + wt v + 4 + wtk r
end
theorem slen_append (a b : Str) : (a ++ b).length = a.length + b.length := strLen_append a b
theorem listText_le (ts : List Str) : (listText ts).length ≤ piled ts + 4 := by
  cases ts with
  | nil => decide
  | cons t r =>
    have h := textFrom_length_pos r 1 (("[" : Str) ++ (if (0 : Nat) > 0 then ", " else "" : String) ++ t) (Nat.succ_pos 0)
    have e : ((("[" : Str) ++ (if (0 : Nat) > 0 then ", " else "" : String) ++ t)).length = 1 + t.length := by
      rw [slen_append, slen_append]; rfl
    have hX : (listText (t :: r)).length = (textFrom 0 "[" (t :: r)).length + 1 := by
      show (textFrom 0 "[" (t :: r) ++ "]").length = _
      rw [slen_append]; rfl
    have hY : (textFrom 0 "[" (t :: r)).length = (textFrom 1 (("[" : Str) ++ (if (0 : Nat) > 0 then ", " else "" : String) ++ t) r).length := rfl
    rw [hX, hY, h, e, piled_cons]; omega
theorem tupleText_le (ts : List Str) : (tupleText ts).length ≤ piled ts + 4 := by
  unfold tupleText
  rw [slen_append, slen_append]
  have e1 : ((("(" : String) : Str)).length = 1 := rfl
  have e3 : (((if ts.length == 1 then ",)" else ")" : String) : Str)).length ≤ 2 := by split <;> decide
  rw [e1]
  by_cases h : ts = []
  · subst h; simp [piled, Str.join]; exact Nat.le_trans (Nat.add_le_add_left e3 _) (by decide)
  · have := join_length_add ts h
    omega
theorem dictText_le (ts : List Str) : (dictText ts).length ≤ piled ts + 4 := by
  unfold dictText
  rw [slen_append, slen_append]
  have e1 : ((("{" : String) : Str)).length = 1 := rfl
  have e3 : ((("}" : String) : Str)).length = 1 := rfl
  rw [e1, e3]
  by_cases h : ts = []
  · subst h; decide
  · have := join_length_add ts h
    omega
theorem int_shown_le (i : Int) : (Str.ofString (toString i)).length ≤ i.natAbs.log2 + 2 := by
  have h := int_text_length_le (a := i) (k := i.natAbs.log2 + 1) (by omega) (by omega)
  rw [ofString_length]
  omega
mutual
theorem shown_le : ∀ d : D, d.shown.length ≤ wt d
  | .none => by decide
  | .bool b => by cases b <;> decide
  | .int i => by
    have := int_shown_le i
    simp only [PyData.shown, wt]
    exact Nat.le_trans this (by omega)
  | .str x => by simp [PyData.shown, wt]
  | .list xs => by
    have := listText_le (PyData.shownAll xs)
    have := shownAll_le xs
    simp only [PyData.shown, wt]
    omega
  | .tuple xs => by
    have := tupleText_le (PyData.shownAll xs)
    have := shownAll_le xs
    simp only [PyData.shown, wt]
    omega
  | .dict kvs => by
    have := dictText_le (PyData.shownKv kvs)
    have := shownKv_le kvs
    simp only [PyData.shown, wt]
    omega
theorem shownAll_le : ∀ xs : List D, piled (PyData.shownAll xs) ≤ wts xs
  | [] => by decide
  | x :: xs => by
    have := shown_le x
    have := shownAll_le xs
    simp only [PyData.shownAll, piled_cons, wts]
    omega
theorem shownKv_le : ∀ kvs : List (D × D), piled (PyData.shownKv kvs) ≤ wtk kvs
  | [] => by decide
  | (k, v) :: r => by
    have := shown_le k
    have := shown_le v
    have := shownKv_le r
    simp only [PyData.shownKv, piled_cons, wtk]
    rw [slen_append, slen_append]
    have e : (((": " : String) : Str)).length = 2 := rfl
    omega
end
theorem len_wts : ∀ xs : List D, 2 * xs.length ≤ wts xs
  | [] => by simp [wts]
  | x :: xs => by
    have := len_wts xs
    simp only [wts, List.length_cons]
    omega
theorem wts_append : ∀ xs ys : List D, wts (xs ++ ys) = wts xs + wts ys
  | [], ys => by simp [wts]
  | x :: xs, ys => by simp [wts, wts_append xs ys]; omega

/-- data that are good to be shown -/
structure Gd (p w : Nat) (d : D) : Prop where
  nd : nodk d = true
  sh : d.showable = true
  dp : d.depth ≤ p
  wt : Ey.wt d ≤ w
structure Gds (p w : Nat) (xs : List D) : Prop where
  nd : nodks xs = true
  sh : PyData.showableAll xs = true
  dp : PyData.depthAll xs ≤ p
  wt : Ey.wts xs ≤ w
theorem Gd.mono {p w p' w' : Nat} {d : D} (h : Gd p w d) (a : p ≤ p') (b : w ≤ w') : Gd p' w' d := ⟨h.nd, h.sh, Nat.le_trans h.dp a, Nat.le_trans h.wt b⟩
theorem Gds.mono {p w p' w' : Nat} {d : List D} (h : Gds p w d) (a : p ≤ p') (b : w ≤ w') : Gds p' w' d := ⟨h.nd, h.sh, Nat.le_trans h.dp a, Nat.le_trans h.wt b⟩
theorem Gds.nil {p w : Nat} : Gds p w [] := ⟨by simp [nodks], by simp [PyData.showableAll], by simp [PyData.depthAll], by simp [wts]⟩
theorem Gds.cons_iff {p w : Nat} {x : D} {xs : List D} : Gds p w (x :: xs) ↔ ∃ a b, a + b + 2 ≤ w ∧ Gd p a x ∧ Gds p b xs := by
  constructor
  · intro h
    have h1 := h.nd; have h2 := h.sh; have h3 := h.dp; have h4 := h.wt
    simp [nodks, PyData.showableAll, PyData.depthAll, wts] at h1 h2 h3 h4
    exact ⟨Ey.wt x, Ey.wts xs, by omega, ⟨h1.1, h2.1, by omega, Nat.le_refl _⟩, ⟨h1.2, h2.2, by omega, Nat.le_refl _⟩⟩
  · rintro ⟨a, b, e, g, gs⟩
    have := g.wt; have := gs.wt; have := g.dp; have := gs.dp
    exact ⟨by simp [nodks, g.nd, gs.nd], by simp [PyData.showableAll, g.sh, gs.sh], by simp [PyData.depthAll]; omega, by simp [wts]; omega⟩
theorem Gds.cons {p a b : Nat} {x : D} {xs : List D} (h : Gd p a x) (g : Gds p b xs) : Gds p (a + b + 2) (x :: xs) := Gds.cons_iff.mpr ⟨a, b, Nat.le_refl _, h, g⟩
theorem Gds.append {p a b : Nat} : ∀ {xs ys : List D}, Gds p a xs → Gds p b ys → Gds p (a + b) (xs ++ ys)
  | [], ys, _, h => h.mono (Nat.le_refl _) (by omega)
  | x :: xs, ys, g, h => by
    obtain ⟨c, d, e, g1, g2⟩ := Gds.cons_iff.mp g
    exact (Gds.cons g1 (g2.append h)).mono (Nat.le_refl _) (by omega)
theorem Gds.sub {p : Nat} {xs ys : List D} (s : xs.Sublist ys) : ∀ {w : Nat}, Gds p w ys → Gds p w xs := by
  induction s with
  | slnil => intro w h; exact h
  | cons a _ ih =>
    intro w h
    obtain ⟨c, d, e, g1, g2⟩ := Gds.cons_iff.mp h
    exact (ih g2).mono (Nat.le_refl _) (by omega)
  | cons_cons a _ ih =>
    intro w h
    obtain ⟨c, d, e, g1, g2⟩ := Gds.cons_iff.mp h
    exact (Gds.cons g1 (ih g2)).mono (Nat.le_refl _) (by omega)
theorem Gds.one {p a : Nat} {x : D} (h : Gd p a x) : Gds p (a + 2) [x] := (Gds.cons h (Gds.nil (w := 0))).mono (Nat.le_refl _) (by omega)
theorem Gds.reverse {p a : Nat} : ∀ {xs : List D}, Gds p a xs → Gds p a xs.reverse
  | [], h => h
  | x :: xs, h => by
    obtain ⟨c, d, e, g1, g2⟩ := Gds.cons_iff.mp h
    rw [List.reverse_cons]
    exact (g2.reverse.append (Gds.one g1)).mono (Nat.le_refl _) (by omega)
theorem Gds.take {p w : Nat} {xs : List D} (h : Gds p w xs) (n : Nat) : Gds p w (xs.take n) := h.sub (List.take_sublist ..)
theorem Gds.drop {p w : Nat} {xs : List D} (h : Gds p w xs) (n : Nat) : Gds p w (xs.drop n) := h.sub (List.drop_sublist ..)
theorem Gds.mem {p w : Nat} {xs : List D} (h : Gds p w xs) {x : D} (hx : x ∈ xs) : Gd p w x := by
  induction xs generalizing w with
  | nil => simp at hx
  | cons y ys ih =>
    obtain ⟨c, d, e, g1, g2⟩ := Gds.cons_iff.mp h
    rcases List.mem_cons.mp hx with rfl | z
    · exact g1.mono (Nat.le_refl _) (by omega)
    · exact (ih g2 z).mono (Nat.le_refl _) (by omega)
theorem Gds.len {p w : Nat} {xs : List D} (h : Gds p w xs) : 2 * xs.length ≤ w := Nat.le_trans (len_wts xs) h.wt
theorem Gds.of {p a n : Nat} : ∀ {xs : List D}, (∀ x ∈ xs, Gd p a x) → xs.length ≤ n → Gds p (n * (a + 2)) xs := by
  have key : ∀ xs : List D, (∀ x ∈ xs, Gd p a x) → Gds p (xs.length * (a + 2)) xs := by
    intro xs
    induction xs with
    | nil => exact fun _ => Gds.nil
    | cons x xs ih => exact fun h => (Gds.cons (h x (List.mem_cons_self ..)) (ih fun y hy => h y (List.mem_cons_of_mem _ hy))).mono (Nat.le_refl _) (by
        rw [List.length_cons, Nat.add_mul]; omega)
  exact fun {xs} h l => (key xs h).mono (Nat.le_refl _) (Nat.mul_le_mul_right _ l)
theorem Gd.none {p w : Nat} (h : 4 ≤ w) : Gd p w .none := ⟨by simp [nodk], by simp [PyData.showable], by simp [PyData.depth], by simpa [Ey.wt] using h⟩
theorem Gd.bool {p w : Nat} {b : Bool} (h : 5 ≤ w) : Gd p w (.bool b) := ⟨by simp [nodk], by simp [PyData.showable], by simp [PyData.depth], by simpa [Ey.wt] using h⟩
theorem Gd.int {p w : Nat} {i : Int} (k : Nat) (hk : k ≤ 1920) (h : i.natAbs < 2 ^ k) (h2 : 20 * k + 60 ≤ w) : Gd p w (.int i) := by
  have : i.natAbs.log2 ≤ k := by
    by_cases z : i.natAbs = 0
    · rw [z]; exact Nat.le_trans (by decide) (Nat.zero_le k)
    · exact Nat.le_of_lt ((Nat.log2_lt z).mpr h)
  have h3 : i.natAbs.log2 < 1920 := by
    by_cases z : i.natAbs = 0
    · rw [z]; decide
    · exact Nat.lt_of_lt_of_le ((Nat.log2_lt z).mpr h) hk
  exact ⟨by simp [nodk], by simpa [PyData.showable] using h3, by simp [PyData.depth], by simp [Ey.wt]; omega⟩
theorem Gd.int_log {p w : Nat} {i : Int} (h : Gd p w (.int i)) : i.natAbs.log2 < 1920 ∧ 20 * i.natAbs.log2 + 60 ≤ w := ⟨by simpa [PyData.showable] using h.sh, by simpa [Ey.wt] using h.wt⟩
theorem Gd.str {p w : Nat} {x : Str} (h : (reprText x).length ≤ w) : Gd p w (.str x) := ⟨by simp [nodk], by simp [PyData.showable], by simp [PyData.depth], by simpa [Ey.wt] using h⟩
theorem Gd.tuple {p w : Nat} {xs : List D} (h : Gds p w xs) : Gd (p + 1) (w + 4) (.tuple xs) := ⟨by simpa [nodk] using h.nd, by simpa [PyData.showable] using h.sh, by have := h.dp; simp [PyData.depth]; omega, by have := h.wt; simp [Ey.wt]; omega⟩
theorem Gd.list {p w : Nat} {xs : List D} (h : Gds p w xs) : Gd (p + 1) (w + 4) (.list xs) := ⟨by simpa [nodk] using h.nd, by simpa [PyData.showable] using h.sh, by have := h.dp; simp [PyData.depth]; omega, by have := h.wt; simp [Ey.wt]; omega⟩
theorem Gd.of_tuple {p w : Nat} {xs : List D} (h : Gd p w (.tuple xs)) : ∃ q v, p = q + 1 ∧ w = v + 4 ∧ Gds q v xs := by
  have h1 := h.nd; have h2 := h.sh; have h3 := h.dp; have h4 := h.wt
  simp [nodk, PyData.showable, PyData.depth, Ey.wt] at h1 h2 h3 h4
  exact ⟨p - 1, w - 4, by omega, by omega, h1, h2, by omega, by omega⟩
theorem Gd.repr {p w : Nat} {d : D} (h : Gd p w d) (a : p ≤ 60) (b : w ≤ 1000000) : ReprOk d := ⟨h.nd, h.sh, Nat.le_trans h.dp a, Nat.le_trans (shown_le d) (Nat.le_trans h.wt b)⟩
end Ey
namespace Ey
open PySem
def gdB (p w : Nat) (x : D) : Bool := nodk x && x.showable && decide (x.depth ≤ p) && decide (wt x ≤ w)
theorem Gd.dec {p w : Nat} {x : D} (h : gdB p w x = true) : Gd p w x := by
  simp only [gdB, Bool.and_eq_true, decide_eq_true_eq] at h
  exact ⟨h.1.1.1, h.1.1.2, h.1.2, h.2⟩
theorem Gd.decAll {p w : Nat} {xs : List D} (h : xs.all (gdB p w) = true) : ∀ x ∈ xs, Gd p w x := fun x hx => Gd.dec (List.all_eq_true.mp h x hx)
/-- dicts -/
theorem Gd.dict2 {p a b : Nat} {k1 k2 : L2.Key} {x y : D} (h1 : gdB 0 200 (kD k1) = true) (h2 : gdB 0 200 (kD k2) = true) (hx : Gd p a x) (hy : Gd p b y) : Gd (p + 1) (a + b + 420) (.dict [(kD k1, x), (kD k2, y)]) := by
  have g1 := Gd.dec h1
  have g2 := Gd.dec h2
  have := g1.dp; have := g2.dp; have := g1.wt; have := g2.wt; have := hx.dp; have := hy.dp; have := hx.wt; have := hy.wt
  refine ⟨?_, ?_, ?_, ?_⟩
  · cases k1 <;> cases k2 <;> simp [nodk, nodkv, kD, hx.nd, hy.nd]
  · simp [PyData.showable, PyData.showableKv, g1.sh, g2.sh, hx.sh, hy.sh]
  · simp [PyData.depth, PyData.depthKv]; omega
  · simp [Ey.wt, Ey.wtk]; omega
theorem cutAt_pos {n d : Nat} {i : Int} (h : 0 ≤ i) : cutAt n d (some i) = min i.toNat n := by
  simp only [cutAt]
  rw [if_neg (by omega)]
theorem cutAt_neg {n d : Nat} {i : Int} (h : i < 0) : cutAt n d (some i) = (i + n).toNat := by
  simp only [cutAt]
  rw [if_pos h]
theorem cutD_take (xs : List D) (j : Nat) : cutD xs none (some (j : Int)) = xs.take j := by
  simp only [cutD, cutAt_pos (show (0 : Int) ≤ (j : Int) by omega)]
  simp [cutAt]
theorem cutD_drop (xs : List D) (j : Nat) : cutD xs (some (j : Int)) none = xs.drop j := by
  simp only [cutD, cutAt_pos (show (0 : Int) ≤ (j : Int) by omega)]
  simp [cutAt]
  rw [List.take_of_length_le (by simp)]
  by_cases h : j ≤ xs.length
  · rw [Nat.min_eq_left h]
  · rw [Nat.min_eq_right (by omega), List.drop_length, List.drop_eq_nil_of_le (by omega)]
/-! how large the ints within are -/
mutual
def ibs (b : Nat) : D → Bool
  | .int i => decide (i.natAbs < 2 ^ b)
  | .list xs => ibss b xs
  | .tuple xs => ibss b xs
  | .dict kvs => ibsk b kvs
  | _ => true
def ibss (b : Nat) : List D → Bool
  | [] => true
  | x :: xs => ibs b x && ibss b xs
def ibsk (b : Nat) : List (D × D) → Bool
  | [] => true
  | (k, v) :: r => ibs b k && ibs b v && ibsk b r
end
theorem ibss_iff {b : Nat} : ∀ {xs : List D}, ibss b xs = true ↔ ∀ x ∈ xs, ibs b x = true
  | [] => by simp [ibss]
  | x :: xs => by simp [ibss, ibss_iff (xs := xs)]
theorem ib_tuple {b : Nat} {xs : List D} : ibs b (.tuple xs) = true ↔ ∀ x ∈ xs, ibs b x = true := by simp [ibs, ibss_iff]
theorem ib_list {b : Nat} {xs : List D} : ibs b (.list xs) = true ↔ ∀ x ∈ xs, ibs b x = true := by simp [ibs, ibss_iff]
theorem ib_int {b : Nat} {i : Int} : ibs b (.int i) = true ↔ i.natAbs < 2 ^ b := by simp [ibs]
mutual
theorem ibs_mono {b c : Nat} (l : b ≤ c) : ∀ d : D, ibs b d = true → ibs c d = true
  | .none, _ => by simp [ibs]
  | .bool _, _ => by simp [ibs]
  | .str _, _ => by simp [ibs]
  | .int i, h => by rw [ib_int] at *; exact Nat.lt_of_lt_of_le h (Nat.pow_le_pow_right (by decide) l)
  | .list xs, h => by simp only [ibs] at *; exact ibss_mono l xs h
  | .tuple xs, h => by simp only [ibs] at *; exact ibss_mono l xs h
  | .dict kvs, h => by simp only [ibs] at *; exact ibsk_mono l kvs h
theorem ibss_mono {b c : Nat} (l : b ≤ c) : ∀ xs : List D, ibss b xs = true → ibss c xs = true
  | [], _ => by simp [ibss]
  | x :: xs, h => by
    simp only [ibss, Bool.and_eq_true] at *
    exact ⟨ibs_mono l x h.1, ibss_mono l xs h.2⟩
theorem ibsk_mono {b c : Nat} (l : b ≤ c) : ∀ xs : List (D × D), ibsk b xs = true → ibsk c xs = true
  | [], _ => by simp [ibsk]
  | (k, v) :: r, h => by
    simp only [ibsk, Bool.and_eq_true] at *
    exact ⟨⟨ibs_mono l k h.1.1, ibs_mono l v h.1.2⟩, ibsk_mono l r h.2⟩
end
/-! == by kinds (eqv itself is not to be unfolded at what is no constructor) -/
theorem eqv_ii {i j : Int} : PyData.eqv (.int i) (.int j) = decide (i = j) := by
  rw [Bool.eq_iff_iff]; simp [PyData.eqv]
theorem eqv_bb {i j : Bool} : PyData.eqv (.bool i) (.bool j) = decide (i = j) := by
  rw [Bool.eq_iff_iff]; simp [PyData.eqv]
theorem eqv_ss {i j : Str} : PyData.eqv (.str i) (.str j) = decide (i = j) := by
  rw [Bool.eq_iff_iff]; simp [PyData.eqv]
theorem eqv_nn : PyData.eqv .none .none = true := by simp [PyData.eqv]
theorem eqv_tt {xs ys : List D} : PyData.eqv (.tuple xs) (.tuple ys) = PyData.eqvAll xs ys := by simp [PyData.eqv]
theorem eqv_ll {xs ys : List D} : PyData.eqv (.list xs) (.list ys) = PyData.eqvAll xs ys := by simp [PyData.eqv]
theorem eqvs_nil : PyData.eqvAll [] [] = true := by simp [PyData.eqvAll]
theorem eqvs_cons {x y : D} {xs ys : List D} : PyData.eqvAll (x :: xs) (y :: ys) = (PyData.eqv x y && PyData.eqvAll xs ys) := by simp [PyData.eqvAll]
theorem eqvs_nc {y : D} {ys : List D} : PyData.eqvAll [] (y :: ys) = false := by simp [PyData.eqvAll]
theorem eqvs_cn {y : D} {ys : List D} : PyData.eqvAll (y :: ys) [] = false := by simp [PyData.eqvAll]
theorem eq_ints {i j : Int} : EqOk (.int i) (.int j) := .inl ⟨rfl, rfl⟩
theorem eq_strs {a b : Str} : EqOk (.str a) (.str b) := .inl ⟨rfl, rfl⟩
theorem eq_nilT {xs : List D} : EqOk (.tuple xs) (.tuple []) := .inr (.inl ⟨_, rfl, rfl⟩)
theorem eq_nilL {xs : List D} : EqOk (.list xs) (.list []) := .inr (.inr ⟨_, rfl, rfl⟩)
/-- a slot that holds data, or nothing -/
def slo : Option D → Sl
  | none => .no
  | some d => .d d
theorem tg_one {α : Type} {f : D → α} {i : Nat} {x : D} {ρ : List α} {Q : List α → Prop} : tgW f (.one i) x ρ Q ↔ Q (ρ.set i (f x)) := Iff.rfl
theorem tg_tt {α : Type} {f : D → α} {ts : Tgs} {xs : List D} {ρ : List α} {Q : List α → Prop} : tgW f (.tup ts) (.tuple xs) ρ Q ↔ xs.length = lenT ts ∧ tgsW f ts xs ρ Q := Iff.rfl
theorem tg_tl {α : Type} {f : D → α} {ts : Tgs} {xs : List D} {ρ : List α} {Q : List α → Prop} : tgW f (.tup ts) (.list xs) ρ Q ↔ xs.length = lenT ts ∧ tgsW f ts xs ρ Q := Iff.rfl
theorem tgs_nil {α : Type} {f : D → α} {ρ : List α} {Q : List α → Prop} : tgsW f .nil [] ρ Q ↔ Q ρ := Iff.rfl
theorem tgs_cons {α : Type} {f : D → α} {t : Tg} {r : Tgs} {x : D} {xs : List D} {ρ : List α} {Q : List α → Prop} : tgsW f (.cons t r) (x :: xs) ρ Q ↔ tgW f t x ρ fun ρ' => tgsW f r xs ρ' Q := Iff.rfl
theorem slo_some {d : D} : slo (some d) = .d d := rfl
theorem slo_none : slo none = .no := rfl
theorem cw_eq {x y : D} {Q : Bool → Prop} : cmpW .eq x y Q ↔ EqOk x y ∧ Q (PyData.eqv x y) := Iff.rfl
theorem cw_ne {x y : D} {Q : Bool → Prop} : cmpW .ne x y Q ↔ EqOk x y ∧ Q (!PyData.eqv x y) := Iff.rfl
theorem cw_lt {i j : Int} {Q : Bool → Prop} : cmpW .lt (.int i) (.int j) Q ↔ Q (decide (i < j)) := Iff.rfl
theorem cw_le {i j : Int} {Q : Bool → Prop} : cmpW .le (.int i) (.int j) Q ↔ Q (decide (i ≤ j)) := Iff.rfl
theorem cw_gt {i j : Int} {Q : Bool → Prop} : cmpW .gt (.int i) (.int j) Q ↔ Q (decide (j < i)) := Iff.rfl
theorem cw_ge {i j : Int} {Q : Bool → Prop} : cmpW .ge (.int i) (.int j) Q ↔ Q (decide (j ≤ i)) := Iff.rfl
theorem cw_isN {x : D} {Q : Bool → Prop} : cmpW .isN x .none Q ↔ Q (isNone x) := Iff.rfl
theorem cw_notN {x : D} {Q : Bool → Prop} : cmpW .notN x .none Q ↔ Q (!isNone x) := Iff.rfl
theorem cw_isB {i j : Bool} {Q : Bool → Prop} : cmpW .isB (.bool i) (.bool j) Q ↔ Q (decide (i = j)) := Iff.rfl
theorem cw_notB {i j : Bool} {Q : Bool → Prop} : cmpW .notB (.bool i) (.bool j) Q ↔ Q (!decide (i = j)) := Iff.rfl
theorem isNone_none : isNone .none = true := rfl
theorem isNone_tuple {xs : List D} : isNone (.tuple xs) = false := rfl
theorem isNone_int {i : Int} : isNone (.int i) = false := rfl
theorem isNone_str {i : Str} : isNone (.str i) = false := rfl
theorem isNone_bool {i : Bool} : isNone (.bool i) = false := rfl
theorem tw_none {Q : Bool → Prop} : truW .none Q ↔ Q false := Iff.rfl
theorem tw_bool {b : Bool} {Q : Bool → Prop} : truW (.bool b) Q ↔ Q b := Iff.rfl
theorem tw_int {b : Int} {Q : Bool → Prop} : truW (.int b) Q ↔ Q (b != 0) := Iff.rfl
theorem tw_list {b : List D} {Q : Bool → Prop} : truW (.list b) Q ↔ Q (!b.isEmpty) := Iff.rfl
theorem tw_tuple {b : List D} {Q : Bool → Prop} : truW (.tuple b) Q ↔ Q (!b.isEmpty) := Iff.rfl
theorem ix_list {xs : List D} {i : Int} {Q : DP} : ixW (.list xs) (.int i) Q ↔ ∃ z, L2.atI xs i = some z ∧ Q z := Iff.rfl
theorem ix_tuple {xs : List D} {i : Int} {Q : DP} : ixW (.tuple xs) (.int i) Q ↔ ∃ z, L2.atI xs i = some z ∧ Q z := Iff.rfl
theorem bw_add {i j : Int} {Q : DP} : binW .add (.int i) (.int j) Q ↔ Q (.int (i + j)) := Iff.rfl
theorem bw_sub {i j : Int} {Q : DP} : binW .sub (.int i) (.int j) Q ↔ Q (.int (i - j)) := Iff.rfl
theorem bw_mul {i j : Int} {Q : DP} : binW .mul (.int i) (.int j) Q ↔ (L2.CMul i j ∨ L2.CMulW i j) ∧ Q (.int (i * j)) := Iff.rfl
theorem bi_len_list {xs : List D} {Q : DP} : biW .len [.list xs] Q ↔ Q (.int xs.length) := Iff.rfl
theorem bi_len_tuple {xs : List D} {Q : DP} : biW .len [.tuple xs] Q ↔ Q (.int xs.length) := Iff.rfl
theorem bi_repr {d : D} {Q : DP} : biW .repr [d] Q ↔ ReprOk d ∧ Q (.str d.shown) := Iff.rfl
theorem viewFrom_slo {vs : List Nat} {i : Nat} {z : Option D} {r : Sls} : viewFrom vs i (slo z :: r) = z :: viewFrom vs (i + 1) r := by
  cases z <;> rfl
/-! one statement at a time -/
section
variable {Φ : Phi} {E : EPo} {r : CSs} {De : En} {st : Sls}
theorem ss_asg {i : Nat} {e : CE} (h : wpE Φ e E (viewOf (vE e) st) fun d => wpSs Φ E r De ((aft (vE e) d st).set i (.d d))) : wpSs Φ E (.cons (.asg i e) r) De st := by
  simp only [wpSs, wpS]; exact h
theorem ss_ite {t : CT} {a b : CSs} (h : wpT Φ t E (viewOf (vT t) st) fun c => if c = true then wpSs Φ E a { De with nx := wpSs Φ E r De } st else wpSs Φ E b { De with nx := wpSs Φ E r De } st) : wpSs Φ E (.cons (.ite t a b) r) De st := by
  simp only [wpSs, wpS]; exact h
theorem ss_for {tg : Tg} {it : CI} {b : CSs} (h : wpI Φ it E (viewOf (vI it) st) fun items => forGo tg (wpSs Φ E b) { De with nx := wpSs Φ E r De } items (frz (vI it) st)) : wpSs Φ E (.cons (.for tg it b) r) De st := by
  simp only [wpSs, wpS]; exact h
theorem ss_ret {e : CE} (h : wpE Φ e E (viewOf (vE e) st) De.rt) : wpSs Φ E (.cons (.ret e) r) De st := by
  simp only [wpSs, wpS]; exact h
theorem ss_par {is : List Nat} {fl : List Bool} {es : CEs} (h : wpEs Φ es E (viewOf (vEs es) st) fun xs => parOk (noOwn (vEs es) st) fl xs = true ∧ wpSs Φ E r De (setPar is fl xs st)) : wpSs Φ E (.cons (.par is fl es) r) De st := by
  simp only [wpSs, wpS]; exact h
end
theorem for_inv {tg : Tg} {B : En → Sls → Prop} (I : Sls → Prop) : ∀ {items : List D} {De : En} {st : Sls}, I st → (∀ x ∈ items, ∀ st, I st → ∀ De' : En, (∀ st', I st' → De'.nx st') → (∀ st', I st' → De'.ct st') → De'.rt = De.rt → De'.bk = De.nx → tgW Sl.d tg x st (B De')) →
    (∀ st, I st → De.nx st) → forGo tg B De items st
  | [], De, st, h, _, e => e st h
  | x :: xs, De, st, h, s, e => by
    simp only [forGo]
    have k : ∀ st', I st' → forGo tg B De xs st' := fun st' h' => for_inv I h' (fun y hy => s y (List.mem_cons_of_mem _ hy)) e
    exact s x (List.mem_cons_self ..) st h _ k k rfl rfl
end Ey

end
section
set_option maxRecDepth 1000000
set_option linter.all false
set_option Elab.async false
namespace Law
open PySem Ey
def n_is_integer : List Str := ["thing"]
def c_is_integer : CSs := .cons (.ret (.and (.isi (.var 0) .int) (.not (.isi (.var 0) .bool)))) .nil
def f_is_integer : Fn := ⟨n_is_integer, ["thing"], c_is_integer⟩
def n_are_integers : List Str := ["thing", "many", "item"]
def c_are_integers : CSs := .cons (.ret (.and (.isi (.var 0) .tuple) (.and (.cmp .eq (.bi .len (.cons (.var 0) .nil)) (.var 1)) (.bi .all (.cons (.lc [("item", 2)] (.one 2) (.seq (.var 0)) .no (.call "is_integer" (.cons (.var 2) .nil))) .nil))))) .nil
def f_are_integers : Fn := ⟨n_are_integers, ["thing", "many"], c_are_integers⟩
def n_is_place_value : List Str := ["thing"]
def c_is_place_value : CSs := .cons (.ret (.and (.call "are_integers" (.cons (.var 0) (.cons (.int 3) .nil))) (.and (.cmp .ge (.ix (.var 0) (.int 2)) (.int 1)) (.cmp .eq (.bi .gcd (.cons (.bi .gcd (.cons (.ix (.var 0) (.int 0)) (.cons (.ix (.var 0) (.int 1)) .nil))) (.cons (.ix (.var 0) (.int 2)) .nil))) (.int 1))))) .nil
def f_is_place_value : Fn := ⟨n_is_place_value, ["thing"], c_is_place_value⟩
def j_is_line_value_1 : CSs := .cons (.ret (.cmp .eq (.bi .gcd (.cons (.bi .gcd (.cons (.ix (.var 0) (.int 0)) (.cons (.ix (.var 0) (.int 1)) .nil))) (.cons (.ix (.var 0) (.int 2)) .nil))) (.int 1))) .nil
def n_is_line_value : List Str := ["thing"]
def c_is_line_value : CSs := .cons (.ite (.or (.not (.val (.call "are_integers" (.cons (.var 0) (.cons (.int 3) .nil))))) (.cmp .eq (.sl (.var 0) .no (.yes (.int 2))) (.tup (.cons (.int 0) (.cons (.int 0) .nil))))) (.cons (.ret (.bl false)) .nil) .nil) j_is_line_value_1
def f_is_line_value : Fn := ⟨n_is_line_value, ["thing"], c_is_line_value⟩
def n_is_direction_value : List Str := ["thing"]
def c_is_direction_value : CSs := .cons (.ret (.and (.call "are_integers" (.cons (.var 0) (.cons (.int 2) .nil))) (.cmp .eq (.bi .gcd (.cons (.ix (.var 0) (.int 0)) (.cons (.ix (.var 0) (.int 1)) .nil))) (.int 1)))) .nil
def f_is_direction_value : Fn := ⟨n_is_direction_value, ["thing"], c_is_direction_value⟩
def n_is_place : List Str := ["thing"]
def c_is_place : CSs := .cons (.ret (.call "is_place_value" (.cons (.var 0) .nil))) .nil
def f_is_place : Fn := ⟨n_is_place, ["thing"], c_is_place⟩
def n_is_line : List Str := ["thing"]
def c_is_line : CSs := .cons (.ret (.call "is_line_value" (.cons (.var 0) .nil))) .nil
def f_is_line : Fn := ⟨n_is_line, ["thing"], c_is_line⟩
def n_is_direction : List Str := ["thing"]
def c_is_direction : CSs := .cons (.ret (.call "is_direction_value" (.cons (.var 0) .nil))) .nil
def f_is_direction : Fn := ⟨n_is_direction, ["thing"], c_is_direction⟩
def j__law_draw_1 : CSs := .cons (.asg 3 (.bin .mod (.bi .int (.cons (.bin .add (.dkI 0 "mixed") (.bin .mul (.int 31337) (.dkI 0 "draws"))) .nil)) (.int 2147483647))) (.cons (.asg 3 (.bin .mod (.bi .int (.cons (.bin .add (.bin .add (.bin .mul (.var 3) (.var 3)) (.bin .mul (.int 48271) (.dkI 0 "draws"))) (.int 41)) .nil)) (.int 2147483629))) (.cons (.asg 3 (.bin .mod (.bi .int (.cons (.bin .add (.bin .mul (.var 3) (.int 69621)) (.int 77)) .nil)) (.int 2147483563))) (.cons (.ret (.bin .mod (.bi .int (.cons (.bin .fdiv (.var 3) (.int 64)) .nil)) (.var 1))) .nil)))
def n__law_draw : List Str := ["deck", "many", "cell", "figure"]
def c__law_draw : CSs := .cons (.dkSet 0 "draws" (.bin .add (.dkI 0 "draws") (.int 1))) (.cons (.dkCell 0 2 1 (.cons (.dkSet 0 "mixed" (.bin .mod (.bi .int (.cons (.bin .add (.bin .add (.bin .mul (.dkI 0 "mixed") (.int 39373)) (.bin .mod (.bi .int (.cons (.var 2) .nil)) (.int 2147483629))) (.int 37)) .nil)) (.int 2147483587))) .nil)) j__law_draw_1)
def f__law_draw : Fn := ⟨n__law_draw, ["deck", "many"], c__law_draw⟩
def n__law_pick : List Str := ["deck", "some"]
def c__law_pick : CSs := .cons (.ret (.ix (.var 1) (.call "_law_draw" (.cons (.var 0) (.cons (.bi .len (.cons (.var 1) .nil)) .nil))))) .nil
def f__law_pick : Fn := ⟨n__law_pick, ["deck", "some"], c__law_pick⟩
def n__law_is_integer : List Str := ["thing"]
def c__law_is_integer : CSs := .cons (.ret (.and (.isi (.var 0) .int) (.not (.isi (.var 0) .bool)))) .nil
def f__law_is_integer : Fn := ⟨n__law_is_integer, ["thing"], c__law_is_integer⟩
def j__law_any_1 : CSs := .cons (.ret (.ite (.cmp .eq (.var 2) (.int 6)) (.dis [.inr "key", .inl 1] (.cons (.var 3) (.cons (.bi .len (.cons (.var 3) .nil)) .nil))) (.bi .tuple (.cons (.var 3) .nil)))) .nil
def j__law_any_2 : CSs := .cons (.asg 3 (.ite (.cmp .gt (.var 1) (.int 0)) (.lc [("turn", 4)] (.one 4) (.rng1 (.call "_law_draw" (.cons (.var 0) (.cons (.int 4) .nil)))) .no (.call "_law_any" (.cons (.var 0) (.cons (.bin .sub (.var 1) (.int 1)) .nil)))) (.lst .nil))) (.cons (.ite (.cmp .eq (.var 2) (.int 5)) (.cons (.ret (.var 3)) .nil) .nil) j__law_any_1)
def j__law_any_3 : CSs := .cons (.ite (.cmp .eq (.var 2) (.int 4)) (.cons (.ret (.call "_law_pick" (.cons (.var 0) (.cons (.lst (.cons (.bl true) (.cons (.bl false) (.cons .non .nil)))) .nil)))) .nil) .nil) j__law_any_2
def j__law_any_4 : CSs := .cons (.ite (.cmp .lt (.var 2) (.int 4)) (.cons (.ret (.call "_law_pick" (.cons (.var 0) (.cons (.lst (.cons (.str "") (.cons (.str "a") (.cons (.str "left") (.cons (.str "wall a") (.cons (.str "x\ny") (.cons (.str "~") .nil))))))) .nil)))) .nil) .nil) j__law_any_3
def n__law_any : List Str := ["deck", "deep", "way", "some", "turn"]
def c__law_any : CSs := .cons (.asg 2 (.call "_law_draw" (.cons (.var 0) (.cons (.int 10) .nil)))) (.cons (.ite (.cmp .lt (.var 2) (.int 2)) (.cons (.ret (.call "_law_pick" (.cons (.var 0) (.cons (.lst (.cons (.int 0) (.cons (.int 1) (.cons (.neg (.int 1)) (.cons (.int 7) (.cons (.bin .pow (.int 10) (.int 11)) (.cons (.neg (.bin .pow (.int 10) (.int 10))) (.cons (.int 2) (.cons (.int 5) .nil))))))))) .nil)))) .nil) .nil) j__law_any_4)
def f__law_any : Fn := ⟨n__law_any, ["deck", "deep"], c__law_any⟩
def n__law_instead : List Str := ["some", "at", "item"]
def c__law_instead : CSs := .cons (.ret (.bin .add (.bin .add (.sl (.var 0) .no (.yes (.var 1))) (.tup (.cons (.var 2) .nil))) (.sl (.var 0) (.yes (.bin .add (.var 1) (.int 1))) .no))) .nil
def f__law_instead : Fn := ⟨n__law_instead, ["some", "at", "item"], c__law_instead⟩
def j__law_bent_1 : CSs := .cons (.ret (.ite (.cmp .lt (.var 3) (.int 13)) (.sl (.var 1) (.yes (.int 1)) .no) (.tup (.cons (.var 1) .nil)))) .nil
def j__law_bent_2 : CSs := .cons (.ite (.cmp .lt (.var 3) (.int 11)) (.cons (.ret (.bin .add (.var 1) (.sl (.var 1) .no (.yes (.int 1))))) .nil) .nil) j__law_bent_1
def j__law_bent_3 : CSs := .cons (.ite (.cmp .lt (.var 3) (.int 9)) (.cons (.ret (.rev (.var 1))) .nil) .nil) j__law_bent_2
def j__law_bent_4 : CSs := .cons (.ite (.cmp .lt (.var 3) (.int 6)) (.cons (.ret (.bin .add (.var 1) (.tup (.cons (.call "_law_pick" (.cons (.var 0) (.cons (.lst (.cons (.tup .nil) (.cons (.int 0) (.cons (.int 1) (.cons (.tup (.cons (.int 0) .nil)) (.cons .non (.cons (.bl true) .nil))))))) .nil))) .nil)))) .nil) .nil) j__law_bent_3
def j__law_bent_5 : CSs := .cons (.ite (.cmp .lt (.var 3) (.int 4)) (.cons (.ret (.bi .list (.cons (.var 1) .nil))) .nil) .nil) j__law_bent_4
def j__law_bent_6 : CSs := .cons (.ite (.or (.cmp .eq (.var 3) (.int 0)) (.not (.val (.isi (.var 1) .tuple)))) (.cons (.ret (.call "_law_any" (.cons (.var 0) (.cons (.int 2) .nil)))) .nil) .nil) j__law_bent_5
def i__law_bent_1 : CSs := .cons (.asg 3 (.call "_law_draw" (.cons (.var 0) (.cons (.int 14) .nil)))) (.cons (.ite (.val (.call "_law_is_integer" (.cons (.var 1) .nil))) (.cons (.ret (.call "_law_pick" (.cons (.var 0) (.cons (.lst (.cons (.int 0) (.cons (.neg (.var 1)) (.cons (.bin .sub (.var 1) (.int 1)) (.cons (.bin .add (.var 1) (.int 1)) (.cons (.bi .bool (.cons (.var 1) .nil)) (.cons (.bi .str (.cons (.var 1) .nil)) (.cons (.tup (.cons (.var 1) .nil)) (.cons (.lst (.cons (.var 1) .nil)) (.cons .non (.cons (.bin .add (.var 1) (.int 4)) .nil))))))))))) .nil)))) .nil) .nil) j__law_bent_6)
def j__law_bent_7 : CSs := .cons (.asg 4 (.call "_law_draw" (.cons (.var 0) (.cons (.bi .len (.cons (.var 1) .nil)) .nil)))) (.cons (.ret (.call "_law_instead" (.cons (.var 1) (.cons (.var 4) (.cons (.call "_law_bent" (.cons (.var 0) (.cons (.ix (.var 1) (.var 4)) (.cons (.bin .sub (.var 2) (.int 1)) .nil)))) .nil))))) .nil)
def n__law_bent : List Str := ["deck", "thing", "deep", "way", "at"]
def c__law_bent : CSs := .cons (.ite (.or (.not (.val (.isi (.var 1) .tuple))) (.or (.cmp .eq (.var 1) (.tup .nil)) (.or (.cmp .eq (.var 2) (.int 0)) (.cmp .eq (.call "_law_draw" (.cons (.var 0) (.cons (.int 5) .nil))) (.int 0))))) i__law_bent_1 .nil) j__law_bent_7
def f__law_bent : Fn := ⟨n__law_bent, ["deck", "thing", "deep"], c__law_bent⟩
def n__law_are_integers : List Str := ["thing", "many", "x"]
def c__law_are_integers : CSs := .cons (.ret (.and (.isi (.var 0) .tuple) (.and (.cmp .eq (.bi .len (.cons (.var 0) .nil)) (.var 1)) (.cmp .eq (.lc [("x", 2)] (.one 2) (.seq (.var 0)) (.yes (.not (.val (.call "_law_is_integer" (.cons (.var 2) .nil))))) (.var 2)) (.lst .nil))))) .nil
def f__law_are_integers : Fn := ⟨n__law_are_integers, ["thing", "many"], c__law_are_integers⟩
def t__law_divisor_1 : CT := .cmp .ne (.var 4) (.int 0)
def b__law_divisor_1 : CSs := .cons (.par [3, 4] [false, false] (.cons (.var 4) (.cons (.bin .mod (.bi .int (.cons (.var 3) .nil)) (.var 4)) .nil))) .nil
def j__law_divisor_1 : CSs := .cons (.asg 1 (.var 3)) .nil
def b__law_divisor_2 : CSs := .cons (.par [3, 4] [false, false] (.cons (.bi .abs (.cons (.var 2) .nil)) (.cons (.var 1) .nil))) (.cons (.whl t__law_divisor_1 b__law_divisor_1) j__law_divisor_1)
def j__law_divisor_2 : CSs := .cons (.ret (.var 1)) .nil
def n__law_divisor : List Str := ["row", "found", "x", "one", "other"]
def c__law_divisor : CSs := .cons (.asg 1 (.int 0)) (.cons (.for (.one 2) (.seq (.var 0)) b__law_divisor_2) j__law_divisor_2)
def f__law_divisor : Fn := ⟨n__law_divisor, ["row"], c__law_divisor⟩
def n__law_least : List Str := ["row", "divisor", "x"]
def c__law_least : CSs := .cons (.asg 1 (.call "_law_divisor" (.cons (.var 0) .nil))) (.cons (.ret (.bi .tuple (.cons (.lc [("x", 2)] (.one 2) (.seq (.var 0)) .no (.bin .fdiv (.var 2) (.var 1))) .nil))) .nil)
def f__law_least : Fn := ⟨n__law_least, ["row"], c__law_least⟩
def n__law_is_place : List Str := ["thing"]
def c__law_is_place : CSs := .cons (.ret (.and (.call "_law_are_integers" (.cons (.var 0) (.cons (.int 3) .nil))) (.and (.cmp .gt (.ix (.var 0) (.int 2)) (.int 0)) (.cmp .eq (.call "_law_divisor" (.cons (.var 0) .nil)) (.int 1))))) .nil
def f__law_is_place : Fn := ⟨n__law_is_place, ["thing"], c__law_is_place⟩
def n__law_is_line : List Str := ["thing"]
def c__law_is_line : CSs := .cons (.ret (.and (.call "_law_are_integers" (.cons (.var 0) (.cons (.int 3) .nil))) (.and (.cmp .ne (.sl (.var 0) .no (.yes (.int 2))) (.tup (.cons (.int 0) (.cons (.int 0) .nil)))) (.cmp .eq (.call "_law_divisor" (.cons (.var 0) .nil)) (.int 1))))) .nil
def f__law_is_line : Fn := ⟨n__law_is_line, ["thing"], c__law_is_line⟩
def n__law_is_direction : List Str := ["thing"]
def c__law_is_direction : CSs := .cons (.ret (.and (.call "_law_are_integers" (.cons (.var 0) (.cons (.int 2) .nil))) (.cmp .eq (.call "_law_divisor" (.cons (.var 0) .nil)) (.int 1)))) .nil
def f__law_is_direction : Fn := ⟨n__law_is_direction, ["thing"], c__law_is_direction⟩
def n__law_row : List Str := ["deck", "many", "found", "at", "times", "x"]
def c__law_row : CSs := .cons (.asg 2 (.lc [("at", 3)] (.one 3) (.rng1 (.var 1)) .no (.call "_law_pick" (.cons (.var 0) (.cons (.lst (.cons (.bin .sub (.call "_law_draw" (.cons (.var 0) (.cons (.int 9) .nil))) (.int 4)) (.cons (.int 0) (.cons (.int 1) (.cons (.neg (.int 1)) (.cons (.int 6) (.cons (.neg (.int 12)) (.cons (.call "_law_draw" (.cons (.var 0) (.cons (.bin .pow (.int 10) (.int 11)) .nil))) (.cons (.neg (.bin .pow (.int 10) (.int 10))) .nil))))))))) .nil))))) (.cons (.asg 4 (.call "_law_pick" (.cons (.var 0) (.cons (.lst (.cons (.int 1) (.cons (.int 1) (.cons (.int 2) (.cons (.int 3) (.cons (.int 7) .nil)))))) .nil)))) (.cons (.ret (.bi .tuple (.cons (.lc [("x", 5)] (.one 5) (.seq (.var 2)) .no (.bin .mul (.var 5) (.var 4))) .nil))) .nil))
def f__law_row : Fn := ⟨n__law_row, ["deck", "many"], c__law_row⟩
def j_place_raw_1 : CSs := .cons (.ret (.tup (.cons (.bin .fdiv (.var 0) (.var 3)) (.cons (.bin .fdiv (.var 1) (.var 3)) (.cons (.bin .fdiv (.var 2) (.var 3)) .nil))))) .nil
def n_place_raw : List Str := ["x", "y", "w", "common"]
def c_place_raw : CSs := .cons (.asg 3 (.bi .gcd (.cons (.bi .gcd (.cons (.var 0) (.cons (.var 1) .nil))) (.cons (.var 2) .nil)))) (.cons (.ite (.cmp .lt (.var 2) (.int 0)) (.cons (.asg 3 (.neg (.var 3))) .nil) .nil) j_place_raw_1)
def f_place_raw : Fn := ⟨n_place_raw, ["x", "y", "w"], c_place_raw⟩
def j_place_1 : CSs := .cons (.ret (.call "place_raw" (.cons (.var 0) (.cons (.var 1) (.cons (.var 2) .nil))))) .nil
def n_place : List Str := ["x", "y", "w"]
def c_place : CSs := .cons (.ite (.or (.not (.val (.call "are_integers" (.cons (.tup (.cons (.var 0) (.cons (.var 1) (.cons (.var 2) .nil)))) (.cons (.int 3) .nil))))) (.cmp .eq (.var 2) (.int 0))) (.cons (.raise "BadPlace" (.tup (.cons (.var 0) (.cons (.var 1) (.cons (.var 2) .nil))))) .nil) .nil) j_place_1
def f_place : Fn := ⟨n_place, ["x", "y", "w"], c_place⟩
def n__law_place : List Str := ["x", "y", "w"]
def c__law_place : CSs := .cons (.ret (.call "_law_least" (.cons (.ite (.cmp .gt (.var 2) (.int 0)) (.tup (.cons (.var 0) (.cons (.var 1) (.cons (.var 2) .nil)))) (.tup (.cons (.neg (.var 0)) (.cons (.neg (.var 1)) (.cons (.neg (.var 2)) .nil))))) .nil))) .nil
def f__law_place : Fn := ⟨n__law_place, ["x", "y", "w"], c__law_place⟩
def n__law_number : List Str := ["deck"]
def c__law_number : CSs := .cons (.ret (.call "_law_pick" (.cons (.var 0) (.cons (.lst (.cons (.bin .sub (.call "_law_draw" (.cons (.var 0) (.cons (.int 13) .nil))) (.int 6)) (.cons (.int 0) (.cons (.int 1) (.cons (.neg (.int 1)) (.cons (.int 60) (.cons (.neg (.int 60)) (.cons (.int 360) (.cons (.call "_law_draw" (.cons (.var 0) (.cons (.bin .pow (.int 10) (.int 11)) .nil))) (.cons (.neg (.bin .pow (.int 10) (.int 10))) .nil)))))))))) .nil)))) .nil
def f__law_number : Fn := ⟨n__law_number, ["deck"], c__law_number⟩
def n_need_place : List Str := ["thing"]
def c_need_place : CSs := .cons (.ite (.not (.val (.call "is_place_value" (.cons (.var 0) .nil)))) (.cons (.raise "BadPlace" (.var 0)) .nil) .nil) .nil
def f_need_place : Fn := ⟨n_need_place, ["thing"], c_need_place⟩
def n_need_line : List Str := ["thing"]
def c_need_line : CSs := .cons (.ite (.not (.val (.call "is_line_value" (.cons (.var 0) .nil)))) (.cons (.raise "BadLine" (.var 0)) .nil) .nil) .nil
def f_need_line : Fn := ⟨n_need_line, ["thing"], c_need_line⟩
def n_line_raw : List Str := ["a", "b", "c", "common"]
def c_line_raw : CSs := .cons (.asg 3 (.bi .gcd (.cons (.bi .gcd (.cons (.var 0) (.cons (.var 1) .nil))) (.cons (.var 2) .nil)))) (.cons (.ret (.tup (.cons (.bin .fdiv (.var 0) (.var 3)) (.cons (.bin .fdiv (.var 1) (.var 3)) (.cons (.bin .fdiv (.var 2) (.var 3)) .nil))))) .nil)
def f_line_raw : Fn := ⟨n_line_raw, ["a", "b", "c"], c_line_raw⟩
def n_through_raw : List Str := ["p", "q"]
def c_through_raw : CSs := .cons (.ret (.call "line_raw" (.cons (.bin .sub (.bin .mul (.ix (.var 0) (.int 1)) (.ix (.var 1) (.int 2))) (.bin .mul (.ix (.var 1) (.int 1)) (.ix (.var 0) (.int 2)))) (.cons (.bin .sub (.bin .mul (.ix (.var 1) (.int 0)) (.ix (.var 0) (.int 2))) (.bin .mul (.ix (.var 0) (.int 0)) (.ix (.var 1) (.int 2)))) (.cons (.bin .sub (.bin .mul (.ix (.var 0) (.int 0)) (.ix (.var 1) (.int 1))) (.bin .mul (.ix (.var 1) (.int 0)) (.ix (.var 0) (.int 1)))) .nil))))) .nil
def f_through_raw : Fn := ⟨n_through_raw, ["p", "q"], c_through_raw⟩
def n_worth : List Str := ["line", "p"]
def c_worth : CSs := .cons (.ret (.bin .add (.bin .add (.bin .mul (.ix (.var 0) (.int 0)) (.ix (.var 1) (.int 0))) (.bin .mul (.ix (.var 0) (.int 1)) (.ix (.var 1) (.int 1)))) (.bin .mul (.ix (.var 0) (.int 2)) (.ix (.var 1) (.int 2))))) .nil
def f_worth : Fn := ⟨n_worth, ["line", "p"], c_worth⟩
def n_sign : List Str := ["number"]
def c_sign : CSs := .cons (.ret (.ite (.cmp .gt (.var 0) (.int 0)) (.int 1) (.ite (.cmp .lt (.var 0) (.int 0)) (.neg (.int 1)) (.int 0)))) .nil
def f_sign : Fn := ⟨n_sign, ["number"], c_sign⟩
def n_side_raw : List Str := ["line", "p"]
def c_side_raw : CSs := .cons (.ret (.call "sign" (.cons (.call "worth" (.cons (.var 0) (.cons (.var 1) .nil))) .nil))) .nil
def f_side_raw : Fn := ⟨n_side_raw, ["line", "p"], c_side_raw⟩
def j_through_1 : CSs := .cons (.ret (.call "through_raw" (.cons (.var 0) (.cons (.var 1) .nil)))) .nil
def n_through : List Str := ["p", "q"]
def c_through : CSs := .cons (.drop (.call "need_place" (.cons (.var 0) .nil))) (.cons (.drop (.call "need_place" (.cons (.var 1) .nil))) (.cons (.ite (.cmp .eq (.var 0) (.var 1)) (.cons (.raise "BadPlace" (.tup (.cons (.var 0) (.cons (.var 1) .nil)))) .nil) .nil) j_through_1))
def f_through : Fn := ⟨n_through, ["p", "q"], c_through⟩
def n_side : List Str := ["line", "p"]
def c_side : CSs := .cons (.drop (.call "need_line" (.cons (.var 0) .nil))) (.cons (.drop (.call "need_place" (.cons (.var 1) .nil))) (.cons (.ret (.call "side_raw" (.cons (.var 0) (.cons (.var 1) .nil)))) .nil))
def f_side : Fn := ⟨n_side, ["line", "p"], c_side⟩
def n__law_cross : List Str := ["p", "q"]
def c__law_cross : CSs := .cons (.ret (.tup (.cons (.bin .sub (.bin .mul (.ix (.var 0) (.int 1)) (.ix (.var 1) (.int 2))) (.bin .mul (.ix (.var 0) (.int 2)) (.ix (.var 1) (.int 1)))) (.cons (.bin .sub (.bin .mul (.ix (.var 0) (.int 2)) (.ix (.var 1) (.int 0))) (.bin .mul (.ix (.var 0) (.int 0)) (.ix (.var 1) (.int 2)))) (.cons (.bin .sub (.bin .mul (.ix (.var 0) (.int 0)) (.ix (.var 1) (.int 1))) (.bin .mul (.ix (.var 0) (.int 1)) (.ix (.var 1) (.int 0)))) .nil))))) .nil
def f__law_cross : Fn := ⟨n__law_cross, ["p", "q"], c__law_cross⟩
def n__law_through : List Str := ["p", "q"]
def c__law_through : CSs := .cons (.ret (.call "_law_least" (.cons (.call "_law_cross" (.cons (.var 0) (.cons (.var 1) .nil))) .nil))) .nil
def f__law_through : Fn := ⟨n__law_through, ["p", "q"], c__law_through⟩
def n__law_worth : List Str := ["line", "p"]
def c__law_worth : CSs := .cons (.ret (.bin .add (.bin .add (.bin .mul (.ix (.var 0) (.int 0)) (.ix (.var 1) (.int 0))) (.bin .mul (.ix (.var 0) (.int 1)) (.ix (.var 1) (.int 1)))) (.bin .mul (.ix (.var 0) (.int 2)) (.ix (.var 1) (.int 2))))) .nil
def f__law_worth : Fn := ⟨n__law_worth, ["line", "p"], c__law_worth⟩
def n__law_sign : List Str := ["x"]
def c__law_sign : CSs := .cons (.ret (.ite (.cmp .gt (.var 0) (.int 0)) (.int 1) (.ite (.cmp .lt (.var 0) (.int 0)) (.neg (.int 1)) (.int 0)))) .nil
def f__law_sign : Fn := ⟨n__law_sign, ["x"], c__law_sign⟩
def n__law_side : List Str := ["line", "p"]
def c__law_side : CSs := .cons (.ret (.call "_law_sign" (.cons (.call "_law_worth" (.cons (.var 0) (.cons (.var 1) .nil))) .nil))) .nil
def f__law_side : Fn := ⟨n__law_side, ["line", "p"], c__law_side⟩
def n__law_turn : List Str := ["p", "q", "r"]
def c__law_turn : CSs := .cons (.ret (.call "_law_sign" (.cons (.bin .sub (.bin .mul (.bin .sub (.ix (.var 1) (.int 0)) (.ix (.var 0) (.int 0))) (.bin .sub (.ix (.var 2) (.int 1)) (.ix (.var 0) (.int 1)))) (.bin .mul (.bin .sub (.ix (.var 1) (.int 1)) (.ix (.var 0) (.int 1))) (.bin .sub (.ix (.var 2) (.int 0)) (.ix (.var 0) (.int 0))))) .nil))) .nil
def f__law_turn : Fn := ⟨n__law_turn, ["p", "q", "r"], c__law_turn⟩
def i__law_drawn_place_1 : CSs := .cons (.asg 3 (.call "_law_pick" (.cons (.var 0) (.cons (.lst (.cons (.bin .pow (.int 10) (.int 11)) (.cons (.neg (.bin .pow (.int 10) (.int 11))) .nil))) .nil)))) (.cons (.ret (.call "_law_place" (.cons (.bin .add (.var 3) (.call "_law_draw" (.cons (.var 0) (.cons (.int 9) .nil)))) (.cons (.bin .add (.bin .sub (.call "_law_draw" (.cons (.var 0) (.cons (.int 9) .nil))) (.int 4)) (.bin .mul (.var 3) (.call "_law_draw" (.cons (.var 0) (.cons (.int 2) .nil))))) (.cons (.var 2) .nil))))) .nil)
def j__law_drawn_place_1 : CSs := .cons (.ret (.call "_law_place" (.cons (.bin .sub (.call "_law_draw" (.cons (.var 0) (.cons (.bin .add (.bin .mul (.bin .mul (.int 2) (.var 1)) (.var 2)) (.int 1)) .nil))) (.bin .mul (.var 1) (.var 2))) (.cons (.bin .sub (.call "_law_draw" (.cons (.var 0) (.cons (.bin .add (.bin .mul (.bin .mul (.int 2) (.var 1)) (.var 2)) (.int 1)) .nil))) (.bin .mul (.var 1) (.var 2))) (.cons (.var 2) .nil))))) .nil
def n__law_drawn_place : List Str := ["deck", "most", "w", "far"]
def c__law_drawn_place : CSs := .cons (.asg 2 (.call "_law_pick" (.cons (.var 0) (.cons (.lst (.cons (.int 1) (.cons (.int 1) (.cons (.int 2) (.cons (.int 3) (.cons (.int 7) .nil)))))) .nil)))) (.cons (.ite (.and (.cmp .isin (.var 1) (.tup (.cons (.int 6) (.cons (.int 8) .nil)))) (.cmp .eq (.call "_law_draw" (.cons (.var 0) (.cons (.int 6) .nil))) (.int 0))) i__law_drawn_place_1 .nil) j__law_drawn_place_1)
def f__law_drawn_place : Fn := ⟨n__law_drawn_place, ["deck", "most"], c__law_drawn_place⟩
def n__law_area : List Str := ["p", "q", "r", "some", "x", "y", "w"]
def c__law_area : CSs := .cons (.asg 3 (.lc [("x", 4), ("y", 5), ("w", 6)] (.tup (.cons (.one 4) (.cons (.one 5) (.cons (.one 6) .nil)))) (.seq (.tup (.cons (.var 0) (.cons (.var 1) (.cons (.var 2) .nil))))) .no (.tup (.cons (.bin .fdiv (.bin .mul (.bin .mul (.bin .mul (.var 4) (.ix (.var 1) (.int 2))) (.ix (.var 2) (.int 2))) (.ix (.var 0) (.int 2))) (.var 6)) (.cons (.bin .fdiv (.bin .mul (.bin .mul (.bin .mul (.var 5) (.ix (.var 1) (.int 2))) (.ix (.var 2) (.int 2))) (.ix (.var 0) (.int 2))) (.var 6)) .nil))))) (.cons (.ret (.call "_law_turn" (.cons (.ix (.var 3) (.int 0)) (.cons (.ix (.var 3) (.int 1)) (.cons (.ix (.var 3) (.int 2)) .nil))))) .nil)
def f__law_area : Fn := ⟨n__law_area, ["p", "q", "r"], c__law_area⟩
def j_meeting_raw_1 : CSs := .cons (.ret (.call "place_raw" (.cons (.bin .sub (.bin .mul (.ix (.var 0) (.int 1)) (.ix (.var 1) (.int 2))) (.bin .mul (.ix (.var 1) (.int 1)) (.ix (.var 0) (.int 2)))) (.cons (.bin .sub (.bin .mul (.ix (.var 1) (.int 0)) (.ix (.var 0) (.int 2))) (.bin .mul (.ix (.var 0) (.int 0)) (.ix (.var 1) (.int 2)))) (.cons (.var 2) .nil))))) .nil
def n_meeting_raw : List Str := ["one", "other", "w"]
def c_meeting_raw : CSs := .cons (.asg 2 (.bin .sub (.bin .mul (.ix (.var 0) (.int 0)) (.ix (.var 1) (.int 1))) (.bin .mul (.ix (.var 1) (.int 0)) (.ix (.var 0) (.int 1))))) (.cons (.ite (.cmp .eq (.var 2) (.int 0)) (.cons (.ret .non) .nil) .nil) j_meeting_raw_1)
def f_meeting_raw : Fn := ⟨n_meeting_raw, ["one", "other"], c_meeting_raw⟩
def n_meeting : List Str := ["one", "other"]
def c_meeting : CSs := .cons (.drop (.call "need_line" (.cons (.var 0) .nil))) (.cons (.drop (.call "need_line" (.cons (.var 1) .nil))) (.cons (.ret (.call "meeting_raw" (.cons (.var 0) (.cons (.var 1) .nil)))) .nil))
def f_meeting : Fn := ⟨n_meeting, ["one", "other"], c_meeting⟩
def n__law_meeting : List Str := ["one", "other", "x", "y", "w"]
def c__law_meeting : CSs := .cons (.asgT (.tup (.cons (.one 2) (.cons (.one 3) (.cons (.one 4) .nil)))) (.call "_law_cross" (.cons (.var 0) (.cons (.var 1) .nil)))) (.cons (.ret (.ite (.cmp .eq (.var 4) (.int 0)) .non (.call "_law_place" (.cons (.var 2) (.cons (.var 3) (.cons (.var 4) .nil)))))) .nil)
def f__law_meeting : Fn := ⟨n__law_meeting, ["one", "other"], c__law_meeting⟩
def n__law_line : List Str := ["deck", "p", "q"]
def c__law_line : CSs := .cons (.par [1, 2] [false, false] (.cons (.call "_law_drawn_place" (.cons (.var 0) (.cons (.int 8) .nil))) (.cons (.call "_law_drawn_place" (.cons (.var 0) (.cons (.int 60) .nil))) .nil))) (.cons (.ret (.ite (.cmp .ne (.var 1) (.var 2)) (.call "_law_through" (.cons (.var 1) (.cons (.var 2) .nil))) (.tup (.cons (.int 1) (.cons (.neg (.int 1)) (.cons (.int 0) .nil)))))) .nil)
def f__law_line : Fn := ⟨n__law_line, ["deck"], c__law_line⟩
def b__law_moved_1 : CSs := .cons (.asg 6 (.tup (.cons (.neg (.ix (.var 6) (.int 1))) (.cons (.ix (.var 6) (.int 0)) .nil)))) .nil
def j__law_moved_1 : CSs := .cons (.ret (.tup (.cons (.bin .add (.bin .mul (.ix (.var 6) (.int 0)) (.var 3)) (.var 4)) (.cons (.bin .add (.bin .mul (.ix (.var 6) (.int 1)) (.var 3)) (.var 5)) .nil)))) .nil
def n__law_moved : List Str := ["p", "many", "is_mirrored", "scale", "x", "y", "point", "turn"]
def c__law_moved : CSs := .cons (.asg 6 (.ite (.val (.var 2)) (.tup (.cons (.neg (.ix (.var 0) (.int 0))) (.cons (.ix (.var 0) (.int 1)) .nil))) (.var 0))) (.cons (.for (.one 7) (.rng1 (.var 1)) b__law_moved_1) j__law_moved_1)
def f__law_moved : Fn := ⟨n__law_moved, ["p", "many", "is_mirrored", "scale", "x", "y"], c__law_moved⟩
def n_corner : List Str := ["pair"]
def c_corner : CSs := .cons (.ret (.tup (.cons (.ix (.var 0) (.int 0)) (.cons (.ix (.var 0) (.int 1)) (.cons (.int 1) .nil))))) .nil
def f_corner : Fn := ⟨n_corner, ["pair"], c_corner⟩
def n_direction_raw : List Str := ["x", "y", "common"]
def c_direction_raw : CSs := .cons (.asg 2 (.bi .gcd (.cons (.var 0) (.cons (.var 1) .nil)))) (.cons (.ret (.tup (.cons (.bin .fdiv (.var 0) (.var 2)) (.cons (.bin .fdiv (.var 1) (.var 2)) .nil)))) .nil)
def f_direction_raw : Fn := ⟨n_direction_raw, ["x", "y"], c_direction_raw⟩
def n_direction_to : List Str := ["p", "q"]
def c_direction_to : CSs := .cons (.ret (.call "direction_raw" (.cons (.bin .sub (.bin .mul (.ix (.var 1) (.int 0)) (.ix (.var 0) (.int 2))) (.bin .mul (.ix (.var 0) (.int 0)) (.ix (.var 1) (.int 2)))) (.cons (.bin .sub (.bin .mul (.ix (.var 1) (.int 1)) (.ix (.var 0) (.int 2))) (.bin .mul (.ix (.var 0) (.int 1)) (.ix (.var 1) (.int 2)))) .nil)))) .nil
def f_direction_to : Fn := ⟨n_direction_to, ["p", "q"], c_direction_to⟩
def n_dot : List Str := ["one", "other"]
def c_dot : CSs := .cons (.ret (.bin .add (.bin .mul (.ix (.var 0) (.int 0)) (.ix (.var 1) (.int 0))) (.bin .mul (.ix (.var 0) (.int 1)) (.ix (.var 1) (.int 1))))) .nil
def f_dot : Fn := ⟨n_dot, ["one", "other"], c_dot⟩
def n_is_inside : List Str := ["p", "one", "other"]
def c_is_inside : CSs := .cons (.ret (.cmp .lt (.call "dot" (.cons (.call "vector" (.cons (.var 0) (.cons (.var 1) .nil))) (.cons (.call "vector" (.cons (.var 0) (.cons (.var 2) .nil))) .nil))) (.int 0))) .nil
def f_is_inside : Fn := ⟨n_is_inside, ["p", "one", "other"], c_is_inside⟩
def n_vector : List Str := ["p", "q"]
def c_vector : CSs := .cons (.ret (.tup (.cons (.bin .sub (.bin .mul (.ix (.var 1) (.int 0)) (.ix (.var 0) (.int 2))) (.bin .mul (.ix (.var 0) (.int 0)) (.ix (.var 1) (.int 2)))) (.cons (.bin .sub (.bin .mul (.ix (.var 1) (.int 1)) (.ix (.var 0) (.int 2))) (.bin .mul (.ix (.var 0) (.int 1)) (.ix (.var 1) (.int 2)))) .nil)))) .nil
def f_vector : Fn := ⟨n_vector, ["p", "q"], c_vector⟩
def j_is_on_1 : CSs := .cons (.ret (.or (.cmp .isin (.var 0) (.tup (.cons (.var 1) (.cons (.var 2) .nil)))) (.call "is_inside" (.cons (.var 0) (.cons (.var 1) (.cons (.var 2) .nil)))))) .nil
def n_is_on : List Str := ["p", "one", "other"]
def c_is_on : CSs := .cons (.ite (.cmp .ne (.call "side_raw" (.cons (.call "through_raw" (.cons (.var 1) (.cons (.var 2) .nil))) (.cons (.var 0) .nil))) (.int 0)) (.cons (.ret (.bl false)) .nil) .nil) j_is_on_1
def f_is_on : Fn := ⟨n_is_on, ["p", "one", "other"], c_is_on⟩
def n_is_sooner : List Str := ["p", "q", "direction"]
def c_is_sooner : CSs := .cons (.ret (.cmp .gt (.call "dot" (.cons (.call "vector" (.cons (.var 0) (.cons (.var 1) .nil))) (.cons (.var 2) .nil))) (.int 0))) .nil
def f_is_sooner : Fn := ⟨n_is_sooner, ["p", "q", "direction"], c_is_sooner⟩
def b_in_order_1 : CSs := .cons (.asg 4 (.bi .len (.cons (.lc [("q", 5)] (.one 5) (.seq (.var 2)) (.yes (.val (.call "is_sooner" (.cons (.var 5) (.cons (.var 3) (.cons (.var 1) .nil)))))) (.var 5)) .nil))) (.cons (.ite (.or (.cmp .eq (.var 4) (.bi .len (.cons (.var 2) .nil))) (.cmp .ne (.ix (.var 2) (.var 4)) (.var 3))) (.cons (.ins 2 (.var 4) (.var 3)) .nil) .nil) .nil)
def j_in_order_1 : CSs := .cons (.ret (.var 2)) .nil
def n_in_order : List Str := ["places", "direction", "found", "p", "at", "q"]
def c_in_order : CSs := .cons (.asgL 2 (.lst .nil)) (.cons (.for (.one 3) (.seq (.var 0)) b_in_order_1) j_in_order_1)
def f_in_order : Fn := ⟨n_in_order, ["places", "direction"], c_in_order⟩
def j_common_part_1 : CSs := .cons (.asg 5 (.bin .add (.lc [("p", 4)] (.one 4) (.seq (.var 0)) (.yes (.val (.call "is_on" (.cons (.var 4) (.cons (.ix (.var 1) (.int 0)) (.cons (.ix (.var 1) (.int 1)) .nil)))))) (.var 4)) (.lc [("p", 4)] (.one 4) (.seq (.var 1)) (.yes (.val (.call "is_on" (.cons (.var 4) (.cons (.ix (.var 0) (.int 0)) (.cons (.ix (.var 0) (.int 1)) .nil)))))) (.var 4)))) (.cons (.asg 6 (.call "in_order" (.cons (.var 5) (.cons (.call "direction_to" (.cons (.ix (.var 0) (.int 0)) (.cons (.ix (.var 0) (.int 1)) .nil))) .nil)))) (.cons (.ret (.bi .tuple (.cons (.bin .add (.sl (.var 6) .no (.yes (.int 1))) (.sl (.sl (.var 6) (.yes (.int 1)) .no) (.yes (.neg (.int 1))) .no)) .nil))) .nil))
def j_common_part_2 : CSs := .cons (.ite (.cmp .ne (.call "side_raw" (.cons (.var 2) (.cons (.ix (.var 1) (.int 0)) .nil))) (.int 0)) (.cons (.ret (.tup .nil)) .nil) .nil) j_common_part_1
def n_common_part : List Str := ["one", "other", "line", "second", "p", "some", "found"]
def c_common_part : CSs := .cons (.par [2, 3] [false, false] (.cons (.call "through_raw" (.cons (.ix (.var 0) (.int 0)) (.cons (.ix (.var 0) (.int 1)) .nil))) (.cons (.call "through_raw" (.cons (.ix (.var 1) (.int 0)) (.cons (.ix (.var 1) (.int 1)) .nil))) .nil))) (.cons (.asg 4 (.call "meeting_raw" (.cons (.var 2) (.cons (.var 3) .nil)))) (.cons (.ite (.cmp .notN (.var 4) .non) (.cons (.ret (.ite (.and (.val (.call "is_on" (.cons (.var 4) (.cons (.ix (.var 0) (.int 0)) (.cons (.ix (.var 0) (.int 1)) .nil))))) (.val (.call "is_on" (.cons (.var 4) (.cons (.ix (.var 1) (.int 0)) (.cons (.ix (.var 1) (.int 1)) .nil)))))) (.tup (.cons (.var 4) .nil)) (.tup .nil))) .nil) .nil) j_common_part_2))
def f_common_part : Fn := ⟨n_common_part, ["one", "other"], c_common_part⟩
def j_is_name_1 : CSs := .cons (.ret (.bi .all (.cons (.lc [("sign", 1)] (.one 1) (.sgn (.var 0)) .no (.cmp .isin (.var 1) (.con "SIGNS" (.inr "abcdefghijklmnopqrstuvwxyz0123456789")))) .nil))) .nil
def n_is_name : List Str := ["thing", "sign"]
def c_is_name : CSs := .cons (.ite (.or (.not (.val (.isi (.var 0) .str))) (.or (.not (.chn .le .le (.int 1) (.bi .len (.cons (.var 0) .nil)) (.con "MOST_SIGNS" (.inl 8)))) (.cmp .notin (.ix (.var 0) (.int 0)) (.con "LETTERS" (.inr "abcdefghijklmnopqrstuvwxyz"))))) (.cons (.ret (.bl false)) .nil) .nil) j_is_name_1
def f_is_name : Fn := ⟨n_is_name, ["thing"], c_is_name⟩
def j_is_segment_1 : CSs := .cons (.ret (.and (.call "are_integers" (.cons (.ix (.var 0) (.int 1)) (.cons (.int 2) .nil))) (.and (.call "are_integers" (.cons (.ix (.var 0) (.int 2)) (.cons (.int 2) .nil))) (.cmp .ne (.ix (.var 0) (.int 1)) (.ix (.var 0) (.int 2)))))) .nil
def n_is_segment : List Str := ["thing"]
def c_is_segment : CSs := .cons (.ite (.or (.not (.val (.isi (.var 0) .tuple))) (.or (.cmp .ne (.bi .len (.cons (.var 0) .nil)) (.int 3)) (.not (.val (.call "is_name" (.cons (.ix (.var 0) (.int 0)) .nil)))))) (.cons (.ret (.bl false)) .nil) .nil) j_is_segment_1
def f_is_segment : Fn := ⟨n_is_segment, ["thing"], c_is_segment⟩
def j_are_segments_1 : CSs := .cons (.ret (.cmp .eq (.lens (.lc [("wall", 1)] (.one 1) (.seq (.var 0)) .no (.ix (.var 1) (.int 0)))) (.bi .len (.cons (.var 0) .nil)))) .nil
def n_are_segments : List Str := ["thing", "wall"]
def c_are_segments : CSs := .cons (.ite (.or (.not (.val (.isi (.var 0) .tuple))) (.not (.val (.bi .all (.cons (.lc [("wall", 1)] (.one 1) (.seq (.var 0)) .no (.call "is_segment" (.cons (.var 1) .nil))) .nil))))) (.cons (.ret (.bl false)) .nil) .nil) j_are_segments_1
def f_are_segments : Fn := ⟨n_are_segments, ["thing"], c_are_segments⟩
def n_ends : List Str := ["wall"]
def c_ends : CSs := .cons (.ret (.tup (.cons (.call "corner" (.cons (.ix (.var 0) (.int 1)) .nil)) (.cons (.call "corner" (.cons (.ix (.var 0) (.int 2)) .nil)) .nil)))) .nil
def f_ends : Fn := ⟨n_ends, ["wall"], c_ends⟩
def n_do_clash : List Str := ["one", "other", "near", "far", "common"]
def c_do_clash : CSs := .cons (.par [2, 3] [false, false] (.cons (.call "ends" (.cons (.var 0) .nil)) (.cons (.call "ends" (.cons (.var 1) .nil)) .nil))) (.cons (.asg 4 (.call "common_part" (.cons (.var 2) (.cons (.var 3) .nil)))) (.cons (.ret (.or (.cmp .eq (.bi .len (.cons (.var 4) .nil)) (.int 2)) (.and (.cmp .eq (.bi .len (.cons (.var 4) .nil)) (.int 1)) (.cmp .notin (.ix (.var 4) (.int 0)) (.bin .add (.var 2) (.var 3)))))) .nil))
def f_do_clash : Fn := ⟨n_do_clash, ["one", "other"], c_do_clash⟩
def b_fault_of_1 : CSs := .cons (.ite (.val (.call "do_clash" (.cons (.var 2) (.cons (.ix (.var 0) (.var 3)) .nil)))) (.cons (.ret (.tup (.cons (.str "meet") (.cons (.var 1) (.cons (.var 3) .nil))))) .nil) .nil) .nil
def b_fault_of_2 : CSs := .cons (.for (.one 3) (.rng2 (.bin .add (.var 1) (.int 1)) (.bi .len (.cons (.var 0) .nil))) b_fault_of_1) .nil
def j_fault_of_1 : CSs := .cons (.ret .non) .nil
def n_fault_of : List Str := ["walls", "i", "one", "j"]
def c_fault_of : CSs := .cons (.for (.tup (.cons (.one 1) (.cons (.one 2) .nil))) (.enum (.var 0)) b_fault_of_2) j_fault_of_1
def f_fault_of : Fn := ⟨n_fault_of, ["walls"], c_fault_of⟩
def n_is_plan_value : List Str := ["thing"]
def c_is_plan_value : CSs := .cons (.ret (.and (.call "are_segments" (.cons (.var 0) .nil)) (.cmp .isN (.call "fault_of" (.cons (.var 0) .nil)) .non))) .nil
def f_is_plan_value : Fn := ⟨n_is_plan_value, ["thing"], c_is_plan_value⟩
def n_is_plan : List Str := ["thing"]
def c_is_plan : CSs := .cons (.ret (.call "is_plan_value" (.cons (.var 0) .nil))) .nil
def f_is_plan : Fn := ⟨n_is_plan, ["thing"], c_is_plan⟩
def j__law_is_name_1 : CSs := .cons (.ret (.cmp .eq (.lc [("x", 1)] (.one 1) (.sgn (.var 0)) (.yes (.cmp .notin (.var 1) (.str "abcdefghijklmnopqrstuvwxyz0123456789"))) (.var 1)) (.lst .nil))) .nil
def n__law_is_name : List Str := ["thing", "x"]
def c__law_is_name : CSs := .cons (.ite (.or (.not (.val (.isi (.var 0) .str))) (.or (.not (.chn .lt .lt (.int 0) (.bi .len (.cons (.var 0) .nil)) (.int 9))) (.cmp .notin (.ix (.var 0) (.int 0)) (.str "abcdefghijklmnopqrstuvwxyz")))) (.cons (.ret (.bl false)) .nil) .nil) j__law_is_name_1
def f__law_is_name : Fn := ⟨n__law_is_name, ["thing"], c__law_is_name⟩
def j__law_is_segment_1 : CSs := .cons (.ret (.and (.call "_law_are_integers" (.cons (.ix (.var 0) (.int 1)) (.cons (.int 2) .nil))) (.and (.call "_law_are_integers" (.cons (.ix (.var 0) (.int 2)) (.cons (.int 2) .nil))) (.cmp .ne (.ix (.var 0) (.int 1)) (.ix (.var 0) (.int 2)))))) .nil
def n__law_is_segment : List Str := ["thing"]
def c__law_is_segment : CSs := .cons (.ite (.or (.not (.val (.isi (.var 0) .tuple))) (.or (.cmp .ne (.bi .len (.cons (.var 0) .nil)) (.int 3)) (.not (.val (.call "_law_is_name" (.cons (.ix (.var 0) (.int 0)) .nil)))))) (.cons (.ret (.bl false)) .nil) .nil) j__law_is_segment_1
def f__law_is_segment : Fn := ⟨n__law_is_segment, ["thing"], c__law_is_segment⟩
def i__law_is_crossed_1 : CSs := .cons (.asg 6 (.ite (.cmp .ne (.ix (.var 2) (.int 0)) (.ix (.var 3) (.int 0))) (.int 0) (.int 1))) (.cons (.par [7, 8] [false, false] (.cons (.bi .max2 (.cons (.bi .min2 (.cons (.ix (.var 2) (.var 6)) (.cons (.ix (.var 3) (.var 6)) .nil))) (.cons (.bi .min2 (.cons (.ix (.var 4) (.var 6)) (.cons (.ix (.var 5) (.var 6)) .nil))) .nil))) (.cons (.bi .min2 (.cons (.bi .max2 (.cons (.ix (.var 2) (.var 6)) (.cons (.ix (.var 3) (.var 6)) .nil))) (.cons (.bi .max2 (.cons (.ix (.var 4) (.var 6)) (.cons (.ix (.var 5) (.var 6)) .nil))) .nil))) .nil))) (.cons (.ret (.cmp .lt (.var 7) (.var 8))) .nil))
def j__law_is_crossed_1 : CSs := .cons (.ret (.and (.cmp .lt (.bin .mul (.call "_law_turn" (.cons (.var 2) (.cons (.var 3) (.cons (.var 4) .nil)))) (.call "_law_turn" (.cons (.var 2) (.cons (.var 3) (.cons (.var 5) .nil))))) (.int 0)) (.cmp .lt (.bin .mul (.call "_law_turn" (.cons (.var 4) (.cons (.var 5) (.cons (.var 2) .nil)))) (.call "_law_turn" (.cons (.var 4) (.cons (.var 5) (.cons (.var 3) .nil))))) (.int 0)))) .nil
def n__law_is_crossed : List Str := ["one", "other", "a", "b", "c", "d", "at", "low", "high"]
def c__law_is_crossed : CSs := .cons (.asgT (.tup (.cons (.one 2) (.cons (.one 3) (.cons (.one 4) (.cons (.one 5) .nil))))) (.tup (.cons (.ix (.var 0) (.int 1)) (.cons (.ix (.var 0) (.int 2)) (.cons (.ix (.var 1) (.int 1)) (.cons (.ix (.var 1) (.int 2)) .nil)))))) (.cons (.ite (.and (.cmp .eq (.call "_law_turn" (.cons (.var 2) (.cons (.var 3) (.cons (.var 4) .nil)))) (.int 0)) (.cmp .eq (.call "_law_turn" (.cons (.var 2) (.cons (.var 3) (.cons (.var 5) .nil)))) (.int 0))) i__law_is_crossed_1 .nil) j__law_is_crossed_1)
def f__law_is_crossed : Fn := ⟨n__law_is_crossed, ["one", "other"], c__law_is_crossed⟩
def j__law_are_segments_1 : CSs := .cons (.ret (.cmp .eq (.lens (.lc [("it", 1)] (.one 1) (.seq (.var 0)) .no (.ix (.var 1) (.int 0)))) (.bi .len (.cons (.var 0) .nil)))) .nil
def n__law_are_segments : List Str := ["thing", "it"]
def c__law_are_segments : CSs := .cons (.ite (.or (.not (.val (.isi (.var 0) .tuple))) (.cmp .ne (.lc [("it", 1)] (.one 1) (.seq (.var 0)) (.yes (.not (.val (.call "_law_is_segment" (.cons (.var 1) .nil))))) (.var 1)) (.lst .nil))) (.cons (.ret (.bl false)) .nil) .nil) j__law_are_segments_1
def f__law_are_segments : Fn := ⟨n__law_are_segments, ["thing"], c__law_are_segments⟩
def b__law_fault_1 : CSs := .cons (.ite (.val (.call "_law_is_crossed" (.cons (.var 2) (.cons (.ix (.var 0) (.var 3)) .nil)))) (.cons (.ret (.tup (.cons (.str "meet") (.cons (.var 1) (.cons (.var 3) .nil))))) .nil) .nil) .nil
def b__law_fault_2 : CSs := .cons (.for (.one 3) (.rng2 (.bin .add (.var 1) (.int 1)) (.bi .len (.cons (.var 0) .nil))) b__law_fault_1) .nil
def j__law_fault_1 : CSs := .cons (.ret .non) .nil
def n__law_fault : List Str := ["walls", "i", "one", "j"]
def c__law_fault : CSs := .cons (.for (.tup (.cons (.one 1) (.cons (.one 2) .nil))) (.enum (.var 0)) b__law_fault_2) j__law_fault_1
def f__law_fault : Fn := ⟨n__law_fault, ["walls"], c__law_fault⟩
def n__law_is_plan : List Str := ["thing"]
def c__law_is_plan : CSs := .cons (.ret (.and (.call "_law_are_segments" (.cons (.var 0) .nil)) (.cmp .isN (.call "_law_fault" (.cons (.var 0) .nil)) .non))) .nil
def f__law_is_plan : Fn := ⟨n__law_is_plan, ["thing"], c__law_is_plan⟩
def n__law_layouts : List Str := ["found"]
def c__law_layouts : CSs := .cons (.asgL 0 (.lst (.cons (.tup (.cons (.tup (.cons (.tup (.cons (.int 0) (.cons (.int 0) .nil))) (.cons (.tup (.cons (.int 8) (.cons (.int 0) .nil))) .nil))) (.cons (.tup (.cons (.tup (.cons (.int 8) (.cons (.int 0) .nil))) (.cons (.tup (.cons (.int 8) (.cons (.int 6) .nil))) .nil))) (.cons (.tup (.cons (.tup (.cons (.int 8) (.cons (.int 6) .nil))) (.cons (.tup (.cons (.int 0) (.cons (.int 6) .nil))) .nil))) (.cons (.tup (.cons (.tup (.cons (.int 0) (.cons (.int 6) .nil))) (.cons (.tup (.cons (.int 0) (.cons (.int 4) .nil))) .nil))) (.cons (.tup (.cons (.tup (.cons (.int 0) (.cons (.int 2) .nil))) (.cons (.tup (.cons (.int 0) (.cons (.int 0) .nil))) .nil))) (.cons (.tup (.cons (.tup (.cons (.int 3) (.cons (.int 2) .nil))) (.cons (.tup (.cons (.int 5) (.cons (.int 4) .nil))) .nil))) .nil))))))) .nil))) (.cons (.app 0 (.tup (.cons (.tup (.cons (.tup (.cons (.int 0) (.cons (.int 0) .nil))) (.cons (.tup (.cons (.int 12) (.cons (.int 0) .nil))) .nil))) (.cons (.tup (.cons (.tup (.cons (.int 12) (.cons (.int 0) .nil))) (.cons (.tup (.cons (.int 12) (.cons (.int 9) .nil))) .nil))) (.cons (.tup (.cons (.tup (.cons (.int 2) (.cons (.int 2) .nil))) (.cons (.tup (.cons (.int 6) (.cons (.int 2) .nil))) .nil))) (.cons (.tup (.cons (.tup (.cons (.int 6) (.cons (.int 2) .nil))) (.cons (.tup (.cons (.int 6) (.cons (.int 6) .nil))) .nil))) (.cons (.tup (.cons (.tup (.cons (.int 0) (.cons (.int 9) .nil))) (.cons (.tup (.cons (.int 0) (.cons (.int 0) .nil))) .nil))) (.cons (.tup (.cons (.tup (.cons (.int 9) (.cons (.int 3) .nil))) (.cons (.tup (.cons (.int 9) (.cons (.int 7) .nil))) .nil))) .nil)))))))) (.cons (.app 0 (.tup (.cons (.tup (.cons (.tup (.cons (.neg (.int 5)) (.cons (.int 2) .nil))) (.cons (.tup (.cons (.int 1) (.cons (.int 2) .nil))) .nil))) (.cons (.tup (.cons (.tup (.cons (.int 2) (.cons (.int 5) .nil))) (.cons (.tup (.cons (.int 2) (.cons (.neg (.int 1)) .nil))) .nil))) (.cons (.tup (.cons (.tup (.cons (.int 5) (.cons (.neg (.int 2)) .nil))) (.cons (.tup (.cons (.neg (.int 1)) (.cons (.neg (.int 2)) .nil))) .nil))) (.cons (.tup (.cons (.tup (.cons (.neg (.int 2)) (.cons (.neg (.int 5)) .nil))) (.cons (.tup (.cons (.neg (.int 2)) (.cons (.int 1) .nil))) .nil))) (.cons (.tup (.cons (.tup (.cons (.neg (.int 1)) (.cons (.int 0) .nil))) (.cons (.tup (.cons (.int 1) (.cons (.int 0) .nil))) .nil))) .nil))))))) (.cons (.app 0 (.tup (.cons (.tup (.cons (.tup (.cons (.neg (.int 6)) (.cons (.int 0) .nil))) (.cons (.tup (.cons (.int 6) (.cons (.int 0) .nil))) .nil))) (.cons (.tup (.cons (.tup (.cons (.int 0) (.cons (.int 0) .nil))) (.cons (.tup (.cons (.int 0) (.cons (.int 6) .nil))) .nil))) (.cons (.tup (.cons (.tup (.cons (.int 3) (.cons (.int 0) .nil))) (.cons (.tup (.cons (.int 5) (.cons (.neg (.int 4)) .nil))) .nil))) (.cons (.tup (.cons (.tup (.cons (.neg (.int 3)) (.cons (.neg (.int 5)) .nil))) (.cons (.tup (.cons (.neg (.int 3)) (.cons (.int 0) .nil))) .nil))) (.cons (.tup (.cons (.tup (.cons (.int 0) (.cons (.int 4) .nil))) (.cons (.tup (.cons (.int 4) (.cons (.int 5) .nil))) .nil))) (.cons (.tup (.cons (.tup (.cons (.neg (.int 4)) (.cons (.int 2) .nil))) (.cons (.tup (.cons (.neg (.int 1)) (.cons (.int 5) .nil))) .nil))) .nil)))))))) (.cons (.app 0 (.tup (.cons (.tup (.cons (.tup (.cons (.neg (.int 6)) (.cons (.int 0) .nil))) (.cons (.tup (.cons (.neg (.int 3)) (.cons (.int 0) .nil))) .nil))) (.cons (.tup (.cons (.tup (.cons (.neg (.int 3)) (.cons (.int 0) .nil))) (.cons (.tup (.cons (.int 0) (.cons (.int 0) .nil))) .nil))) (.cons (.tup (.cons (.tup (.cons (.int 2) (.cons (.int 0) .nil))) (.cons (.tup (.cons (.int 5) (.cons (.int 0) .nil))) .nil))) (.cons (.tup (.cons (.tup (.cons (.int 0) (.cons (.int 3) .nil))) (.cons (.tup (.cons (.int 4) (.cons (.int 3) .nil))) .nil))) (.cons (.tup (.cons (.tup (.cons (.neg (.int 6)) (.cons (.int 3) .nil))) (.cons (.tup (.cons (.neg (.int 2)) (.cons (.int 3) .nil))) .nil))) (.cons (.tup (.cons (.tup (.cons (.int 1) (.cons (.neg (.int 4)) .nil))) (.cons (.tup (.cons (.int 1) (.cons (.neg (.int 1)) .nil))) .nil))) .nil)))))))) (.cons (.app 0 (.tup (.cons (.tup (.cons (.tup (.cons (.int 0) (.cons (.int 0) .nil))) (.cons (.tup (.cons (.int 6) (.cons (.int 1) .nil))) .nil))) (.cons (.tup (.cons (.tup (.cons (.int 0) (.cons (.int 0) .nil))) (.cons (.tup (.cons (.int 5) (.cons (.int 4) .nil))) .nil))) (.cons (.tup (.cons (.tup (.cons (.int 0) (.cons (.int 0) .nil))) (.cons (.tup (.cons (.neg (.int 2)) (.cons (.int 6) .nil))) .nil))) (.cons (.tup (.cons (.tup (.cons (.int 0) (.cons (.int 0) .nil))) (.cons (.tup (.cons (.neg (.int 5)) (.cons (.neg (.int 3)) .nil))) .nil))) (.cons (.tup (.cons (.tup (.cons (.int 3) (.cons (.neg (.int 5)) .nil))) (.cons (.tup (.cons (.int 1) (.cons (.neg (.int 1)) .nil))) .nil))) (.cons (.tup (.cons (.tup (.cons (.int 4) (.cons (.int 6) .nil))) (.cons (.tup (.cons (.int 1) (.cons (.int 7) .nil))) .nil))) .nil)))))))) (.cons (.app 0 (.tup (.cons (.tup (.cons (.tup (.cons (.int 1) (.cons (.int 0) .nil))) (.cons (.tup (.cons (.int 6) (.cons (.int 1) .nil))) .nil))) (.cons (.tup (.cons (.tup (.cons (.int 0) (.cons (.int 1) .nil))) (.cons (.tup (.cons (.neg (.int 1)) (.cons (.int 6) .nil))) .nil))) (.cons (.tup (.cons (.tup (.cons (.neg (.int 1)) (.cons (.int 0) .nil))) (.cons (.tup (.cons (.neg (.int 6)) (.cons (.neg (.int 2)) .nil))) .nil))) (.cons (.tup (.cons (.tup (.cons (.int 0) (.cons (.neg (.int 1)) .nil))) (.cons (.tup (.cons (.int 2) (.cons (.neg (.int 6)) .nil))) .nil))) (.cons (.tup (.cons (.tup (.cons (.int 2) (.cons (.int 2) .nil))) (.cons (.tup (.cons (.int 5) (.cons (.int 5) .nil))) .nil))) (.cons (.tup (.cons (.tup (.cons (.neg (.int 5)) (.cons (.int 3) .nil))) (.cons (.tup (.cons (.neg (.int 3)) (.cons (.int 2) .nil))) .nil))) .nil)))))))) (.cons (.app 0 (.tup (.cons (.tup (.cons (.tup (.cons (.int 0) (.cons (.int 0) .nil))) (.cons (.tup (.cons (.int 4) (.cons (.int 2) .nil))) .nil))) (.cons (.tup (.cons (.tup (.cons (.int 4) (.cons (.int 2) .nil))) (.cons (.tup (.cons (.int 5) (.cons (.int 6) .nil))) .nil))) (.cons (.tup (.cons (.tup (.cons (.int 1) (.cons (.int 4) .nil))) (.cons (.tup (.cons (.int 3) (.cons (.int 7) .nil))) .nil))) (.cons (.tup (.cons (.tup (.cons (.neg (.int 3)) (.cons (.int 1) .nil))) (.cons (.tup (.cons (.neg (.int 1)) (.cons (.int 5) .nil))) .nil))) (.cons (.tup (.cons (.tup (.cons (.int 6) (.cons (.int 0) .nil))) (.cons (.tup (.cons (.int 9) (.cons (.int 3) .nil))) .nil))) (.cons (.tup (.cons (.tup (.cons (.neg (.int 2)) (.cons (.neg (.int 3)) .nil))) (.cons (.tup (.cons (.int 5) (.cons (.neg (.int 2)) .nil))) .nil))) .nil)))))))) (.cons (.app 0 (.tup (.cons (.tup (.cons (.tup (.cons (.int 0) (.cons (.int 0) .nil))) (.cons (.tup (.cons (.int 8) (.cons (.int 0) .nil))) .nil))) (.cons (.tup (.cons (.tup (.cons (.int 8) (.cons (.int 0) .nil))) (.cons (.tup (.cons (.int 3) (.cons (.int 7) .nil))) .nil))) (.cons (.tup (.cons (.tup (.cons (.int 3) (.cons (.int 7) .nil))) (.cons (.tup (.cons (.int 0) (.cons (.int 0) .nil))) .nil))) (.cons (.tup (.cons (.tup (.cons (.int 4) (.cons (.int 0) .nil))) (.cons (.tup (.cons (.int 4) (.cons (.int 3) .nil))) .nil))) (.cons (.tup (.cons (.tup (.cons (.int 10) (.cons (.int 1) .nil))) (.cons (.tup (.cons (.int 12) (.cons (.int 5) .nil))) .nil))) (.cons (.tup (.cons (.tup (.cons (.neg (.int 4)) (.cons (.int 4) .nil))) (.cons (.tup (.cons (.neg (.int 1)) (.cons (.int 1) .nil))) .nil))) .nil)))))))) (.cons (.app 0 (.tup (.cons (.tup (.cons (.tup (.cons (.neg (.int 8)) (.cons (.int 0) .nil))) (.cons (.tup (.cons (.int 8) (.cons (.int 0) .nil))) .nil))) (.cons (.tup (.cons (.tup (.cons (.neg (.int 8)) (.cons (.int 3) .nil))) (.cons (.tup (.cons (.neg (.int 1)) (.cons (.int 3) .nil))) .nil))) (.cons (.tup (.cons (.tup (.cons (.int 1) (.cons (.int 3) .nil))) (.cons (.tup (.cons (.int 8) (.cons (.int 3) .nil))) .nil))) (.cons (.tup (.cons (.tup (.cons (.neg (.int 4)) (.cons (.int 5) .nil))) (.cons (.tup (.cons (.int 6) (.cons (.int 5) .nil))) .nil))) (.cons (.tup (.cons (.tup (.cons (.int 0) (.cons (.neg (.int 3)) .nil))) (.cons (.tup (.cons (.int 0) (.cons (.neg (.int 1)) .nil))) .nil))) (.cons (.tup (.cons (.tup (.cons (.int 4) (.cons (.int 0) .nil))) (.cons (.tup (.cons (.int 4) (.cons (.int 2) .nil))) .nil))) .nil)))))))) (.cons (.ret (.var 0)) .nil))))))))))
def f__law_layouts : Fn := ⟨n__law_layouts, [], c__law_layouts⟩
def b__law_names_1 : CSs := .cons (.appPop 3 2 (.call "_law_draw" (.cons (.var 0) (.cons (.bi .len (.cons (.var 2) .nil)) .nil)))) .nil
def j__law_names_1 : CSs := .cons (.ret (.var 3)) .nil
def n__law_names : List Str := ["deck", "many", "left", "found", "turn"]
def c__law_names : CSs := .cons (.par [2, 3] [true, true] (.cons (.lst (.cons (.str "a") (.cons (.str "b") (.cons (.str "c1") (.cons (.str "wall") (.cons (.str "z") (.cons (.str "door2") (.cons (.str "longname") (.cons (.str "m") (.cons (.str "k9") (.cons (.str "x") .nil))))))))))) (.cons (.lst .nil) .nil))) (.cons (.for (.one 4) (.rng1 (.var 1)) b__law_names_1) j__law_names_1)
def f__law_names : Fn := ⟨n__law_names, ["deck", "many"], c__law_names⟩
def j__law_free_1 : CSs := .cons (.ite (.and (.cmp .ne (.var 5) (.var 6)) (.and (.cmp .lt (.bi .len (.cons (.var 3) .nil)) (.var 1)) (.cmp .eq (.lc [("it", 7)] (.one 7) (.seq (.var 3)) (.yes (.val (.call "_law_is_crossed" (.cons (.tup (.cons (.str "") (.cons (.var 5) (.cons (.var 6) .nil)))) (.cons (.bin .add (.tup (.cons (.str "") .nil)) (.var 7)) .nil))))) (.var 7)) (.lst .nil)))) (.cons (.app 3 (.tup (.cons (.var 5) (.cons (.var 6) .nil)))) .nil) .nil) .nil
def b__law_free_1 : CSs := .cons (.asg 5 (.tup (.cons (.bin .sub (.call "_law_draw" (.cons (.var 0) (.cons (.bin .add (.bin .mul (.int 2) (.var 2)) (.int 1)) .nil))) (.var 2)) (.cons (.bin .sub (.call "_law_draw" (.cons (.var 0) (.cons (.bin .add (.bin .mul (.int 2) (.var 2)) (.int 1)) .nil))) (.var 2)) .nil)))) (.cons (.asg 6 (.tup (.cons (.bin .sub (.call "_law_draw" (.cons (.var 0) (.cons (.bin .add (.bin .mul (.int 2) (.var 2)) (.int 1)) .nil))) (.var 2)) (.cons (.bin .sub (.call "_law_draw" (.cons (.var 0) (.cons (.bin .add (.bin .mul (.int 2) (.var 2)) (.int 1)) .nil))) (.var 2)) .nil)))) (.cons (.ite (.and (.cmp .ne (.var 3) (.lst .nil)) (.cmp .eq (.call "_law_draw" (.cons (.var 0) (.cons (.int 3) .nil))) (.int 0))) (.cons (.asg 5 (.call "_law_pick" (.cons (.var 0) (.cons (.call "_law_pick" (.cons (.var 0) (.cons (.var 3) .nil))) .nil)))) .nil) .nil) j__law_free_1))
def j__law_free_2 : CSs := .cons (.ret (.var 3)) .nil
def n__law_free : List Str := ["deck", "many", "most", "found", "turn", "p", "q", "it"]
def c__law_free : CSs := .cons (.asgL 3 (.lst .nil)) (.cons (.for (.one 4) (.rng1 (.bin .mul (.int 3) (.var 1))) b__law_free_1) j__law_free_2)
def f__law_free : Fn := ⟨n__law_free, ["deck", "many", "most"], c__law_free⟩
def i__law_drawn_plan_1 : CSs := .cons (.asg 10 (.tup (.cons (.call "_law_moved" (.cons (.var 8) (.cons (.var 3) (.cons (.var 4) (.cons (.var 5) (.cons (.var 6) (.cons (.var 7) .nil))))))) (.cons (.call "_law_moved" (.cons (.var 9) (.cons (.var 3) (.cons (.var 4) (.cons (.var 5) (.cons (.var 6) (.cons (.var 7) .nil))))))) .nil)))) (.cons (.app 2 (.ite (.cmp .eq (.call "_law_draw" (.cons (.var 0) (.cons (.int 2) .nil))) (.int 0)) (.var 10) (.rev (.var 10)))) .nil)
def b__law_drawn_plan_1 : CSs := .cons (.ite (.and (.cmp .gt (.call "_law_draw" (.cons (.var 0) (.cons (.int 6) .nil))) (.int 0)) (.cmp .lt (.bi .len (.cons (.var 2) .nil)) (.var 1))) i__law_drawn_plan_1 .nil) .nil
def i__law_drawn_plan_2 : CSs := .cons (.par [3, 4, 5] [false, false, false] (.cons (.call "_law_draw" (.cons (.var 0) (.cons (.int 4) .nil))) (.cons (.cmp .eq (.call "_law_draw" (.cons (.var 0) (.cons (.int 2) .nil))) (.int 0)) (.cons (.call "_law_pick" (.cons (.var 0) (.cons (.lst (.cons (.int 1) (.cons (.int 2) (.cons (.int 3) (.cons (.int 1) .nil))))) .nil))) .nil)))) (.cons (.par [6, 7] [false, false] (.cons (.bin .sub (.call "_law_draw" (.cons (.var 0) (.cons (.int 21) .nil))) (.int 10)) (.cons (.bin .sub (.call "_law_draw" (.cons (.var 0) (.cons (.int 21) .nil))) (.int 10)) .nil))) (.cons (.asgL 2 (.lst .nil)) (.cons (.for (.tup (.cons (.one 8) (.cons (.one 9) .nil))) (.seq (.call "_law_pick" (.cons (.var 0) (.cons (.call "_law_layouts" .nil) .nil)))) b__law_drawn_plan_1) .nil)))
def j__law_drawn_plan_1 : CSs := .cons (.asg 11 (.lc [("name", 12), ("pair", 10)] (.tup (.cons (.one 12) (.cons (.one 10) .nil))) (.zip (.call "_law_names" (.cons (.var 0) (.cons (.bi .len (.cons (.var 2) .nil)) .nil))) (.var 2)) .no (.bin .add (.tup (.cons (.var 12) .nil)) (.bi .tuple (.cons (.var 10) .nil))))) (.cons (.ret (.bi .tuple (.cons (.var 11) .nil))) .nil)
def n__law_drawn_plan : List Str := ["deck", "most", "some", "many", "is_mirrored", "scale", "x", "y", "p", "q", "pair", "found", "name"]
def c__law_drawn_plan : CSs := .cons (.ite (.cmp .eq (.call "_law_draw" (.cons (.var 0) (.cons (.int 4) .nil))) (.int 0)) (.cons (.asg 2 (.call "_law_free" (.cons (.var 0) (.cons (.call "_law_draw" (.cons (.var 0) (.cons (.bin .add (.var 1) (.int 1)) .nil))) (.cons (.call "_law_pick" (.cons (.var 0) (.cons (.lst (.cons (.int 4) (.cons (.int 9) (.cons (.int 60) .nil)))) .nil))) .nil))))) .nil) i__law_drawn_plan_2) j__law_drawn_plan_1
def f__law_drawn_plan : Fn := ⟨n__law_drawn_plan, ["deck", "most"], c__law_drawn_plan⟩
def j__law_spoilt_1 : CSs := .cons (.ret (.call "_law_bent" (.cons (.var 0) (.cons (.var 1) (.cons (.int 1) .nil))))) .nil
def i__law_spoilt_1 : CSs := .cons (.ite (.and (.val (.call "_law_is_integer" (.cons (.var 1) .nil))) (.cmp .eq (.call "_law_draw" (.cons (.var 0) (.cons (.int 2) .nil))) (.int 0))) (.cons (.ret (.bin .add (.var 1) (.call "_law_pick" (.cons (.var 0) (.cons (.lst (.cons (.int 1) (.cons (.neg (.int 1)) (.cons (.int 2) .nil)))) .nil))))) .nil) .nil) j__law_spoilt_1
def j__law_spoilt_2 : CSs := .cons (.asg 2 (.call "_law_draw" (.cons (.var 0) (.cons (.bi .len (.cons (.var 1) .nil)) .nil)))) (.cons (.ret (.call "_law_instead" (.cons (.var 1) (.cons (.var 2) (.cons (.call "_law_spoilt" (.cons (.var 0) (.cons (.ix (.var 1) (.var 2)) .nil))) .nil))))) .nil)
def n__law_spoilt : List Str := ["deck", "thing", "at"]
def c__law_spoilt : CSs := .cons (.ite (.or (.not (.val (.isi (.var 1) .tuple))) (.or (.cmp .eq (.var 1) (.tup .nil)) (.cmp .eq (.call "_law_draw" (.cons (.var 0) (.cons (.int 6) .nil))) (.int 0)))) i__law_spoilt_1 .nil) j__law_spoilt_2
def f__law_spoilt : Fn := ⟨n__law_spoilt, ["deck", "thing"], c__law_spoilt⟩
def i__law_crossed_plan_1 : CSs := .cons (.asg 8 (.call "_law_draw" (.cons (.var 0) (.cons (.bin .add (.bi .len (.cons (.var 2) .nil)) (.int 1)) .nil)))) (.cons (.asg 2 (.bin .add (.bin .add (.sl (.var 2) .no (.yes (.var 8))) (.tup (.cons (.tup (.cons (.bin .add (.str "new") (.bi .str (.cons (.var 3) .nil))) (.cons (.var 4) (.cons (.var 5) .nil)))) .nil))) (.sl (.var 2) (.yes (.var 8)) .no))) .nil)
def i__law_crossed_plan_2 : CSs := .cons (.par [4, 5] [false, false] (.cons (.ix (.call "_law_pick" (.cons (.var 0) (.cons (.var 2) .nil))) (.int 1)) (.cons (.ix (.call "_law_pick" (.cons (.var 0) (.cons (.var 2) .nil))) (.int 2)) .nil))) (.cons (.asg 6 (.call "_law_pick" (.cons (.var 0) (.cons (.lst (.cons (.tup (.cons (.ix (.var 5) (.int 0)) (.cons (.ix (.var 4) (.int 1)) .nil))) (.cons (.tup (.cons (.bin .add (.ix (.var 4) (.int 0)) (.int 1)) (.cons (.bin .sub (.ix (.var 4) (.int 1)) (.int 2)) .nil))) (.cons (.tup (.cons (.bin .sub (.bin .mul (.ix (.var 5) (.int 0)) (.int 2)) (.ix (.var 4) (.int 0))) (.cons (.bin .sub (.bin .mul (.ix (.var 5) (.int 1)) (.int 2)) (.ix (.var 4) (.int 1))) .nil))) (.cons (.tup (.cons (.bin .fdiv (.bin .add (.ix (.var 4) (.int 0)) (.ix (.var 5) (.int 0))) (.int 2)) (.cons (.bin .fdiv (.bin .add (.ix (.var 4) (.int 1)) (.ix (.var 5) (.int 1))) (.int 2)) .nil))) (.cons (.var 5) .nil)))))) .nil)))) (.cons (.asgT (.tup (.cons (.one 4) (.cons (.one 5) .nil))) (.call "_law_pick" (.cons (.var 0) (.cons (.lst (.cons (.tup (.cons (.var 4) (.cons (.var 6) .nil))) (.cons (.tup (.cons (.var 6) (.cons (.var 5) .nil))) (.cons (.tup (.cons (.var 6) (.cons (.tup (.cons (.bin .sub (.ix (.var 6) (.int 0)) (.int 5)) (.cons (.bin .add (.ix (.var 6) (.int 1)) (.int 3)) .nil))) .nil))) (.cons (.tup (.cons (.var 4) (.cons (.var 5) .nil))) (.cons (.tup (.cons (.tup (.cons (.bin .sub (.ix (.var 4) (.int 0)) (.int 3)) (.cons (.ix (.var 4) (.int 1)) .nil))) (.cons (.tup (.cons (.ix (.var 5) (.int 0)) (.cons (.bin .add (.ix (.var 5) (.int 1)) (.int 2)) .nil))) .nil))) .nil)))))) .nil)))) (.cons (.ite (.and (.cmp .ne (.var 4) (.var 5)) (.cmp .le (.bi .maxL (.cons (.lc [("x", 7)] (.one 7) (.seq (.bin .add (.var 4) (.var 5))) .no (.bi .abs (.cons (.var 7) .nil))) .nil)) (.int 60))) i__law_crossed_plan_1 .nil) .nil)))
def b__law_crossed_plan_1 : CSs := .cons (.ite (.and (.cmp .gt (.bi .len (.cons (.var 2) .nil)) (.int 0)) (.cmp .lt (.bi .len (.cons (.var 2) .nil)) (.int 9))) i__law_crossed_plan_2 .nil) .nil
def j__law_crossed_plan_1 : CSs := .cons (.ret (.var 2)) .nil
def n__law_crossed_plan : List Str := ["deck", "most", "plan", "turn", "p", "q", "m", "x", "at"]
def c__law_crossed_plan : CSs := .cons (.asg 2 (.call "_law_drawn_plan" (.cons (.var 0) (.cons (.var 1) .nil)))) (.cons (.for (.one 3) (.rng1 (.call "_law_pick" (.cons (.var 0) (.cons (.lst (.cons (.int 0) (.cons (.int 1) (.cons (.int 1) (.cons (.int 2) .nil))))) .nil)))) b__law_crossed_plan_1) j__law_crossed_plan_1)
def f__law_crossed_plan : Fn := ⟨n__law_crossed_plan, ["deck", "most"], c__law_crossed_plan⟩
def j_fault_1 : CSs := .cons (.ret (.call "fault_of" (.cons (.var 0) .nil))) .nil
def n_fault : List Str := ["walls"]
def c_fault : CSs := .cons (.ite (.not (.val (.call "are_segments" (.cons (.var 0) .nil)))) (.cons (.raise "BadPlan" (.var 0)) .nil) .nil) j_fault_1
def f_fault : Fn := ⟨n_fault, ["walls"], c_fault⟩
def n_need_plan : List Str := ["thing"]
def c_need_plan : CSs := .cons (.ite (.not (.val (.call "is_plan_value" (.cons (.var 0) .nil)))) (.cons (.raise "BadPlan" (.var 0)) .nil) .nil) .nil
def f_need_plan : Fn := ⟨n_need_plan, ["thing"], c_need_plan⟩
def j_integer_of_1 : CSs := .cons (.ret (.bi .int (.cons (.var 0) .nil))) .nil
def j_integer_of_2 : CSs := .cons (.ite (.and (.cmp .eq (.ix (.var 1) (.int 0)) (.str "0")) (.cmp .ne (.var 0) (.str "0"))) (.cons (.ret .non) .nil) .nil) j_integer_of_1
def n_integer_of : List Str := ["word", "digits", "sign"]
def c_integer_of : CSs := .cons (.asg 1 (.ite (.cmp .eq (.sl (.var 0) .no (.yes (.int 1))) (.str "-")) (.sl (.var 0) (.yes (.int 1)) .no) (.var 0))) (.cons (.ite (.or (.cmp .eq (.var 1) (.str "")) (.not (.val (.bi .all (.cons (.lc [("sign", 2)] (.one 2) (.seq (.var 1)) .no (.cmp .isin (.var 2) (.con "DIGITS" (.inr "0123456789")))) .nil))))) (.cons (.ret .non) .nil) .nil) j_integer_of_2)
def f_integer_of : Fn := ⟨n_integer_of, ["word"], c_integer_of⟩
def b__law_order_1 : CSs := .cons (.appPop 3 2 (.call "_law_draw" (.cons (.var 0) (.cons (.bi .len (.cons (.var 2) .nil)) .nil)))) .nil
def j__law_order_1 : CSs := .cons (.ret (.bi .tuple (.cons (.var 3) .nil))) .nil
def n__law_order : List Str := ["deck", "plan", "left", "found", "wall", "turn"]
def c__law_order : CSs := .cons (.par [2, 3] [true, true] (.cons (.lc [("wall", 4)] (.one 4) (.seq (.var 1)) .no (.ix (.var 4) (.int 0))) (.cons (.lst .nil) .nil))) (.cons (.for (.one 5) (.rng1 (.bi .len (.cons (.var 1) .nil))) b__law_order_1) j__law_order_1)
def f__law_order : Fn := ⟨n__law_order, ["deck", "plan"], c__law_order⟩
def j__law_read_integer_1 : CSs := .cons (.ret (.ite (.cmp .eq (.bi .str (.cons (.bi .int (.cons (.var 0) .nil)) .nil)) (.var 0)) (.bi .int (.cons (.var 0) .nil)) .non)) .nil
def n__law_read_integer : List Str := ["text", "bare", "x"]
def c__law_read_integer : CSs := .cons (.asg 1 (.ite (.cmp .eq (.sl (.var 0) .no (.yes (.int 1))) (.str "-")) (.sl (.var 0) (.yes (.int 1)) .no) (.var 0))) (.cons (.ite (.or (.cmp .eq (.var 1) (.str "")) (.or (.cmp .gt (.bi .len (.cons (.var 1) .nil)) (.int 12)) (.cmp .ne (.lc [("x", 2)] (.one 2) (.seq (.var 1)) (.yes (.cmp .notin (.var 2) (.str "0123456789"))) (.var 2)) (.lst .nil)))) (.cons (.ret .non) .nil) .nil) j__law_read_integer_1)
def f__law_read_integer : Fn := ⟨n__law_read_integer, ["text"], c__law_read_integer⟩
def n_names_of : List Str := ["plan", "wall"]
def c_names_of : CSs := .cons (.ret (.lc [("wall", 1)] (.one 1) (.seq (.var 0)) .no (.ix (.var 1) (.int 0)))) .nil
def f_names_of : Fn := ⟨n_names_of, ["plan"], c_names_of⟩
def n_whole_pieces : List Str := ["plan", "wall"]
def c_whole_pieces : CSs := .cons (.ret (.lc [("wall", 1)] (.one 1) (.seq (.var 0)) .no (.bin .add (.tup (.cons (.ix (.var 1) (.int 0)) .nil)) (.call "ends" (.cons (.var 1) .nil))))) .nil
def f_whole_pieces : Fn := ⟨n_whole_pieces, ["plan"], c_whole_pieces⟩
def n_sides_of : List Str := ["line", "piece"]
def c_sides_of : CSs := .cons (.ret (.tup (.cons (.call "side_raw" (.cons (.var 0) (.cons (.ix (.var 1) (.int 1)) .nil))) (.cons (.call "side_raw" (.cons (.var 0) (.cons (.ix (.var 1) (.int 2)) .nil))) .nil)))) .nil
def f_sides_of : Fn := ⟨n_sides_of, ["line", "piece"], c_sides_of⟩
def i_cut_1 : CSs := .cons (.asg 8 (.call "meeting_raw" (.cons (.var 0) (.cons (.call "through_raw" (.cons (.ix (.var 5) (.int 1)) (.cons (.ix (.var 5) (.int 2)) .nil))) .nil)))) (.cons (.asg 9 (.lst (.cons (.tup (.cons (.ix (.var 5) (.int 0)) (.cons (.ix (.var 5) (.int 1)) (.cons (.var 8) .nil)))) (.cons (.tup (.cons (.ix (.var 5) (.int 0)) (.cons (.var 8) (.cons (.ix (.var 5) (.int 2)) .nil)))) .nil)))) (.cons (.appI (.cmp .gt (.var 6) (.int 0)) 3 4 (.ix (.var 9) (.int 0))) (.cons (.appI (.cmp .gt (.var 6) (.int 0)) 4 3 (.ix (.var 9) (.int 1))) .nil)))
def b_cut_1 : CSs := .cons (.asgT (.tup (.cons (.one 6) (.cons (.one 7) .nil))) (.call "sides_of" (.cons (.var 0) (.cons (.var 5) .nil)))) (.cons (.ite (.and (.cmp .eq (.var 6) (.int 0)) (.cmp .eq (.var 7) (.int 0))) (.cons (.app 2 (.var 5)) .nil) (.cons (.ite (.and (.cmp .ge (.var 6) (.int 0)) (.cmp .ge (.var 7) (.int 0))) (.cons (.app 3 (.var 5)) .nil) (.cons (.ite (.and (.cmp .le (.var 6) (.int 0)) (.cmp .le (.var 7) (.int 0))) (.cons (.app 4 (.var 5)) .nil) i_cut_1) .nil)) .nil)) .nil)
def j_cut_1 : CSs := .cons (.ret (.tup (.cons (.var 2) (.cons (.var 3) (.cons (.var 4) .nil))))) .nil
def n_cut : List Str := ["line", "pieces", "on", "left", "right", "piece", "near", "far", "p", "halves"]
def c_cut : CSs := .cons (.par [2, 3, 4] [true, true, true] (.cons (.lst .nil) (.cons (.lst .nil) (.cons (.lst .nil) .nil)))) (.cons (.for (.one 5) (.seq (.var 1)) b_cut_1) j_cut_1)
def f_cut : Fn := ⟨n_cut, ["line", "pieces"], c_cut⟩
def b_joined_1 : CSs := .cons (.ite (.and (.cmp .ne (.var 1) (.lst .nil)) (.and (.cmp .eq (.ix (.ix (.var 1) (.neg (.int 1))) (.int 0)) (.ix (.var 2) (.int 0))) (.cmp .eq (.ix (.ix (.var 1) (.neg (.int 1))) (.int 2)) (.ix (.var 2) (.int 1))))) (.cons (.stI 1 (.neg (.int 1)) (.tup (.cons (.ix (.var 2) (.int 0)) (.cons (.ix (.ix (.var 1) (.neg (.int 1))) (.int 1)) (.cons (.ix (.var 2) (.int 2)) .nil))))) .nil) (.cons (.app 1 (.var 2)) .nil)) .nil
def j_joined_1 : CSs := .cons (.ret (.var 1)) .nil
def n_joined : List Str := ["pieces", "found", "piece"]
def c_joined : CSs := .cons (.asgL 1 (.lst .nil)) (.cons (.for (.one 2) (.seq (.var 0)) b_joined_1) j_joined_1)
def f_joined : Fn := ⟨n_joined, ["pieces"], c_joined⟩
def n_are_same : List Str := ["thing", "pieces", "item", "piece"]
def c_are_same : CSs := .cons (.ret (.and (.cmp .eq (.bi .len (.cons (.var 0) .nil)) (.bi .len (.cons (.var 1) .nil))) (.bi .all (.cons (.lc [("item", 2), ("piece", 3)] (.tup (.cons (.one 2) (.cons (.one 3) .nil))) (.zip (.var 0) (.var 1)) .no (.call "is_same_piece" (.cons (.var 2) (.cons (.var 3) .nil)))) .nil)))) .nil
def f_are_same : Fn := ⟨n_are_same, ["thing", "pieces"], c_are_same⟩
def j_is_same_piece_1 : CSs := .cons (.ret (.and (.call "is_same_place" (.cons (.ix (.var 0) (.int 1)) (.cons (.ix (.var 1) (.int 1)) .nil))) (.call "is_same_place" (.cons (.ix (.var 0) (.int 2)) (.cons (.ix (.var 1) (.int 2)) .nil))))) .nil
def n_is_same_piece : List Str := ["thing", "piece"]
def c_is_same_piece : CSs := .cons (.ite (.or (.not (.val (.isi (.var 0) .tuple))) (.or (.cmp .ne (.bi .len (.cons (.var 0) .nil)) (.int 3)) (.or (.not (.val (.isi (.ix (.var 0) (.int 0)) .str))) (.cmp .ne (.ix (.var 0) (.int 0)) (.ix (.var 1) (.int 0)))))) (.cons (.ret (.bl false)) .nil) .nil) j_is_same_piece_1
def f_is_same_piece : Fn := ⟨n_is_same_piece, ["thing", "piece"], c_is_same_piece⟩
def j_is_same_place_1 : CSs := .cons (.ret (.cmp .eq (.var 0) (.var 1))) .nil
def n_is_same_place : List Str := ["thing", "p", "item"]
def c_is_same_place : CSs := .cons (.ite (.or (.not (.val (.isi (.var 0) .tuple))) (.val (.bi .any (.cons (.lc [("item", 2)] (.one 2) (.seq (.var 0)) .no (.isi (.var 2) .bool)) .nil)))) (.cons (.ret (.bl false)) .nil) .nil) j_is_same_place_1
def f_is_same_place : Fn := ⟨n_is_same_place, ["thing", "p"], c_is_same_place⟩
def n__law_whole : List Str := ["plan", "name", "p", "q"]
def c__law_whole : CSs := .cons (.ret (.lc [("name", 1), ("p", 2), ("q", 3)] (.tup (.cons (.one 1) (.cons (.one 2) (.cons (.one 3) .nil)))) (.seq (.var 0)) .no (.tup (.cons (.var 1) (.cons (.bin .add (.var 2) (.tup (.cons (.int 1) .nil))) (.cons (.bin .add (.var 3) (.tup (.cons (.int 1) .nil))) .nil)))))) .nil
def f__law_whole : Fn := ⟨n__law_whole, ["plan"], c__law_whole⟩
def i__law_parted_1 : CSs := .cons (.asg 9 (.call "_law_meeting" (.cons (.var 1) (.cons (.call "_law_through" (.cons (.var 6) (.cons (.var 7) .nil))) .nil)))) (.cons (.appI (.cmp .gt (.ix (.var 8) (.int 0)) (.int 0)) 3 4 (.tup (.cons (.var 5) (.cons (.var 6) (.cons (.var 9) .nil))))) (.cons (.appI (.cmp .gt (.ix (.var 8) (.int 0)) (.int 0)) 4 3 (.tup (.cons (.var 5) (.cons (.var 9) (.cons (.var 7) .nil))))) .nil))
def b__law_parted_1 : CSs := .cons (.asg 8 (.tup (.cons (.call "_law_side" (.cons (.var 1) (.cons (.var 6) .nil))) (.cons (.call "_law_side" (.cons (.var 1) (.cons (.var 7) .nil))) .nil)))) (.cons (.ite (.cmp .eq (.var 8) (.tup (.cons (.int 0) (.cons (.int 0) .nil)))) (.cons (.app 2 (.tup (.cons (.var 5) (.cons (.var 6) (.cons (.var 7) .nil))))) .nil) (.cons (.ite (.cmp .ge (.bi .minL (.cons (.var 8) .nil)) (.int 0)) (.cons (.app 3 (.tup (.cons (.var 5) (.cons (.var 6) (.cons (.var 7) .nil))))) .nil) (.cons (.ite (.cmp .le (.bi .maxL (.cons (.var 8) .nil)) (.int 0)) (.cons (.app 4 (.tup (.cons (.var 5) (.cons (.var 6) (.cons (.var 7) .nil))))) .nil) i__law_parted_1) .nil)) .nil)) .nil)
def j__law_parted_1 : CSs := .cons (.ret (.tup (.cons (.var 2) (.cons (.var 3) (.cons (.var 4) .nil))))) .nil
def n__law_parted : List Str := ["pieces", "line", "on", "left", "right", "name", "p", "q", "sides", "m"]
def c__law_parted : CSs := .cons (.par [2, 3, 4] [true, true, true] (.cons (.lst .nil) (.cons (.lst .nil) (.cons (.lst .nil) .nil)))) (.cons (.for (.tup (.cons (.one 5) (.cons (.one 6) (.cons (.one 7) .nil)))) (.seq (.var 0)) b__law_parted_1) j__law_parted_1)
def f__law_parted : Fn := ⟨n__law_parted, ["pieces", "line"], c__law_parted⟩
def n__law_many : List Str := ["tree"]
def c__law_many : CSs := .cons (.ret (.ite (.cmp .isN (.var 0) .non) (.int 0) (.bin .add (.bin .add (.int 1) (.call "_law_many" (.cons (.ix (.var 0) (.int 2)) .nil))) (.call "_law_many" (.cons (.ix (.var 0) (.int 3)) .nil))))) .nil
def f__law_many : Fn := ⟨n__law_many, ["tree"], c__law_many⟩
def n__law_nodes : List Str := ["tree"]
def c__law_nodes : CSs := .cons (.ret (.ite (.cmp .isN (.var 0) .non) (.lst .nil) (.bin .add (.bin .add (.lst (.cons (.var 0) .nil)) (.call "_law_nodes" (.cons (.ix (.var 0) (.int 2)) .nil))) (.call "_law_nodes" (.cons (.ix (.var 0) (.int 3)) .nil))))) .nil
def f__law_nodes : Fn := ⟨n__law_nodes, ["tree"], c__law_nodes⟩
def b__law_free_line_1 : CSs := .cons (.asg 2 (.tup (.cons (.bin .sub (.call "_law_draw" (.cons (.var 0) (.cons (.int 41) .nil))) (.int 20)) (.cons (.bin .sub (.call "_law_draw" (.cons (.var 0) (.cons (.int 41) .nil))) (.int 20)) (.cons (.int 1) .nil))))) (.cons (.asg 3 (.tup (.cons (.bin .sub (.call "_law_draw" (.cons (.var 0) (.cons (.int 41) .nil))) (.int 20)) (.cons (.bin .sub (.call "_law_draw" (.cons (.var 0) (.cons (.int 41) .nil))) (.int 20)) (.cons (.int 1) .nil))))) (.cons (.ite (.cmp .ne (.var 2) (.var 3)) (.cons (.ret (.call "_law_through" (.cons (.var 2) (.cons (.var 3) .nil)))) .nil) .nil) .nil))
def j__law_free_line_1 : CSs := .cons (.ret (.call "_law_pick" (.cons (.var 0) (.cons (.lst (.cons (.tup (.cons (.int 1) (.cons (.int 0) (.cons (.int 3) .nil)))) (.cons (.tup (.cons (.int 0) (.cons (.neg (.int 1)) (.cons (.int 5) .nil)))) (.cons (.tup (.cons (.int 1) (.cons (.int 1) (.cons (.int 0) .nil)))) (.cons (.tup (.cons (.int 2) (.cons (.neg (.int 3)) (.cons (.int 7) .nil)))) .nil))))) .nil)))) .nil
def n__law_free_line : List Str := ["deck", "turn", "p", "q"]
def c__law_free_line : CSs := .cons (.for (.one 1) (.rng1 (.int 4)) b__law_free_line_1) j__law_free_line_1
def f__law_free_line : Fn := ⟨n__law_free_line, ["deck"], c__law_free_line⟩
def i__law_tree_1 : CSs := .cons (.stI 2 (.str "free") (.bin .sub (.ix (.var 2) (.str "free")) (.int 1))) (.cons (.asg 4 (.call "_law_free_line" (.cons (.var 0) .nil))) .nil)
def i__law_tree_2 : CSs := .cons (.asg 5 (.call "_law_pick" (.cons (.var 0) (.cons (.var 1) .nil)))) (.cons (.asg 4 (.ix (.ix (.var 2) (.str "lines")) (.ix (.var 5) (.int 0)))) .nil)
def j__law_tree_1 : CSs := .cons (.asgT (.tup (.cons (.one 6) (.cons (.one 7) (.cons (.one 8) .nil)))) (.call "_law_parted" (.cons (.var 1) (.cons (.var 4) .nil)))) (.cons (.ret (.tup (.cons (.var 4) (.cons (.bi .tuple (.cons (.var 6) .nil)) (.cons (.call "_law_tree" (.cons (.var 0) (.cons (.var 7) (.cons (.var 2) .nil)))) (.cons (.call "_law_tree" (.cons (.var 0) (.cons (.var 8) (.cons (.var 2) .nil)))) .nil)))))) .nil)
def j__law_tree_2 : CSs := .cons (.ite (.cmp .eq (.call "_law_draw" (.cons (.var 0) (.cons (.int 3) .nil))) (.int 0)) (.cons (.asg 4 (.tup (.cons (.neg (.ix (.var 4) (.int 0))) (.cons (.neg (.ix (.var 4) (.int 1))) (.cons (.neg (.ix (.var 4) (.int 2))) .nil))))) .nil) .nil) j__law_tree_1
def j__law_tree_3 : CSs := .cons (.asg 3 (.or (.cmp .eq (.var 1) (.lst .nil)) (.and (.cmp .gt (.ix (.var 2) (.str "free")) (.int 0)) (.cmp .eq (.call "_law_draw" (.cons (.var 0) (.cons (.int 4) .nil))) (.int 0))))) (.cons (.ite (.val (.var 3)) i__law_tree_1 i__law_tree_2) j__law_tree_2)
def n__law_tree : List Str := ["deck", "pieces", "box", "is_free", "line", "piece", "on", "left", "right"]
def c__law_tree : CSs := .cons (.ite (.and (.cmp .eq (.var 1) (.lst .nil)) (.or (.cmp .eq (.ix (.var 2) (.str "free")) (.int 0)) (.cmp .gt (.call "_law_draw" (.cons (.var 0) (.cons (.int 4) .nil))) (.int 0)))) (.cons (.ret .non) .nil) .nil) j__law_tree_3
def f__law_tree : Fn := ⟨n__law_tree, ["deck", "pieces", "box"], c__law_tree⟩
def j__law_is_tree_1 : CSs := .cons (.asgT (.tup (.cons (.one 3) (.cons (.one 4) (.cons (.one 5) .nil)))) (.call "_law_parted" (.cons (.var 2) (.cons (.ix (.var 1) (.int 0)) .nil)))) (.cons (.ret (.and (.cmp .eq (.bi .repr (.cons (.ix (.var 1) (.int 1)) .nil)) (.bi .repr (.cons (.bi .tuple (.cons (.var 3) .nil)) .nil))) (.and (.call "_law_is_tree" (.cons (.var 0) (.cons (.ix (.var 1) (.int 2)) (.cons (.var 4) .nil)))) (.call "_law_is_tree" (.cons (.var 0) (.cons (.ix (.var 1) (.int 3)) (.cons (.var 5) .nil))))))) .nil)
def j__law_is_tree_2 : CSs := .cons (.ite (.or (.not (.val (.isi (.var 1) .tuple))) (.or (.cmp .ne (.bi .len (.cons (.var 1) .nil)) (.int 4)) (.or (.not (.val (.call "_law_is_line" (.cons (.ix (.var 1) (.int 0)) .nil)))) (.not (.val (.isi (.ix (.var 1) (.int 1)) .tuple)))))) (.cons (.ret (.bl false)) .nil) .nil) j__law_is_tree_1
def n__law_is_tree : List Str := ["plan", "thing", "pieces", "on", "left", "right"]
def c__law_is_tree : CSs := .cons (.ite (.cmp .isN (.var 1) .non) (.cons (.ret (.cmp .eq (.var 2) (.lst .nil))) .nil) .nil) j__law_is_tree_2
def f__law_is_tree : Fn := ⟨n__law_is_tree, ["plan", "thing", "pieces"], c__law_is_tree⟩
def i__law_bent_tree_1 : CSs := .cons (.asgT (.tup (.cons (.one 8) (.cons (.one 9) (.cons (.one 10) .nil)))) (.ix (.var 3) (.int 0))) (.cons (.asg 11 (.call "_law_place" (.cons (.bin .add (.bin .mul (.ix (.var 9) (.int 0)) (.ix (.var 10) (.int 2))) (.bin .mul (.ix (.var 10) (.int 0)) (.ix (.var 9) (.int 2)))) (.cons (.bin .add (.bin .mul (.ix (.var 9) (.int 1)) (.ix (.var 10) (.int 2))) (.bin .mul (.ix (.var 10) (.int 1)) (.ix (.var 9) (.int 2)))) (.cons (.bin .mul (.bin .mul (.int 2) (.ix (.var 9) (.int 2))) (.ix (.var 10) (.int 2))) .nil))))) (.cons (.ret (.tup (.cons (.var 2) (.cons (.call "_law_pick" (.cons (.var 0) (.cons (.lst (.cons (.bin .add (.tup (.cons (.tup (.cons (.var 8) (.cons (.var 9) (.cons (.var 11) .nil)))) (.cons (.tup (.cons (.var 8) (.cons (.var 11) (.cons (.var 10) .nil)))) .nil))) (.sl (.var 3) (.yes (.int 1)) .no)) (.cons (.bin .add (.tup (.cons (.tup (.cons (.var 8) (.cons (.var 10) (.cons (.var 9) .nil)))) .nil)) (.sl (.var 3) (.yes (.int 1)) .no)) (.cons (.bin .add (.tup (.cons (.tup (.cons (.var 8) (.cons (.var 9) (.cons (.var 11) .nil)))) .nil)) (.sl (.var 3) (.yes (.int 1)) .no)) (.cons (.rev (.var 3)) .nil))))) .nil))) (.cons (.var 4) (.cons (.var 5) .nil)))))) .nil))
def j__law_bent_tree_1 : CSs := .cons (.ret (.call "_law_spoilt" (.cons (.var 0) (.cons (.var 1) .nil)))) .nil
def j__law_bent_tree_2 : CSs := .cons (.ite (.cmp .eq (.var 6) (.int 7)) (.cons (.ret (.tup (.cons (.bi .tuple (.cons (.lc [("x", 7)] (.one 7) (.seq (.var 2)) .no (.bin .mul (.int 2) (.var 7))) .nil)) (.cons (.var 3) (.cons (.var 4) (.cons (.var 5) .nil)))))) .nil) .nil) j__law_bent_tree_1
def j__law_bent_tree_3 : CSs := .cons (.ite (.cmp .eq (.var 6) (.int 6)) (.cons (.ret (.tup (.cons (.var 2) (.cons (.var 3) (.cons (.tup (.cons (.tup (.cons (.int 1) (.cons (.int 1) (.cons (.int 0) .nil)))) (.cons (.tup .nil) (.cons (.var 4) (.cons .non .nil))))) (.cons (.var 5) .nil)))))) .nil) .nil) j__law_bent_tree_2
def j__law_bent_tree_4 : CSs := .cons (.ite (.cmp .eq (.var 6) (.int 5)) (.cons (.ret (.tup (.cons (.var 2) (.cons (.bin .add (.var 3) (.call "_law_pick" (.cons (.var 0) (.cons (.lst (.cons (.sl (.var 3) .no (.yes (.int 1))) (.cons (.tup (.cons (.tup (.cons (.str "a") (.cons (.tup (.cons (.int 0) (.cons (.int 0) (.cons (.int 1) .nil)))) (.cons (.tup (.cons (.int 1) (.cons (.int 0) (.cons (.int 1) .nil)))) .nil)))) .nil)) (.cons (.tup (.cons (.tup .nil) .nil)) .nil)))) .nil)))) (.cons (.var 4) (.cons (.var 5) .nil)))))) .nil) .nil) j__law_bent_tree_3
def j__law_bent_tree_5 : CSs := .cons (.ite (.and (.cmp .eq (.var 6) (.int 5)) (.and (.cmp .ne (.var 3) (.tup .nil)) (.cmp .eq (.call "_law_draw" (.cons (.var 0) (.cons (.int 2) .nil))) (.int 0)))) (.cons (.ret (.tup (.cons (.var 2) (.cons (.bin .add (.tup (.cons (.bin .add (.tup (.cons (.ite (.cmp .ne (.ix (.ix (.var 3) (.int 0)) (.int 0)) (.str "x")) (.str "x") (.str "b")) .nil)) (.sl (.ix (.var 3) (.int 0)) (.yes (.int 1)) .no)) .nil)) (.sl (.var 3) (.yes (.int 1)) .no)) (.cons (.var 4) (.cons (.var 5) .nil)))))) .nil) .nil) j__law_bent_tree_4
def j__law_bent_tree_6 : CSs := .cons (.ite (.and (.cmp .eq (.var 6) (.int 4)) (.cmp .ne (.var 3) (.tup .nil))) i__law_bent_tree_1 .nil) j__law_bent_tree_5
def j__law_bent_tree_7 : CSs := .cons (.ite (.cmp .eq (.var 6) (.int 3)) (.cons (.ret (.call "_law_pick" (.cons (.var 0) (.cons (.lst (.cons (.tup (.cons (.var 2) (.cons (.var 3) (.cons (.var 5) (.cons (.var 4) .nil))))) (.cons (.tup (.cons (.bi .tuple (.cons (.lc [("x", 7)] (.one 7) (.seq (.var 2)) .no (.neg (.var 7))) .nil)) (.cons (.var 3) (.cons (.var 4) (.cons (.var 5) .nil))))) (.cons (.tup (.cons (.bi .tuple (.cons (.lc [("x", 7)] (.one 7) (.seq (.var 2)) .no (.neg (.var 7))) .nil)) (.cons (.var 3) (.cons (.var 5) (.cons (.var 4) .nil))))) .nil)))) .nil)))) .nil) .nil) j__law_bent_tree_6
def j__law_bent_tree_8 : CSs := .cons (.asgT (.tup (.cons (.one 2) (.cons (.one 3) (.cons (.one 4) (.cons (.one 5) .nil))))) (.var 1)) (.cons (.asg 6 (.call "_law_draw" (.cons (.var 0) (.cons (.int 10) .nil)))) (.cons (.ite (.cmp .lt (.var 6) (.int 3)) (.cons (.ret (.ite (.cmp .eq (.call "_law_draw" (.cons (.var 0) (.cons (.int 2) .nil))) (.int 0)) (.tup (.cons (.var 2) (.cons (.var 3) (.cons (.call "_law_bent_tree" (.cons (.var 0) (.cons (.var 4) .nil))) (.cons (.var 5) .nil))))) (.tup (.cons (.var 2) (.cons (.var 3) (.cons (.var 4) (.cons (.call "_law_bent_tree" (.cons (.var 0) (.cons (.var 5) .nil))) .nil))))))) .nil) .nil) j__law_bent_tree_7))
def n__law_bent_tree : List Str := ["deck", "tree", "line", "pieces", "left", "right", "way", "x", "name", "p", "q", "m"]
def c__law_bent_tree : CSs := .cons (.ite (.or (.cmp .isN (.var 1) .non) (.cmp .eq (.call "_law_draw" (.cons (.var 0) (.cons (.int 8) .nil))) (.int 0))) (.cons (.ret (.call "_law_pick" (.cons (.var 0) (.cons (.lst (.cons .non (.cons (.tup .nil) (.cons (.tup (.cons (.tup (.cons (.int 1) (.cons (.int 0) (.cons (.int 40) .nil)))) (.cons (.tup .nil) (.cons (.var 1) (.cons .non .nil))))) (.cons (.tup (.cons (.tup (.cons (.int 0) (.cons (.int 1) (.cons (.int 50) .nil)))) (.cons (.tup .nil) (.cons (.var 1) (.cons (.var 1) .nil))))) (.cons (.tup (.cons (.tup (.cons (.int 2) (.cons (.int 0) (.cons (.int 4) .nil)))) (.cons (.tup .nil) (.cons (.var 1) (.cons .non .nil))))) (.cons (.lst (.cons (.var 1) .nil)) .nil))))))) .nil)))) .nil) .nil) j__law_bent_tree_8
def f__law_bent_tree : Fn := ⟨n__law_bent_tree, ["deck", "tree"], c__law_bent_tree⟩
def j_pieces_in_1 : CSs := .cons (.ret (.bin .add (.bin .add (.bi .list (.cons (.ix (.var 0) (.int 1)) .nil)) (.call "pieces_in" (.cons (.ix (.var 0) (.int 2)) .nil))) (.call "pieces_in" (.cons (.ix (.var 0) (.int 3)) .nil)))) .nil
def n_pieces_in : List Str := ["tree"]
def c_pieces_in : CSs := .cons (.ite (.cmp .isN (.var 0) .non) (.cons (.ret (.lst .nil)) .nil) .nil) j_pieces_in_1
def f_pieces_in : Fn := ⟨n_pieces_in, ["tree"], c_pieces_in⟩
def n_depth_of : List Str := ["tree"]
def c_depth_of : CSs := .cons (.ret (.ite (.cmp .isN (.var 0) .non) (.int 0) (.bin .add (.int 1) (.bi .max2 (.cons (.call "depth_of" (.cons (.ix (.var 0) (.int 2)) .nil)) (.cons (.call "depth_of" (.cons (.ix (.var 0) (.int 3)) .nil)) .nil)))))) .nil
def f_depth_of : Fn := ⟨n_depth_of, ["tree"], c_depth_of⟩
def j_path_to_1 : CSs := .cons (.asg 2 (.bin .add (.var 2) (.tup (.cons (.ite (.cmp .gt (.var 3) (.int 0)) (.con "LEFT" (.inr "left")) (.con "RIGHT" (.inr "right"))) .nil)))) (.cons (.asg 0 (.ite (.cmp .gt (.var 3) (.int 0)) (.ix (.var 0) (.int 2)) (.ix (.var 0) (.int 3)))) .nil)
def t_path_to_1 : CT := .cmp .notN (.var 0) .non
def b_path_to_1 : CSs := .cons (.asg 3 (.call "side_raw" (.cons (.ix (.var 0) (.int 0)) (.cons (.var 1) .nil)))) (.cons (.ite (.cmp .eq (.var 3) (.int 0)) (.cons (.ret .non) .nil) .nil) j_path_to_1)
def j_path_to_2 : CSs := .cons (.ret (.var 2)) .nil
def n_path_to : List Str := ["tree", "p", "found", "side"]
def c_path_to : CSs := .cons (.asg 2 (.tup .nil)) (.cons (.whl t_path_to_1 b_path_to_1) j_path_to_2)
def f_path_to : Fn := ⟨n_path_to, ["tree", "p"], c_path_to⟩
def n__law_pieces_of : List Str := ["tree"]
def c__law_pieces_of : CSs := .cons (.ret (.ite (.cmp .isN (.var 0) .non) (.lst .nil) (.bin .add (.bin .add (.bi .list (.cons (.ix (.var 0) (.int 1)) .nil)) (.call "_law_pieces_of" (.cons (.ix (.var 0) (.int 2)) .nil))) (.call "_law_pieces_of" (.cons (.ix (.var 0) (.int 3)) .nil))))) .nil
def f__law_pieces_of : Fn := ⟨n__law_pieces_of, ["tree"], c__law_pieces_of⟩
def b__law_along_1 : CSs := .cons (.par [11, 12] [false, false] (.cons (.ix (.var 8) (.int 1)) (.cons (.ix (.var 10) (.int 1)) .nil))) (.cons (.asg 13 (.bin .add (.bin .mul (.bin .sub (.bin .mul (.ix (.var 11) (.int 0)) (.ix (.var 12) (.int 2))) (.bin .mul (.ix (.var 12) (.int 0)) (.ix (.var 11) (.int 2)))) (.ix (.var 6) (.int 0))) (.bin .mul (.bin .sub (.bin .mul (.ix (.var 11) (.int 1)) (.ix (.var 12) (.int 2))) (.bin .mul (.ix (.var 12) (.int 1)) (.ix (.var 11) (.int 2)))) (.ix (.var 6) (.int 1))))) (.cons (.asg 10 (.ite (.cmp .lt (.var 13) (.int 0)) (.var 8) (.var 10))) .nil))
def j__law_along_1 : CSs := .cons (.app 2 (.var 10)) (.cons (.asg 7 (.lc [("piece", 8)] (.one 8) (.seq (.var 7)) (.yes (.cmp .ne (.var 8) (.var 10))) (.var 8))) .nil)
def b__law_along_2 : CSs := .cons (.asg 10 (.ix (.var 7) (.int 0))) (.cons (.for (.one 8) (.seq (.sl (.var 7) (.yes (.int 1)) .no)) b__law_along_1) j__law_along_1)
def b__law_along_3 : CSs := .cons (.asg 6 (.tup (.cons (.bin .sub (.ix (.var 5) (.int 0)) (.ix (.var 4) (.int 0))) (.cons (.bin .sub (.ix (.var 5) (.int 1)) (.ix (.var 4) (.int 1))) .nil)))) (.cons (.asg 7 (.lc [("piece", 8)] (.one 8) (.seq (.var 1)) (.yes (.cmp .eq (.ix (.var 8) (.int 0)) (.var 3))) (.var 8))) (.cons (.for (.one 9) (.rng1 (.bi .len (.cons (.var 7) .nil))) b__law_along_2) .nil))
def j__law_along_2 : CSs := .cons (.ret (.bi .tuple (.cons (.var 2) .nil))) .nil
def n__law_along : List Str := ["plan", "pieces", "found", "name", "p", "q", "direction", "some", "piece", "turn", "first", "near", "far", "ahead"]
def c__law_along : CSs := .cons (.asgL 2 (.lst .nil)) (.cons (.for (.tup (.cons (.one 3) (.cons (.one 4) (.cons (.one 5) .nil)))) (.seq (.var 0)) b__law_along_3) j__law_along_2)
def f__law_along : Fn := ⟨n__law_along, ["plan", "pieces"], c__law_along⟩
def n__law_depth : List Str := ["tree"]
def c__law_depth : CSs := .cons (.ret (.ite (.cmp .isN (.var 0) .non) (.int 0) (.bin .add (.int 1) (.bi .max2 (.cons (.call "_law_depth" (.cons (.ix (.var 0) (.int 2)) .nil)) (.cons (.call "_law_depth" (.cons (.ix (.var 0) (.int 3)) .nil)) .nil)))))) .nil
def f__law_depth : Fn := ⟨n__law_depth, ["tree"], c__law_depth⟩
def j__law_cell_path_1 : CSs := .cons (.app 2 (.ite (.cmp .gt (.var 4) (.int 0)) (.str "left") (.str "right"))) (.cons (.asg 0 (.ite (.cmp .gt (.var 4) (.int 0)) (.ix (.var 0) (.int 2)) (.ix (.var 0) (.int 3)))) .nil)
def j__law_cell_path_2 : CSs := .cons (.asg 4 (.call "_law_side" (.cons (.ix (.var 0) (.int 0)) (.cons (.var 1) .nil)))) (.cons (.ite (.cmp .eq (.var 4) (.int 0)) (.cons (.ret .non) .nil) .nil) j__law_cell_path_1)
def b__law_cell_path_1 : CSs := .cons (.ite (.cmp .isN (.var 0) .non) (.cons (.ret (.bi .tuple (.cons (.var 2) .nil))) .nil) .nil) j__law_cell_path_2
def j__law_cell_path_3 : CSs := .cons (.ret .non) .nil
def n__law_cell_path : List Str := ["tree", "p", "found", "turn", "side"]
def c__law_cell_path : CSs := .cons (.asgL 2 (.lst .nil)) (.cons (.for (.one 3) (.rng1 (.int 41)) b__law_cell_path_1) j__law_cell_path_3)
def f__law_cell_path : Fn := ⟨n__law_cell_path, ["tree", "p"], c__law_cell_path⟩
def n__law_is_further : List Str := ["p", "q", "m", "n", "direction"]
def c__law_is_further : CSs := .cons (.asg 4 (.tup (.cons (.bin .sub (.ix (.var 1) (.int 0)) (.ix (.var 0) (.int 0))) (.cons (.bin .sub (.ix (.var 1) (.int 1)) (.ix (.var 0) (.int 1))) .nil)))) (.cons (.ret (.cmp .gt (.bin .add (.bin .mul (.bin .sub (.bin .mul (.ix (.var 3) (.int 0)) (.ix (.var 2) (.int 2))) (.bin .mul (.ix (.var 2) (.int 0)) (.ix (.var 3) (.int 2)))) (.ix (.var 4) (.int 0))) (.bin .mul (.bin .sub (.bin .mul (.ix (.var 3) (.int 1)) (.ix (.var 2) (.int 2))) (.bin .mul (.ix (.var 2) (.int 1)) (.ix (.var 3) (.int 2)))) (.ix (.var 4) (.int 1)))) (.int 0))) .nil)
def f__law_is_further : Fn := ⟨n__law_is_further, ["p", "q", "m", "n"], c__law_is_further⟩
def n__law_is_in : List Str := ["plan", "it", "x"]
def c__law_is_in : CSs := .cons (.ret (.and (.cmp .lt (.bi .len (.cons (.var 0) .nil)) (.int 10)) (.cmp .eq (.lc [("it", 1)] (.one 1) (.seq (.var 0)) (.yes (.cmp .gt (.bi .maxL (.cons (.lc [("x", 2)] (.one 2) (.seq (.bin .add (.ix (.var 1) (.int 1)) (.ix (.var 1) (.int 2)))) .no (.bi .abs (.cons (.var 2) .nil))) .nil)) (.int 60))) (.var 1)) (.lst .nil)))) .nil
def f__law_is_in : Fn := ⟨n__law_is_in, ["plan"], c__law_is_in⟩
def tb : List (Str × Fn) := (("is_integer" : Str), f_is_integer) :: (("are_integers" : Str), f_are_integers) :: (("is_place_value" : Str), f_is_place_value) :: (("is_line_value" : Str), f_is_line_value) :: (("is_direction_value" : Str), f_is_direction_value) :: (("is_place" : Str), f_is_place) :: (("is_line" : Str), f_is_line) :: (("is_direction" : Str), f_is_direction) :: (("_law_draw" : Str), f__law_draw) :: (("_law_pick" : Str), f__law_pick) :: (("_law_is_integer" : Str), f__law_is_integer) :: (("_law_any" : Str), f__law_any) :: (("_law_instead" : Str), f__law_instead) :: (("_law_bent" : Str), f__law_bent) :: (("_law_are_integers" : Str), f__law_are_integers) :: (("_law_divisor" : Str), f__law_divisor) :: (("_law_least" : Str), f__law_least) :: (("_law_is_place" : Str), f__law_is_place) :: (("_law_is_line" : Str), f__law_is_line) :: (("_law_is_direction" : Str), f__law_is_direction) :: (("_law_row" : Str), f__law_row) :: (("place_raw" : Str), f_place_raw) :: (("place" : Str), f_place) :: (("_law_place" : Str), f__law_place) :: (("_law_number" : Str), f__law_number) :: (("need_place" : Str), f_need_place) :: (("need_line" : Str), f_need_line) :: (("line_raw" : Str), f_line_raw) :: (("through_raw" : Str), f_through_raw) :: (("worth" : Str), f_worth) :: (("sign" : Str), f_sign) :: (("side_raw" : Str), f_side_raw) :: (("through" : Str), f_through) :: (("side" : Str), f_side) :: (("_law_cross" : Str), f__law_cross) :: (("_law_through" : Str), f__law_through) :: (("_law_worth" : Str), f__law_worth) :: (("_law_sign" : Str), f__law_sign) :: (("_law_side" : Str), f__law_side) :: (("_law_turn" : Str), f__law_turn) :: (("_law_drawn_place" : Str), f__law_drawn_place) :: (("_law_area" : Str), f__law_area) :: (("meeting_raw" : Str), f_meeting_raw) :: (("meeting" : Str), f_meeting) :: (("_law_meeting" : Str), f__law_meeting) :: (("_law_line" : Str), f__law_line) :: (("_law_moved" : Str), f__law_moved) :: (("corner" : Str), f_corner) :: (("direction_raw" : Str), f_direction_raw) :: (("direction_to" : Str), f_direction_to) :: (("dot" : Str), f_dot) :: (("is_inside" : Str), f_is_inside) :: (("vector" : Str), f_vector) :: (("is_on" : Str), f_is_on) :: (("is_sooner" : Str), f_is_sooner) :: (("in_order" : Str), f_in_order) :: (("common_part" : Str), f_common_part) :: (("is_name" : Str), f_is_name) :: (("is_segment" : Str), f_is_segment) :: (("are_segments" : Str), f_are_segments) :: (("ends" : Str), f_ends) :: (("do_clash" : Str), f_do_clash) :: (("fault_of" : Str), f_fault_of) :: (("is_plan_value" : Str), f_is_plan_value) :: (("is_plan" : Str), f_is_plan) :: (("_law_is_name" : Str), f__law_is_name) :: (("_law_is_segment" : Str), f__law_is_segment) :: (("_law_is_crossed" : Str), f__law_is_crossed) :: (("_law_are_segments" : Str), f__law_are_segments) :: (("_law_fault" : Str), f__law_fault) :: (("_law_is_plan" : Str), f__law_is_plan) :: (("_law_layouts" : Str), f__law_layouts) :: (("_law_names" : Str), f__law_names) :: (("_law_free" : Str), f__law_free) :: (("_law_drawn_plan" : Str), f__law_drawn_plan) :: (("_law_spoilt" : Str), f__law_spoilt) :: (("_law_crossed_plan" : Str), f__law_crossed_plan) :: (("fault" : Str), f_fault) :: (("need_plan" : Str), f_need_plan) :: (("integer_of" : Str), f_integer_of) :: (("_law_order" : Str), f__law_order) :: (("_law_read_integer" : Str), f__law_read_integer) :: (("names_of" : Str), f_names_of) :: (("whole_pieces" : Str), f_whole_pieces) :: (("sides_of" : Str), f_sides_of) :: (("cut" : Str), f_cut) :: (("joined" : Str), f_joined) :: (("are_same" : Str), f_are_same) :: (("is_same_piece" : Str), f_is_same_piece) :: (("is_same_place" : Str), f_is_same_place) :: (("_law_whole" : Str), f__law_whole) :: (("_law_parted" : Str), f__law_parted) :: (("_law_many" : Str), f__law_many) :: (("_law_nodes" : Str), f__law_nodes) :: (("_law_free_line" : Str), f__law_free_line) :: (("_law_tree" : Str), f__law_tree) :: (("_law_is_tree" : Str), f__law_is_tree) :: (("_law_bent_tree" : Str), f__law_bent_tree) :: (("pieces_in" : Str), f_pieces_in) :: (("depth_of" : Str), f_depth_of) :: (("path_to" : Str), f_path_to) :: (("_law_pieces_of" : Str), f__law_pieces_of) :: (("_law_along" : Str), f__law_along) :: (("_law_depth" : Str), f__law_depth) :: (("_law_cell_path" : Str), f__law_cell_path) :: (("_law_is_further" : Str), f__law_is_further) :: (("_law_is_in" : Str), f__law_is_in) :: []
def T : Tb := fun f => tb.lookup f
theorem T_is_integer : T "is_integer" = some f_is_integer := by kernel_rfl
theorem T_are_integers : T "are_integers" = some f_are_integers := by kernel_rfl
theorem T_is_place_value : T "is_place_value" = some f_is_place_value := by kernel_rfl
theorem T_is_line_value : T "is_line_value" = some f_is_line_value := by kernel_rfl
theorem T_is_direction_value : T "is_direction_value" = some f_is_direction_value := by kernel_rfl
theorem T_is_place : T "is_place" = some f_is_place := by kernel_rfl
theorem T_is_line : T "is_line" = some f_is_line := by kernel_rfl
theorem T_is_direction : T "is_direction" = some f_is_direction := by kernel_rfl
theorem T__law_draw : T "_law_draw" = some f__law_draw := by kernel_rfl
theorem T__law_pick : T "_law_pick" = some f__law_pick := by kernel_rfl
theorem T__law_is_integer : T "_law_is_integer" = some f__law_is_integer := by kernel_rfl
theorem T__law_any : T "_law_any" = some f__law_any := by kernel_rfl
theorem T__law_instead : T "_law_instead" = some f__law_instead := by kernel_rfl
theorem T__law_bent : T "_law_bent" = some f__law_bent := by kernel_rfl
theorem T__law_are_integers : T "_law_are_integers" = some f__law_are_integers := by kernel_rfl
theorem T__law_divisor : T "_law_divisor" = some f__law_divisor := by kernel_rfl
theorem T__law_least : T "_law_least" = some f__law_least := by kernel_rfl
theorem T__law_is_place : T "_law_is_place" = some f__law_is_place := by kernel_rfl
theorem T__law_is_line : T "_law_is_line" = some f__law_is_line := by kernel_rfl
theorem T__law_is_direction : T "_law_is_direction" = some f__law_is_direction := by kernel_rfl
theorem T__law_row : T "_law_row" = some f__law_row := by kernel_rfl
theorem T_place_raw : T "place_raw" = some f_place_raw := by kernel_rfl
theorem T_place : T "place" = some f_place := by kernel_rfl
theorem T__law_place : T "_law_place" = some f__law_place := by kernel_rfl
theorem T__law_number : T "_law_number" = some f__law_number := by kernel_rfl
theorem T_need_place : T "need_place" = some f_need_place := by kernel_rfl
theorem T_need_line : T "need_line" = some f_need_line := by kernel_rfl
theorem T_line_raw : T "line_raw" = some f_line_raw := by kernel_rfl
theorem T_through_raw : T "through_raw" = some f_through_raw := by kernel_rfl
theorem T_worth : T "worth" = some f_worth := by kernel_rfl
theorem T_sign : T "sign" = some f_sign := by kernel_rfl
theorem T_side_raw : T "side_raw" = some f_side_raw := by kernel_rfl
theorem T_through : T "through" = some f_through := by kernel_rfl
theorem T_side : T "side" = some f_side := by kernel_rfl
theorem T__law_cross : T "_law_cross" = some f__law_cross := by kernel_rfl
theorem T__law_through : T "_law_through" = some f__law_through := by kernel_rfl
theorem T__law_worth : T "_law_worth" = some f__law_worth := by kernel_rfl
theorem T__law_sign : T "_law_sign" = some f__law_sign := by kernel_rfl
theorem T__law_side : T "_law_side" = some f__law_side := by kernel_rfl
theorem T__law_turn : T "_law_turn" = some f__law_turn := by kernel_rfl
theorem T__law_drawn_place : T "_law_drawn_place" = some f__law_drawn_place := by kernel_rfl
theorem T__law_area : T "_law_area" = some f__law_area := by kernel_rfl
theorem T_meeting_raw : T "meeting_raw" = some f_meeting_raw := by kernel_rfl
theorem T_meeting : T "meeting" = some f_meeting := by kernel_rfl
theorem T__law_meeting : T "_law_meeting" = some f__law_meeting := by kernel_rfl
theorem T__law_line : T "_law_line" = some f__law_line := by kernel_rfl
theorem T__law_moved : T "_law_moved" = some f__law_moved := by kernel_rfl
theorem T_corner : T "corner" = some f_corner := by kernel_rfl
theorem T_direction_raw : T "direction_raw" = some f_direction_raw := by kernel_rfl
theorem T_direction_to : T "direction_to" = some f_direction_to := by kernel_rfl
theorem T_dot : T "dot" = some f_dot := by kernel_rfl
theorem T_is_inside : T "is_inside" = some f_is_inside := by kernel_rfl
theorem T_vector : T "vector" = some f_vector := by kernel_rfl
theorem T_is_on : T "is_on" = some f_is_on := by kernel_rfl
theorem T_is_sooner : T "is_sooner" = some f_is_sooner := by kernel_rfl
theorem T_in_order : T "in_order" = some f_in_order := by kernel_rfl
theorem T_common_part : T "common_part" = some f_common_part := by kernel_rfl
theorem T_is_name : T "is_name" = some f_is_name := by kernel_rfl
theorem T_is_segment : T "is_segment" = some f_is_segment := by kernel_rfl
theorem T_are_segments : T "are_segments" = some f_are_segments := by kernel_rfl
theorem T_ends : T "ends" = some f_ends := by kernel_rfl
theorem T_do_clash : T "do_clash" = some f_do_clash := by kernel_rfl
theorem T_fault_of : T "fault_of" = some f_fault_of := by kernel_rfl
theorem T_is_plan_value : T "is_plan_value" = some f_is_plan_value := by kernel_rfl
theorem T_is_plan : T "is_plan" = some f_is_plan := by kernel_rfl
theorem T__law_is_name : T "_law_is_name" = some f__law_is_name := by kernel_rfl
theorem T__law_is_segment : T "_law_is_segment" = some f__law_is_segment := by kernel_rfl
theorem T__law_is_crossed : T "_law_is_crossed" = some f__law_is_crossed := by kernel_rfl
theorem T__law_are_segments : T "_law_are_segments" = some f__law_are_segments := by kernel_rfl
theorem T__law_fault : T "_law_fault" = some f__law_fault := by kernel_rfl
theorem T__law_is_plan : T "_law_is_plan" = some f__law_is_plan := by kernel_rfl
theorem T__law_layouts : T "_law_layouts" = some f__law_layouts := by kernel_rfl
theorem T__law_names : T "_law_names" = some f__law_names := by kernel_rfl
theorem T__law_free : T "_law_free" = some f__law_free := by kernel_rfl
theorem T__law_drawn_plan : T "_law_drawn_plan" = some f__law_drawn_plan := by kernel_rfl
theorem T__law_spoilt : T "_law_spoilt" = some f__law_spoilt := by kernel_rfl
theorem T__law_crossed_plan : T "_law_crossed_plan" = some f__law_crossed_plan := by kernel_rfl
theorem T_fault : T "fault" = some f_fault := by kernel_rfl
theorem T_need_plan : T "need_plan" = some f_need_plan := by kernel_rfl
theorem T_integer_of : T "integer_of" = some f_integer_of := by kernel_rfl
theorem T__law_order : T "_law_order" = some f__law_order := by kernel_rfl
theorem T__law_read_integer : T "_law_read_integer" = some f__law_read_integer := by kernel_rfl
theorem T_names_of : T "names_of" = some f_names_of := by kernel_rfl
theorem T_whole_pieces : T "whole_pieces" = some f_whole_pieces := by kernel_rfl
theorem T_sides_of : T "sides_of" = some f_sides_of := by kernel_rfl
theorem T_cut : T "cut" = some f_cut := by kernel_rfl
theorem T_joined : T "joined" = some f_joined := by kernel_rfl
theorem T_are_same : T "are_same" = some f_are_same := by kernel_rfl
theorem T_is_same_piece : T "is_same_piece" = some f_is_same_piece := by kernel_rfl
theorem T_is_same_place : T "is_same_place" = some f_is_same_place := by kernel_rfl
theorem T__law_whole : T "_law_whole" = some f__law_whole := by kernel_rfl
theorem T__law_parted : T "_law_parted" = some f__law_parted := by kernel_rfl
theorem T__law_many : T "_law_many" = some f__law_many := by kernel_rfl
theorem T__law_nodes : T "_law_nodes" = some f__law_nodes := by kernel_rfl
theorem T__law_free_line : T "_law_free_line" = some f__law_free_line := by kernel_rfl
theorem T__law_tree : T "_law_tree" = some f__law_tree := by kernel_rfl
theorem T__law_is_tree : T "_law_is_tree" = some f__law_is_tree := by kernel_rfl
theorem T__law_bent_tree : T "_law_bent_tree" = some f__law_bent_tree := by kernel_rfl
theorem T_pieces_in : T "pieces_in" = some f_pieces_in := by kernel_rfl
theorem T_depth_of : T "depth_of" = some f_depth_of := by kernel_rfl
theorem T_path_to : T "path_to" = some f_path_to := by kernel_rfl
theorem T__law_pieces_of : T "_law_pieces_of" = some f__law_pieces_of := by kernel_rfl
theorem T__law_along : T "_law_along" = some f__law_along := by kernel_rfl
theorem T__law_depth : T "_law_depth" = some f__law_depth := by kernel_rfl
theorem T__law_cell_path : T "_law_cell_path" = some f__law_cell_path := by kernel_rfl
theorem T__law_is_further : T "_law_is_further" = some f__law_is_further := by kernel_rfl
theorem T__law_is_in : T "_law_is_in" = some f__law_is_in := by kernel_rfl
end Law

end
section
set_option Elab.async false
set_option linter.all false
set_option maxRecDepth 100000
namespace Law
open PySem Ey
theorem fmod_in (a k : Int) (h : 0 < k) : 0 ≤ a.fmod k ∧ a.fmod k < k := ⟨Int.fmod_nonneg_of_pos a h, Int.fmod_lt_of_pos a h⟩
theorem cm_r {i j : Int} (h : (-(2 ^ 64) < j ∧ j < 2 ^ 64)) : L2.CMul i j ∨ L2.CMulW i j := .inl (.inr h)
theorem draw_spec (n : Nat) (k : Int) (hk : 0 < k) (h2 : k < 2 ^ 64) (Q : DP) (E : EPo) (h : ∀ i : Int, 0 ≤ i → i < k → Q (.int i)) : phi T (n + 1) "_law_draw" [deckD, .int k] Q E := by
  refine ⟨_, T__law_draw, rfl, ?_⟩
  have hq : ∀ a : Int, Q (.int (a.fmod k)) := fun a => h _ (fmod_in a k hk).1 (fmod_in a k hk).2
  show wpSs _ _ c__law_draw _ [.d deckD, .d (.int k), .no, .no]
  have f1 : ∀ a : Int, -18446744073709551616 < a.fmod 2147483647 ∧ a.fmod 2147483647 < 18446744073709551616 := fun a => by have := fmod_in a 2147483647 (by decide); omega
  have f2 : ∀ a : Int, -18446744073709551616 < a.fmod 2147483629 ∧ a.fmod 2147483629 < 18446744073709551616 := fun a => by have := fmod_in a 2147483629 (by decide); omega
  have l64 : Nat.log2 64 < 9000 := by decide
  have k0 : ¬ k = 0 := by omega
  have h2' : k < 18446744073709551616 := by omega
  simp [c__law_draw, j__law_draw_1, wpSs, wpS, wpE, wpEs, binW, biW, viewOf, viewFrom, vE, vEs, aft, noList, noLists, L2.CMul, f1, f2, l64, k0, hk, h2', hq]
theorem pick_spec (n : Nat) (xs : List D) (hx : xs ≠ []) (hl : xs.length < 2 ^ 64) (Q : DP) (E : EPo) (h : ∀ x ∈ xs, Q x) : phi T (n + 2) "_law_pick" [deckD, .list xs] Q E := by
  refine ⟨_, T__law_pick, rfl, ?_⟩
  show wpSs _ _ c__law_pick _ [.d deckD, .d (.list xs)]
  have hp : 0 < xs.length := List.length_pos_iff.mpr hx
  simp only [c__law_pick, wpSs, wpS, wpE, wpEs, biW, viewOf, viewFrom, vE, vEs, List.cons_append, List.nil_append]
  simp only [List.getElem?_cons_zero, List.getElem?_cons_succ, Option.some.injEq, exists_eq_left', List.length_cons]
  refine draw_spec n _ (by omega) (by omega) _ _ fun i h0 h1 => ?_
  obtain ⟨j, rfl⟩ := Int.eq_ofNat_of_zero_le h0
  have hj : j < xs.length := by omega
  refine ⟨xs[j], ?_, h _ (List.getElem_mem hj)⟩
  simp [L2.atI, L2.ixN, hj]
def isI : D → Bool
  | .int _ => true
  | _ => false
theorem isint_spec (n : Nat) (x : D) (Q : DP) (E : EPo) (h : Q (.bool (isI x))) : phi T (n + 1) "is_integer" [x] Q E := by
  refine ⟨_, T_is_integer, rfl, ?_⟩
  show wpSs _ _ c_is_integer _ [.d x]
  cases x <;> simpa [c_is_integer, wpSs, wpS, wpE, isiD, viewOf, viewFrom, vE, isI] using h
theorem lc_map {step : D → (Option D → Prop) → Prop} {f : D → D} {Q : List D → Prop} : ∀ {xs acc : List D}, (∀ x ∈ xs, ∀ R : Option D → Prop, R (some (f x)) → step x R) → Q (acc ++ xs.map f) → lcGo step xs acc Q
  | [], acc, _, h => by simpa [lcGo] using h
  | x :: xs, acc, hs, h => by
    simp only [lcGo]
    refine hs x (List.mem_cons_self ..) _ ?_
    exact lc_map (fun y hy => hs y (List.mem_cons_of_mem _ hy)) (by simpa using h)
theorem lc_filter {step : D → (Option D → Prop) → Prop} {p : D → Bool} {f : D → D} {Q : List D → Prop} : ∀ {xs acc : List D}, (∀ x ∈ xs, ∀ R : Option D → Prop, R (if p x = true then some (f x) else none) → step x R) → Q (acc ++ (xs.filter p).map f) → lcGo step xs acc Q
  | [], acc, _, h => by simpa [lcGo] using h
  | x :: xs, acc, hs, h => by
    simp only [lcGo]
    refine hs x (List.mem_cons_self ..) _ ?_
    by_cases z : p x = true
    · rw [if_pos z]
      exact lc_filter (fun y hy => hs y (List.mem_cons_of_mem _ hy)) (by simpa [List.filter_cons, z] using h)
    · rw [if_neg z]
      exact lc_filter (fun y hy => hs y (List.mem_cons_of_mem _ hy)) (by simpa [List.filter_cons, z] using h)
theorem bools_map (f : D → Bool) : ∀ xs : List D, boolsOf (xs.map fun x => .bool (f x)) = some (xs.map f)
  | [] => rfl
  | x :: xs => by simp [boolsOf, bools_map f xs]
def areI (k : Int) : D → Bool
  | .tuple xs => decide ((xs.length : Int) = k) && xs.all isI
  | _ => false
theorem are_spec (n : Nat) (x : D) (k : Int) (hx : ∀ xs, x = .tuple xs → xs.length ≤ 100000) (Q : DP) (E : EPo) (h : Q (.bool (areI k x))) : phi T (n + 2) "are_integers" [x, .int k] Q E := by
  refine ⟨_, T_are_integers, rfl, ?_⟩
  show wpSs _ _ c_are_integers _ [.d x, .d (.int k), .no]
  cases x <;> try (simpa [c_are_integers, wpSs, wpS, wpE, isiD, viewOf, viewFrom, vE, vEs, vI, vTo, areI] using h)
  rename_i xs
  simp [c_are_integers, wpSs, wpS, wpE, wpEs, wpI, isiD, viewOf, viewFrom, vE, vEs, vI, vTo, biW, cmpW, eq_ints, PyData.eqv]
  by_cases e : (xs.length : Int) = k
  · rw [if_pos e]
    refine ⟨hx xs rfl, lc_map (f := fun x => .bool (isI x)) (fun x hx R hR => ?_) ?_⟩
    · simp [tgW, wipeD, wpTo, wpE, wpEs]
      exact isint_spec n x _ _ hR
    · refine ⟨xs.map isI, by simpa using bools_map isI xs, ?_⟩
      simpa [areI, e, List.all_map] using h
  · rw [if_neg e]
    simpa [areI, e] using h
theorem are3 {x : D} (h : areI 3 x = true) : ∃ a b c, x = .tuple [.int a, .int b, .int c] := by
  cases x <;> try (simp [areI] at h; done)
  rename_i xs
  simp [areI] at h
  obtain ⟨l, h⟩ := h
  match xs, l with
  | [a, b, c], _ =>
    have ha := h a (by simp)
    have hb := h b (by simp)
    have hc := h c (by simp)
    cases a <;> try (simp [isI] at ha; done)
    cases b <;> try (simp [isI] at hb; done)
    cases c <;> try (simp [isI] at hc; done)
    exact ⟨_, _, _, rfl⟩
  | [], l => simp at l
  | [_], l => simp at l
  | [_, _], l => simp at l
  | _ :: _ :: _ :: _ :: _, l => simp at l; omega
theorem are2 {x : D} (h : areI 2 x = true) : ∃ a b, x = .tuple [.int a, .int b] := by
  cases x <;> try (simp [areI] at h; done)
  rename_i xs
  simp [areI] at h
  obtain ⟨l, h⟩ := h
  match xs, l with
  | [a, b], _ =>
    have ha := h a (by simp)
    have hb := h b (by simp)
    cases a <;> try (simp [isI] at ha; done)
    cases b <;> try (simp [isI] at hb; done)
    exact ⟨_, _, rfl⟩
  | [], l => simp at l
  | [_], l => simp at l
  | _ :: _ :: _ :: _, l => simp at l; omega
def gcd3 (a b c : Int) : Nat := Nat.gcd (Nat.gcd a.natAbs b.natAbs) c.natAbs
def placeD : D → Bool
  | .tuple [.int a, .int b, .int c] => decide (1 ≤ c) && (((gcd3 a b c : Nat) : Int) == 1)
  | _ => false
def lineD : D → Bool
  | .tuple [.int a, .int b, .int c] => !(decide (a = 0) && decide (b = 0)) && (((gcd3 a b c : Nat) : Int) == 1)
  | _ => false
def dirD : D → Bool
  | .tuple [.int a, .int b] => (((Nat.gcd a.natAbs b.natAbs : Nat) : Int) == 1)
  | _ => false
def LenOk (x : D) : Prop := ∀ xs, x = .tuple xs → xs.length ≤ 100000
theorem placeD_no {x : D} (h : areI 3 x = false) : placeD x = false := by
  unfold placeD
  split
  · simp [areI, isI] at h
  · rfl
theorem lineD_no {x : D} (h : areI 3 x = false) : lineD x = false := by
  unfold lineD
  split
  · simp [areI, isI] at h
  · rfl
theorem dirD_no {x : D} (h : areI 2 x = false) : dirD x = false := by
  unfold dirD
  split
  · simp [areI, isI] at h
  · rfl
theorem placev_spec (n : Nat) (x : D) (hx : LenOk x) (Q : DP) (E : EPo) (h : Q (.bool (placeD x))) : phi T (n + 3) "is_place_value" [x] Q E := by
  refine ⟨_, T_is_place_value, rfl, ?_⟩
  show wpSs _ _ c_is_place_value _ [.d x]
  simp [c_is_place_value, wpSs, wpS, wpE, wpEs, viewOf, viewFrom, vE, vEs]
  refine are_spec n x 3 hx _ _ ?_
  cases e : areI 3 x with
  | false => exact .inl ⟨rfl, by rw [placeD_no e] at h; exact h⟩
  | true =>
    obtain ⟨a, b, c, rfl⟩ := are3 e
    refine .inr ⟨rfl, ?_⟩
    simp [ixW, cmpW, biW, L2.atI, L2.ixN, eq_ints, PyData.eqv, placeD, gcd3] at h ⊢
    by_cases z : 1 ≤ c
    · simpa [z] using h
    · simpa [z] using h
theorem linev_spec (n : Nat) (x : D) (hx : LenOk x) (Q : DP) (E : EPo) (h : Q (.bool (lineD x))) : phi T (n + 3) "is_line_value" [x] Q E := by
  refine ⟨_, T_is_line_value, rfl, ?_⟩
  show wpSs _ _ c_is_line_value _ [.d x]
  simp [c_is_line_value, j_is_line_value_1, wpSs, wpS, wpE, wpEs, wpT, wpP, truW, viewOf, viewFrom, vE, vEs, vT, vP]
  refine are_spec n x 3 hx _ _ ?_
  cases e : areI 3 x with
  | false => simpa [truW, lineD_no e] using h
  | true =>
    obtain ⟨a, b, c, rfl⟩ := are3 e
    have sh : shp (.tuple [.int a, .int b]) = true := by simp [shp, PyData.plain, PyData.plainAll, PyData.depth, PyData.depthAll]
    have sz : shp (.tuple [.int 0, .int 0]) = true := by simp [shp, PyData.plain, PyData.plainAll, PyData.depth, PyData.depthAll]
    have eq : EqOk (.tuple [.int a, .int b]) (.tuple [.int 0, .int 0]) := .inl ⟨sh, sz⟩
    simp [truW, slW, cutD, cutAt, cmpW, eq, PyData.eqv, PyData.eqvAll, ixW, biW, L2.atI, L2.ixN, eq_ints, lineD, gcd3] at h ⊢
    by_cases z : a = 0 ∧ b = 0
    · simpa [z.1, z.2] using h
    · rw [if_neg z]
      have : (!decide (a = 0) || !decide (b = 0)) = true := by
        by_cases w : a = 0
        · simp [w] at z ⊢; exact z
        · simp [w]
      simpa [this] using h
theorem dirv_spec (n : Nat) (x : D) (hx : LenOk x) (Q : DP) (E : EPo) (h : Q (.bool (dirD x))) : phi T (n + 3) "is_direction_value" [x] Q E := by
  refine ⟨_, T_is_direction_value, rfl, ?_⟩
  show wpSs _ _ c_is_direction_value _ [.d x]
  simp [c_is_direction_value, wpSs, wpS, wpE, wpEs, viewOf, viewFrom, vE, vEs]
  refine are_spec n x 2 hx _ _ ?_
  cases e : areI 2 x with
  | false => exact .inl ⟨rfl, by rw [dirD_no e] at h; exact h⟩
  | true =>
    obtain ⟨a, b, rfl⟩ := are2 e
    refine .inr ⟨rfl, ?_⟩
    simpa [ixW, cmpW, biW, L2.atI, L2.ixN, eq_ints, PyData.eqv, dirD] using h
theorem place_spec (n : Nat) (x : D) (hx : LenOk x) (Q : DP) (E : EPo) (h : Q (.bool (placeD x))) : phi T (n + 4) "is_place" [x] Q E := by
  refine ⟨_, T_is_place, rfl, ?_⟩
  show wpSs _ _ c_is_place _ [.d x]
  simp [c_is_place, wpSs, wpS, wpE, wpEs, viewOf, viewFrom, vE, vEs]
  exact placev_spec n x hx _ _ h
theorem line_spec (n : Nat) (x : D) (hx : LenOk x) (Q : DP) (E : EPo) (h : Q (.bool (lineD x))) : phi T (n + 4) "is_line" [x] Q E := by
  refine ⟨_, T_is_line, rfl, ?_⟩
  show wpSs _ _ c_is_line _ [.d x]
  simp [c_is_line, wpSs, wpS, wpE, wpEs, viewOf, viewFrom, vE, vEs]
  exact linev_spec n x hx _ _ h
theorem dir_spec (n : Nat) (x : D) (hx : LenOk x) (Q : DP) (E : EPo) (h : Q (.bool (dirD x))) : phi T (n + 4) "is_direction" [x] Q E := by
  refine ⟨_, T_is_direction, rfl, ?_⟩
  show wpSs _ _ c_is_direction _ [.d x]
  simp [c_is_direction, wpSs, wpS, wpE, wpEs, viewOf, viewFrom, vE, vEs]
  exact dirv_spec n x hx _ _ h
theorem lint_spec (n : Nat) (x : D) (Q : DP) (E : EPo) (h : Q (.bool (isI x))) : phi T (n + 1) "_law_is_integer" [x] Q E := by
  refine ⟨_, T__law_is_integer, rfl, ?_⟩
  show wpSs _ _ c__law_is_integer _ [.d x]
  cases x <;> simpa [c__law_is_integer, wpSs, wpS, wpE, isiD, viewOf, viewFrom, vE, isI] using h
theorem fl_nil (xs : List D) : (xs.filter fun x => !isI x).isEmpty = xs.all isI := by
  induction xs with
  | nil => rfl
  | cons x xs ih =>
    cases e : isI x with
    | true => simpa [List.filter_cons, e] using ih
    | false => simp [List.filter_cons, e]
theorem lare_spec (n : Nat) (x : D) (k : Int) (hx : LenOk x) (Q : DP) (E : EPo) (h : Q (.bool (areI k x))) : phi T (n + 2) "_law_are_integers" [x, .int k] Q E := by
  refine ⟨_, T__law_are_integers, rfl, ?_⟩
  show wpSs _ _ c__law_are_integers _ [.d x, .d (.int k), .no]
  cases x <;> try (simpa [c__law_are_integers, wpSs, wpS, wpE, isiD, viewOf, viewFrom, vE, vEs, vI, vTo, vT, areI] using h)
  rename_i xs
  simp [c__law_are_integers, wpSs, wpS, wpE, wpEs, wpI, isiD, viewOf, viewFrom, vE, vEs, vI, vTo, vT, biW, cmpW, eq_ints, PyData.eqv]
  by_cases e : (xs.length : Int) = k
  · rw [if_pos e]
    refine ⟨hx xs rfl, lc_filter (p := fun x => !isI x) (f := id) (fun x hx R hR => ?_) ?_⟩
    · simp [tgW, wipeD, wpTo, wpT, wpE, wpEs]
      refine lint_spec n x _ _ ?_
      cases w : isI x <;> simpa [truW, w] using hR
    · refine ⟨.inr (.inr ⟨_, rfl, rfl⟩), ?_⟩
      have q : PyData.eqvAll (([] : List D) ++ (xs.filter fun x => !isI x).map id) [] = xs.all isI := by
        rw [← fl_nil]
        cases xs.filter fun x => !isI x <;> simp [PyData.eqv, PyData.eqvAll]
      rw [q]
      simpa [areI, e] using h
  · rw [if_neg e]
    simpa [areI, e] using h
theorem euclid (n : Nat) (E : EPo) (De : En) (r f x : D) : ∀ (b a : Nat), De.nx [.d r, .d f, .d x, .d (.int (Nat.gcd a b)), .d (.int 0)] →
    ∃ m, whlGo (fun st Q => wpT (phi T n) t__law_divisor_1 E (viewOf (vT t__law_divisor_1) st) Q) (wpSs (phi T n) E b__law_divisor_1) De m [.d r, .d f, .d x, .d (.int a), .d (.int b)] := by
  intro b
  induction b using Nat.strongRecOn with
  | ind b ih =>
    intro a h
    by_cases z : b = 0
    · subst z
      refine ⟨1, ?_⟩
      simpa [whlGo, t__law_divisor_1, wpT, wpE, viewOf, viewFrom, vT, vE, cmpW, eq_ints, PyData.eqv] using h
    · have e : Nat.gcd a b = Nat.gcd b (a % b) := by rw [Nat.gcd_comm a b, Nat.gcd_rec b a, Nat.gcd_comm]
      obtain ⟨m, hm⟩ := ih (a % b) (Nat.mod_lt _ (Nat.pos_of_ne_zero z)) b (by rw [← e]; exact h)
      refine ⟨m + 1, ?_⟩
      have zi : ¬ ((b : Int) = 0) := by omega
      have zb : ((b : Int) == 0) = false := by simpa using z
      have fm : (a : Int).fmod (b : Int) = ((a % b : Nat) : Int) := by
        rw [Int.fmod_eq_emod_of_nonneg _ (by omega)]; simp
      simp only [whlGo]
      have tt : ∀ (st : Sls) (Q : Bool → Prop), wpT (phi T n) t__law_divisor_1 E (viewOf (vT t__law_divisor_1) [.d r, .d f, .d x, .d (.int a), .d (.int b)]) Q ↔ Q true := fun st Q => by
        simp [t__law_divisor_1, wpT, wpE, viewOf, viewFrom, vT, vE, cmpW, eq_ints, PyData.eqv, zb]
      rw [tt []]
      rw [if_pos rfl]
      generalize hW : whlGo (fun st Q => wpT (phi T n) t__law_divisor_1 E (viewOf (vT t__law_divisor_1) st) Q) (wpSs (phi T n) E b__law_divisor_1) De m = Wh at hm ⊢
      simp [b__law_divisor_1, wpE, wpEs, wpSs, wpS, viewOf, viewFrom, vT, vE, vEs, zi, binW, biW, parOk, setPar, noList, fm]
      exact ⟨z, by simpa using hm⟩
/-- the greatest divisor of a row of ints -/
def gcdL : Nat → List D → Nat
  | g, [] => g
  | g, .int i :: r => gcdL (Nat.gcd i.natAbs g) r
  | g, _ :: r => gcdL g r
theorem div_loop (n : Nat) (E : EPo) (De : En) (row : D) : ∀ (ys : List D) (g : Nat) (z1 z2 z3 : Option D), (∀ y ∈ ys, isI y = true) → (∀ z1 z2 z3 : Option D, De.nx [.d row, .d (.int (gcdL g ys : Nat)), (z1.map Sl.d).getD .no, (z2.map Sl.d).getD .no, (z3.map Sl.d).getD .no]) →
    forGo (.one 2) (wpSs (phi T n) E b__law_divisor_2) De ys [.d row, .d (.int g), (z1.map Sl.d).getD .no, (z2.map Sl.d).getD .no, (z3.map Sl.d).getD .no] := by
  intro ys
  induction ys with
  | nil =>
    intro g z1 z2 z3 _ hq
    simpa [forGo, gcdL] using hq z1 z2 z3
  | cons y ys ih =>
    intro g z1 z2 z3 hy hq
    have hi := hy y (List.mem_cons_self ..)
    cases y <;> try (simp [isI] at hi; done)
    rename_i i
    simp only [forGo, tgW]
    have ab : (if i < 0 then -i else i) = ((i.natAbs : Nat) : Int) := by split <;> omega
    have fin := ih (Nat.gcd i.natAbs g) (some (.int i)) (some (.int (Nat.gcd i.natAbs g : Nat))) (some (.int 0)) (fun w hw => hy w (List.mem_cons_of_mem _ hw)) (by simpa [gcdL] using hq)
    generalize hF : forGo (.one 2) (wpSs (phi T n) E b__law_divisor_2) De ys = Fo at fin ⊢
    cases z2 <;> cases z3 <;>
      (simp [b__law_divisor_2, j__law_divisor_1, wpSs, wpS, wpE, wpEs, viewOf, viewFrom, vE, vEs, biW, parOk, setPar, noList, ab]
       refine euclid n E _ row (.int g) (.int i) g i.natAbs ?_
       simp [wpSs, wpS, wpE, viewOf, viewFrom, vE, aft, noList]
       simpa using fin)
theorem div_spec (n : Nat) (xs : List D) (hx : xs.all isI = true) (Q : DP) (E : EPo) (h : Q (.int (gcdL 0 xs : Nat))) : phi T (n + 1) "_law_divisor" [.tuple xs] Q E := by
  refine ⟨_, T__law_divisor, rfl, ?_⟩
  show wpSs _ _ c__law_divisor _ [.d (.tuple xs), .no, .no, .no, .no]
  simp [c__law_divisor, j__law_divisor_2, wpSs, wpS, wpE, wpI, viewOf, viewFrom, vE, vI, aft, noList, frz, frz1]
  refine div_loop n E _ (.tuple xs) xs 0 none none none (fun y hy => List.all_eq_true.mp hx y hy) fun z1 z2 z3 => ?_
  cases z1 <;> cases z2 <;> cases z3 <;> simpa [wpSs, wpS, wpE, viewOf, viewFrom, vE] using h
theorem gcdL3 (a b c : Int) : gcdL 0 [.int a, .int b, .int c] = gcd3 a b c := by
  simp [gcdL, gcd3]
  rw [Nat.gcd_comm, Nat.gcd_comm b.natAbs]
theorem gcdL2 (a b : Int) : gcdL 0 [.int a, .int b] = Nat.gcd a.natAbs b.natAbs := by
  simp [gcdL]
  rw [Nat.gcd_comm]
theorem lplace_spec (n : Nat) (x : D) (hx : LenOk x) (Q : DP) (E : EPo) (h : Q (.bool (placeD x))) : phi T (n + 3) "_law_is_place" [x] Q E := by
  refine ⟨_, T__law_is_place, rfl, ?_⟩
  show wpSs _ _ c__law_is_place _ [.d x]
  simp [c__law_is_place, wpSs, wpS, wpE, wpEs, viewOf, viewFrom, vE, vEs]
  refine lare_spec n x 3 hx _ _ ?_
  cases e : areI 3 x with
  | false => exact .inl ⟨rfl, by rw [placeD_no e] at h; exact h⟩
  | true =>
    obtain ⟨a, b, c, rfl⟩ := are3 e
    refine .inr ⟨rfl, ?_⟩
    simp [ixW, cmpW, L2.atI, L2.ixN, placeD] at h ⊢
    by_cases z : 1 ≤ c
    · rw [if_pos (by omega)]
      refine div_spec (n + 1) _ (by simp [isI]) _ _ ?_
      rw [gcdL3]
      refine ⟨eq_ints, ?_⟩
      simpa [z, PyData.eqv] using h
    · rw [if_neg (by omega)]
      simpa [z] using h
theorem lline_spec (n : Nat) (x : D) (hx : LenOk x) (Q : DP) (E : EPo) (h : Q (.bool (lineD x))) : phi T (n + 3) "_law_is_line" [x] Q E := by
  refine ⟨_, T__law_is_line, rfl, ?_⟩
  show wpSs _ _ c__law_is_line _ [.d x]
  simp [c__law_is_line, wpSs, wpS, wpE, wpEs, wpP, viewOf, viewFrom, vE, vEs, vP]
  refine lare_spec n x 3 hx _ _ ?_
  cases e : areI 3 x with
  | false => exact .inl ⟨rfl, by rw [lineD_no e] at h; exact h⟩
  | true =>
    obtain ⟨a, b, c, rfl⟩ := are3 e
    refine .inr ⟨rfl, ?_⟩
    have sh : shp (.tuple [.int a, .int b]) = true := by simp [shp, PyData.plain, PyData.plainAll, PyData.depth, PyData.depthAll]
    have sz : shp (.tuple [.int 0, .int 0]) = true := by simp [shp, PyData.plain, PyData.plainAll, PyData.depth, PyData.depthAll]
    have eq : EqOk (.tuple [.int a, .int b]) (.tuple [.int 0, .int 0]) := .inl ⟨sh, sz⟩
    simp [slW, cutD, cutAt, cmpW, eq, PyData.eqv, PyData.eqvAll, lineD] at h ⊢
    by_cases z : a = 0 ∧ b = 0
    · simpa [z.1, z.2] using h
    · have w : a = 0 → ¬ b = 0 := fun q r => z ⟨q, r⟩
      have : (!decide (a = 0) || !decide (b = 0)) = true := by
        by_cases q : a = 0
        · simp [q, w q]
        · simp [q]
      rw [if_pos (by by_cases q : a = 0 <;> simp [q, w])]
      refine div_spec (n + 1) _ (by simp [isI]) _ _ ?_
      rw [gcdL3]
      refine ⟨eq_ints, ?_⟩
      simpa [this, PyData.eqv] using h
theorem ldir_spec (n : Nat) (x : D) (hx : LenOk x) (Q : DP) (E : EPo) (h : Q (.bool (dirD x))) : phi T (n + 3) "_law_is_direction" [x] Q E := by
  refine ⟨_, T__law_is_direction, rfl, ?_⟩
  show wpSs _ _ c__law_is_direction _ [.d x]
  simp [c__law_is_direction, wpSs, wpS, wpE, wpEs, viewOf, viewFrom, vE, vEs]
  refine lare_spec n x 2 hx _ _ ?_
  cases e : areI 2 x with
  | false => exact .inl ⟨rfl, by rw [dirD_no e] at h; exact h⟩
  | true =>
    obtain ⟨a, b, rfl⟩ := are2 e
    refine .inr ⟨rfl, ?_⟩
    refine div_spec (n + 1) _ (by simp [isI]) _ _ ?_
    rw [gcdL2]
    exact ⟨eq_ints, by simpa [PyData.eqv, dirD] using h⟩
def Ints (B : Nat) (xs : List D) : Prop := ∀ x ∈ xs, ∃ i : Int, x = .int i ∧ i.natAbs ≤ B
theorem Ints.all {B : Nat} {xs : List D} (h : Ints B xs) : xs.all isI = true := List.all_eq_true.mpr fun x hx => by
  obtain ⟨i, rfl, _⟩ := h x hx
  rfl
theorem gcdL_dvd : ∀ (xs : List D) (g : Nat), gcdL g xs ∣ g ∧ ∀ i : Int, PyData.int i ∈ xs → gcdL g xs ∣ i.natAbs
  | [], g => ⟨Nat.dvd_refl _, fun i h => by simp at h⟩
  | x :: xs, g => by
    cases x <;> try (
      simp only [gcdL]
      obtain ⟨a, b⟩ := gcdL_dvd xs g
      exact ⟨a, fun i h => b i (by simpa using h)⟩)
    rename_i j
    simp only [gcdL]
    obtain ⟨a, b⟩ := gcdL_dvd xs (Nat.gcd j.natAbs g)
    refine ⟨Nat.dvd_trans a (Nat.gcd_dvd_right _ _), fun i h => ?_⟩
    rcases List.mem_cons.mp h with z | z
    · have : i = j := by simpa using z
      subst this
      exact Nat.dvd_trans a (Nat.gcd_dvd_left _ _)
    · exact b i z
theorem least_spec (n : Nat) (xs : List D) (B : Nat) (hB : B < 2 ^ 1000) (hx : Ints B xs) (hl : xs.length ≤ 1000) (nz : ∃ i : Int, PyData.int i ∈ xs ∧ i ≠ 0) (Q : DP) (E : EPo) (h : ∀ ys, ys.length = xs.length → Ints B ys → Q (.tuple ys)) : phi T (n + 2) "_law_least" [.tuple xs] Q E := by
  refine ⟨_, T__law_least, rfl, ?_⟩
  show wpSs _ _ c__law_least _ [.d (.tuple xs), .no, .no]
  simp [c__law_least, wpSs, wpS, wpE, wpEs, viewOf, viewFrom, vE, vEs]
  refine div_spec n _ hx.all _ _ ?_
  obtain ⟨i, hi, i0⟩ := nz
  have dv := (gcdL_dvd xs 0).2 i hi
  have g0 : gcdL 0 xs ≠ 0 := fun z => by
    rw [z, Nat.zero_dvd] at dv
    omega
  have gB : gcdL 0 xs ≤ B := by
    have h1 := Nat.le_of_dvd (by omega) dv
    obtain ⟨k, e, hk⟩ := hx _ hi
    have : i = k := by simpa using e
    subst this
    omega
  have lg : (((gcdL 0 xs : Nat) : Int)).natAbs.log2 < 9000 := by
    rw [Int.natAbs_natCast]
    exact Nat.lt_of_lt_of_le ((Nat.log2_lt g0).mpr (Nat.lt_of_le_of_lt gB hB)) (by decide)
  rw [Int.natAbs_natCast] at lg
  generalize gcdL 0 xs = g at g0 gB lg
  simp [wpSs, wpS, wpE, wpEs, wpI, viewOf, viewFrom, vE, vEs, vI, vTo, aft, noList, noLists]
  refine ⟨by omega, lc_map (f := fun x => match x with | .int j => .int (j.fdiv g) | d => d) (fun x hx' R hR => ?_) ?_⟩
  · obtain ⟨j, rfl, _⟩ := hx x hx'
    simpa [tgW, wipeD, wpTo, wpE, binW, g0, lg] using hR
  · refine h _ (by simp) fun y hy => ?_
    simp only [List.nil_append, List.mem_map] at hy
    obtain ⟨x, hx', rfl⟩ := hy
    obtain ⟨j, rfl, hj⟩ := hx x hx'
    refine ⟨j.fdiv g, rfl, ?_⟩
    have gp : (0 : Int) < (g : Int) := by omega
    rw [Int.fdiv_eq_ediv_of_nonneg _ (by omega)]
    by_cases s : 0 ≤ j
    · have h1 := Int.ediv_le_self (g : Int) s
      have h2 := Int.ediv_nonneg s (Int.le_of_lt gp)
      omega
    · have h1 : j ≤ j / (g : Int) := Int.le_ediv_of_mul_le gp (by
        have : j * (g : Int) ≤ j * 1 := Int.mul_le_mul_of_nonpos_left (by omega) (by omega)
        omega)
      have h2 := Int.ediv_neg_of_neg_of_pos (by omega : j < 0) gp
      omega
theorem lc_any {step : D → (Option D → Prop) → Prop} {P : D → Prop} {Q : List D → Prop} : ∀ {xs acc : List D}, (∀ x ∈ xs, ∀ R : Option D → Prop, (∀ y, P y → R (some y)) → step x R) → (∀ ys, ys.length = xs.length → (∀ y ∈ ys, P y) → Q (acc ++ ys)) → lcGo step xs acc Q
  | [], acc, _, h => by
    have := h [] rfl (fun _ h => by simp at h)
    simpa [lcGo] using this
  | x :: xs, acc, hs, h => by
    simp only [lcGo]
    refine hs x (List.mem_cons_self ..) _ fun y hy => ?_
    refine lc_any (fun y hy => hs y (List.mem_cons_of_mem _ hy)) fun ys l hP => ?_
    have := h (y :: ys) (by simp [l]) (fun w hw => (List.mem_cons.mp hw).elim (fun e => e ▸ hy) (hP w))
    simpa using this
theorem row_spec (n : Nat) (k : Nat) (hk : k ≤ 100) (Q : DP) (E : EPo) (h : ∀ ys, ys.length = k → Ints (2 ^ 41) ys → Q (.tuple ys)) : phi T (n + 3) "_law_row" [deckD, .int k] Q E := by
  refine ⟨_, T__law_row, rfl, ?_⟩
  show wpSs _ _ c__law_row _ [.d deckD, .d (.int k), .no, .no, .no, .no]
  simp [c__law_row, wpSs, wpS, wpE, wpEs, wpI, viewOf, viewFrom, vE, vEs, vI, vTo]
  refine ⟨by omega, by simp [rngD]; omega, ?_⟩
  refine lc_any (P := fun y => ∃ i : Int, y = .int i ∧ i.natAbs ≤ 2 ^ 38) (fun x hx R hR => ?_) fun ys hl hP => ?_
  · simp [tgW, wipeD, wpTo, wpE, wpEs, binW, L2.CPow]
    refine draw_spec (n + 1) 9 (by decide) (by decide) _ _ fun i i0 i9 => ?_
    simp [binW]
    refine draw_spec (n + 1) 100000000000 (by decide) (by decide) _ _ fun j j0 j9 => ?_
    refine pick_spec n _ (by simp) (by simp) _ _ fun y hy => hR y ?_
    simp at hy
    rcases hy with rfl | rfl | rfl | rfl | rfl | rfl | rfl | rfl <;> refine ⟨_, rfl, ?_⟩ <;> omega
  · simp [aft, wpSs, wpS, wpE, wpEs, wpI, viewOf, viewFrom, vE, vEs, vI, vTo, frz, frz1]
    refine pick_spec n _ (by simp) (by simp) _ _ fun t ht => ?_
    have tv : ∃ q : Int, t = .int q ∧ 1 ≤ q ∧ q ≤ 7 := by
      simp at ht
      rcases ht with rfl | rfl | rfl | rfl <;> exact ⟨_, rfl, by omega, by omega⟩
    obtain ⟨q, rfl, q1, q7⟩ := tv
    have lr : ys.length = k := by rw [hl]; simp [rngD]
    refine ⟨by omega, lc_any (P := fun y => ∃ i : Int, y = .int i ∧ i.natAbs ≤ 2 ^ 41) (fun x hx R hR => ?_) fun zs lz hz => ?_⟩
    · obtain ⟨i, rfl, hi⟩ := hP x hx
      have cm : L2.CMul i q ∨ L2.CMulW i q := .inl (.inr ⟨by omega, by omega⟩)
      simp [tgW, wipeD, wpTo, binW, cm]
      refine hR _ ⟨_, rfl, ?_⟩
      rw [Int.natAbs_mul]
      have : q.natAbs ≤ 7 := by omega
      calc i.natAbs * q.natAbs ≤ 2 ^ 38 * 7 := Nat.mul_le_mul hi this
        _ ≤ 2 ^ 41 := by decide
    · exact h _ (by simpa using lz.trans lr) (fun y hy => hz y (by simpa using hy))
end Law

end
section
set_option Elab.async false
set_option linter.all false
set_option maxRecDepth 100000
namespace Law
open PySem Ey
/-- how much a drawn value weighs -/
def WA (d : Nat) : Nat := 1000 * 4 ^ d
theorem WA_ge (d : Nat) : 1000 ≤ WA d := by unfold WA; have := Nat.one_le_pow d 4 (by decide); omega
theorem WA_succ (d : Nat) : WA (d + 1) = 4 * WA d := by unfold WA; rw [Nat.pow_succ]; omega
theorem any_fin (p a w : Nat) (xs : List D) (hx : Gds p a xs) (hl : xs.length ≤ 100) (hw : a + 660 ≤ w) (hib : ∀ x ∈ xs, ibs 45 x = true) (i : Int) (Q : DP) (h : ∀ x, Gd (p + 2) w x → ibs 45 x = true → Q x) :
    if i = 5 then Q (PyData.list xs) else if i = 6 then biW Bi.len [PyData.list xs] fun x => Q (PyData.dict [(kD (Sum.inr (Str.ofString "key")), PyData.list xs), (kD (Sum.inl 1), x)])
          else biW Bi.tuple [PyData.list xs] Q := by
  by_cases e : i = 5
  · rw [if_pos e]
    exact h _ ((Gd.list hx).mono (by omega) (by omega)) (ib_list.mpr hib)
  · rw [if_neg e]
    by_cases e : i = 6
    · rw [if_pos e]
      refine h _ ((Gd.dict2 (p := p + 1) (a := a + 4) (b := 60 + 20 * 7) (by decide +kernel) (by decide +kernel) (Gd.list hx) (Gd.int 7 (by decide) (by omega) (by omega))).mono (by omega) (by omega)) ?_
      have l7 : xs.length < 2 ^ 45 := by omega
      have := ib_list.mpr hib
      simp [ibs, ibsk, kD] at this ⊢
      exact ⟨this, by simpa using l7⟩
    · rw [if_neg e]
      exact h _ ((Gd.tuple hx).mono (by omega) (by omega)) (ib_tuple.mpr hib)
theorem any_spec (n : Nat) : ∀ (d : Nat) (Q : DP) (E : EPo), (∀ x, Gd (2 * d + 2) (WA d) x → ibs 45 x = true → Q x) → phi T (n + d + 3) "_law_any" [deckD, .int d] Q E := by
  have leaf : ∀ (d : Nat) (Q : DP), (∀ x, Gd (2 * d + 2) (WA d) x → ibs 45 x = true → Q x) → ∀ x, (Gd 0 1000 x ∧ ibs 45 x = true) → Q x := fun d Q h x hx => h x (hx.1.mono (by omega) (WA_ge d)) hx.2
  intro d
  induction d with
  | zero =>
    intro Q E h
    refine ⟨_, T__law_any, rfl, ?_⟩
    show wpSs _ _ c__law_any _ [.d deckD, .d (.int 0), .no, .no, .no]
    simp [c__law_any, j__law_any_1, j__law_any_2, j__law_any_3, j__law_any_4, wpSs, wpS, wpE, wpEs, wpP, wpT, wpI, wpTo, viewOf, viewFrom, viewFrom_slo, slo_some, slo_none, vE, vEs, vP, vT, vI, vTo, aft, noList, noLists, frz, frz1, tg_one, tg_tt, tg_tl, tgs_nil, tgs_cons, lenT, wipeD, parOk, setPar, noOwn]
    refine draw_spec (n + 1) 10 (by decide) (by decide) _ _ fun i i0 i9 => ?_
    simp [cmpW, eq_ints, PyData.eqv]
    split
    · simp [binW, L2.CPow]
      exact pick_spec n _ (by simp) (by simp) _ _ fun x hx => leaf 0 Q h x ⟨Gd.decAll (by decide +kernel) x hx, ibss_iff.mp (by decide +kernel) x hx⟩
    split
    · exact pick_spec n _ (by simp) (by simp) _ _ fun x hx => leaf 0 Q h x ⟨Gd.decAll (by decide +kernel) x hx, ibss_iff.mp (by decide +kernel) x hx⟩
    split
    · exact pick_spec n _ (by simp) (by simp) _ _ fun x hx => leaf 0 Q h x ⟨Gd.decAll (by decide +kernel) x hx, ibss_iff.mp (by decide +kernel) x hx⟩
    · exact any_fin 0 0 _ [] Gds.nil (by simp) (by decide) (by simp) i Q (fun x hx => h x (hx.mono (by omega) (Nat.le_refl _)))
  | succ d ih =>
    intro Q E h
    refine ⟨_, T__law_any, rfl, ?_⟩
    show wpSs _ _ c__law_any _ [.d deckD, .d (.int (d + 1 : Nat)), .no, .no, .no]
    simp [c__law_any, j__law_any_1, j__law_any_2, j__law_any_3, j__law_any_4, wpSs, wpS, wpE, wpEs, wpP, wpT, wpI, wpTo, viewOf, viewFrom, viewFrom_slo, slo_some, slo_none, vE, vEs, vP, vT, vI, vTo, aft, noList, noLists, frz, frz1, tg_one, tg_tt, tg_tl, tgs_nil, tgs_cons, lenT, wipeD, parOk, setPar, noOwn]
    refine draw_spec (n + d + 2) 10 (by decide) (by decide) _ _ fun i i0 i9 => ?_
    simp [cmpW, eq_ints, PyData.eqv]
    split
    · simp [binW, L2.CPow]
      exact pick_spec (n + d + 1) _ (by simp) (by simp) _ _ fun x hx => leaf (d + 1) Q h x ⟨Gd.decAll (by decide +kernel) x hx, ibss_iff.mp (by decide +kernel) x hx⟩
    split
    · exact pick_spec (n + d + 1) _ (by simp) (by simp) _ _ fun x hx => leaf (d + 1) Q h x ⟨Gd.decAll (by decide +kernel) x hx, ibss_iff.mp (by decide +kernel) x hx⟩
    split
    · exact pick_spec (n + d + 1) _ (by simp) (by simp) _ _ fun x hx => leaf (d + 1) Q h x ⟨Gd.decAll (by decide +kernel) x hx, ibss_iff.mp (by decide +kernel) x hx⟩
    · refine draw_spec (n + d + 2) 4 (by decide) (by decide) _ _ fun k k0 k4 => ?_
      refine ⟨_, rfl, ⟨by omega, by omega⟩, by simp [rngD]; omega, ?_⟩
      refine lc_any (P := fun x => Gd (2 * d + 2) (WA d) x ∧ ibs 45 x = true) (fun x hx R hR => ?_) fun ys hl hP => ?_
      · simp only [binW]
        rw [show ((d : Int) + 1 - 1) = (d : Int) by omega]
        exact ih _ _ fun x h1 h2 => hR x ⟨h1, h2⟩
      · have l3 : ys.length ≤ 3 := by rw [hl]; simp [rngD]; omega
        have g := Gds.of (fun y hy => (hP y hy).1) l3
        have w1 := WA_ge d
        have w2 := WA_succ d
        exact any_fin _ _ _ ys g (by omega) (by rw [w2]; omega) (fun y hy => (hP y hy).2) i Q (fun x hx => h x (hx.mono (by omega) (Nat.le_refl _)))
end Law

end
section
set_option Elab.async false
set_option linter.all false
set_option maxRecDepth 100000
namespace Law
open PySem Ey
theorem instead_spec (n : Nat) (xs : List D) (j : Nat) (hj : j < xs.length) (hl : xs.length ≤ 50000) (y : D) (Q : DP) (E : EPo) (h : Q (.tuple (xs.take j ++ [y] ++ xs.drop (j + 1)))) : phi T (n + 1) "_law_instead" [.tuple xs, .int j, y] Q E := by
  refine ⟨_, T__law_instead, rfl, ?_⟩
  show wpSs _ _ c__law_instead _ [.d (.tuple xs), .d (.int j), .d y]
  simp [c__law_instead, wpSs, wpS, wpE, wpEs, wpP, wpT, wpI, wpTo, viewOf, viewFrom, viewFrom_slo, slo_some, slo_none, vE, vEs, vP, vT, vI, vTo, aft, noList, noLists, frz, frz1, tg_one, tg_tt, tg_tl, tgs_nil, tgs_cons, lenT, wipeD, parOk, setPar, noOwn]
  have e2 : cutD xs (some ((j : Int) + 1)) none = xs.drop (j + 1) := cutD_drop xs (j + 1)
  simp only [slW, binW, cutD_take, e2]
  refine ⟨by simp; omega, _, rfl, ?_⟩
  rw [e2]
  exact ⟨by simp; omega, h⟩
theorem str_int_gd {p w : Nat} {i : Int} (h : Gd p w (.int i)) : Gd p w (.str (Str.ofString (toString i))) := by
  obtain ⟨h1, h2⟩ := h.int_log
  refine Gd.str ?_
  have l := int_shown_le i
  have r := StrLaws.reprText_len (Str.ofString (toString i)) (fun c hc => ?_)
  · omega
  · by_cases z : c < 16 ^ 8
    · exact z
    · exact absurd hc (PyProof.Rows.int_text_free' c ⟨by omega, by omega⟩ i)
def BB (d w : Nat) : Nat := 2 * w + 18000 + 10 * d
theorem BB_ge (d w : Nat) : 2 * w + 18000 ≤ BB d w := by
  unfold BB
  omega
theorem abs_log {i : Int} {l : Nat} (h : i.natAbs.log2 ≤ l) : i.natAbs < 2 ^ (l + 1) := lt_two_pow_of_log2_lt (by omega)
theorem wa2 : WA 2 = 16000 := by decide
/-- what is bent at this very place -/
theorem bent_here (n : Nat) (x z1 : D) (s3 s4 : Sl) (p w : Nat) (b : Nat) (hb : 45 ≤ b) (hx : Gd p w x) (hib : ibs b x = true) (hw : w ≤ 38000) (Q : DP) (E : EPo) (De : En) (hrt : De.rt = Q) (h' : ∀ y, Gd (p + 8) (2 * w + 18000) y → ibs (b + 3) y = true → Q y) :
    wpSs (phi T (n + 5)) E i__law_bent_1 De [.d deckD, .d x, .d z1, s3, s4] := by
  subst hrt
  have up3 : ∀ {y : D}, ibs b y = true → ibs (b + 3) y = true := fun {y} h => ibs_mono (by omega) y h
  have any3 : ∀ {y : D}, ibs 45 y = true → ibs (b + 3) y = true := fun {y} h => ibs_mono (by omega) y h
  simp [i__law_bent_1, j__law_bent_1, j__law_bent_2, j__law_bent_3, j__law_bent_4, j__law_bent_5, j__law_bent_6, wpSs, wpS, wpE, wpEs, wpP, wpT, wpI, wpTo, viewOf, viewFrom, viewFrom_slo, slo_some, slo_none, vE, vEs, vP, vT, vI, vTo, aft, noList, noLists, frz, frz1, tg_one, tg_tt, tg_tl, tgs_nil, tgs_cons, lenT, wipeD, parOk, setPar, noOwn]
  refine draw_spec (n + 4) 14 (by decide) (by decide) _ _ fun i i0 i9 => ?_
  refine lint_spec (n + 4) x _ _ ?_
  have tup : ∀ xs : List D, x = .tuple xs → ∃ q v, p = q + 1 ∧ w = v + 4 ∧ Gds q v xs ∧ xs.length ≤ 19000 := fun xs e => by
    subst e
    obtain ⟨q, v, e1, e2, g⟩ := hx.of_tuple
    have := g.len
    exact ⟨q, v, e1, e2, g, by omega⟩
  cases x with
  | int j =>
    obtain ⟨j1, j2⟩ := hx.int_log
    simp [truW, isI, binW, biW, j1]
    have gi : ∀ k : Int, k.natAbs ≤ j.natAbs + 4 → Gd 0 (2 * w + 18000) (.int k) := fun k hk => by
      have a := abs_log (i := j) (l := j.natAbs.log2) (Nat.le_refl _)
      have b : 4 ≤ 2 ^ (j.natAbs.log2 + 3) := Nat.le_trans (by decide : 4 ≤ 2 ^ 3) (Nat.pow_le_pow_right (by decide) (by omega))
      have c : 2 ^ (j.natAbs.log2 + 3) = 4 * 2 ^ (j.natAbs.log2 + 1) := by rw [show j.natAbs.log2 + 3 = j.natAbs.log2 + 1 + 2 by omega, Nat.pow_add]; omega
      have d : 2 ^ (j.natAbs.log2 + 4) = 2 * 2 ^ (j.natAbs.log2 + 3) := by rw [show j.natAbs.log2 + 4 = j.natAbs.log2 + 3 + 1 by omega, Nat.pow_add]; omega
      exact Gd.int (j.natAbs.log2 + 4) (by omega) (by omega) (by omega)
    rw [ib_int] at hib
    have four : 4 ≤ 2 ^ b := Nat.le_trans (by decide : 4 ≤ 2 ^ 45) (Nat.pow_le_pow_right (by decide) hb)
    have pw : 2 ^ (b + 3) = 8 * 2 ^ b := by rw [Nat.pow_add]; omega
    have hi : ∀ k : Int, k.natAbs ≤ j.natAbs + 4 → ibs (b + 3) (.int k) = true := fun k hk => by rw [ib_int]; omega
    have h : ∀ y, (Gd (p + 8) (2 * w + 18000) y ∧ ibs (b + 3) y = true) → De.rt y := fun y hy => h' y hy.1 hy.2
    refine pick_spec (n + 3) _ (by simp) (by simp) _ _ fun y hy => h y ?_
    simp at hy
    have up : ∀ {y : D}, Gd 0 (2 * w + 18000) y → Gd (p + 8) (2 * w + 18000) y := fun g => g.mono (by omega) (Nat.le_refl _)
    rcases hy with rfl | rfl | rfl | rfl | rfl | rfl | rfl | rfl | rfl | rfl
    · exact ⟨up (gi _ (by omega)), hi _ (by omega)⟩
    · exact ⟨up (gi _ (by omega)), hi _ (by omega)⟩
    · exact ⟨up (gi _ (by omega)), hi _ (by omega)⟩
    · exact ⟨up (gi _ (by omega)), hi _ (by omega)⟩
    · exact ⟨Gd.bool (by omega), by simp [ibs]⟩
    · exact ⟨(str_int_gd hx).mono (by omega) (by omega), by simp [ibs]⟩
    · exact ⟨(Gd.tuple (Gds.one hx)).mono (by omega) (by omega), ib_tuple.mpr (by simpa using hi j (by omega))⟩
    · exact ⟨(Gd.list (Gds.one hx)).mono (by omega) (by omega), ib_list.mpr (by simpa using hi j (by omega))⟩
    · exact ⟨Gd.none (by omega), by simp [ibs]⟩
    · exact ⟨up (gi _ (by omega)), hi _ (by omega)⟩
  | tuple xs =>
    obtain ⟨q, v, rfl, rfl, g, hl⟩ := tup xs rfl
    have hm := ib_tuple.mp hib
    simp [truW, isI, cmpW, eq_ints, PyData.eqv, isiD]
    split
    · exact any_spec n 2 _ _ fun y hy hi => h' y (hy.mono (by omega) (by rw [wa2]; omega)) (any3 hi)
    split
    · exact h' _ ((Gd.list g).mono (by omega) (by omega)) (up3 (ib_list.mpr hm))
    split
    · refine pick_spec (n + 3) _ (by simp) (by simp) _ _ fun y hy => ?_
      have gy : Gd 1 100 y := Gd.decAll (by decide +kernel) y hy
      refine ⟨by simp; omega, h' _ ((Gd.tuple ((g.mono (by omega : q ≤ q + 1) (Nat.le_refl _)).append (Gds.one (gy.mono (by omega : 1 ≤ q + 1) (Nat.le_refl _))))).mono (by omega) (by omega)) (ib_tuple.mpr fun z hz => ?_)⟩
      rcases List.mem_append.mp hz with hz | hz
      · exact up3 (hm z hz)
      · rw [List.mem_singleton.mp hz]
        exact any3 (ibss_iff.mp (by decide +kernel) y hy)
    split
    · exact h' _ ((Gd.tuple g.reverse).mono (by omega) (by omega)) (ib_tuple.mpr fun z hz => up3 (hm z (List.mem_reverse.mp hz)))
    split
    · rw [slW, show (some 1 : Option Int) = some ((1 : Nat) : Int) from rfl, cutD_take]
      exact ⟨by simp; omega, h' _ ((Gd.tuple (g.append (g.take 1))).mono (by omega) (by omega)) (ib_tuple.mpr fun z hz => (List.mem_append.mp hz).elim (fun k => up3 (hm z k)) fun k => up3 (hm z (List.mem_of_mem_take k)))⟩
    split
    · rw [slW, show (some 1 : Option Int) = some ((1 : Nat) : Int) from rfl, cutD_drop]
      exact h' _ ((Gd.tuple (g.drop 1)).mono (by omega) (by omega)) (ib_tuple.mpr fun z hz => up3 (hm z (List.mem_of_mem_drop hz)))
    · exact h' _ ((Gd.tuple (Gds.one hx)).mono (by omega) (by omega)) (ib_tuple.mpr (by simpa using up3 hib))
  | _ =>
    simp [truW, isI, cmpW, eq_ints, PyData.eqv, isiD]
    exact any_spec n 2 _ _ fun y hy hi => h' y (hy.mono (by omega) (by rw [wa2]; omega)) (any3 hi)
theorem bent_spec (n b : Nat) (hb : 45 ≤ b) : ∀ (d : Nat) (x : D) (p w : Nat), Gd p w x → ibs b x = true → w ≤ 38000 → ∀ (Q : DP) (E : EPo), (∀ y, Gd (p + d + 8) (BB d w) y → ibs (b + 3) y = true → Q y) → phi T (n + d + 6) "_law_bent" [deckD, x, .int d] Q E := by
  intro d
  induction d with
  | zero =>
    intro x p w hx hib hw Q E h
    refine ⟨_, T__law_bent, rfl, ?_⟩
    show wpSs _ _ c__law_bent _ [.d deckD, .d x, .d (.int 0), .no, .no]
    have hb : ∀ De : En, De.rt = Q → wpSs (phi T (n + 5)) E i__law_bent_1 De [.d deckD, .d x, .d (.int 0), .no, .no] := fun De e => bent_here n x (.int 0) .no .no p w b hb hx hib hw Q E De e fun y hy hi => h y (hy.mono (by omega) (BB_ge 0 w)) hi
    simp [c__law_bent, j__law_bent_7, wpSs, wpS, wpE, wpEs, wpP, wpT, wpI, wpTo, viewOf, viewFrom, viewFrom_slo, slo_some, slo_none, vE, vEs, vP, vT, vI, vTo, aft, noList, noLists, frz, frz1, tg_one, tg_tt, tg_tl, tgs_nil, tgs_cons, lenT, wipeD, parOk, setPar, noOwn]
    cases x with
    | tuple xs =>
      simp [isiD, truW, cmpW, eq_ints, PyData.eqv]
      refine ⟨.inr (.inl ⟨_, rfl, rfl⟩), ?_⟩
      exact hb _ rfl
    | _ =>
      simp [isiD, truW]
      exact hb _ rfl
  | succ d ih =>
    intro x p w hx hib hw Q E h
    refine ⟨_, T__law_bent, rfl, ?_⟩
    show wpSs _ _ c__law_bent _ [.d deckD, .d x, .d (.int (d + 1 : Nat)), .no, .no]
    have hb : ∀ De : En, De.rt = Q → wpSs (phi T (n + (d + 1) + 5)) E i__law_bent_1 De [.d deckD, .d x, .d (.int (d + 1 : Nat)), .no, .no] := fun De e => bent_here (n + (d + 1)) x (.int (d + 1 : Nat)) .no .no p w b hb hx hib hw Q E De e fun y hy hi => h y (hy.mono (by omega) (BB_ge (d + 1) w)) hi
    simp [c__law_bent, j__law_bent_7, wpSs, wpS, wpE, wpEs, wpP, wpT, wpI, wpTo, viewOf, viewFrom, viewFrom_slo, slo_some, slo_none, vE, vEs, vP, vT, vI, vTo, aft, noList, noLists, frz, frz1, tg_one, tg_tt, tg_tl, tgs_nil, tgs_cons, lenT, wipeD, parOk, setPar, noOwn]
    cases x with
    | tuple xs =>
      have d0 : ¬ ((d : Int) + 1 = 0) := by omega
      simp [isiD, truW, cmpW, eq_ints, PyData.eqv]
      refine ⟨.inr (.inl ⟨_, rfl, rfl⟩), ?_⟩
      obtain ⟨q, v, rfl, rfl, g⟩ := hx.of_tuple
      have hl := g.len
      split
      · exact hb _ rfl
      · rename_i e0
        have pos : 0 < xs.length := by
          cases xs with
          | nil => simp [PyData.eqvAll] at e0
          | cons _ _ => simp
        refine draw_spec (n + (d + 1) + 4) 5 (by decide) (by decide) _ _ fun i i0 i9 => ?_
        simp [eq_ints, PyData.eqv]
        split
        · exact hb _ rfl
        · simp only [biW]
          refine draw_spec (n + (d + 1) + 4) _ (by omega) (by omega) _ _ fun j j0 jl => ?_
          obtain ⟨k, rfl⟩ := Int.eq_ofNat_of_zero_le j0
          have hk : k < xs.length := by omega
          have mem : xs[k] ∈ xs := List.getElem_mem hk
          simp [ixW, L2.atI, L2.ixN, hk, binW]
          have gk := g.mem mem
          have gk' : Gd q (wt xs[k]) xs[k] := ⟨gk.nd, gk.sh, gk.dp, Nat.le_refl _⟩
          have wk := gk.wt
          refine ih xs[k] q (wt xs[k]) gk' (ib_tuple.mp hib _ mem) (by omega) _ _ fun y hy hyi => ?_
          have hm := ib_tuple.mp hib
          refine instead_spec _ xs k hk (by omega) y _ _ (h _ ?_ (ib_tuple.mpr fun z hz => ?_))
          rotate_left
          · simp only [List.mem_append, List.mem_singleton] at hz
            rcases hz with (hz | hz) | hz
            · exact ibs_mono (by omega) z (hm z (List.mem_of_mem_take hz))
            · rw [hz]; exact hyi
            · exact ibs_mono (by omega) z (hm z (List.mem_of_mem_drop hz))
          have t := ((g.take k).mono (by omega : q ≤ q + d + 8) (Nat.le_refl _)).append (Gds.one hy)
          -- the two parts together weigh no more than the whole
          have tk : Gds q (wts (xs.take k)) (xs.take k) := ⟨(g.take k).nd, (g.take k).sh, (g.take k).dp, Nat.le_refl _⟩
          have dp : Gds q (wts (xs.drop (k + 1))) (xs.drop (k + 1)) := ⟨(g.drop (k + 1)).nd, (g.drop (k + 1)).sh, (g.drop (k + 1)).dp, Nat.le_refl _⟩
          have e : wts (xs.take k) + (wt xs[k] + 2) + wts (xs.drop (k + 1)) ≤ v := by
            have e1 := wts_append (xs.take k) (xs.drop k)
            rw [List.take_append_drop, List.drop_eq_getElem_cons hk] at e1
            simp only [wts] at e1
            have := g.wt
            omega
          exact (Gd.tuple (((tk.mono (by omega : q ≤ q + d + 8) (Nat.le_refl _)).append (Gds.one hy)).append (dp.mono (by omega : q ≤ q + d + 8) (Nat.le_refl _)))).mono (by omega) (by unfold BB; omega)
    | _ =>
      simp [isiD, truW]
      exact hb _ rfl
end Law

end
section
set_option Elab.async false
set_option linter.all false
set_option maxRecDepth 100000
/-! Ma: common divisors of three ints; places and lines as data. -/
namespace Law
open PySem Ey
theorem gcd3_dvd (a b c : Int) : ((gcd3 a b c : Nat) : Int) ∣ a ∧ ((gcd3 a b c : Nat) : Int) ∣ b ∧ ((gcd3 a b c : Nat) : Int) ∣ c := by
  unfold gcd3
  refine ⟨?_, ?_, ?_⟩
  · exact Int.ofNat_dvd_left.mpr (Nat.dvd_trans (Nat.gcd_dvd_left _ _) (Nat.gcd_dvd_left _ _))
  · exact Int.ofNat_dvd_left.mpr (Nat.dvd_trans (Nat.gcd_dvd_left _ _) (Nat.gcd_dvd_right _ _))
  · exact Int.ofNat_dvd_left.mpr (Nat.gcd_dvd_right _ _)
theorem gcd3_ne {a b c : Int} (h : a ≠ 0 ∨ b ≠ 0 ∨ c ≠ 0) : gcd3 a b c ≠ 0 := fun z => by
  obtain ⟨h1, h2, h3⟩ := gcd3_dvd a b c
  rw [z] at h1 h2 h3
  have e1 := Int.zero_dvd.mp h1
  have e2 := Int.zero_dvd.mp h2
  have e3 := Int.zero_dvd.mp h3
  omega
theorem gcd3_le {a b c : Int} (B : Nat) (h : a ≠ 0 ∨ b ≠ 0 ∨ c ≠ 0) (ha : a.natAbs ≤ B) (hb : b.natAbs ≤ B) (hc : c.natAbs ≤ B) : gcd3 a b c ≤ B := by
  obtain ⟨h1, h2, h3⟩ := gcd3_dvd a b c
  have f : ∀ x : Int, ((gcd3 a b c : Nat) : Int) ∣ x → x ≠ 0 → x.natAbs ≤ B → gcd3 a b c ≤ B := fun x d n l => Nat.le_trans (Nat.le_of_dvd (by omega) (Int.ofNat_dvd_left.mp d)) l
  rcases h with h | h | h
  · exact f a h1 h ha
  · exact f b h2 h hb
  · exact f c h3 h hc
theorem gcd3_mul (k : Nat) (a b c : Int) : gcd3 (k * a) (k * b) (k * c) = k * gcd3 a b c := by
  unfold gcd3
  rw [Int.natAbs_mul, Int.natAbs_mul, Int.natAbs_mul, Int.natAbs_natCast, Nat.gcd_mul_left, Nat.gcd_mul_left]
theorem gcd3_neg (a b c : Int) : gcd3 (-a) (-b) (-c) = gcd3 a b c := by
  unfold gcd3; rw [Int.natAbs_neg, Int.natAbs_neg, Int.natAbs_neg]
/-- without the common divisor -/
def red (a b c : Int) : Int × Int × Int := (a / (gcd3 a b c : Nat), b / (gcd3 a b c : Nat), c / (gcd3 a b c : Nat))
def t3 (p : Int × Int × Int) : D := .tuple [.int p.1, .int p.2.1, .int p.2.2]
/-- the place with the coordinates x / w, y / w -/
def pl (x y w : Int) : Int × Int × Int := if 0 < w then red x y w else red (-x) (-y) (-w)
theorem red_gcd {a b c : Int} (h : a ≠ 0 ∨ b ≠ 0 ∨ c ≠ 0) : gcd3 (red a b c).1 (red a b c).2.1 (red a b c).2.2 = 1 := by
  have g0 := gcd3_ne h
  obtain ⟨h1, h2, h3⟩ := gcd3_dvd a b c
  have e := gcd3_mul (gcd3 a b c) (a / (gcd3 a b c : Nat)) (b / (gcd3 a b c : Nat)) (c / (gcd3 a b c : Nat))
  rw [Int.mul_ediv_cancel' h1, Int.mul_ediv_cancel' h2, Int.mul_ediv_cancel' h3] at e
  show gcd3 (a / (gcd3 a b c : Nat)) (b / (gcd3 a b c : Nat)) (c / (gcd3 a b c : Nat)) = 1
  have : gcd3 a b c * 1 = gcd3 a b c * gcd3 (a / (gcd3 a b c : Nat)) (b / (gcd3 a b c : Nat)) (c / (gcd3 a b c : Nat)) := by rw [Nat.mul_one]; exact e
  exact (Nat.eq_of_mul_eq_mul_left (Nat.pos_of_ne_zero g0) this).symm
theorem red_mul {k : Nat} (hk : k ≠ 0) (a b c : Int) : red (k * a) (k * b) (k * c) = red a b c := by
  unfold red
  rw [gcd3_mul]
  have e : ∀ x : Int, (k : Int) * x / ((k * gcd3 a b c : Nat) : Int) = x / (gcd3 a b c : Nat) := fun x => by
    rw [Int.natCast_mul, Int.mul_ediv_mul_of_pos _ _ (by omega)]
  rw [e, e, e]
theorem red_le {a b c : Int} (B : Nat) (ha : a.natAbs ≤ B) (hb : b.natAbs ≤ B) (hc : c.natAbs ≤ B) : (red a b c).1.natAbs ≤ B ∧ (red a b c).2.1.natAbs ≤ B ∧ (red a b c).2.2.natAbs ≤ B := by
  obtain ⟨h1, h2, h3⟩ := gcd3_dvd a b c
  have f : ∀ x : Int, ((gcd3 a b c : Nat) : Int) ∣ x → x.natAbs ≤ B → (x / (gcd3 a b c : Nat)).natAbs ≤ B := fun x d l => by
    rw [Int.natAbs_ediv_of_dvd d]
    exact Nat.le_trans (Nat.div_le_self _ _) l
  exact ⟨f a h1 ha, f b h2 hb, f c h3 hc⟩
theorem red_pos {a b c : Int} (h : 0 < c) : 0 < (red a b c).2.2 := by
  obtain ⟨h1, h2, h3⟩ := gcd3_dvd a b c
  have g0 := gcd3_ne (a := a) (b := b) (c := c) (.inr (.inr (by omega)))
  show 0 < c / (gcd3 a b c : Nat)
  exact Int.ediv_pos_of_pos_of_dvd h (by omega) h3
theorem pl_place {x y w : Int} (h : w ≠ 0) : placeD (t3 (pl x y w)) = true := by
  have key : ∀ a b c : Int, 0 < c → placeD (t3 (red a b c)) = true := fun a b c h => by
    simp only [t3, placeD, red_gcd (a := a) (b := b) (c := c) (.inr (.inr (by omega)))]
    have := red_pos (a := a) (b := b) h
    simp; omega
  unfold pl
  split
  · rename_i z; exact key _ _ _ z
  · exact key _ _ _ (by omega)
theorem pl_mul {k : Int} (hk : k ≠ 0) {x y w : Int} (hw : w ≠ 0) : pl (x * k) (y * k) (w * k) = pl x y w := by
  by_cases s : 0 < k
  · obtain ⟨m, rfl⟩ := Int.eq_ofNat_of_zero_le (Int.le_of_lt s)
    have m0 : m ≠ 0 := by omega
    unfold pl
    have e : (0 < w * (m : Int)) = (0 < w) := by
      apply propext
      constructor
      · intro z
        by_cases q : 0 < w
        · exact q
        · exact absurd (Int.mul_nonpos_of_nonpos_of_nonneg (by omega : w ≤ 0) (by omega : (0 : Int) ≤ m)) (by omega)
      · exact fun z => Int.mul_pos z (by omega)
    simp only [e]
    split
    · rw [Int.mul_comm x, Int.mul_comm y, Int.mul_comm w]; exact red_mul m0 _ _ _
    · rw [show -(x * (m : Int)) = m * (-x) by rw [Int.mul_neg, Int.mul_comm], show -(y * (m : Int)) = m * (-y) by rw [Int.mul_neg, Int.mul_comm], show -(w * (m : Int)) = m * (-w) by rw [Int.mul_neg, Int.mul_comm]]
      exact red_mul m0 _ _ _
  · obtain ⟨m, hm⟩ := Int.eq_ofNat_of_zero_le (show 0 ≤ -k by omega)
    have ek : k = -(m : Int) := by omega
    subst ek
    have m0 : m ≠ 0 := by omega
    unfold pl
    have e : (0 < w * -(m : Int)) = (¬ 0 < w) := by
      apply propext
      constructor
      · intro z q
        have : w * -(m : Int) ≤ 0 := Int.mul_nonpos_of_nonneg_of_nonpos (by omega) (by omega)
        omega
      · intro q
        exact Int.mul_pos_of_neg_of_neg (by omega) (by omega)
    simp only [e]
    by_cases q : 0 < w
    · rw [if_neg (by simpa using q), if_pos q]
      rw [show -(x * -(m : Int)) = m * x by rw [Int.mul_neg, Int.neg_neg, Int.mul_comm], show -(y * -(m : Int)) = m * y by rw [Int.mul_neg, Int.neg_neg, Int.mul_comm], show -(w * -(m : Int)) = m * w by rw [Int.mul_neg, Int.neg_neg, Int.mul_comm]]
      exact red_mul m0 _ _ _
    · rw [if_pos q, if_neg q]
      rw [show x * -(m : Int) = m * (-x) by rw [Int.mul_neg, Int.mul_neg, Int.mul_comm], show y * -(m : Int) = m * (-y) by rw [Int.mul_neg, Int.mul_neg, Int.mul_comm], show w * -(m : Int) = m * (-w) by rw [Int.mul_neg, Int.mul_neg, Int.mul_comm]]
      exact red_mul m0 _ _ _
theorem pl_le {x y w : Int} (B : Nat) (ha : x.natAbs ≤ B) (hb : y.natAbs ≤ B) (hc : w.natAbs ≤ B) : (pl x y w).1.natAbs ≤ B ∧ (pl x y w).2.1.natAbs ≤ B ∧ (pl x y w).2.2.natAbs ≤ B := by
  unfold pl
  split
  · exact red_le B ha hb hc
  · exact red_le B (by omega) (by omega) (by omega)
end Law

end
section
set_option Elab.async false
set_option linter.all false
set_option maxRecDepth 100000
set_option exponentiation.threshold 9000
/-! Pm: places made. -/
namespace Law
open PySem Ey
/-- no number of more than 8000 bits -/
def Sm (i : Int) : Prop := i.natAbs < 2 ^ 8000
theorem gcd3_log {a b c : Int} (h : a ≠ 0 ∨ b ≠ 0 ∨ c ≠ 0) (ha : Sm a) (hb : Sm b) (hc : Sm c) : (gcd3 a b c).log2 < 9000 := by
  have g := gcd3_le (2 ^ 8000 - 1) h (by unfold Sm at ha; omega) (by unfold Sm at hb; omega) (by unfold Sm at hc; omega)
  refine Nat.lt_of_lt_of_le ((Nat.log2_lt (gcd3_ne h)).mpr (?_ : gcd3 a b c < 2 ^ 8000)) (by decide)
  have : 0 < 2 ^ 8000 := Nat.two_pow_pos _
  omega
theorem place_raw_spec (n : Nat) (x y w : Int) (hw : w ≠ 0) (hx : Sm x) (hy : Sm y) (hz : Sm w) (Q : DP) (E : EPo) (h : Q (t3 (pl x y w))) : phi T (n + 1) "place_raw" [.int x, .int y, .int w] Q E := by
  refine ⟨_, T_place_raw, rfl, ?_⟩
  show wpSs _ _ c_place_raw _ [.d (.int x), .d (.int y), .d (.int w), .no]
  have g0 := gcd3_ne (a := x) (b := y) (c := w) (.inr (.inr hw))
  have lg := gcd3_log (.inr (.inr hw)) hx hy hz
  have lg' : (-((gcd3 x y w : Nat) : Int)).natAbs.log2 < 9000 := by simpa using lg
  simp [c_place_raw, j_place_raw_1, biW, wpSs, wpS, wpE, wpEs, wpP, wpT, wpI, wpTo, viewOf, viewFrom, viewFrom_slo, slo_some, slo_none, vE, vEs, vP, vT, vI, vTo, aft, noList, noLists, frz, frz1, tg_one, tg_tt, tg_tl, tgs_nil, tgs_cons, lenT, wipeD, parOk, setPar, noOwn]
  rw [show Nat.gcd (Nat.gcd x.natAbs y.natAbs) w.natAbs = gcd3 x y w from rfl]
  simp [binW, cw_eq, cw_ne, cw_lt, cw_le, cw_gt, cw_ge, cw_isN, cw_notN, cw_isB, cw_notB, tw_none, tw_bool, tw_int, tw_list, tw_tuple, ix_list, ix_tuple, bw_add, bw_sub, bi_len_list, bi_len_tuple, bi_repr, isNone_none, isNone_tuple, isNone_int, isNone_str, isNone_bool, eq_ints, eq_strs, eq_nilT, eq_nilL, eqv_ii, eqv_bb, eqv_ss, eqv_nn, eqv_tt, eqv_ll, eqvs_nil, eqvs_cons, eqvs_nc, eqvs_cn]
  have ev : ∀ a : Int, a.fdiv ((gcd3 x y w : Nat) : Int) = a / ((gcd3 x y w : Nat) : Int) := fun a => Int.fdiv_eq_ediv_of_nonneg _ (by omega)
  have ew : ∀ a : Int, a.fdiv (-((gcd3 x y w : Nat) : Int)) = -a / ((gcd3 x y w : Nat) : Int) := fun a => by
    rw [← ev, ← Int.neg_fdiv_neg a, Int.neg_neg]
  split
  · rename_i s
    simp only [pl, if_neg (by omega : ¬ 0 < w), red, t3, gcd3_neg] at h
    simp [ew, g0, lg]
    exact h
  · rename_i s
    simp only [pl, if_pos (by omega : 0 < w), red, t3] at h
    simp [ev, g0, lg]
    exact h
def divD (g : Nat) : D → D
  | .int j => .int (j / (g : Int))
  | d => d
theorem least_eq (n : Nat) (xs : List D) (hx : xs.all isI = true) (g0 : gcdL 0 xs ≠ 0) (lg : (gcdL 0 xs).log2 < 9000) (hl : xs.length ≤ 1000) (Q : DP) (E : EPo) (h : Q (.tuple (xs.map (divD (gcdL 0 xs))))) : phi T (n + 2) "_law_least" [.tuple xs] Q E := by
  refine ⟨_, T__law_least, rfl, ?_⟩
  show wpSs _ _ c__law_least _ [.d (.tuple xs), .no, .no]
  simp [c__law_least, wpSs, wpS, wpE, wpEs, wpP, wpT, wpI, wpTo, viewOf, viewFrom, viewFrom_slo, slo_some, slo_none, vE, vEs, vP, vT, vI, vTo, aft, noList, noLists, frz, frz1, tg_one, tg_tt, tg_tl, tgs_nil, tgs_cons, lenT, wipeD, parOk, setPar, noOwn]
  refine div_spec n _ hx _ _ ?_
  generalize gcdL 0 xs = g at g0 lg h
  simp [biW, wpSs, wpS, wpE, wpEs, wpP, wpT, wpI, wpTo, viewOf, viewFrom, viewFrom_slo, slo_some, slo_none, vE, vEs, vP, vT, vI, vTo, aft, noList, noLists, frz, frz1, tg_one, tg_tt, tg_tl, tgs_nil, tgs_cons, lenT, wipeD, parOk, setPar, noOwn]
  refine ⟨by omega, lc_map (f := divD g) (fun x hx' R hR => ?_) ?_⟩
  · have hi := List.all_eq_true.mp hx x hx'
    cases x <;> try (simp [isI] at hi; done)
    rename_i j
    simp only [divD] at hR
    rw [← Int.fdiv_eq_ediv_of_nonneg _ (by omega)] at hR
    simpa [binW, g0, lg] using hR
  · simpa using h
theorem lplacem_spec (n : Nat) (x y w : Int) (hw : w ≠ 0) (hx : Sm x) (hy : Sm y) (hz : Sm w) (Q : DP) (E : EPo) (h : Q (t3 (pl x y w))) : phi T (n + 3) "_law_place" [.int x, .int y, .int w] Q E := by
  refine ⟨_, T__law_place, rfl, ?_⟩
  show wpSs _ _ c__law_place _ [.d (.int x), .d (.int y), .d (.int w)]
  have key : ∀ a b c : Int, c ≠ 0 → Sm a → Sm b → Sm c → Q (t3 (red a b c)) → phi T (n + 2) "_law_least" [.tuple [.int a, .int b, .int c]] Q E := fun a b c hc ha hb hc' hq => by
    refine least_eq n _ (by simp [isI]) (by rw [gcdL3]; exact gcd3_ne (.inr (.inr hc))) (by rw [gcdL3]; exact gcd3_log (.inr (.inr hc)) ha hb hc') (by simp) _ _ ?_
    rw [gcdL3]
    simpa [divD, red, t3] using hq
  simp [c__law_place, cmpW, wpSs, wpS, wpE, wpEs, wpP, wpT, wpI, wpTo, viewOf, viewFrom, viewFrom_slo, slo_some, slo_none, vE, vEs, vP, vT, vI, vTo, aft, noList, noLists, frz, frz1, tg_one, tg_tt, tg_tl, tgs_nil, tgs_cons, lenT, wipeD, parOk, setPar, noOwn]
  split
  · rename_i s
    exact key x y w hw hx hy hz (by simpa only [pl, if_pos s] using h)
  · rename_i s
    exact key (-x) (-y) (-w) (by omega) (by unfold Sm at *; omega) (by unfold Sm at *; omega) (by unfold Sm at *; omega) (by simpa only [pl, if_neg s] using h)
/-- coordinates of a place -/
def rightD : D → D → D → Option (Int × Int × Int)
  | .int a, .int b, .int c => if c = 0 then none else some (a, b, c)
  | _, _, _ => none
theorem rightD_no {x y w : D} (h : areI 3 (.tuple [x, y, w]) = false) : rightD x y w = none := by
  unfold rightD
  split
  · simp [areI, isI] at h
  · rfl
theorem rightD_int (a b c : Int) : rightD (.int a) (.int b) (.int c) = if c = 0 then none else some (a, b, c) := rfl
theorem mkplace_spec (n : Nat) (x y w : D) (Q : DP) (E : EPo) (h1 : ∀ a b c, rightD x y w = some (a, b, c) → Sm a ∧ Sm b ∧ Sm c ∧ Q (t3 (pl a b c))) (h2 : rightD x y w = none → E "BadPlace" (.tuple [x, y, w])) : phi T (n + 3) "place" [x, y, w] Q E := by
  refine ⟨_, T_place, rfl, ?_⟩
  show wpSs _ _ c_place _ [.d x, .d y, .d w]
  simp [c_place, j_place_1, wpSs, wpS, wpE, wpEs, wpP, wpT, wpI, wpTo, viewOf, viewFrom, viewFrom_slo, slo_some, slo_none, vE, vEs, vP, vT, vI, vTo, aft, noList, noLists, frz, frz1, tg_one, tg_tt, tg_tl, tgs_nil, tgs_cons, lenT, wipeD, parOk, setPar, noOwn]
  refine are_spec n _ 3 (by intro xs e; cases e; simp) _ _ ?_
  cases e : areI 3 (.tuple [x, y, w]) with
  | false => simpa [truW] using h2 (rightD_no e)
  | true =>
    obtain ⟨a, b, c, e2⟩ := are3 e
    cases e2
    rw [rightD_int] at h1 h2
    simp [eq_ints, cw_eq, cw_ne, cw_lt, cw_le, cw_gt, cw_ge, cw_isN, cw_notN, cw_isB, cw_notB, tw_none, tw_bool, tw_int, tw_list, tw_tuple, ix_list, ix_tuple, bw_add, bw_sub, bi_len_list, bi_len_tuple, bi_repr, isNone_none, isNone_tuple, isNone_int, isNone_str, isNone_bool, eq_ints, eq_strs, eq_nilT, eq_nilL, eqv_ii, eqv_bb, eqv_ss, eqv_nn, eqv_tt, eqv_ll, eqvs_nil, eqvs_cons, eqvs_nc, eqvs_cn]
    split
    · rename_i z
      exact h2 (if_pos z)
    · rename_i z
      obtain ⟨s1, s2, s3, q⟩ := h1 a b c (if_neg z)
      exact place_raw_spec (n + 1) a b c z s1 s2 s3 _ _ q
end Law

end
section
set_option Elab.async false
set_option linter.all false
set_option maxRecDepth 100000
set_option exponentiation.threshold 9000
/-! Mb: places, lines, sides: the plain geometry. -/
namespace Law
open PySem Ey
abbrev P3 := Int × Int × Int
/-- no number of more than k bits -/
def Bt (k : Nat) (i : Int) : Prop := i.natAbs < 2 ^ k
theorem Bt.mono {j k : Nat} {i : Int} (h : Bt j i) (l : j ≤ k) : Bt k i := Nat.lt_of_lt_of_le h (Nat.pow_le_pow_right (by decide) l)
theorem Bt.sm {k : Nat} {i : Int} (h : Bt k i) (l : k ≤ 8000 := by decide) : Sm i := h.mono l
theorem Bt.mul {j k : Nat} {a b : Int} (h : Bt j a) (g : Bt k b) : Bt (j + k) (a * b) := by
  unfold Bt at *
  rw [Int.natAbs_mul, Nat.pow_add]
  exact Nat.lt_of_le_of_lt (Nat.mul_le_mul_left _ (Nat.le_of_lt g)) (Nat.mul_lt_mul_of_pos_right h (Nat.two_pow_pos _))
theorem Bt.add {k : Nat} {a b : Int} (h : Bt k a) (g : Bt k b) : Bt (k + 1) (a + b) := by
  unfold Bt at *
  rw [Nat.pow_succ]
  omega
theorem Bt.sub {k : Nat} {a b : Int} (h : Bt k a) (g : Bt k b) : Bt (k + 1) (a - b) := by
  unfold Bt at *
  rw [Nat.pow_succ]
  omega
theorem Bt.neg {k : Nat} {a : Int} (h : Bt k a) : Bt k (-a) := by unfold Bt at *; omega
theorem Bt.cm {j k : Nat} {a b : Int} (h : Bt j a) (g : Bt k b) (l : j + k ≤ 100000 := by decide) : L2.CMul a b ∨ L2.CMulW a b := by
  have f : ∀ {n : Nat} {i : Int}, Bt n i → i.natAbs.log2 ≤ n := fun {n i} h => by
    by_cases z : i.natAbs = 0
    · rw [z]; exact Nat.le_trans (by decide) (Nat.zero_le n)
    · exact Nat.le_of_lt ((Nat.log2_lt z).mpr h)
  have := f h
  have := f g
  exact .inr (by unfold L2.CMulW; omega)
theorem Bt.of_le {k : Nat} {i : Int} {n : Nat} (h : i.natAbs ≤ n) (l : n < 2 ^ k) : Bt k i := Nat.lt_of_le_of_lt h l
def Bt3 (k : Nat) (p : P3) : Prop := Bt k p.1 ∧ Bt k p.2.1 ∧ Bt k p.2.2
theorem Bt3.mono {j k : Nat} {p : P3} (h : Bt3 j p) (l : j ≤ k) : Bt3 k p := ⟨h.1.mono l, h.2.1.mono l, h.2.2.mono l⟩
/-- a place -/
def IsPl (p : P3) : Prop := 0 < p.2.2 ∧ gcd3 p.1 p.2.1 p.2.2 = 1
/-- a line -/
def IsLn (l : P3) : Prop := (l.1 ≠ 0 ∨ l.2.1 ≠ 0) ∧ gcd3 l.1 l.2.1 l.2.2 = 1
def redT (c : P3) : P3 := red c.1 c.2.1 c.2.2
def crs (p q : P3) : P3 := (p.2.1 * q.2.2 - q.2.1 * p.2.2, q.1 * p.2.2 - p.1 * q.2.2, p.1 * q.2.1 - q.1 * p.2.1)
/-- the line through two places -/
def thr (p q : P3) : P3 := redT (crs p q)
def wth (l p : P3) : Int := l.1 * p.1 + l.2.1 * p.2.1 + l.2.2 * p.2.2
def sgn (i : Int) : Int := if 0 < i then 1 else if i < 0 then -1 else 0
def neg3 (l : P3) : P3 := (-l.1, -l.2.1, -l.2.2)
def smul (k : Int) (l : P3) : P3 := (k * l.1, k * l.2.1, k * l.2.2)
def Nz (c : P3) : Prop := c.1 ≠ 0 ∨ c.2.1 ≠ 0 ∨ c.2.2 ≠ 0
theorem placeD_iff {x : D} : placeD x = true ↔ ∃ p, x = t3 p ∧ IsPl p := by
  constructor
  · intro h
    unfold placeD at h
    split at h
    · rename_i a b c
      refine ⟨(a, b, c), rfl, ?_⟩
      simp at h
      exact ⟨by show 0 < c; omega, by have := h.2; show gcd3 a b c = 1; omega⟩
    · cases h
  · rintro ⟨p, rfl, h1, h2⟩
    simp only [t3, placeD, h2]
    simp; omega
theorem lineD_iff {x : D} : lineD x = true ↔ ∃ p, x = t3 p ∧ IsLn p := by
  constructor
  · intro h
    unfold lineD at h
    split at h
    · rename_i a b c
      refine ⟨(a, b, c), rfl, ?_⟩
      simp at h
      refine ⟨?_, by have := h.2; show gcd3 a b c = 1; omega⟩
      show a ≠ 0 ∨ b ≠ 0
      by_cases z : a = 0
      · exact .inr (by simpa [z] using h.1)
      · exact .inl z
    · cases h
  · rintro ⟨p, rfl, h1, h2⟩
    simp only [t3, lineD, h2]
    by_cases z : p.1 = 0
    · have : p.2.1 ≠ 0 := h1.elim (fun q => absurd z q) id
      simp [z, this]
    · simp [z]
/-- red: a multiple of it is the row -/
theorem red_eq {c : P3} (h : Nz c) : ∃ g : Nat, 0 < g ∧ c = smul g (redT c) ∧ gcd3 (redT c).1 (redT c).2.1 (redT c).2.2 = 1 := by
  obtain ⟨h1, h2, h3⟩ := gcd3_dvd c.1 c.2.1 c.2.2
  refine ⟨gcd3 c.1 c.2.1 c.2.2, Nat.pos_of_ne_zero (gcd3_ne h), ?_, red_gcd h⟩
  show c = (_ * (c.1 / _), _ * (c.2.1 / _), _ * (c.2.2 / _))
  rw [Int.mul_ediv_cancel' h1, Int.mul_ediv_cancel' h2, Int.mul_ediv_cancel' h3]
theorem redT_smul {k : Nat} (hk : k ≠ 0) (c : P3) : redT (smul k c) = redT c := red_mul hk _ _ _
theorem redT_self {c : P3} (h : gcd3 c.1 c.2.1 c.2.2 = 1) : redT c = c := by
  simp only [redT, red, h]
  simp
theorem redT_neg (c : P3) : redT (neg3 c) = neg3 (redT c) := by
  obtain ⟨h1, h2, h3⟩ := gcd3_dvd c.1 c.2.1 c.2.2
  simp only [redT, red, neg3, gcd3_neg]
  rw [Int.neg_ediv_of_dvd h1, Int.neg_ediv_of_dvd h2, Int.neg_ediv_of_dvd h3]
theorem crs_swap (p q : P3) : crs q p = neg3 (crs p q) := by
  simp only [crs, neg3, Prod.mk.injEq]
  refine ⟨?_, ?_, ?_⟩ <;> grind
theorem thr_swap (p q : P3) : thr q p = neg3 (thr p q) := by unfold thr; rw [crs_swap, redT_neg]
/-- equal directions: places with gcd 1 on one ray are the same -/
theorem pl_eq {p q : P3} (hp : IsPl p) (hq : IsPl q) (h : crs p q = (0, 0, 0)) : p = q := by
  simp only [crs, Prod.mk.injEq] at h
  obtain ⟨e1, e2, e3⟩ := h
  obtain ⟨p1, p2⟩ := hp
  obtain ⟨q1, q2⟩ := hq
  obtain ⟨k, hk⟩ := Int.eq_ofNat_of_zero_le (Int.le_of_lt p1)
  obtain ⟨m, hm⟩ := Int.eq_ofNat_of_zero_le (Int.le_of_lt q1)
  have a : redT (smul m p) = redT (smul k q) := by
    congr 1
    simp only [smul, Prod.mk.injEq]
    refine ⟨?_, ?_, ?_⟩
    · rw [← hm, ← hk]; grind
    · rw [← hm, ← hk]; grind
    · rw [← hm, ← hk]; grind
  rw [redT_smul (by omega), redT_smul (by omega), redT_self p2, redT_self q2] at a
  exact a
theorem crs_nz {p q : P3} (hp : IsPl p) (hq : IsPl q) (h : p ≠ q) : Nz (crs p q) := by
  by_cases z : Nz (crs p q)
  · exact z
  · exfalso
    apply h
    apply pl_eq hp hq
    unfold Nz at z
    have : (crs p q).1 = 0 ∧ (crs p q).2.1 = 0 ∧ (crs p q).2.2 = 0 := by omega
    obtain ⟨a, b, c⟩ := this
    exact Prod.ext a (Prod.ext b c)
theorem wth_crs_l (p q : P3) : wth (crs p q) p = 0 := by simp only [wth, crs]; grind
theorem wth_crs_r (p q : P3) : wth (crs p q) q = 0 := by simp only [wth, crs]; grind
theorem wth_smul_l (k : Int) (l p : P3) : wth (smul k l) p = k * wth l p := by simp only [wth, smul]; grind
theorem wth_smul_r (k : Int) (l p : P3) : wth l (smul k p) = k * wth l p := by simp only [wth, smul]; grind
theorem sgn_mul {k : Int} (hk : 0 < k) (i : Int) : sgn (k * i) = sgn i := by
  unfold sgn
  have a : (0 < k * i) = (0 < i) := propext ⟨fun h => by
    by_cases z : 0 < i
    · exact z
    · exact absurd (Int.mul_nonpos_of_nonneg_of_nonpos (Int.le_of_lt hk) (by omega : i ≤ 0)) (by omega), fun h => Int.mul_pos hk h⟩
  have b : (k * i < 0) = (i < 0) := propext ⟨fun h => by
    by_cases z : i < 0
    · exact z
    · exact absurd (Int.mul_nonneg (Int.le_of_lt hk) (by omega : 0 ≤ i)) (by omega), fun h => Int.mul_neg_of_pos_of_neg hk h⟩
  simp only [a, b]
/-- sides by the cross product itself -/
theorem side_thr {p q : P3} (h : Nz (crs p q)) (r : P3) : sgn (wth (crs p q) r) = sgn (wth (thr p q) r) := by
  obtain ⟨g, g0, e, _⟩ := red_eq h
  have z : wth (crs p q) r = g * wth (thr p q) r := by
    show _ = (g : Int) * wth (redT (crs p q)) r
    rw [← wth_smul_l, ← e]
  rw [z]
  exact sgn_mul (by omega) _
theorem thr_ln {p q : P3} (hp : IsPl p) (hq : IsPl q) (h : p ≠ q) : IsLn (thr p q) := by
  obtain ⟨g, g0, e, g1⟩ := red_eq (crs_nz hp hq h)
  refine ⟨?_, g1⟩
  show (redT (crs p q)).1 ≠ 0 ∨ (redT (crs p q)).2.1 ≠ 0
  by_cases z : (redT (crs p q)).1 = 0 ∧ (redT (crs p q)).2.1 = 0
  · exfalso
    have e1 : (crs p q).1 = 0 := by rw [e]; simp [smul, z.1]
    have e2 : (crs p q).2.1 = 0 := by rw [e]; simp [smul, z.2]
    have w1 := wth_crs_l p q
    have e3 : (crs p q).2.2 = 0 := by
      unfold wth at w1
      rw [e1, e2] at w1
      have : (crs p q).2.2 * p.2.2 = 0 := by omega
      rcases Int.mul_eq_zero.mp this with h | h
      · exact h
      · have := hp.1; omega
    rcases crs_nz hp hq h with n | n | n <;> contradiction
  · omega
theorem thr_le {p q : P3} {k : Nat} (hp : Bt3 k p) (hq : Bt3 k q) : Bt3 (k + k + 1) (thr p q) := by
  have c1 : Bt (k + k + 1) (crs p q).1 := (hp.2.1.mul hq.2.2).sub (hq.2.1.mul hp.2.2)
  have c2 : Bt (k + k + 1) (crs p q).2.1 := (hq.1.mul hp.2.2).sub (hp.1.mul hq.2.2)
  have c3 : Bt (k + k + 1) (crs p q).2.2 := (hp.1.mul hq.2.1).sub (hq.1.mul hp.2.1)
  obtain ⟨a, b, c⟩ := red_le (a := (crs p q).1) (b := (crs p q).2.1) (c := (crs p q).2.2) (2 ^ (k + k + 1) - 1) (by unfold Bt at c1; omega) (by unfold Bt at c2; omega) (by unfold Bt at c3; omega)
  have := Nat.two_pow_pos (k + k + 1)
  exact ⟨by unfold Bt; exact Nat.lt_of_le_of_lt a (by omega), by unfold Bt; exact Nat.lt_of_le_of_lt b (by omega), by unfold Bt; exact Nat.lt_of_le_of_lt c (by omega)⟩
theorem pl_is {x y w : Int} (h : w ≠ 0) : IsPl (pl x y w) := by
  obtain ⟨p, e, h⟩ := placeD_iff.mp (pl_place (x := x) (y := y) h)
  have : pl x y w = p := by
    simp only [t3, PyData.tuple.injEq, List.cons.injEq, PyData.int.injEq, and_true] at e
    exact Prod.ext e.1 (Prod.ext e.2.1 e.2.2)
  rw [this]; exact h
/-- a place is a ray -/
theorem pl_smul {x y w : Int} (h : 0 < w) : ∃ g : Nat, 0 < g ∧ (x, y, w) = smul g (pl x y w) := by
  obtain ⟨g, g0, e, _⟩ := red_eq (c := (x, y, w)) (.inr (.inr (by show w ≠ 0; omega)))
  refine ⟨g, g0, ?_⟩
  simp only [pl, if_pos h]
  exact e
end Law

end
section
set_option Elab.async false
set_option linter.all false
set_option maxRecDepth 100000
set_option exponentiation.threshold 9000
/-! Pn: lines through places, sides: what the defs answer. -/
namespace Law
open PySem Ey
theorem ix3_0 {p : P3} {Q : DP} : ixW (t3 p) (.int 0) Q ↔ Q (.int p.1) := by simp [t3, ix_tuple, L2.atI, L2.ixN]
theorem ix3_1 {p : P3} {Q : DP} : ixW (t3 p) (.int 1) Q ↔ Q (.int p.2.1) := by simp [t3, ix_tuple, L2.atI, L2.ixN]
theorem ix3_2 {p : P3} {Q : DP} : ixW (t3 p) (.int 2) Q ↔ Q (.int p.2.2) := by simp [t3, ix_tuple, L2.atI, L2.ixN]
theorem t3_len (p : P3) : LenOk (t3 p) := by intro xs h; simp only [t3] at h; cases h; simp
theorem shp_t3 (p : P3) : shp (t3 p) = true := by simp [t3, shp, PyData.plain, PyData.plainAll, PyData.depth, PyData.depthAll]
theorem eq_t3 {p q : P3} : EqOk (t3 p) (t3 q) := .inl ⟨shp_t3 p, shp_t3 q⟩
theorem eqv_t3 {p q : P3} : PyData.eqv (t3 p) (t3 q) = decide (p = q) := by
  simp only [t3, eqv_tt, eqvs_cons, eqv_ii, eqvs_nil, Bool.and_true]
  rw [Bool.eq_iff_iff]
  simp [Prod.ext_iff]
theorem line_raw_spec (n : Nat) (a b c : Int) (hz : Nz (a, b, c)) (h1 : Sm a) (h2 : Sm b) (h3 : Sm c) (Q : DP) (E : EPo) (h : Q (t3 (red a b c))) : phi T (n + 1) "line_raw" [.int a, .int b, .int c] Q E := by
  refine ⟨_, T_line_raw, rfl, ?_⟩
  show wpSs _ _ c_line_raw _ [.d (.int a), .d (.int b), .d (.int c), .no]
  have g0 := gcd3_ne hz
  have lg := gcd3_log hz h1 h2 h3
  have ev : ∀ a' : Int, a'.fdiv ((gcd3 a b c : Nat) : Int) = a' / ((gcd3 a b c : Nat) : Int) := fun a' => Int.fdiv_eq_ediv_of_nonneg _ (by omega)
  simp [c_line_raw, biW, wpSs, wpS, wpE, wpEs, wpP, wpT, wpI, wpTo, viewOf, viewFrom, viewFrom_slo, slo_some, slo_none, vE, vEs, vP, vT, vI, vTo, aft, noList, noLists, frz, frz1, tg_one, tg_tt, tg_tl, tgs_nil, tgs_cons, lenT, wipeD, parOk, setPar, noOwn]
  rw [show Nat.gcd (Nat.gcd a.natAbs b.natAbs) c.natAbs = gcd3 a b c from rfl]
  simp only [gcd3] at *
  simpa [binW, ev, g0, lg, red, t3, gcd3] using h
theorem crs_bt {p q : P3} {k : Nat} (hp : Bt3 k p) (hq : Bt3 k q) : Bt3 (k + k + 1) (crs p q) := ⟨(hp.2.1.mul hq.2.2).sub (hq.2.1.mul hp.2.2), (hq.1.mul hp.2.2).sub (hp.1.mul hq.2.2), (hp.1.mul hq.2.1).sub (hq.1.mul hp.2.1)⟩
theorem through_raw_spec (n : Nat) (p q : P3) (hz : Nz (crs p q)) (hp : Bt3 3000 p) (hq : Bt3 3000 q) (Q : DP) (E : EPo) (h : Q (t3 (thr p q))) : phi T (n + 2) "through_raw" [t3 p, t3 q] Q E := by
  refine ⟨_, T_through_raw, rfl, ?_⟩
  show wpSs _ _ c_through_raw _ [.d (t3 p), .d (t3 q)]
  have b := crs_bt hp hq
  simp [c_through_raw, ix3_0, ix3_1, ix3_2, bw_mul, bw_sub, hp.1.cm hq.1, hp.1.cm hq.2.1, hp.1.cm hq.2.2, hp.2.1.cm hq.1, hp.2.1.cm hq.2.1, hp.2.1.cm hq.2.2, hp.2.2.cm hq.1, hp.2.2.cm hq.2.1, hp.2.2.cm hq.2.2, hq.1.cm hp.1, hq.1.cm hp.2.1, hq.1.cm hp.2.2, hq.2.1.cm hp.1, hq.2.1.cm hp.2.1, hq.2.1.cm hp.2.2, hq.2.2.cm hp.1, hq.2.2.cm hp.2.1, hq.2.2.cm hp.2.2, wpSs, wpS, wpE, wpEs, wpP, wpT, wpI, wpTo, viewOf, viewFrom, viewFrom_slo, slo_some, slo_none, vE, vEs, vP, vT, vI, vTo, aft, noList, noLists, frz, frz1, tg_one, tg_tt, tg_tl, tgs_nil, tgs_cons, lenT, wipeD, parOk, setPar, noOwn]
  exact line_raw_spec n _ _ _ hz (b.1.sm) (b.2.1.sm) (b.2.2.sm) _ _ h
theorem worth_spec (n : Nat) (l p : P3) (hl : Bt3 7000 l) (hp : Bt3 7000 p) (Q : DP) (E : EPo) (h : Q (.int (wth l p))) : phi T (n + 1) "worth" [t3 l, t3 p] Q E := by
  refine ⟨_, T_worth, rfl, ?_⟩
  show wpSs _ _ c_worth _ [.d (t3 l), .d (t3 p)]
  simp [c_worth, ix3_0, ix3_1, ix3_2, bw_mul, bw_add, hl.1.cm hp.1, hl.2.1.cm hp.2.1, hl.2.2.cm hp.2.2, wpSs, wpS, wpE, wpEs, wpP, wpT, wpI, wpTo, viewOf, viewFrom, viewFrom_slo, slo_some, slo_none, vE, vEs, vP, vT, vI, vTo, aft, noList, noLists, frz, frz1, tg_one, tg_tt, tg_tl, tgs_nil, tgs_cons, lenT, wipeD, parOk, setPar, noOwn]
  exact h
theorem lworth_spec (n : Nat) (l p : P3) (hl : Bt3 7000 l) (hp : Bt3 7000 p) (Q : DP) (E : EPo) (h : Q (.int (wth l p))) : phi T (n + 1) "_law_worth" [t3 l, t3 p] Q E := by
  refine ⟨_, T__law_worth, rfl, ?_⟩
  show wpSs _ _ c__law_worth _ [.d (t3 l), .d (t3 p)]
  simp [c__law_worth, ix3_0, ix3_1, ix3_2, bw_mul, bw_add, hl.1.cm hp.1, hl.2.1.cm hp.2.1, hl.2.2.cm hp.2.2, wpSs, wpS, wpE, wpEs, wpP, wpT, wpI, wpTo, viewOf, viewFrom, viewFrom_slo, slo_some, slo_none, vE, vEs, vP, vT, vI, vTo, aft, noList, noLists, frz, frz1, tg_one, tg_tt, tg_tl, tgs_nil, tgs_cons, lenT, wipeD, parOk, setPar, noOwn]
  exact h
theorem sign_spec (n : Nat) (i : Int) (Q : DP) (E : EPo) (h : Q (.int (sgn i))) : phi T (n + 1) "sign" [.int i] Q E := by
  refine ⟨_, T_sign, rfl, ?_⟩
  show wpSs _ _ c_sign _ [.d (.int i)]
  simp [c_sign, wpSs, wpS, wpE, wpEs, wpP, wpT, wpI, wpTo, viewOf, viewFrom, viewFrom_slo, slo_some, slo_none, vE, vEs, vP, vT, vI, vTo, aft, noList, noLists, frz, frz1, tg_one, tg_tt, tg_tl, tgs_nil, tgs_cons, lenT, wipeD, parOk, setPar, noOwn]
  simp [eq_ints, cw_eq, cw_ne, cw_lt, cw_le, cw_gt, cw_ge, cw_isN, cw_notN, cw_isB, cw_notB, tw_none, tw_bool, tw_int, tw_list, tw_tuple, ix_list, ix_tuple, bw_add, bw_sub, bi_len_list, bi_len_tuple, bi_repr, isNone_none, isNone_tuple, isNone_int, isNone_str, isNone_bool, eq_ints, eq_strs, eq_nilT, eq_nilL, eqv_ii, eqv_bb, eqv_ss, eqv_nn, eqv_tt, eqv_ll, eqvs_nil, eqvs_cons, eqvs_nc, eqvs_cn]
  unfold sgn at h
  by_cases z : 0 < i
  · simpa [z] using h
  · by_cases z2 : i < 0 <;> simpa [z, z2] using h
theorem lsign_spec (n : Nat) (i : Int) (Q : DP) (E : EPo) (h : Q (.int (sgn i))) : phi T (n + 1) "_law_sign" [.int i] Q E := by
  refine ⟨_, T__law_sign, rfl, ?_⟩
  show wpSs _ _ c__law_sign _ [.d (.int i)]
  simp [c__law_sign, wpSs, wpS, wpE, wpEs, wpP, wpT, wpI, wpTo, viewOf, viewFrom, viewFrom_slo, slo_some, slo_none, vE, vEs, vP, vT, vI, vTo, aft, noList, noLists, frz, frz1, tg_one, tg_tt, tg_tl, tgs_nil, tgs_cons, lenT, wipeD, parOk, setPar, noOwn]
  simp [eq_ints, cw_eq, cw_ne, cw_lt, cw_le, cw_gt, cw_ge, cw_isN, cw_notN, cw_isB, cw_notB, tw_none, tw_bool, tw_int, tw_list, tw_tuple, ix_list, ix_tuple, bw_add, bw_sub, bi_len_list, bi_len_tuple, bi_repr, isNone_none, isNone_tuple, isNone_int, isNone_str, isNone_bool, eq_ints, eq_strs, eq_nilT, eq_nilL, eqv_ii, eqv_bb, eqv_ss, eqv_nn, eqv_tt, eqv_ll, eqvs_nil, eqvs_cons, eqvs_nc, eqvs_cn]
  unfold sgn at h
  by_cases z : 0 < i
  · simpa [z] using h
  · by_cases z2 : i < 0 <;> simpa [z, z2] using h
theorem side_raw_spec (n : Nat) (l p : P3) (hl : Bt3 7000 l) (hp : Bt3 7000 p) (Q : DP) (E : EPo) (h : Q (.int (sgn (wth l p)))) : phi T (n + 2) "side_raw" [t3 l, t3 p] Q E := by
  refine ⟨_, T_side_raw, rfl, ?_⟩
  show wpSs _ _ c_side_raw _ [.d (t3 l), .d (t3 p)]
  simp [c_side_raw, wpSs, wpS, wpE, wpEs, wpP, wpT, wpI, wpTo, viewOf, viewFrom, viewFrom_slo, slo_some, slo_none, vE, vEs, vP, vT, vI, vTo, aft, noList, noLists, frz, frz1, tg_one, tg_tt, tg_tl, tgs_nil, tgs_cons, lenT, wipeD, parOk, setPar, noOwn]
  refine worth_spec n l p hl hp _ _ ?_
  exact sign_spec n _ _ _ h
theorem lside_spec (n : Nat) (l p : P3) (hl : Bt3 7000 l) (hp : Bt3 7000 p) (Q : DP) (E : EPo) (h : Q (.int (sgn (wth l p)))) : phi T (n + 2) "_law_side" [t3 l, t3 p] Q E := by
  refine ⟨_, T__law_side, rfl, ?_⟩
  show wpSs _ _ c__law_side _ [.d (t3 l), .d (t3 p)]
  simp [c__law_side, wpSs, wpS, wpE, wpEs, wpP, wpT, wpI, wpTo, viewOf, viewFrom, viewFrom_slo, slo_some, slo_none, vE, vEs, vP, vT, vI, vTo, aft, noList, noLists, frz, frz1, tg_one, tg_tt, tg_tl, tgs_nil, tgs_cons, lenT, wipeD, parOk, setPar, noOwn]
  refine lworth_spec n l p hl hp _ _ ?_
  exact lsign_spec n _ _ _ h
theorem need_place_spec (n : Nat) (x : D) (hx : LenOk x) (Q : DP) (E : EPo) (h1 : placeD x = true → Q .none) (h2 : placeD x = false → E "BadPlace" x) : phi T (n + 4) "need_place" [x] Q E := by
  refine ⟨_, T_need_place, rfl, ?_⟩
  show wpSs _ _ c_need_place _ [.d x]
  simp [c_need_place, wpSs, wpS, wpE, wpEs, wpP, wpT, wpI, wpTo, viewOf, viewFrom, viewFrom_slo, slo_some, slo_none, vE, vEs, vP, vT, vI, vTo, aft, noList, noLists, frz, frz1, tg_one, tg_tt, tg_tl, tgs_nil, tgs_cons, lenT, wipeD, parOk, setPar, noOwn]
  refine placev_spec n x hx _ _ ?_
  cases e : placeD x with
  | true => simpa [truW] using h1 e
  | false => simpa [truW] using h2 e
theorem need_line_spec (n : Nat) (x : D) (hx : LenOk x) (Q : DP) (E : EPo) (h1 : lineD x = true → Q .none) (h2 : lineD x = false → E "BadLine" x) : phi T (n + 4) "need_line" [x] Q E := by
  refine ⟨_, T_need_line, rfl, ?_⟩
  show wpSs _ _ c_need_line _ [.d x]
  simp [c_need_line, wpSs, wpS, wpE, wpEs, wpP, wpT, wpI, wpTo, viewOf, viewFrom, viewFrom_slo, slo_some, slo_none, vE, vEs, vP, vT, vI, vTo, aft, noList, noLists, frz, frz1, tg_one, tg_tt, tg_tl, tgs_nil, tgs_cons, lenT, wipeD, parOk, setPar, noOwn]
  refine linev_spec n x hx _ _ ?_
  cases e : lineD x with
  | true => simpa [truW] using h1 e
  | false => simpa [truW] using h2 e
theorem through_spec (n : Nat) (x y : D) (hx : LenOk x) (hy : LenOk y) (Q : DP) (E : EPo) (h1 : placeD x = false → E "BadPlace" x) (h2 : placeD x = true → placeD y = false → E "BadPlace" y)
    (h3 : ∀ p q, IsPl p → IsPl q → x = t3 p → y = t3 q → if p = q then E "BadPlace" (.tuple [t3 p, t3 q]) else Bt3 3000 p ∧ Bt3 3000 q ∧ Q (t3 (thr p q))) : phi T (n + 5) "through" [x, y] Q E := by
  refine ⟨_, T_through, rfl, ?_⟩
  show wpSs _ _ c_through _ [.d x, .d y]
  simp [c_through, j_through_1, wpSs, wpS, wpE, wpEs, wpP, wpT, wpI, wpTo, viewOf, viewFrom, viewFrom_slo, slo_some, slo_none, vE, vEs, vP, vT, vI, vTo, aft, noList, noLists, frz, frz1, tg_one, tg_tt, tg_tl, tgs_nil, tgs_cons, lenT, wipeD, parOk, setPar, noOwn]
  refine need_place_spec n x hx _ _ (fun ex => ?_) h1
  refine need_place_spec n y hy _ _ (fun ey => ?_) (h2 ex)
  obtain ⟨p, rfl, hp⟩ := placeD_iff.mp ex
  obtain ⟨q, rfl, hq⟩ := placeD_iff.mp ey
  have h := h3 p q hp hq rfl rfl
  simp only [cw_eq, eqv_t3]
  refine ⟨eq_t3, ?_⟩
  by_cases z : p = q
  · rw [if_pos z] at h
    simpa [z] using h
  · rw [if_neg z] at h
    simp only [z, decide_false, Bool.false_eq_true, if_false]
    exact through_raw_spec (n + 2) p q (crs_nz hp hq z) h.1 h.2.1 _ _ h.2.2
theorem side_spec (n : Nat) (x y : D) (hx : LenOk x) (hy : LenOk y) (Q : DP) (E : EPo) (h1 : lineD x = false → E "BadLine" x) (h2 : lineD x = true → placeD y = false → E "BadPlace" y)
    (h3 : ∀ l q, IsLn l → IsPl q → x = t3 l → y = t3 q → Bt3 7000 l ∧ Bt3 7000 q ∧ Q (.int (sgn (wth l q)))) : phi T (n + 5) "side" [x, y] Q E := by
  refine ⟨_, T_side, rfl, ?_⟩
  show wpSs _ _ c_side _ [.d x, .d y]
  simp [c_side, wpSs, wpS, wpE, wpEs, wpP, wpT, wpI, wpTo, viewOf, viewFrom, viewFrom_slo, slo_some, slo_none, vE, vEs, vP, vT, vI, vTo, aft, noList, noLists, frz, frz1, tg_one, tg_tt, tg_tl, tgs_nil, tgs_cons, lenT, wipeD, parOk, setPar, noOwn]
  refine need_line_spec n x hx _ _ (fun ex => ?_) h1
  refine need_place_spec n y hy _ _ (fun ey => ?_) (h2 ex)
  obtain ⟨p, rfl, hp⟩ := lineD_iff.mp ex
  obtain ⟨q, rfl, hq⟩ := placeD_iff.mp ey
  obtain ⟨a, b, h⟩ := h3 p q hp hq rfl rfl
  exact side_raw_spec (n + 2) p q a b _ _ h
theorem lcross_spec (n : Nat) (p q : P3) (hp : Bt3 3000 p) (hq : Bt3 3000 q) (Q : DP) (E : EPo) (h : Q (t3 (crs p q))) : phi T (n + 1) "_law_cross" [t3 p, t3 q] Q E := by
  refine ⟨_, T__law_cross, rfl, ?_⟩
  show wpSs _ _ c__law_cross _ [.d (t3 p), .d (t3 q)]
  simp [c__law_cross, ix3_0, ix3_1, ix3_2, bw_mul, bw_sub, hp.1.cm hq.1, hp.1.cm hq.2.1, hp.1.cm hq.2.2, hp.2.1.cm hq.1, hp.2.1.cm hq.2.1, hp.2.1.cm hq.2.2, hp.2.2.cm hq.1, hp.2.2.cm hq.2.1, hp.2.2.cm hq.2.2, wpSs, wpS, wpE, wpEs, wpP, wpT, wpI, wpTo, viewOf, viewFrom, viewFrom_slo, slo_some, slo_none, vE, vEs, vP, vT, vI, vTo, aft, noList, noLists, frz, frz1, tg_one, tg_tt, tg_tl, tgs_nil, tgs_cons, lenT, wipeD, parOk, setPar, noOwn]
  simp only [crs, t3] at h
  rw [Int.mul_comm q.2.1, Int.mul_comm q.1, Int.mul_comm q.1 p.2.1] at h
  exact h
theorem lthrough_spec (n : Nat) (p q : P3) (hz : Nz (crs p q)) (hp : Bt3 3000 p) (hq : Bt3 3000 q) (Q : DP) (E : EPo) (h : Q (t3 (thr p q))) : phi T (n + 3) "_law_through" [t3 p, t3 q] Q E := by
  refine ⟨_, T__law_through, rfl, ?_⟩
  show wpSs _ _ c__law_through _ [.d (t3 p), .d (t3 q)]
  simp [c__law_through, wpSs, wpS, wpE, wpEs, wpP, wpT, wpI, wpTo, viewOf, viewFrom, viewFrom_slo, slo_some, slo_none, vE, vEs, vP, vT, vI, vTo, aft, noList, noLists, frz, frz1, tg_one, tg_tt, tg_tl, tgs_nil, tgs_cons, lenT, wipeD, parOk, setPar, noOwn]
  refine lcross_spec (n + 1) p q hp hq _ _ ?_
  have b := crs_bt hp hq
  refine least_eq n _ (by simp [isI]) (by rw [gcdL3]; exact gcd3_ne hz) (by rw [gcdL3]; exact gcd3_log hz b.1.sm b.2.1.sm b.2.2.sm) (by simp) _ _ ?_
  rw [gcdL3]
  simpa [divD, red, t3, thr, redT] using h
end Law

end
section
set_option Elab.async false
set_option linter.all false
set_option maxRecDepth 100000
set_option exponentiation.threshold 9000
/-! Po: drawn places; signed areas. -/
namespace Law
open PySem Ey
theorem pl_bt {x y w : Int} {k : Nat} (hx : Bt k x) (hy : Bt k y) (hw : Bt k w) : Bt3 k (pl x y w) := by
  have := Nat.two_pow_pos k
  obtain ⟨a, b, c⟩ := pl_le (x := x) (y := y) (w := w) (2 ^ k - 1) (by unfold Bt at hx; omega) (by unfold Bt at hy; omega) (by unfold Bt at hw; omega)
  exact ⟨by unfold Bt; exact Nat.lt_of_le_of_lt a (by omega), by unfold Bt; exact Nat.lt_of_le_of_lt b (by omega), by unfold Bt; exact Nat.lt_of_le_of_lt c (by omega)⟩
theorem bt_small {k : Nat} {i : Int} (h : i.natAbs ≤ 10 ^ 12) (hk : 40 ≤ k) : Bt k i := Bt.mono (j := 40) (Nat.lt_of_le_of_lt h (by decide)) hk
theorem drawn_spec (n : Nat) (most : Int) (hm : 0 < most) (hm2 : most ≤ 1000) (Q : DP) (E : EPo) (h : ∀ p : P3, IsPl p → Bt3 40 p → Q (t3 p)) : phi T (n + 4) "_law_drawn_place" [deckD, .int most] Q E := by
  refine ⟨_, T__law_drawn_place, rfl, ?_⟩
  show wpSs _ _ c__law_drawn_place _ [.d deckD, .d (.int most), .no, .no]
  have fin : ∀ x y w : Int, 1 ≤ w → w ≤ 7 → x.natAbs ≤ 10 ^ 12 → y.natAbs ≤ 10 ^ 12 → phi T (n + 3) "_law_place" [.int x, .int y, .int w] Q E := fun x y w w1 w7 hx hy =>
    lplacem_spec n x y w (by omega) ((bt_small hx (Nat.le_refl _)).sm) ((bt_small hy (Nat.le_refl _)).sm) ((bt_small (k := 40) (by omega) (Nat.le_refl _)).sm) _ _ (h _ (pl_is (by omega)) (pl_bt (bt_small hx (Nat.le_refl _)) (bt_small hy (Nat.le_refl _)) (bt_small (by omega) (Nat.le_refl _))))
  have tail : ∀ (w : Int) (z : Sl) (De : En), De.rt = Q → 1 ≤ w → w ≤ 7 → wpSs (phi T (n + 3)) E j__law_drawn_place_1 De [.d deckD, .d (.int most), .d (.int w), z] := fun w z De hr w1 w7 => by
    subst hr
    have m1 : 1 ≤ most * w := Int.mul_pos hm (by omega)
    have m2 : most * w ≤ 1000 * 7 := Int.mul_le_mul hm2 w7 (by omega) (by omega)
    have c1 : L2.CMul 2 most ∨ L2.CMulW 2 most := .inl (.inl ⟨by omega, by omega⟩)
    have c2 : L2.CMul (2 * most) w ∨ L2.CMulW (2 * most) w := .inl (.inr ⟨by omega, by omega⟩)
    have c3 : L2.CMul most w ∨ L2.CMulW most w := .inl (.inr ⟨by omega, by omega⟩)
    have e : 2 * most * w = 2 * (most * w) := Int.mul_assoc 2 most w
    have fl : Sl.d deckD = Sl.d deckD := rfl
    cases z with
    | _ =>
      simp [j__law_drawn_place_1, bw_mul, bw_add, c1, c2, c3, wpSs, wpS, wpE, wpEs, wpP, wpT, wpI, wpTo, viewOf, viewFrom, viewFrom_slo, slo_some, slo_none, vE, vEs, vP, vT, vI, vTo, aft, noList, noLists, frz, frz1, tg_one, tg_tt, tg_tl, tgs_nil, tgs_cons, lenT, wipeD, parOk, setPar, noOwn]
      refine draw_spec (n + 2) _ (by omega) (by omega) _ _ fun i i0 i1 => ?_
      simp only [bw_sub]
      refine draw_spec (n + 2) _ (by omega) (by omega) _ _ fun j j0 j1 => ?_
      simp only [bw_sub]
      exact fin _ _ w w1 w7 (by omega) (by omega)
  simp [c__law_drawn_place, wpSs, wpS, wpE, wpEs, wpP, wpT, wpI, wpTo, viewOf, viewFrom, viewFrom_slo, slo_some, slo_none, vE, vEs, vP, vT, vI, vTo, aft, noList, noLists, frz, frz1, tg_one, tg_tt, tg_tl, tgs_nil, tgs_cons, lenT, wipeD, parOk, setPar, noOwn]
  refine pick_spec (n + 1) _ (by simp) (by simp) _ _ fun t ht => ?_
  have tv : ∃ w : Int, t = .int w ∧ 1 ≤ w ∧ w ≤ 7 := by
    simp at ht
    rcases ht with rfl | rfl | rfl | rfl <;> exact ⟨_, rfl, by decide, by decide⟩
  obtain ⟨w, rfl, w1, w7⟩ := tv
  have tl := tail w .no { nx := fun _ => Q .none, rt := Q } rfl w1 w7
  simp only [cmpW]
  refine ⟨⟨rfl, by decide⟩, ?_⟩
  split
  · refine draw_spec (n + 2) 6 (by decide) (by decide) _ _ fun i i0 i1 => ?_
    simp [eq_ints, cw_eq, cw_ne, cw_lt, cw_le, cw_gt, cw_ge, cw_isN, cw_notN, cw_isB, cw_notB, tw_none, tw_bool, tw_int, tw_list, tw_tuple, ix_list, ix_tuple, bw_add, bw_sub, bi_len_list, bi_len_tuple, bi_repr, isNone_none, isNone_tuple, isNone_int, isNone_str, isNone_bool, eq_ints, eq_strs, eq_nilT, eq_nilL, eqv_ii, eqv_bb, eqv_ss, eqv_nn, eqv_tt, eqv_ll, eqvs_nil, eqvs_cons, eqvs_nc, eqvs_cn]
    split
    · simp [i__law_drawn_place_1, binW, L2.CPow, wpSs, wpS, wpE, wpEs, wpP, wpT, wpI, wpTo, viewOf, viewFrom, viewFrom_slo, slo_some, slo_none, vE, vEs, vP, vT, vI, vTo, aft, noList, noLists, frz, frz1, tg_one, tg_tt, tg_tl, tgs_nil, tgs_cons, lenT, wipeD, parOk, setPar, noOwn]
      refine pick_spec (n + 1) _ (by simp) (by simp) _ _ fun f hf => ?_
      have fv : ∃ k : Int, f = .int k ∧ k.natAbs = 10 ^ 11 := by
        simp at hf
        rcases hf with rfl | rfl <;> exact ⟨_, rfl, by decide⟩
      obtain ⟨k, rfl, hk⟩ := fv
      refine draw_spec (n + 2) 9 (by decide) (by decide) _ _ fun a a0 a1 => ?_
      simp only [bw_add]
      refine draw_spec (n + 2) 9 (by decide) (by decide) _ _ fun b b0 b1 => ?_
      simp only [bw_sub]
      refine draw_spec (n + 2) 2 (by decide) (by decide) _ _ fun c c0 c1 => ?_
      have cm : L2.CMul k c ∨ L2.CMulW k c := .inl (.inr ⟨by omega, by omega⟩)
      simp only [bw_mul, bw_add]
      refine ⟨cm, fin _ _ w w1 w7 (by omega) ?_⟩
      have : c = 0 ∨ c = 1 := by omega
      rcases this with rfl | rfl <;> omega
    · exact tl
  · exact tl
/-- the cross product of three places -/
theorem area_eq (p q r : P3) : (q.1 * r.2.2 * p.2.2 - p.1 * q.2.2 * r.2.2) * (r.2.1 * q.2.2 * p.2.2 - p.2.1 * q.2.2 * r.2.2) - (q.2.1 * r.2.2 * p.2.2 - p.2.1 * q.2.2 * r.2.2) * (r.1 * q.2.2 * p.2.2 - p.1 * q.2.2 * r.2.2) = (p.2.2 * q.2.2 * r.2.2) * wth (crs p q) r := by
  obtain ⟨p0, p1, p2⟩ := p
  obtain ⟨q0, q1, q2⟩ := q
  obtain ⟨r0, r1, r2⟩ := r
  simp only [wth, crs]
  grind
def t2 (a b : Int) : D := .tuple [.int a, .int b]
theorem ix2_0 {a b : Int} {Q : DP} : ixW (t2 a b) (.int 0) Q ↔ Q (.int a) := by simp [t2, ix_tuple, L2.atI, L2.ixN]
theorem ix2_1 {a b : Int} {Q : DP} : ixW (t2 a b) (.int 1) Q ↔ Q (.int b) := by simp [t2, ix_tuple, L2.atI, L2.ixN]
theorem bw_fdiv {i j : Int} {Q : DP} : binW .fdiv (.int i) (.int j) Q ↔ (j ≠ 0 ∧ j.natAbs.log2 < 9000) ∧ Q (.int (i.fdiv j)) := Iff.rfl
theorem tg_t3 {α : Type} {f : D → α} {i j k : Nat} {p : P3} {ρ : List α} {Q : List α → Prop} : tgW f (.tup (.cons (.one i) (.cons (.one j) (.cons (.one k) .nil)))) (t3 p) ρ Q ↔ Q (((ρ.set i (f (.int p.1))).set j (f (.int p.2.1))).set k (f (.int p.2.2))) := by
  simp [t3, tg_tt, tgs_cons, tgs_nil, tg_one, lenT]
theorem lturn_spec (n : Nat) (a b c d e f : Int) (k : Nat) (hk : k ≤ 10000) (ha : Bt k a) (hb : Bt k b) (hc : Bt k c) (hd : Bt k d) (he : Bt k e) (hf : Bt k f) (Q : DP) (E : EPo) (h : Q (.int (sgn ((c - a) * (f - b) - (d - b) * (e - a))))) : phi T (n + 2) "_law_turn" [t2 a b, t2 c d, t2 e f] Q E := by
  refine ⟨_, T__law_turn, rfl, ?_⟩
  show wpSs _ _ c__law_turn _ [.d (t2 a b), .d (t2 c d), .d (t2 e f)]
  simp [c__law_turn, ix2_0, ix2_1, bw_sub, bw_mul, (hc.sub ha).cm (hf.sub hb) (by omega), (hd.sub hb).cm (he.sub ha) (by omega), wpSs, wpS, wpE, wpEs, wpP, wpT, wpI, wpTo, viewOf, viewFrom, viewFrom_slo, slo_some, slo_none, vE, vEs, vP, vT, vI, vTo, aft, noList, noLists, frz, frz1, tg_one, tg_tt, tg_tl, tgs_nil, tgs_cons, lenT, wipeD, parOk, setPar, noOwn]
  exact lsign_spec n _ _ _ h
/-- a part of the sums: x over w, times the others -/
theorem over {x w a b : Int} (hw : 0 < w) : (x * a * b * w).fdiv w = x * a * b := by
  rw [Int.fdiv_eq_ediv_of_nonneg _ (by omega), Int.mul_ediv_cancel _ (by omega)]
theorem area_spec (n : Nat) (p q r : P3) (hp : IsPl p) (hq : IsPl q) (hr : IsPl r) (bp : Bt3 100 p) (bq : Bt3 100 q) (br : Bt3 100 r) (Q : DP) (E : EPo) (h : Q (.int (sgn (wth (crs p q) r)))) : phi T (n + 3) "_law_area" [t3 p, t3 q, t3 r] Q E := by
  refine ⟨_, T__law_area, rfl, ?_⟩
  show wpSs _ _ c__law_area _ [.d (t3 p), .d (t3 q), .d (t3 r), .no, .no, .no, .no]
  have q2 : ∀ {x : Int}, Bt 100 x → (L2.CMul x q.2.2 ∨ L2.CMulW x q.2.2) ∧ Bt 200 (x * q.2.2) := fun h => ⟨h.cm bq.2.2, h.mul bq.2.2⟩
  have r2 : ∀ {x : Int}, Bt 200 x → (L2.CMul x r.2.2 ∨ L2.CMulW x r.2.2) ∧ Bt 300 (x * r.2.2) := fun h => ⟨h.cm br.2.2, h.mul br.2.2⟩
  have p2 : ∀ {x : Int}, Bt 300 x → (L2.CMul x p.2.2 ∨ L2.CMulW x p.2.2) := fun h => h.cm bp.2.2
  have lg : ∀ {x : Int}, Bt 100 x → x.natAbs.log2 < 9000 := fun {x} h => by
    by_cases z : x.natAbs = 0
    · rw [z]; decide
    · exact Nat.lt_of_lt_of_le ((Nat.log2_lt z).mpr h) (by decide)
  have ne : ∀ {s : P3}, IsPl s → s.2.2 ≠ 0 := fun {s} h => by have := h.1; omega
  have ep : ∀ x : Int, (x * q.2.2 * r.2.2 * p.2.2).fdiv p.2.2 = x * q.2.2 * r.2.2 := fun x => over hp.1
  have eq : ∀ x : Int, (x * q.2.2 * r.2.2 * p.2.2).fdiv q.2.2 = x * r.2.2 * p.2.2 := fun x => by
    rw [show x * q.2.2 * r.2.2 * p.2.2 = x * r.2.2 * p.2.2 * q.2.2 by grind]; exact over hq.1
  have er : ∀ x : Int, (x * q.2.2 * r.2.2 * p.2.2).fdiv r.2.2 = x * q.2.2 * p.2.2 := fun x => by
    rw [show x * q.2.2 * r.2.2 * p.2.2 = x * q.2.2 * p.2.2 * r.2.2 by grind]; exact over hr.1
  have all : ∀ {x : Int}, Bt 100 x → ((L2.CMul x q.2.2 ∨ L2.CMulW x q.2.2) ∧ (L2.CMul (x * q.2.2) r.2.2 ∨ L2.CMulW (x * q.2.2) r.2.2)) ∧ (L2.CMul (x * q.2.2 * r.2.2) p.2.2 ∨ L2.CMulW (x * q.2.2 * r.2.2) p.2.2) := fun h => ⟨⟨(q2 h).1, (r2 (q2 h).2).1⟩, p2 (r2 (q2 h).2).2⟩
  simp [c__law_area, lcGo, tg_t3, ix3_0, ix3_1, ix3_2, bw_mul, bw_fdiv, all bp.1, all bp.2.1, all bq.1, all bq.2.1, all br.1, all br.2.1, ne hp, ne hq, ne hr, lg bp.2.2, lg bq.2.2, lg br.2.2, ep, eq, er, wpSs, wpS, wpE, wpEs, wpP, wpT, wpI, wpTo, viewOf, viewFrom, viewFrom_slo, slo_some, slo_none, vE, vEs, vP, vT, vI, vTo, aft, noList, noLists, frz, frz1, tg_one, tg_tt, tg_tl, tgs_nil, tgs_cons, lenT, wipeD, parOk, setPar, noOwn]
  simp only [ix_list, L2.atI, L2.ixN]
  have b3 : ∀ {x a b : Int}, Bt 100 x → Bt 100 a → Bt 100 b → Bt 300 (x * a * b) := fun hx ha hb => (hx.mul ha).mul hb
  simp
  refine lturn_spec n _ _ _ _ _ _ 300 (by decide) (b3 bp.1 bq.2.2 br.2.2) (b3 bp.2.1 bq.2.2 br.2.2) (b3 bq.1 br.2.2 bp.2.2) (b3 bq.2.1 br.2.2 bp.2.2) (b3 br.1 bq.2.2 bp.2.2) (b3 br.2.1 bq.2.2 bp.2.2) _ _ ?_
  rw [area_eq, sgn_mul (Int.mul_pos (Int.mul_pos hp.1 hq.1) hr.1)]
  exact h
end Law
namespace Law
open PySem Ey
theorem side_ok (n : Nat) (l s : P3) (hl : IsLn l) (hs : IsPl s) (bl : Bt3 7000 l) (bs : Bt3 7000 s) (Q : DP) (E : EPo) (h : Q (.int (sgn (wth l s)))) : phi T (n + 5) "side" [t3 l, t3 s] Q E := by
  refine side_spec n _ _ (t3_len l) (t3_len s) _ _ (fun e => ?_) (fun _ e => ?_) fun p q hp hq e1 e2 => ?_
  · rw [lineD_iff.mpr ⟨l, rfl, hl⟩] at e; cases e
  · rw [placeD_iff.mpr ⟨s, rfl, hs⟩] at e; cases e
  · have a1 : p = l := by
      simp only [t3, PyData.tuple.injEq, List.cons.injEq, PyData.int.injEq, and_true] at e1
      exact (Prod.ext e1.1 (Prod.ext e1.2.1 e1.2.2)).symm
    have a2 : q = s := by
      simp only [t3, PyData.tuple.injEq, List.cons.injEq, PyData.int.injEq, and_true] at e2
      exact (Prod.ext e2.1 (Prod.ext e2.2.1 e2.2.2)).symm
    subst a1; subst a2
    exact ⟨bl, bs, h⟩
theorem through_ok (n : Nat) (p q : P3) (hp : IsPl p) (hq : IsPl q) (ne : p ≠ q) (bp : Bt3 3000 p) (bq : Bt3 3000 q) (Q : DP) (E : EPo) (h : Q (t3 (thr p q))) : phi T (n + 5) "through" [t3 p, t3 q] Q E := by
  refine through_spec n _ _ (t3_len p) (t3_len q) _ _ (fun e => ?_) (fun _ e => ?_) fun a b ha hb e1 e2 => ?_
  · rw [placeD_iff.mpr ⟨p, rfl, hp⟩] at e; cases e
  · rw [placeD_iff.mpr ⟨q, rfl, hq⟩] at e; cases e
  · have a1 : a = p := by
      simp only [t3, PyData.tuple.injEq, List.cons.injEq, PyData.int.injEq, and_true] at e1
      exact (Prod.ext e1.1 (Prod.ext e1.2.1 e1.2.2)).symm
    have a2 : b = q := by
      simp only [t3, PyData.tuple.injEq, List.cons.injEq, PyData.int.injEq, and_true] at e2
      exact (Prod.ext e2.1 (Prod.ext e2.2.1 e2.2.2)).symm
    subst a1; subst a2
    rw [if_neg ne]
    exact ⟨bp, bq, h⟩
/-- a place on the line of two: (2 - k) p + k q, each over its denominator -/
def mid (k : Int) (p q : P3) : P3 := (p.1 * q.2.2 * (2 - k) + q.1 * p.2.2 * k, p.2.1 * q.2.2 * (2 - k) + q.2.1 * p.2.2 * k, 2 * p.2.2 * q.2.2)
theorem crs_smul (g : Int) (p m : P3) : crs p (smul g m) = smul g (crs p m) := by
  obtain ⟨p0, p1, p2⟩ := p
  obtain ⟨m0, m1, m2⟩ := m
  simp only [crs, smul, Prod.mk.injEq]
  refine ⟨?_, ?_, ?_⟩ <;> grind
theorem crs_mid (k : Int) (p q : P3) : crs p (mid k p q) = smul (k * p.2.2) (crs p q) := by
  obtain ⟨p0, p1, p2⟩ := p
  obtain ⟨q0, q1, q2⟩ := q
  simp only [crs, smul, mid, Prod.mk.injEq]
  refine ⟨?_, ?_, ?_⟩ <;> grind
theorem wth_mid (k : Int) (p q : P3) : wth (crs p q) (mid k p q) = 0 := by
  obtain ⟨p0, p1, p2⟩ := p
  obtain ⟨q0, q1, q2⟩ := q
  simp only [crs, wth, mid]
  grind
theorem mid_side {k : Int} {p q m : P3} {g : Nat} (hg : 0 < g) (e : mid k p q = smul g m) (hz : Nz (crs p q)) : sgn (wth (thr p q) m) = 0 := by
  rw [← side_thr hz]
  have h := wth_mid k p q
  rw [e, wth_smul_r] at h
  rcases Int.mul_eq_zero.mp h with z | z
  · omega
  · rw [z]; rfl
theorem nz_smul {k : Int} (hk : k ≠ 0) {c : P3} (h : Nz c) : Nz (smul k c) := by
  unfold Nz smul at *
  rcases h with h | h | h
  · exact .inl (Int.mul_ne_zero hk h)
  · exact .inr (.inl (Int.mul_ne_zero hk h))
  · exact .inr (.inr (Int.mul_ne_zero hk h))
theorem smul_nz {k : Int} {c : P3} (h : Nz (smul k c)) : Nz c := by
  unfold Nz smul at *
  rcases h with h | h | h
  · exact .inl fun z => h (by rw [z]; simp)
  · exact .inr (.inl fun z => h (by rw [z]; simp))
  · exact .inr (.inr fun z => h (by rw [z]; simp))
theorem mid_nz {k : Int} (hk : 0 < k) {p q m : P3} (hp : IsPl p) {g : Nat} (e : mid k p q = smul g m) (hz : Nz (crs p q)) : Nz (crs p m) := by
  have h := crs_mid k p q
  rw [e, crs_smul] at h
  refine smul_nz (k := g) ?_
  rw [h]
  exact nz_smul (Int.mul_ne_zero (by omega) (by have := hp.1; omega)) hz
theorem crs_self (p : P3) : crs p p = (0, 0, 0) := by
  obtain ⟨p0, p1, p2⟩ := p
  simp only [crs, Prod.mk.injEq]
  refine ⟨?_, ?_, ?_⟩ <;> grind
theorem nz_ne {p m : P3} (h : Nz (crs p m)) : p ≠ m := fun z => by
  rw [z, crs_self] at h
  unfold Nz at h
  simp at h
theorem mid_thr {k : Int} (hk : 0 < k) {p q m : P3} (hp : IsPl p) {g : Nat} (hg : 0 < g) (e : mid k p q = smul g m) : thr p m = thr p q := by
  have h := crs_mid k p q
  rw [e, crs_smul] at h
  obtain ⟨a, ha⟩ := Int.eq_ofNat_of_zero_le (Int.le_of_lt (Int.mul_pos hk hp.1))
  have hap : 0 < k * p.2.2 := Int.mul_pos hk hp.1
  unfold thr
  rw [← redT_smul (k := g) (by omega) (crs p m), h, ha, redT_smul (by omega)]
end Law

end
section
set_option Elab.async false
set_option linter.all false
set_option maxRecDepth 100000
set_option exponentiation.threshold 9000
/-! Pq: where lines meet. -/
namespace Law
open PySem Ey
def plT (c : P3) : P3 := pl c.1 c.2.1 c.2.2
def meetD (l m : P3) : D := if (crs l m).2.2 = 0 then .none else t3 (plT (crs l m))
theorem plT_neg {c : P3} (h : c.2.2 ≠ 0) : plT (neg3 c) = plT c := by
  have := pl_mul (k := -1) (by decide) (x := c.1) (y := c.2.1) h
  simpa [plT, neg3] using this
theorem meetD_swap (l m : P3) : meetD m l = meetD l m := by
  unfold meetD
  rw [crs_swap l m]
  by_cases z : (crs l m).2.2 = 0
  · simp [neg3, z]
  · rw [if_neg z, if_neg (by simpa [neg3] using z), plT_neg z]
theorem crs_neg (l m : P3) : crs (neg3 l) m = neg3 (crs l m) := by
  obtain ⟨l0, l1, l2⟩ := l
  obtain ⟨m0, m1, m2⟩ := m
  simp only [crs, neg3, Prod.mk.injEq]
  refine ⟨?_, ?_, ?_⟩ <;> grind
theorem meetD_neg (l m : P3) : meetD (neg3 l) m = meetD l m := by
  unfold meetD
  rw [crs_neg]
  by_cases z : (crs l m).2.2 = 0
  · simp [neg3, z]
  · rw [if_neg z, if_neg (by simpa [neg3] using z), plT_neg z]
/-- a row is on the ray of its place, one way or the other -/
theorem plT_ray {c : P3} (h : c.2.2 ≠ 0) : ∃ g : Int, g ≠ 0 ∧ c = smul g (plT c) := by
  by_cases s : 0 < c.2.2
  · obtain ⟨g, g0, e⟩ := pl_smul (x := c.1) (y := c.2.1) s
    exact ⟨g, by omega, e⟩
  · obtain ⟨g, g0, e⟩ := pl_smul (x := (neg3 c).1) (y := (neg3 c).2.1) (show 0 < (neg3 c).2.2 by simp only [neg3]; omega)
    refine ⟨-g, by omega, ?_⟩
    have e2 : neg3 c = smul g (plT (neg3 c)) := e
    rw [plT_neg h] at e2
    simp only [neg3, smul, Prod.mk.injEq] at e2
    refine Prod.ext ?_ (Prod.ext ?_ ?_)
    · show c.1 = -(g : Int) * (plT c).1
      rw [Int.neg_mul]; omega
    · show c.2.1 = -(g : Int) * (plT c).2.1
      rw [Int.neg_mul]; omega
    · show c.2.2 = -(g : Int) * (plT c).2.2
      rw [Int.neg_mul]; omega
theorem meet_on_l {l m : P3} (h : (crs l m).2.2 ≠ 0) : wth l (plT (crs l m)) = 0 := by
  obtain ⟨g, g0, e⟩ := plT_ray h
  have z : wth l (crs l m) = 0 := by
    obtain ⟨l0, l1, l2⟩ := l
    obtain ⟨m0, m1, m2⟩ := m
    simp only [wth, crs]; grind
  have e2 : wth l (crs l m) = g * wth l (plT (crs l m)) := by
    rw [← wth_smul_r, ← e]
  rw [z] at e2
  rcases Int.mul_eq_zero.mp e2.symm with q | q
  · exact absurd q g0
  · exact q
theorem meet_on_m {l m : P3} (h : (crs l m).2.2 ≠ 0) : wth m (plT (crs l m)) = 0 := by
  obtain ⟨g, g0, e⟩ := plT_ray h
  have z : wth m (crs l m) = 0 := by
    obtain ⟨l0, l1, l2⟩ := l
    obtain ⟨m0, m1, m2⟩ := m
    simp only [wth, crs]; grind
  have e2 : wth m (crs l m) = g * wth m (plT (crs l m)) := by
    rw [← wth_smul_r, ← e]
  rw [z] at e2
  rcases Int.mul_eq_zero.mp e2.symm with q | q
  · exact absurd q g0
  · exact q
theorem plT_bt {c : P3} {k : Nat} (h : Bt3 k c) : Bt3 k (plT c) := pl_bt h.1 h.2.1 h.2.2
theorem plT_is {c : P3} (h : c.2.2 ≠ 0) : IsPl (plT c) := pl_is h
theorem meeting_raw_spec (n : Nat) (p q : P3) (hp : Bt3 3000 p) (hq : Bt3 3000 q) (Q : DP) (E : EPo) (h : Q (meetD p q)) : phi T (n + 2) "meeting_raw" [t3 p, t3 q] Q E := by
  refine ⟨_, T_meeting_raw, rfl, ?_⟩
  show wpSs _ _ c_meeting_raw _ [.d (t3 p), .d (t3 q), .no]
  have b := crs_bt hp hq
  simp [c_meeting_raw, j_meeting_raw_1, ix3_0, ix3_1, ix3_2, bw_mul, bw_sub, hp.1.cm hq.1, hp.1.cm hq.2.1, hp.1.cm hq.2.2, hp.2.1.cm hq.1, hp.2.1.cm hq.2.1, hp.2.1.cm hq.2.2, hp.2.2.cm hq.1, hp.2.2.cm hq.2.1, hp.2.2.cm hq.2.2, hq.1.cm hp.1, hq.1.cm hp.2.1, hq.1.cm hp.2.2, hq.2.1.cm hp.1, hq.2.1.cm hp.2.1, hq.2.1.cm hp.2.2, hq.2.2.cm hp.1, hq.2.2.cm hp.2.1, hq.2.2.cm hp.2.2, wpSs, wpS, wpE, wpEs, wpP, wpT, wpI, wpTo, viewOf, viewFrom, viewFrom_slo, slo_some, slo_none, vE, vEs, vP, vT, vI, vTo, aft, noList, noLists, frz, frz1, tg_one, tg_tt, tg_tl, tgs_nil, tgs_cons, lenT, wipeD, parOk, setPar, noOwn]
  simp [eq_ints, cw_eq, cw_ne, cw_lt, cw_le, cw_gt, cw_ge, cw_isN, cw_notN, cw_isB, cw_notB, tw_none, tw_bool, tw_int, tw_list, tw_tuple, ix_list, ix_tuple, bw_add, bw_sub, bi_len_list, bi_len_tuple, bi_repr, isNone_none, isNone_tuple, isNone_int, isNone_str, isNone_bool, eq_ints, eq_strs, eq_nilT, eq_nilL, eqv_ii, eqv_bb, eqv_ss, eqv_nn, eqv_tt, eqv_ll, eqvs_nil, eqvs_cons, eqvs_nc, eqvs_cn]
  unfold meetD at h
  by_cases z : (crs p q).2.2 = 0
  · rw [if_pos z] at h
    rw [if_pos (show p.1 * q.2.1 - q.1 * p.2.1 = 0 from z)]
    exact h
  · rw [if_neg z] at h
    rw [if_neg (show ¬ p.1 * q.2.1 - q.1 * p.2.1 = 0 from z)]
    exact place_raw_spec n _ _ _ z b.1.sm b.2.1.sm b.2.2.sm _ _ h
theorem meeting_spec (n : Nat) (x y : D) (hx : LenOk x) (hy : LenOk y) (Q : DP) (E : EPo) (h1 : lineD x = false → E "BadLine" x) (h2 : lineD x = true → lineD y = false → E "BadLine" y)
    (h3 : ∀ l m, IsLn l → IsLn m → x = t3 l → y = t3 m → Bt3 3000 l ∧ Bt3 3000 m ∧ Q (meetD l m)) : phi T (n + 5) "meeting" [x, y] Q E := by
  refine ⟨_, T_meeting, rfl, ?_⟩
  show wpSs _ _ c_meeting _ [.d x, .d y]
  simp [c_meeting, wpSs, wpS, wpE, wpEs, wpP, wpT, wpI, wpTo, viewOf, viewFrom, viewFrom_slo, slo_some, slo_none, vE, vEs, vP, vT, vI, vTo, aft, noList, noLists, frz, frz1, tg_one, tg_tt, tg_tl, tgs_nil, tgs_cons, lenT, wipeD, parOk, setPar, noOwn]
  refine need_line_spec n x hx _ _ (fun ex => ?_) h1
  refine need_line_spec n y hy _ _ (fun ey => ?_) (h2 ex)
  obtain ⟨p, rfl, hp⟩ := lineD_iff.mp ex
  obtain ⟨q, rfl, hq⟩ := lineD_iff.mp ey
  obtain ⟨a, b, h⟩ := h3 p q hp hq rfl rfl
  exact meeting_raw_spec (n + 2) p q a b _ _ h
theorem t3_inj {p q : P3} (e : t3 p = t3 q) : p = q := by
  simp only [t3, PyData.tuple.injEq, List.cons.injEq, PyData.int.injEq, and_true] at e
  exact Prod.ext e.1 (Prod.ext e.2.1 e.2.2)
theorem meeting_ok (n : Nat) (l m : P3) (hl : IsLn l) (hm : IsLn m) (bl : Bt3 3000 l) (bm : Bt3 3000 m) (Q : DP) (E : EPo) (h : Q (meetD l m)) : phi T (n + 5) "meeting" [t3 l, t3 m] Q E := by
  refine meeting_spec n _ _ (t3_len l) (t3_len m) _ _ (fun e => ?_) (fun _ e => ?_) fun a b ha hb e1 e2 => ?_
  · rw [lineD_iff.mpr ⟨l, rfl, hl⟩] at e; cases e
  · rw [lineD_iff.mpr ⟨m, rfl, hm⟩] at e; cases e
  · rw [← t3_inj e1, ← t3_inj e2]
    exact ⟨bl, bm, h⟩
theorem lmeeting_spec (n : Nat) (p q : P3) (hp : Bt3 3000 p) (hq : Bt3 3000 q) (Q : DP) (E : EPo) (h : Q (meetD p q)) : phi T (n + 4) "_law_meeting" [t3 p, t3 q] Q E := by
  refine ⟨_, T__law_meeting, rfl, ?_⟩
  show wpSs _ _ c__law_meeting _ [.d (t3 p), .d (t3 q), .no, .no, .no]
  have b := crs_bt hp hq
  simp [c__law_meeting, wpSs, wpS, wpE, wpEs, wpP, wpT, wpI, wpTo, viewOf, viewFrom, viewFrom_slo, slo_some, slo_none, vE, vEs, vP, vT, vI, vTo, aft, noList, noLists, frz, frz1, tg_one, tg_tt, tg_tl, tgs_nil, tgs_cons, lenT, wipeD, parOk, setPar, noOwn]
  refine lcross_spec (n + 2) p q hp hq _ _ ?_
  rw [tg_t3]
  simp [t3, wpSs, wpS, wpE, wpEs, wpP, wpT, wpI, wpTo, viewOf, viewFrom, viewFrom_slo, slo_some, slo_none, vE, vEs, vP, vT, vI, vTo, aft, noList, noLists, frz, frz1, tg_one, tg_tt, tg_tl, tgs_nil, tgs_cons, lenT, wipeD, parOk, setPar, noOwn]
  simp [eq_ints, cw_eq, cw_ne, cw_lt, cw_le, cw_gt, cw_ge, cw_isN, cw_notN, cw_isB, cw_notB, tw_none, tw_bool, tw_int, tw_list, tw_tuple, ix_list, ix_tuple, bw_add, bw_sub, bi_len_list, bi_len_tuple, bi_repr, isNone_none, isNone_tuple, isNone_int, isNone_str, isNone_bool, eq_ints, eq_strs, eq_nilT, eq_nilL, eqv_ii, eqv_bb, eqv_ss, eqv_nn, eqv_tt, eqv_ll, eqvs_nil, eqvs_cons, eqvs_nc, eqvs_cn]
  unfold meetD at h
  by_cases z : (crs p q).2.2 = 0
  · rw [if_pos z] at h
    rw [if_pos z]
    exact h
  · rw [if_neg z] at h
    rw [if_neg z]
    exact lplacem_spec n _ _ _ z b.1.sm b.2.1.sm b.2.2.sm _ _ h
end Law

end
section
set_option Elab.async false
set_option linter.all false
set_option maxRecDepth 100000
set_option exponentiation.threshold 9000
/-! Pr: the plane turned, mirrored, scaled and moved. -/
namespace Law
open PySem Ey
structure Mv where
  (a b c d x y : Int)
namespace Mv
variable (m : Mv)
def det : Int := m.a * m.d - m.b * m.c
def raw (p : P3) : P3 := (m.a * p.1 + m.b * p.2.1 + m.x * p.2.2, m.c * p.1 + m.d * p.2.1 + m.y * p.2.2, p.2.2)
def cof (l : P3) : P3 := (m.d * l.1 - m.c * l.2.1, m.a * l.2.1 - m.b * l.1, (m.b * m.y - m.x * m.d) * l.1 - (m.a * m.y - m.x * m.c) * l.2.1 + m.det * l.2.2)
def mv (p : P3) : P3 := plT (m.raw p)
end Mv
theorem p3_ext {p q : P3} (h1 : p.1 = q.1) (h2 : p.2.1 = q.2.1) (h3 : p.2.2 = q.2.2) : p = q := by
  obtain ⟨a, b, c⟩ := p
  obtain ⟨d, e, f⟩ := q
  simp only at h1 h2 h3
  subst h1 h2 h3
  rfl
variable {m : Mv}
theorem crs_raw (p q : P3) : crs (m.raw p) (m.raw q) = m.cof (crs p q) := by
  apply p3_ext <;> simp only [crs, Mv.raw, Mv.cof, Mv.det] <;> grind
theorem wth_cof (l p : P3) : wth (m.cof l) (m.raw p) = m.det * wth l p := by
  simp only [wth, Mv.raw, Mv.cof, Mv.det]; grind
theorem crs_cof (l k : P3) : crs (m.cof l) (m.cof k) = smul m.det (m.raw (crs l k)) := by
  apply p3_ext <;> simp only [crs, Mv.raw, Mv.cof, Mv.det, smul] <;> grind
theorem cof_smul (k : Int) (l : P3) : m.cof (smul k l) = smul k (m.cof l) := by
  apply p3_ext <;> simp only [Mv.cof, Mv.det, smul] <;> grind
theorem raw_smul (k : Int) (l : P3) : m.raw (smul k l) = smul k (m.raw l) := by
  apply p3_ext <;> simp only [Mv.raw, smul] <;> grind
theorem crs_smul2 (j k : Int) (p q : P3) : crs (smul j p) (smul k q) = smul (j * k) (crs p q) := by
  apply p3_ext <;> simp only [crs, smul] <;> grind
theorem smul_smul (j k : Int) (p : P3) : smul j (smul k p) = smul (j * k) p := by
  apply p3_ext <;> simp only [smul] <;> grind
theorem cof_nz (hd : m.det ≠ 0) {l : P3} (h : Nz l) : Nz (m.cof l) := by
  by_cases z : Nz (m.cof l)
  · exact z
  exfalso
  have z1 : m.d * l.1 - m.c * l.2.1 = 0 ∧ m.a * l.2.1 - m.b * l.1 = 0 ∧ (m.b * m.y - m.x * m.d) * l.1 - (m.a * m.y - m.x * m.c) * l.2.1 + m.det * l.2.2 = 0 := by
    unfold Nz Mv.cof at z
    simp only at z
    omega
  obtain ⟨e1, e2, e3⟩ := z1
  have f1 : m.det * l.1 = 0 := by unfold Mv.det; grind
  have f2 : m.det * l.2.1 = 0 := by unfold Mv.det; grind
  have g1 := (Int.mul_eq_zero.mp f1).resolve_left hd
  have g2 := (Int.mul_eq_zero.mp f2).resolve_left hd
  rw [g1, g2] at e3
  have f3 : m.det * l.2.2 = 0 := by simpa using e3
  have g3 := (Int.mul_eq_zero.mp f3).resolve_left hd
  unfold Nz at h
  omega
theorem mv_pl {p : P3} (hp : IsPl p) : IsPl (m.mv p) := pl_is (by have := hp.1; show p.2.2 ≠ 0; omega)
theorem mv_ray {p : P3} (hp : IsPl p) : ∃ g : Nat, 0 < g ∧ m.raw p = smul g (m.mv p) := pl_smul (x := (m.raw p).1) (y := (m.raw p).2.1) (w := p.2.2) hp.1
theorem mv_crs (hd : m.det ≠ 0) {p q : P3} (hp : IsPl p) (hq : IsPl q) : ∃ g : Nat, 0 < g ∧ m.cof (crs p q) = smul g (crs (m.mv p) (m.mv q)) := by
  obtain ⟨g, g0, e⟩ := mv_ray (m := m) hp
  obtain ⟨h, h0, f⟩ := mv_ray (m := m) hq
  refine ⟨g * h, Nat.mul_pos g0 h0, ?_⟩
  rw [← crs_raw, e, f, crs_smul2, Int.natCast_mul]
theorem mv_ne (hd : m.det ≠ 0) {p q : P3} (hp : IsPl p) (hq : IsPl q) (ne : p ≠ q) : m.mv p ≠ m.mv q := by
  obtain ⟨g, g0, e⟩ := mv_crs (m := m) hd hp hq
  have z := cof_nz hd (crs_nz hp hq ne)
  rw [e] at z
  exact nz_ne (smul_nz z)
/-- a line through two moved places -/
theorem mv_thr (hd : m.det ≠ 0) {p q : P3} (hp : IsPl p) (hq : IsPl q) (ne : p ≠ q) : ∃ g : Nat, 0 < g ∧ m.cof (thr p q) = smul g (thr (m.mv p) (m.mv q)) := by
  obtain ⟨g, g0, e⟩ := mv_crs (m := m) hd hp hq
  obtain ⟨h, h0, f, _⟩ := red_eq (crs_nz hp hq ne)
  have e1 : thr (m.mv p) (m.mv q) = redT (m.cof (thr p q)) := by
    have z : smul h (m.cof (thr p q)) = smul g (crs (m.mv p) (m.mv q)) := by
      rw [← e, ← cof_smul]
      exact congrArg m.cof f.symm
    have y := congrArg redT z
    rw [redT_smul (by omega), redT_smul (by omega)] at y
    exact y.symm
  have nz := cof_nz hd (crs_nz hp hq ne)
  rw [f, cof_smul] at nz
  obtain ⟨k, k0, r, _⟩ := red_eq (smul_nz nz)
  exact ⟨k, k0, by rw [e1]; exact r⟩
theorem sgn_mul_neg {k : Int} (hk : k < 0) (i : Int) : sgn (k * i) = -sgn i := by
  have h : k * i = -((-k) * i) := by grind
  have g := sgn_mul (k := -k) (by omega) i
  rw [h]
  unfold sgn at g ⊢
  split at g <;> split <;> (try split at g) <;> (try split) <;> omega
def dsg (k : Int) : Int := if 0 < k then 1 else -1
theorem sgn_dsg {k : Int} (hk : k ≠ 0) (i : Int) : sgn (k * i) = dsg k * sgn i := by
  unfold dsg
  by_cases z : 0 < k
  · rw [if_pos z, sgn_mul z]; omega
  · rw [if_neg z, sgn_mul_neg (by omega)]; omega
theorem mv_side (hd : m.det ≠ 0) {p q r : P3} (hp : IsPl p) (hq : IsPl q) (hr : IsPl r) (ne : p ≠ q) : sgn (wth (thr (m.mv p) (m.mv q)) (m.mv r)) = dsg m.det * sgn (wth (thr p q) r) := by
  obtain ⟨g, g0, e⟩ := mv_thr hd hp hq ne
  obtain ⟨h, h0, f⟩ := mv_ray (m := m) hr
  have z := wth_cof (m := m) (thr p q) r
  rw [e, f, wth_smul_l, wth_smul_r] at z
  rw [← sgn_dsg hd, ← z, sgn_mul (by omega), sgn_mul (by omega)]
theorem plT_smul {k : Int} (hk : k ≠ 0) {c : P3} (h : c.2.2 ≠ 0) : plT (smul k c) = plT c := by
  have z := pl_mul (k := k) hk (x := c.1) (y := c.2.1) (w := c.2.2) h
  unfold plT smul
  simp only
  rw [← z]
  congr 1 <;> rw [Int.mul_comm]
theorem mv_meet (hd : m.det ≠ 0) {p q r s : P3} (hp : IsPl p) (hq : IsPl q) (hr : IsPl r) (hs : IsPl s) (ne : p ≠ q) (ne2 : r ≠ s) :
    ((crs (thr (m.mv p) (m.mv q)) (thr (m.mv r) (m.mv s))).2.2 = 0 ↔ (crs (thr p q) (thr r s)).2.2 = 0) ∧
    ((crs (thr p q) (thr r s)).2.2 ≠ 0 → plT (crs (thr (m.mv p) (m.mv q)) (thr (m.mv r) (m.mv s))) = m.mv (plT (crs (thr p q) (thr r s)))) := by
  obtain ⟨g, g0, e⟩ := mv_thr hd hp hq ne
  obtain ⟨h, h0, f⟩ := mv_thr hd hr hs ne2
  have z := crs_cof (m := m) (thr p q) (thr r s)
  rw [e, f, crs_smul2] at z
  have gh : (g : Int) * (h : Int) ≠ 0 := Int.mul_ne_zero (by omega) (by omega)
  have z3 : ((g : Int) * h) * (crs (thr (m.mv p) (m.mv q)) (thr (m.mv r) (m.mv s))).2.2 = m.det * (crs (thr p q) (thr r s)).2.2 := congrArg (fun c : P3 => c.2.2) z
  have io : (crs (thr (m.mv p) (m.mv q)) (thr (m.mv r) (m.mv s))).2.2 = 0 ↔ (crs (thr p q) (thr r s)).2.2 = 0 := by
    constructor
    · intro y
      rw [y, Int.mul_zero] at z3
      exact (Int.mul_eq_zero.mp z3.symm).resolve_left hd
    · intro y
      rw [y, Int.mul_zero] at z3
      exact (Int.mul_eq_zero.mp z3).resolve_left gh
  refine ⟨io, fun nz => ?_⟩
  have nz' : (crs (thr (m.mv p) (m.mv q)) (thr (m.mv r) (m.mv s))).2.2 ≠ 0 := fun y => nz (io.mp y)
  obtain ⟨k, k0, c⟩ := plT_ray nz
  have y : plT (crs (thr (m.mv p) (m.mv q)) (thr (m.mv r) (m.mv s))) = plT (m.raw (crs (thr p q) (thr r s))) := by
    rw [← plT_smul gh nz', z, plT_smul hd (by exact nz)]
  rw [y]
  show _ = plT (m.raw _)
  have w := congrArg m.raw c
  rw [raw_smul] at w
  rw [w, plT_smul k0]
  exact Int.ne_of_gt (plT_is nz).1
/-- the quarter turns, mirrored or not -/
def turnM (many : Int) (mir : Bool) : Int × Int × Int × Int :=
  let e : Int := if mir then -1 else 1
  if many = 0 then (e, 0, 0, 1) else if many = 1 then (0, -1, e, 0) else if many = 2 then (-e, 0, 0, -1) else (0, 1, -e, 0)
def mvOf (many : Int) (mir : Bool) (sc x y : Int) : Mv :=
  let t := turnM many mir
  ⟨t.1 * sc, t.2.1 * sc, t.2.2.1 * sc, t.2.2.2 * sc, x, y⟩
theorem mvOf_det (many : Int) (mir : Bool) {sc : Int} (hs : 0 < sc) (x y : Int) : (mvOf many mir sc x y).det ≠ 0 ∧ dsg (mvOf many mir sc x y).det = if mir then -1 else 1 := by
  have p : 0 < sc * sc := Int.mul_pos hs hs
  have e : (mvOf many mir sc x y).det = (if mir then -1 else 1) * (sc * sc) := by
    unfold Mv.det mvOf turnM
    cases mir <;> simp only [Bool.false_eq_true, if_true, if_false] <;> (split; · grind) <;> (split; · grind) <;> (split; · grind) <;> grind
  rw [e]
  unfold dsg
  cases mir
  · simp only [Bool.false_eq_true, if_false]
    exact ⟨by omega, by rw [if_pos (by omega)]⟩
  · simp only [if_true]
    exact ⟨by omega, by rw [if_neg (by omega)]⟩
theorem moved_spec (n : Nat) (a b many sc x y : Int) (mir : Bool) (h0 : 0 ≤ many) (h4 : many < 4) (s0 : 0 < sc) (s9 : sc < 100) (Q : DP) (E : EPo)
    (h : Q (t2 ((mvOf many mir sc x y).a * a + (mvOf many mir sc x y).b * b + x) ((mvOf many mir sc x y).c * a + (mvOf many mir sc x y).d * b + y))) :
    phi T (n + 1) "_law_moved" [t2 a b, .int many, .bool mir, .int sc, .int x, .int y] Q E := by
  have cm : ∀ i : Int, L2.CMul i sc ∨ L2.CMulW i sc := fun i => .inl (.inr ⟨by omega, by omega⟩)
  refine ⟨_, T__law_moved, rfl, ?_⟩
  show wpSs _ _ c__law_moved _ [.d (t2 a b), .d (.int many), .d (.bool mir), .d (.int sc), .d (.int x), .d (.int y), .no, .no]
  have hm : many = 0 ∨ many = 1 ∨ many = 2 ∨ many = 3 := by omega
  cases mir <;> rcases hm with rfl | rfl | rfl | rfl <;>
  · simp [c__law_moved, ix2_0, ix2_1, rngD, List.range_succ, forGo, b__law_moved_1, j__law_moved_1, wpSs, wpS, wpE, wpEs, wpP, wpT, wpI, wpTo, viewOf, viewFrom, viewFrom_slo, slo_some, slo_none, vE, vEs, vP, vT, vI, vTo, aft, noList, noLists, frz, frz1, tg_one, tg_tt, tg_tl, tgs_nil, tgs_cons, lenT, wipeD, parOk, setPar, noOwn]
    simp [L2.atI, L2.ixN, bw_mul, cw_eq, cw_ne, cw_lt, cw_le, cw_gt, cw_ge, cw_isN, cw_notN, cw_isB, cw_notB, tw_none, tw_bool, tw_int, tw_list, tw_tuple, ix_list, ix_tuple, bw_add, bw_sub, bi_len_list, bi_len_tuple, bi_repr, isNone_none, isNone_tuple, isNone_int, isNone_str, isNone_bool, eq_ints, eq_strs, eq_nilT, eq_nilL, eqv_ii, eqv_bb, eqv_ss, eqv_nn, eqv_tt, eqv_ll, eqvs_nil, eqvs_cons, eqvs_nc, eqvs_cn]
    refine ⟨cm _, cm _, ?_⟩
    refine cast (congrArg Q ?_) h
    simp only [mvOf, turnM, t2, PyData.tuple.injEq, List.cons.injEq, PyData.int.injEq, and_true]
    constructor <;> simp <;> grind
theorem Mv.raw_bt {k : Nat} {p : P3} (h : Bt3 k p) (ha : Bt 7 m.a) (hb : Bt 7 m.b) (hc : Bt 7 m.c) (hd : Bt 7 m.d) (hx : Bt 7 m.x) (hy : Bt 7 m.y) : Bt3 (k + 9) (m.raw p) := by
  have q : ∀ {a b x : Int}, Bt 7 a → Bt 7 b → Bt 7 x → Bt (k + 9) (a * p.1 + b * p.2.1 + x * p.2.2) := fun ha hb hx =>
    (((ha.mul h.1).add (hb.mul h.2.1)).add ((hx.mul h.2.2).mono (by omega))).mono (by omega)
  exact ⟨q ha hb hx, q hc hd hy, h.2.2.mono (by omega)⟩
theorem mvOf_bt {many : Int} {mir : Bool} {sc : Int} (s0 : 0 < sc) (s9 : sc < 100) (x y : Int) : Bt 7 (mvOf many mir sc x y).a ∧ Bt 7 (mvOf many mir sc x y).b ∧ Bt 7 (mvOf many mir sc x y).c ∧ Bt 7 (mvOf many mir sc x y).d := by
  have z : Bt 7 0 := by unfold Bt; decide
  have p : Bt 7 sc := by unfold Bt; omega
  have n : Bt 7 (-sc) := p.neg
  unfold mvOf turnM
  cases mir <;> simp only [Bool.false_eq_true, if_true, if_false] <;> (split; · simp [z, p, n]) <;> (split; · simp [z, p, n]) <;> (split; · simp [z, p, n]) <;> simp [z, p, n]
theorem bt_gd {k : Nat} {i : Int} (h : Bt k i) (hk : k ≤ 1900) : Gd 0 (20 * k + 60) (.int i) := Gd.int k (by omega) h (Nat.le_refl _)
theorem t3_gd {k : Nat} {p : P3} (h : Bt3 k p) (hk : k ≤ 1900) : Gd 1 (3 * (20 * k + 62) + 4) (t3 p) :=
  (Gd.tuple (Gds.cons (bt_gd h.1 hk) (Gds.cons (bt_gd h.2.1 hk) (Gds.one (bt_gd h.2.2 hk))))).mono (by omega) (by omega)
end Law

end
section
set_option Elab.async false
set_option linter.all false
set_option maxRecDepth 100000
set_option exponentiation.threshold 9000
/-! Mc: two walls that cross: by the meeting of their lines, by signed areas. -/
namespace Law
open PySem Ey
abbrev P2 := Int × Int
def vec (p q : P3) : P2 := (q.1 * p.2.2 - p.1 * q.2.2, q.2.1 * p.2.2 - p.2.1 * q.2.2)
def dt (u v : P2) : Int := u.1 * v.1 + u.2 * v.2
def cn (a : P2) : P3 := (a.1, a.2, 1)
def onB (p a b : P3) : Bool := decide (wth (thr a b) p = 0) && (decide (p = a) || (decide (p = b) || decide (dt (vec p a) (vec p b) < 0)))
theorem cn_pl (a : P2) : IsPl (cn a) := ⟨by simp [cn], by simp [cn, gcd3]⟩
theorem cn_ne {a b : P2} (h : a ≠ b) : cn a ≠ cn b := fun e => h (by
  obtain ⟨a0, a1⟩ := a
  obtain ⟨b0, b1⟩ := b
  simp only [cn, Prod.mk.injEq] at e ⊢
  exact ⟨e.1, e.2.1⟩)
theorem cn_inj {a b : P2} (e : cn a = cn b) : a = b := Classical.byContradiction fun h => cn_ne h e
/-- the line's worth, without common divisors or with them -/
theorem thr_zero {p q r : P3} (h : Nz (crs p q)) : wth (thr p q) r = 0 ↔ wth (crs p q) r = 0 := by
  obtain ⟨g, g0, e, _⟩ := red_eq h
  have e' : wth (crs p q) r = (g : Int) * wth (thr p q) r := by
    have := congrArg (fun c => wth c r) e
    simp only [wth_smul_l] at this
    exact this
  rw [e']
  constructor
  · intro z; rw [z, Int.mul_zero]
  · intro z; exact (Int.mul_eq_zero.mp z).resolve_left (by omega)
theorem sgn_zero {i : Int} : sgn i = 0 ↔ i = 0 := by unfold sgn; split <;> (try split) <;> omega
theorem neg_iff {x y p q : Int} (hx : 0 < x) (hy : 0 < y) (e : x * p = y * q) : p < 0 ↔ q < 0 := by
  constructor
  · intro h
    have h1 : x * p < 0 := Int.mul_neg_of_pos_of_neg hx h
    rw [e] at h1
    exact Int.lt_of_not_ge fun g => absurd (Int.mul_nonneg (Int.le_of_lt hy) g) (by omega)
  · intro h
    have h1 : y * q < 0 := Int.mul_neg_of_pos_of_neg hy h
    rw [← e] at h1
    exact Int.lt_of_not_ge fun g => absurd (Int.mul_nonneg (Int.le_of_lt hx) g) (by omega)
theorem sq_pos {x : Int} (h : x ≠ 0) : 0 < x * x := by
  rcases Int.lt_or_gt_of_ne h with g | g
  · exact Int.mul_pos_of_neg_of_neg g g
  · exact Int.mul_pos g g
theorem par_alg (k0 k1 l0 l1 p0 p1 q0 q1 : Int) (hp : p0 * l0 + p1 * l1 = 0) (hq : q0 * l0 + q1 * l1 = 0) :
    ((l0 * k1 - k0 * l1) * (l0 * k1 - k0 * l1) * (l0 * l0 + l1 * l1)) * (p0 * q0 + p1 * q1) = ((l0 * l0 + l1 * l1) * (l0 * l0 + l1 * l1)) * ((k0 * p0 + k1 * p1) * (k0 * q0 + k1 * q1)) := by
  have e1 : (l0 * l0 + l1 * l1) * (k0 * p0 + k1 * p1) = (k0 * l1 - k1 * l0) * (p0 * l1 - p1 * l0) := by grind
  have e2 : (l0 * l0 + l1 * l1) * (k0 * q0 + k1 * q1) = (k0 * l1 - k1 * l0) * (q0 * l1 - q1 * l0) := by grind
  have e3 : (l0 * l0 + l1 * l1) * (p0 * q0 + p1 * q1) = (p0 * l1 - p1 * l0) * (q0 * l1 - q1 * l0) := by grind
  have a1 : ((l0 * k1 - k0 * l1) * (l0 * k1 - k0 * l1) * (l0 * l0 + l1 * l1)) * (p0 * q0 + p1 * q1) = (l0 * k1 - k0 * l1) * (l0 * k1 - k0 * l1) * ((l0 * l0 + l1 * l1) * (p0 * q0 + p1 * q1)) := by grind
  have a2 : ((l0 * l0 + l1 * l1) * (l0 * l0 + l1 * l1)) * ((k0 * p0 + k1 * p1) * (k0 * q0 + k1 * q1)) = ((l0 * l0 + l1 * l1) * (k0 * p0 + k1 * p1)) * ((l0 * l0 + l1 * l1) * (k0 * q0 + k1 * q1)) := by grind
  rw [a1, a2, e1, e2, e3]
  grind
theorem len_pos {a b : P2} (h : a ≠ b) : 0 < (a.2 - b.2) * (a.2 - b.2) + (b.1 - a.1) * (b.1 - a.1) := by
  have q : ∀ x : Int, 0 ≤ x * x := fun x => by
    by_cases y : x = 0
    · rw [y]; decide
    · exact Int.le_of_lt (sq_pos y)
  by_cases z : b.1 - a.1 = 0
  · have : a.2 - b.2 ≠ 0 := fun y => h (Prod.ext (by omega) (by omega))
    have := sq_pos this
    have := q (b.1 - a.1)
    omega
  · have := sq_pos z
    have := q (a.2 - b.2)
    omega
/-- a line's meeting with another one, and on which sides of this one two of its points are -/
theorem inside_iff {a b c d : P2} {m : P3} (h : a ≠ b) (m0 : 0 < m.2.2) (hl : wth (crs (cn a) (cn b)) m = 0) (hk : wth (crs (cn c) (cn d)) m = 0) (np : (crs (crs (cn a) (cn b)) (crs (cn c) (cn d))).2.2 ≠ 0) :
    dt (vec m (cn a)) (vec m (cn b)) < 0 ↔ wth (crs (cn c) (cn d)) (cn a) * wth (crs (cn c) (cn d)) (cn b) < 0 := by
  have u2 := len_pos h
  obtain ⟨a0, a1⟩ := a
  obtain ⟨b0, b1⟩ := b
  obtain ⟨c0, c1⟩ := c
  obtain ⟨d0, d1⟩ := d
  obtain ⟨m0', m1, m2⟩ := m
  simp only [cn, crs, wth, vec, dt, Int.mul_one] at *
  have n2 := sq_pos np
  have mm := sq_pos (Int.ne_of_gt m0)
  have hp : (a0 * m2 - m0') * (a1 - b1) + (a1 * m2 - m1) * (b0 - a0) = 0 := by grind
  have hq : (b0 * m2 - m0') * (a1 - b1) + (b1 * m2 - m1) * (b0 - a0) = 0 := by grind
  have al := par_alg (c1 - d1) (d0 - c0) (a1 - b1) (b0 - a0) _ _ _ _ hp hq
  have k1 : (c1 - d1) * (a0 * m2 - m0') + (d0 - c0) * (a1 * m2 - m1) = m2 * ((c1 - d1) * a0 + (d0 - c0) * a1 + (c0 * d1 - d0 * c1)) := by grind
  have k2 : (c1 - d1) * (b0 * m2 - m0') + (d0 - c0) * (b1 * m2 - m1) = m2 * ((c1 - d1) * b0 + (d0 - c0) * b1 + (c0 * d1 - d0 * c1)) := by grind
  rw [k1, k2] at al
  refine neg_iff (Int.mul_pos n2 u2) (y := (((a1 - b1) * (a1 - b1) + (b0 - a0) * (b0 - a0)) * ((a1 - b1) * (a1 - b1) + (b0 - a0) * (b0 - a0))) * (m2 * m2)) (Int.mul_pos (Int.mul_pos u2 u2) mm) ?_
  have e : (a1 - b1) * (d0 - c0) - (c1 - d1) * (b0 - a0) = (a1 - b1) * (d0 - c0) - (c1 - d1) * (b0 - a0) := rfl
  refine Eq.trans ?_ (al.trans ?_)
  · grind
  · grind
theorem thr_mul {p q : P3} (h : Nz (crs p q)) : ∃ g : Nat, 0 < g ∧ crs p q = smul g (thr p q) := by
  obtain ⟨g, g0, e, _⟩ := red_eq h
  exact ⟨g, g0, e⟩
theorem np_iff {a b c d : P3} (h : Nz (crs a b)) (h' : Nz (crs c d)) : (crs (thr a b) (thr c d)).2.2 = 0 ↔ (crs (crs a b) (crs c d)).2.2 = 0 := by
  obtain ⟨g, g0, e⟩ := thr_mul h
  obtain ⟨k, k0, f⟩ := thr_mul h'
  have z : (crs (crs a b) (crs c d)).2.2 = ((g : Int) * k) * (crs (thr a b) (thr c d)).2.2 := by
    rw [e, f, crs_smul2]
    rfl
  rw [z]
  have nz : (g : Int) * k ≠ 0 := Int.mul_ne_zero (by omega) (by omega)
  constructor
  · intro y; rw [y, Int.mul_zero]
  · intro y; exact (Int.mul_eq_zero.mp y).resolve_left nz
def someL (a b c d : P3) : List P3 := ([a, b].filter fun p => onB p c d) ++ ([c, d].filter fun p => onB p a b)
def insL (dir : P2) (found : List P3) (p : P3) : List P3 :=
  let at' := (found.filter fun q => decide (0 < dt (vec q p) dir)).length
  if at' = found.length ∨ found[at']? ≠ some p then found.take at' ++ [p] ++ found.drop at' else found
def ordL (dir : P2) (ps : List P3) : List P3 := ps.foldl (insL dir) []
def commonL (dir : P2) (a b c d : P3) : List P3 :=
  if (crs (thr a b) (thr c d)).2.2 ≠ 0 then
    (if onB (plT (crs (thr a b) (thr c d))) a b && onB (plT (crs (thr a b) (thr c d))) c d then [plT (crs (thr a b) (thr c d))] else [])
  else if wth (thr a b) c ≠ 0 then []
  else (ordL dir (someL a b c d)).take 1 ++ ((ordL dir (someL a b c d)).drop 1).drop (((ordL dir (someL a b c d)).drop 1).length - 1)
def clashB (dir : P2) (a b c d : P3) : Bool :=
  decide ((commonL dir a b c d).length = 2) || (decide ((commonL dir a b c d).length = 1) && !(commonL dir a b c d).all fun p => decide (p = a) || (decide (p = b) || (decide (p = c) || decide (p = d))))
/-- the law's own look -/
def atI (a b : P2) (p : P2) : Int := if a.1 ≠ b.1 then p.1 else p.2
def mx (i j : Int) : Int := if j > i then j else i
def mn (i j : Int) : Int := if j < i then j else i
def crossB (a b c d : P2) : Bool :=
  if sgn (wth (crs (cn a) (cn b)) (cn c)) = 0 ∧ sgn (wth (crs (cn a) (cn b)) (cn d)) = 0 then
    decide (mx (mn (atI a b a) (atI a b b)) (mn (atI a b c) (atI a b d)) < mn (mx (atI a b a) (atI a b b)) (mx (atI a b c) (atI a b d)))
  else decide (sgn (wth (crs (cn a) (cn b)) (cn c)) * sgn (wth (crs (cn a) (cn b)) (cn d)) < 0) && decide (sgn (wth (crs (cn c) (cn d)) (cn a)) * sgn (wth (crs (cn c) (cn d)) (cn b)) < 0)
theorem sgn_prod (i j : Int) : sgn i * sgn j < 0 ↔ i * j < 0 := by
  rcases Int.lt_trichotomy i 0 with h | h | h <;> rcases Int.lt_trichotomy j 0 with g | g | g
  · have p := Int.mul_pos_of_neg_of_neg h g
    have : sgn i = -1 ∧ sgn j = -1 := by unfold sgn; constructor <;> (rw [if_neg (by omega), if_pos (by omega)])
    rw [this.1, this.2]; omega
  · subst g; simp [show sgn 0 = 0 from rfl]
  · have p := Int.mul_neg_of_neg_of_pos h g
    have : sgn i = -1 ∧ sgn j = 1 := by unfold sgn; exact ⟨by rw [if_neg (by omega), if_pos (by omega)], by rw [if_pos g]⟩
    rw [this.1, this.2]; omega
  · subst h; simp [show sgn 0 = 0 from rfl]
  · subst h; simp [show sgn 0 = 0 from rfl]
  · subst h; simp [show sgn 0 = 0 from rfl]
  · have p := Int.mul_neg_of_pos_of_neg h g
    have : sgn i = 1 ∧ sgn j = -1 := by unfold sgn; exact ⟨by rw [if_pos h], by rw [if_neg (by omega), if_pos (by omega)]⟩
    rw [this.1, this.2]; omega
  · subst g; simp [show sgn 0 = 0 from rfl]
  · have p := Int.mul_pos h g
    have : sgn i = 1 ∧ sgn j = 1 := by unfold sgn; exact ⟨by rw [if_pos h], by rw [if_pos g]⟩
    rw [this.1, this.2]; omega
theorem vec_self (p : P3) : vec p p = (0, 0) := by simp [vec]
theorem dt_zero_l (u : P2) : dt (0, 0) u = 0 := by simp [dt]
theorem dt_zero_r (u : P2) : dt u (0, 0) = 0 := by simp [dt]
theorem on_ne {m a b : P3} (ha : m ≠ a) (hb : m ≠ b) (h : wth (thr a b) m = 0) : onB m a b = decide (dt (vec m a) (vec m b) < 0) := by
  simp [onB, h, ha, hb]
theorem ins_ne {m a b : P3} (h : dt (vec m a) (vec m b) < 0) : m ≠ a ∧ m ≠ b := by
  refine ⟨fun e => ?_, fun e => ?_⟩
  · rw [e, vec_self, dt_zero_l] at h; exact absurd h (by decide)
  · rw [e, vec_self, dt_zero_r] at h; exact absurd h (by decide)
section
variable {a b c d : P2} (hab : a ≠ b) (hcd : c ≠ d)
include hab hcd
theorem clash_cross (dir : P2) (np : (crs (thr (cn a) (cn b)) (thr (cn c) (cn d))).2.2 ≠ 0) : clashB dir (cn a) (cn b) (cn c) (cn d) = crossB a b c d := by
  have n1 := crs_nz (cn_pl a) (cn_pl b) (cn_ne hab)
  have n2 := crs_nz (cn_pl c) (cn_pl d) (cn_ne hcd)
  have np' : (crs (crs (cn a) (cn b)) (crs (cn c) (cn d))).2.2 ≠ 0 := fun z => np ((np_iff n1 n2).mpr z)
  have on1 := meet_on_l np
  have on2 := meet_on_m np
  have im := plT_is np
  have hl := (thr_zero n1).mp on1
  have hk := (thr_zero n2).mp on2
  have np2 : (crs (crs (cn c) (cn d)) (crs (cn a) (cn b))).2.2 ≠ 0 := fun z => np' (by
    have e := congrArg (fun c : P3 => c.2.2) (crs_swap (crs (cn a) (cn b)) (crs (cn c) (cn d)))
    simp only [neg3] at e
    rw [z] at e
    omega)
  have i1 := inside_iff hab im.1 hl hk np'
  have i2 := inside_iff hcd im.1 hk hl np2
  have left : ¬(sgn (wth (crs (cn a) (cn b)) (cn c)) = 0 ∧ sgn (wth (crs (cn a) (cn b)) (cn d)) = 0) := by
    rintro ⟨z1, z2⟩
    rw [sgn_zero] at z1 z2
    apply np'
    simp only [cn, crs, wth, Int.mul_one] at *
    grind
  have e : crossB a b c d = (decide (dt (vec (plT (crs (thr (cn a) (cn b)) (thr (cn c) (cn d)))) (cn a)) (vec (plT (crs (thr (cn a) (cn b)) (thr (cn c) (cn d)))) (cn b)) < 0) &&
      decide (dt (vec (plT (crs (thr (cn a) (cn b)) (thr (cn c) (cn d)))) (cn c)) (vec (plT (crs (thr (cn a) (cn b)) (thr (cn c) (cn d)))) (cn d)) < 0)) := by
    unfold crossB
    rw [if_neg left]
    simp only [sgn_prod, ← i1, ← i2]
    exact Bool.and_comm _ _
  rw [e]
  unfold clashB commonL
  simp only [if_pos np]
  generalize plT (crs (thr (cn a) (cn b)) (thr (cn c) (cn d))) = m at *
  have two : ∀ t : Bool, (if t = true then [m] else ([] : List P3)).length ≠ 2 := fun t => by cases t <;> simp
  have form : ∀ t x : Bool, (decide (m = cn a) || (decide (m = cn b) || (decide (m = cn c) || decide (m = cn d)))) = x →
      (decide ((if t = true then [m] else ([] : List P3)).length = 2) || (decide ((if t = true then [m] else ([] : List P3)).length = 1) && !(if t = true then [m] else ([] : List P3)).all fun p => decide (p = cn a) || (decide (p = cn b) || (decide (p = cn c) || decide (p = cn d))))) = (t && !x) := fun t x hx => by
    cases t
    · simp
    · simp [hx]
  rw [form _ _ rfl]
  by_cases y : m = cn a ∨ m = cn b ∨ m = cn c ∨ m = cn d
  · have r1 : (decide (m = cn a) || (decide (m = cn b) || (decide (m = cn c) || decide (m = cn d)))) = true := by simpa using y
    rw [r1]
    have r2 : (decide (dt (vec m (cn a)) (vec m (cn b)) < 0) && decide (dt (vec m (cn c)) (vec m (cn d)) < 0)) = false := by
      rw [Bool.and_eq_false_iff, decide_eq_false_iff_not, decide_eq_false_iff_not]
      rcases y with y | y | y | y
      · exact .inl fun h => (ins_ne h).1 y
      · exact .inl fun h => (ins_ne h).2 y
      · exact .inr fun h => (ins_ne h).1 y
      · exact .inr fun h => (ins_ne h).2 y
    rw [r2]
    simp
  · have y1 : m ≠ cn a := fun h => y (.inl h)
    have y2 : m ≠ cn b := fun h => y (.inr (.inl h))
    have y3 : m ≠ cn c := fun h => y (.inr (.inr (.inl h)))
    have y4 : m ≠ cn d := fun h => y (.inr (.inr (.inr h)))
    rw [on_ne y1 y2 on1, on_ne y3 y4 on2]
    simp [y1, y2, y3, y4]
/-- lines that are parallel -/
theorem par_off (np : (crs (thr (cn a) (cn b)) (thr (cn c) (cn d))).2.2 = 0) : wth (crs (cn a) (cn b)) (cn c) = wth (crs (cn a) (cn b)) (cn d) := by
  have n1 := crs_nz (cn_pl a) (cn_pl b) (cn_ne hab)
  have n2 := crs_nz (cn_pl c) (cn_pl d) (cn_ne hcd)
  have z := (np_iff n1 n2).mp np
  simp only [cn, crs, wth, Int.mul_one] at *
  grind
theorem clash_off (dir : P2) (np : (crs (thr (cn a) (cn b)) (thr (cn c) (cn d))).2.2 = 0) (off : wth (thr (cn a) (cn b)) (cn c) ≠ 0) : clashB dir (cn a) (cn b) (cn c) (cn d) = crossB a b c d := by
  have n1 := crs_nz (cn_pl a) (cn_pl b) (cn_ne hab)
  have e := par_off hab hcd np
  have off' : wth (crs (cn a) (cn b)) (cn c) ≠ 0 := fun z => off ((thr_zero n1).mpr z)
  have l : clashB dir (cn a) (cn b) (cn c) (cn d) = false := by
    unfold clashB commonL
    rw [if_neg (fun h => h np), if_pos off]
    rfl
  rw [l]
  unfold crossB
  rw [if_neg (fun h => off' (sgn_zero.mp h.1)), ← e]
  have p : ¬(sgn (wth (crs (cn a) (cn b)) (cn c)) * sgn (wth (crs (cn a) (cn b)) (cn c)) < 0) := by
    rw [sgn_prod]
    have := sq_pos off'
    omega
  simp [p]
end
/-! in_order: how many there are -/
theorem insL_nil (dir : P2) (p : P3) : insL dir [] p = [p] := by simp [insL]
theorem insL_len (dir : P2) (found : List P3) (p : P3) : (insL dir found p).length = found.length ∨ (insL dir found p).length = found.length + 1 := by
  unfold insL
  simp only
  split
  · right
    simp
    have := List.length_filter_le (fun q => decide (0 < dt (vec q p) dir)) found
    omega
  · left; rfl
theorem insL_one (dir : P2) (q p : P3) : insL dir [q] p = [q] ∧ p = q ∨ (insL dir [q] p).length = 2 ∧ p ≠ q := by
  by_cases e : p = q
  · left
    subst e
    refine ⟨?_, rfl⟩
    simp [insL, vec_self, dt_zero_l]
  · right
    refine ⟨?_, e⟩
    unfold insL
    by_cases z : 0 < dt (vec q p) dir
    · simp [z]
    · simp [z, Ne.symm e]
theorem fold_many (dir : P2) : ∀ (ps found : List P3), 2 ≤ found.length → 2 ≤ (ps.foldl (insL dir) found).length
  | [], _, h => h
  | p :: ps, found, h => fold_many dir ps _ (by rcases insL_len dir found p with e | e <;> omega)
theorem fold_one (dir : P2) : ∀ (ps : List P3) (q : P3), (ps.foldl (insL dir) [q] = [q] ∧ ∀ p ∈ ps, p = q) ∨ (2 ≤ (ps.foldl (insL dir) [q]).length ∧ ∃ p ∈ ps, p ≠ q)
  | [], q => .inl ⟨rfl, fun _ h => nomatch h⟩
  | p :: ps, q => by
    rw [List.foldl_cons]
    rcases insL_one dir q p with ⟨e, rfl⟩ | ⟨e, ne⟩
    · rw [e]
      rcases fold_one dir ps p with ⟨f, g⟩ | ⟨f, r, hr, ne⟩
      · exact .inl ⟨f, fun r hr => (List.mem_cons.mp hr).elim id (g r)⟩
      · exact .inr ⟨f, r, List.mem_cons_of_mem _ hr, ne⟩
    · exact .inr ⟨fold_many dir ps _ (by omega), p, List.mem_cons_self .., ne⟩
theorem ordL_cases (dir : P2) (ps : List P3) : (ps = [] ∧ ordL dir ps = []) ∨ (∃ q ∈ ps, ordL dir ps = [q] ∧ ∀ p ∈ ps, p = q) ∨ (2 ≤ (ordL dir ps).length ∧ ∃ p ∈ ps, ∃ q ∈ ps, p ≠ q) := by
  cases ps with
  | nil => exact .inl ⟨rfl, rfl⟩
  | cons q ps =>
    right
    unfold ordL
    rw [List.foldl_cons, insL_nil]
    rcases fold_one dir ps q with ⟨f, g⟩ | ⟨f, r, hr, ne⟩
    · exact .inl ⟨q, List.mem_cons_self .., f, fun r hr => (List.mem_cons.mp hr).elim id (g r)⟩
    · exact .inr ⟨f, r, List.mem_cons_of_mem _ hr, q, List.mem_cons_self .., ne⟩
end Law

end
section
set_option Elab.async false
set_option linter.all false
set_option maxRecDepth 100000
set_option exponentiation.threshold 9000
/-! Md: two walls on one line. -/
namespace Law
open PySem Ey
theorem mul_neg_cases (x y : Int) : x * y < 0 ↔ (x < 0 ∧ 0 < y) ∨ (0 < x ∧ y < 0) := by
  rcases Int.lt_trichotomy x 0 with h | h | h <;> rcases Int.lt_trichotomy y 0 with g | g | g
  · have p := Int.mul_pos_of_neg_of_neg h g; omega
  · subst g; simp
  · have p := Int.mul_neg_of_neg_of_pos h g; omega
  · subst h; simp
  · subst h; simp
  · subst h; simp
  · have p := Int.mul_neg_of_pos_of_neg h g; omega
  · subst g; simp
  · have p := Int.mul_pos h g; omega
section
variable {a b : P2} (hab : a ≠ b)
def OnL (a b p : P2) : Prop := wth (crs (cn a) (cn b)) (cn p) = 0
theorem OnL.eq {p : P2} (h : OnL a b p) : (b.1 - a.1) * (p.2 - a.2) = (b.2 - a.2) * (p.1 - a.1) := by
  simp only [OnL, cn, crs, wth, Int.mul_one] at h
  grind
theorem OnL.two {p q : P2} (h : OnL a b p) (g : OnL a b q) : (b.1 - a.1) * (p.2 - q.2) = (b.2 - a.2) * (p.1 - q.1) := by
  have h1 := h.eq
  have h2 := g.eq
  grind
include hab
theorem at_eq {p q : P2} (h : OnL a b p) (g : OnL a b q) : p = q ↔ atI a b p = atI a b q := by
  have e := h.two g
  unfold atI
  constructor
  · rintro rfl; rfl
  · intro z
    by_cases y : a.1 = b.1
    · rw [if_neg (by simpa using y), if_neg (by simpa using y)] at z
      have y2 : b.2 - a.2 ≠ 0 := fun w => hab (Prod.ext y (by omega))
      rw [z, Int.sub_self, Int.mul_zero] at e
      have := (Int.mul_eq_zero.mp e.symm).resolve_left y2
      exact Prod.ext (by omega) z
    · rw [if_pos y, if_pos y] at z
      have y2 : b.1 - a.1 ≠ 0 := by omega
      rw [z, Int.sub_self, Int.mul_zero] at e
      have := (Int.mul_eq_zero.mp e).resolve_left y2
      exact Prod.ext z (by omega)
theorem col_wth {p q r : P2} (hp : OnL a b p) (hq : OnL a b q) (hr : OnL a b r) : wth (crs (cn q) (cn r)) (cn p) = 0 := by
  have e1 := hp.two hq
  have e2 := hr.two hq
  simp only [cn, crs, wth, Int.mul_one]
  by_cases y : a.1 = b.1
  · have y2 : b.2 - a.2 ≠ 0 := fun w => hab (Prod.ext y (by omega))
    have z : (b.2 - a.2) * ((q.2 - r.2) * p.1 + (r.1 - q.1) * p.2 + (q.1 * r.2 - r.1 * q.2)) = 0 := by grind
    exact (Int.mul_eq_zero.mp z).resolve_left y2
  · have y2 : b.1 - a.1 ≠ 0 := by omega
    have z : (b.1 - a.1) * ((q.2 - r.2) * p.1 + (r.1 - q.1) * p.2 + (q.1 * r.2 - r.1 * q.2)) = 0 := by grind
    exact (Int.mul_eq_zero.mp z).resolve_left y2
theorem col_dt {p q r : P2} (hp : OnL a b p) (hq : OnL a b q) (hr : OnL a b r) : dt (vec (cn p) (cn q)) (vec (cn p) (cn r)) < 0 ↔ (atI a b q - atI a b p) * (atI a b r - atI a b p) < 0 := by
  have e1 := hq.two hp
  have e2 := hr.two hp
  have u2 := len_pos hab
  have f : dt (vec (cn p) (cn q)) (vec (cn p) (cn r)) = (q.1 - p.1) * (r.1 - p.1) + (q.2 - p.2) * (r.2 - p.2) := by simp [dt, vec, cn]
  rw [f]
  unfold atI
  by_cases y : a.1 = b.1
  · have y2 : b.2 - a.2 ≠ 0 := fun w => hab (Prod.ext y (by omega))
    simp only [y, ne_eq, not_true, if_false]
    refine neg_iff (sq_pos y2) u2 ?_
    grind
  · have y2 : b.1 - a.1 ≠ 0 := by omega
    simp only [y, ne_eq, not_false_eq_true, if_true]
    refine neg_iff (sq_pos y2) u2 ?_
    grind
/-- between two others, by the coordinate that differs -/
theorem col_on {p q r : P2} (hp : OnL a b p) (hq : OnL a b q) (hr : OnL a b r) (ne : q ≠ r) :
    onB (cn p) (cn q) (cn r) = true ↔ (atI a b q ≤ atI a b p ∧ atI a b p ≤ atI a b r) ∨ (atI a b r ≤ atI a b p ∧ atI a b p ≤ atI a b q) := by
  have z := (thr_zero (r := cn p) (crs_nz (cn_pl q) (cn_pl r) (cn_ne ne))).mpr (col_wth hab hp hq hr)
  have d := col_dt hab hp hq hr
  have s1 := at_eq hab hp hq
  have s2 := at_eq hab hp hr
  have c1 : cn p = cn q ↔ p = q := ⟨cn_inj, fun e => by rw [e]⟩
  have c2 : cn p = cn r ↔ p = r := ⟨cn_inj, fun e => by rw [e]⟩
  unfold onB
  simp only [z, decide_true, Bool.true_and, Bool.or_eq_true, decide_eq_true_eq, c1, c2, s1, s2, d, mul_neg_cases]
  omega
end
theorem at_ab {a b : P2} (h : a ≠ b) : OnL a b a ∧ OnL a b b := ⟨wth_crs_l _ _, wth_crs_r _ _⟩
theorem mem_some {a b c d p : P3} : p ∈ someL a b c d ↔ (p = a ∧ onB a c d = true) ∨ (p = b ∧ onB b c d = true) ∨ (p = c ∧ onB c a b = true) ∨ (p = d ∧ onB d a b = true) := by
  simp only [someL, List.mem_append, List.mem_filter, List.mem_cons, List.not_mem_nil, or_false]
  constructor
  · rintro (⟨rfl | rfl, h⟩ | ⟨rfl | rfl, h⟩)
    · exact .inl ⟨rfl, h⟩
    · exact .inr (.inl ⟨rfl, h⟩)
    · exact .inr (.inr (.inl ⟨rfl, h⟩))
    · exact .inr (.inr (.inr ⟨rfl, h⟩))
  · rintro (⟨rfl, h⟩ | ⟨rfl, h⟩ | ⟨rfl, h⟩ | ⟨rfl, h⟩)
    · exact .inl ⟨.inl rfl, h⟩
    · exact .inl ⟨.inr rfl, h⟩
    · exact .inr ⟨.inl rfl, h⟩
    · exact .inr ⟨.inr rfl, h⟩
theorem clash_two (dir : P2) (a b c d : P3) (np : (crs (thr a b) (thr c d)).2.2 = 0) (on : wth (thr a b) c = 0) : clashB dir a b c d = true ↔ ∃ p ∈ someL a b c d, ∃ q ∈ someL a b c d, p ≠ q := by
  have e : commonL dir a b c d = (ordL dir (someL a b c d)).take 1 ++ ((ordL dir (someL a b c d)).drop 1).drop (((ordL dir (someL a b c d)).drop 1).length - 1) := by
    unfold commonL
    rw [if_neg (fun h => h np), if_neg (fun h => h on)]
  rcases ordL_cases dir (someL a b c d) with ⟨z, f⟩ | ⟨q, hq, f, g⟩ | ⟨f, g⟩
  · have l : clashB dir a b c d = false := by unfold clashB; rw [e, f]; rfl
    rw [l, z]
    simp
  · have l : clashB dir a b c d = false := by
      unfold clashB
      rw [e, f]
      have m : (decide (q = a) || (decide (q = b) || (decide (q = c) || decide (q = d)))) = true := by
        rcases mem_some.mp hq with ⟨rfl, _⟩ | ⟨rfl, _⟩ | ⟨rfl, _⟩ | ⟨rfl, _⟩ <;> simp
      simp [m]
    rw [l]
    constructor
    · intro h; cases h
    · rintro ⟨p, hp, r, hr, ne⟩
      exact absurd ((g p hp).trans (g r hr).symm) ne
  · have l : clashB dir a b c d = true := by
      unfold clashB
      rw [e]
      have : ((ordL dir (someL a b c d)).take 1 ++ ((ordL dir (someL a b c d)).drop 1).drop (((ordL dir (someL a b c d)).drop 1).length - 1)).length = 2 := by
        simp
        omega
      rw [this]
      rfl
    exact ⟨fun _ => g, fun _ => l⟩
theorem clash_on (dir : P2) {a b c d : P2} (hab : a ≠ b) (hcd : c ≠ d) (np : (crs (thr (cn a) (cn b)) (thr (cn c) (cn d))).2.2 = 0) (on : wth (thr (cn a) (cn b)) (cn c) = 0) : clashB dir (cn a) (cn b) (cn c) (cn d) = crossB a b c d := by
  have n1 := crs_nz (cn_pl a) (cn_pl b) (cn_ne hab)
  have hc : OnL a b c := (thr_zero n1).mp on
  have hd : OnL a b d := (par_off hab hcd np).symm.trans hc
  obtain ⟨ha, hb⟩ := at_ab hab
  have r : crossB a b c d = decide (mx (mn (atI a b a) (atI a b b)) (mn (atI a b c) (atI a b d)) < mn (mx (atI a b a) (atI a b b)) (mx (atI a b c) (atI a b d))) := by
    unfold crossB
    rw [if_pos ⟨sgn_zero.mpr hc, sgn_zero.mpr hd⟩]
  rw [Bool.eq_iff_iff, clash_two dir _ _ _ _ np on, r, decide_eq_true_eq]
  have oa := col_on hab ha hc hd hcd
  have ob := col_on hab hb hc hd hcd
  have oc := col_on hab hc ha hb hab
  have od := col_on hab hd ha hb hab
  have nab : atI a b a ≠ atI a b b := fun z => hab ((at_eq hab ha hb).mpr z)
  have ncd : atI a b c ≠ atI a b d := fun z => hcd ((at_eq hab hc hd).mpr z)
  have eac : cn a = cn c ↔ atI a b a = atI a b c := ⟨fun z => (at_eq hab ha hc).mp (cn_inj z), fun z => by rw [(at_eq hab ha hc).mpr z]⟩
  have ead : cn a = cn d ↔ atI a b a = atI a b d := ⟨fun z => (at_eq hab ha hd).mp (cn_inj z), fun z => by rw [(at_eq hab ha hd).mpr z]⟩
  have ebc : cn b = cn c ↔ atI a b b = atI a b c := ⟨fun z => (at_eq hab hb hc).mp (cn_inj z), fun z => by rw [(at_eq hab hb hc).mpr z]⟩
  have ebd : cn b = cn d ↔ atI a b b = atI a b d := ⟨fun z => (at_eq hab hb hd).mp (cn_inj z), fun z => by rw [(at_eq hab hb hd).mpr z]⟩
  have key : (∃ p ∈ someL (cn a) (cn b) (cn c) (cn d), ∃ q ∈ someL (cn a) (cn b) (cn c) (cn d), p ≠ q) ↔
      (onB (cn a) (cn c) (cn d) = true ∧ onB (cn b) (cn c) (cn d) = true) ∨ (onB (cn c) (cn a) (cn b) = true ∧ onB (cn d) (cn a) (cn b) = true) ∨
      (onB (cn a) (cn c) (cn d) = true ∧ onB (cn c) (cn a) (cn b) = true ∧ ¬ cn a = cn c) ∨ (onB (cn a) (cn c) (cn d) = true ∧ onB (cn d) (cn a) (cn b) = true ∧ ¬ cn a = cn d) ∨
      (onB (cn b) (cn c) (cn d) = true ∧ onB (cn c) (cn a) (cn b) = true ∧ ¬ cn b = cn c) ∨ (onB (cn b) (cn c) (cn d) = true ∧ onB (cn d) (cn a) (cn b) = true ∧ ¬ cn b = cn d) := by
    constructor
    · rintro ⟨p, hp, q, hq, ne⟩
      rcases mem_some.mp hp with ⟨rfl, h⟩ | ⟨rfl, h⟩ | ⟨rfl, h⟩ | ⟨rfl, h⟩ <;> rcases mem_some.mp hq with ⟨rfl, g⟩ | ⟨rfl, g⟩ | ⟨rfl, g⟩ | ⟨rfl, g⟩ <;> first
        | exact absurd rfl ne
        | (have ne' := Ne.symm ne; simp only [h, g, true_and, and_true, ne, ne', not_false_eq_true, true_or, or_true])
    · rintro (⟨h, g⟩ | ⟨h, g⟩ | ⟨h, g, ne⟩ | ⟨h, g, ne⟩ | ⟨h, g, ne⟩ | ⟨h, g, ne⟩)
      · exact ⟨_, mem_some.mpr (.inl ⟨rfl, h⟩), _, mem_some.mpr (.inr (.inl ⟨rfl, g⟩)), cn_ne hab⟩
      · exact ⟨_, mem_some.mpr (.inr (.inr (.inl ⟨rfl, h⟩))), _, mem_some.mpr (.inr (.inr (.inr ⟨rfl, g⟩))), cn_ne hcd⟩
      · exact ⟨_, mem_some.mpr (.inl ⟨rfl, h⟩), _, mem_some.mpr (.inr (.inr (.inl ⟨rfl, g⟩))), ne⟩
      · exact ⟨_, mem_some.mpr (.inl ⟨rfl, h⟩), _, mem_some.mpr (.inr (.inr (.inr ⟨rfl, g⟩))), ne⟩
      · exact ⟨_, mem_some.mpr (.inr (.inl ⟨rfl, h⟩)), _, mem_some.mpr (.inr (.inr (.inl ⟨rfl, g⟩))), ne⟩
      · exact ⟨_, mem_some.mpr (.inr (.inl ⟨rfl, h⟩)), _, mem_some.mpr (.inr (.inr (.inr ⟨rfl, g⟩))), ne⟩
  rw [key, oa, ob, oc, od, eac, ead, ebc, ebd]
  generalize atI a b a = ta at *
  generalize atI a b b = tb at *
  generalize atI a b c = tc at *
  generalize atI a b d = td at *
  clear key eac ead ebc ebd oa ob oc od r
  unfold mx mn
  repeat' split
  all_goals omega
theorem clash_eq (dir : P2) {a b c d : P2} (hab : a ≠ b) (hcd : c ≠ d) : clashB dir (cn a) (cn b) (cn c) (cn d) = crossB a b c d := by
  by_cases np : (crs (thr (cn a) (cn b)) (thr (cn c) (cn d))).2.2 = 0
  · by_cases on : wth (thr (cn a) (cn b)) (cn c) = 0
    · exact clash_on dir hab hcd np on
    · exact clash_off hab hcd dir np on
  · exact clash_cross hab hcd dir np
end Law

end
section
set_option Elab.async false
set_option linter.all false
set_option maxRecDepth 100000
set_option exponentiation.threshold 9000
/-! Pt: what the program's look at two walls computes. -/
namespace Law
open PySem Ey
def tp (a : P2) : D := t2 a.1 a.2
theorem ixp_0 {a : P2} {Q : DP} : ixW (tp a) (.int 0) Q ↔ Q (.int a.1) := ix2_0
theorem ixp_1 {a : P2} {Q : DP} : ixW (tp a) (.int 1) Q ↔ Q (.int a.2) := ix2_1
theorem upL {n m : Nat} (l : n ≤ m) {f : Str} {xs : List D} {Q : DP} {E : EPo} (h : phi T n f xs Q E) : phi T m f xs Q E := phi_up (fun _ _ h => h) l h
def Bt2 (k : Nat) (p : P2) : Prop := Bt k p.1 ∧ Bt k p.2
theorem vec_bt {p q : P3} {k : Nat} (hp : Bt3 k p) (hq : Bt3 k q) : Bt2 (k + k + 1) (vec p q) := ⟨(hq.1.mul hp.2.2).sub (hp.1.mul hq.2.2), (hq.2.1.mul hp.2.2).sub (hp.2.1.mul hq.2.2)⟩
theorem vector_spec (n : Nat) (p q : P3) (hp : Bt3 3000 p) (hq : Bt3 3000 q) (Q : DP) (E : EPo) (h : Q (tp (vec p q))) : phi T (n + 1) "vector" [t3 p, t3 q] Q E := by
  refine ⟨_, T_vector, rfl, ?_⟩
  show wpSs _ _ c_vector _ [.d (t3 p), .d (t3 q)]
  simp [c_vector, ix3_0, ix3_1, ix3_2, bw_mul, bw_sub, hq.1.cm hp.2.2, hp.1.cm hq.2.2, hq.2.1.cm hp.2.2, hp.2.1.cm hq.2.2, wpSs, wpS, wpE, wpEs, wpP, wpT, wpI, wpTo, viewOf, viewFrom, viewFrom_slo, slo_some, slo_none, vE, vEs, vP, vT, vI, vTo, aft, noList, noLists, frz, frz1, tg_one, tg_tt, tg_tl, tgs_nil, tgs_cons, lenT, wipeD, parOk, setPar, noOwn]
  exact h
theorem dot_spec (n : Nat) (u v : P2) (hu : Bt2 7000 u) (hv : Bt2 7000 v) (Q : DP) (E : EPo) (h : Q (.int (dt u v))) : phi T (n + 1) "dot" [tp u, tp v] Q E := by
  refine ⟨_, T_dot, rfl, ?_⟩
  show wpSs _ _ c_dot _ [.d (tp u), .d (tp v)]
  simp [c_dot, ixp_0, ixp_1, bw_mul, bw_add, hu.1.cm hv.1, hu.2.cm hv.2, wpSs, wpS, wpE, wpEs, wpP, wpT, wpI, wpTo, viewOf, viewFrom, viewFrom_slo, slo_some, slo_none, vE, vEs, vP, vT, vI, vTo, aft, noList, noLists, frz, frz1, tg_one, tg_tt, tg_tl, tgs_nil, tgs_cons, lenT, wipeD, parOk, setPar, noOwn]
  exact h
theorem Bt2.mono {j k : Nat} {p : P2} (h : Bt2 j p) (l : j ≤ k) : Bt2 k p := ⟨h.1.mono l, h.2.mono l⟩
theorem is_inside_spec (n : Nat) (p a b : P3) (hp : Bt3 3000 p) (ha : Bt3 3000 a) (hb : Bt3 3000 b) (Q : DP) (E : EPo) (h : Q (.bool (decide (dt (vec p a) (vec p b) < 0)))) : phi T (n + 2) "is_inside" [t3 p, t3 a, t3 b] Q E := by
  refine ⟨_, T_is_inside, rfl, ?_⟩
  show wpSs _ _ c_is_inside _ [.d (t3 p), .d (t3 a), .d (t3 b)]
  simp [c_is_inside, wpSs, wpS, wpE, wpEs, wpP, wpT, wpI, wpTo, viewOf, viewFrom, viewFrom_slo, slo_some, slo_none, vE, vEs, vP, vT, vI, vTo, aft, noList, noLists, frz, frz1, tg_one, tg_tt, tg_tl, tgs_nil, tgs_cons, lenT, wipeD, parOk, setPar, noOwn]
  refine vector_spec n p a hp ha _ _ ?_
  refine vector_spec n p b hp hb _ _ ?_
  refine dot_spec n _ _ ((vec_bt hp ha).mono (by decide)) ((vec_bt hp hb).mono (by decide)) _ _ ?_
  rw [cw_lt]
  exact h
theorem shp_two (a b : P3) : shp (.tuple [t3 a, t3 b]) = true := by simp [t3, shp, PyData.plain, PyData.plainAll, PyData.depth, PyData.depthAll]
theorem is_on_spec (n : Nat) (p a b : P3) (nz : Nz (crs a b)) (hp : Bt3 3000 p) (ha : Bt3 1000 a) (hb : Bt3 1000 b) (Q : DP) (E : EPo) (h : Q (.bool (onB p a b))) : phi T (n + 4) "is_on" [t3 p, t3 a, t3 b] Q E := by
  refine ⟨_, T_is_on, rfl, ?_⟩
  show wpSs _ _ c_is_on _ [.d (t3 p), .d (t3 a), .d (t3 b)]
  have a3 : Bt3 3000 a := ha.mono (by decide)
  have b3 : Bt3 3000 b := hb.mono (by decide)
  simp [c_is_on, wpSs, wpS, wpE, wpEs, wpP, wpT, wpI, wpTo, viewOf, viewFrom, viewFrom_slo, slo_some, slo_none, vE, vEs, vP, vT, vI, vTo, aft, noList, noLists, frz, frz1, tg_one, tg_tt, tg_tl, tgs_nil, tgs_cons, lenT, wipeD, parOk, setPar, noOwn]
  refine through_raw_spec (n + 1) a b nz a3 b3 _ _ ?_
  refine side_raw_spec (n + 1) _ p ((thr_le ha hb).mono (by decide)) (hp.mono (by decide)) _ _ ?_
  rw [cw_ne, eqv_ii]
  refine ⟨eq_ints, ?_⟩
  unfold onB at h
  by_cases z : wth (thr a b) p = 0
  · have z' : sgn (wth (thr a b) p) = 0 := sgn_zero.mpr z
    simp only [z', decide_true, Bool.not_true, Bool.false_eq_true, if_false]
    simp only [z, decide_true, Bool.true_and] at h
    simp [j_is_on_1, wpSs, wpS, wpE, wpEs, wpP, wpT, wpI, wpTo, viewOf, viewFrom, viewFrom_slo, slo_some, slo_none, vE, vEs, vP, vT, vI, vTo, aft, noList, noLists, frz, frz1, tg_one, tg_tt, tg_tl, tgs_nil, tgs_cons, lenT, wipeD, parOk, setPar, noOwn]
    refine ⟨⟨shp_t3 p, shp_two a b⟩, ?_⟩
    have e : ([t3 a, t3 b].any fun y => PyData.eqv y (t3 p)) = (decide (p = a) || decide (p = b)) := by
      simp [eqv_t3, eq_comm]
    rw [e]
    by_cases y : p = a
    · simp only [y, decide_true, Bool.true_or, if_true] at h ⊢
      exact h
    · by_cases y2 : p = b
      · simp only [y2, decide_true, Bool.true_or, Bool.or_true, if_true] at h ⊢
        exact h
      · simp only [y, y2, decide_false, Bool.or_false, Bool.false_or, Bool.false_eq_true, if_false] at h ⊢
        exact is_inside_spec (n + 1) p a b hp a3 b3 _ _ h
  · have z' : ¬ sgn (wth (thr a b) p) = 0 := fun y => z (sgn_zero.mp y)
    simp only [z', decide_false, Bool.not_false, if_true]
    simpa [z] using h
theorem is_sooner_spec (n : Nat) (p q : P3) (d : P2) (hp : Bt3 3000 p) (hq : Bt3 3000 q) (hd : Bt2 7000 d) (Q : DP) (E : EPo) (h : Q (.bool (decide (0 < dt (vec p q) d)))) : phi T (n + 2) "is_sooner" [t3 p, t3 q, tp d] Q E := by
  refine ⟨_, T_is_sooner, rfl, ?_⟩
  show wpSs _ _ c_is_sooner _ [.d (t3 p), .d (t3 q), .d (tp d)]
  simp [c_is_sooner, wpSs, wpS, wpE, wpEs, wpP, wpT, wpI, wpTo, viewOf, viewFrom, viewFrom_slo, slo_some, slo_none, vE, vEs, vP, vT, vI, vTo, aft, noList, noLists, frz, frz1, tg_one, tg_tt, tg_tl, tgs_nil, tgs_cons, lenT, wipeD, parOk, setPar, noOwn]
  refine vector_spec n p q hp hq _ _ ?_
  refine dot_spec n _ _ ((vec_bt hp hq).mono (by decide)) hd _ _ ?_
  rw [cw_gt]
  exact h
theorem atI_nat {α : Type} {xs : List α} {k : Nat} (h : k < xs.length) : L2.atI xs (k : Int) = xs[k]? := by
  unfold L2.atI L2.ixN
  have h1 : ¬ ((k : Int) < 0) := by omega
  simp [h1, h]
theorem insL_mem {dir : P2} {found : List P3} {p q : P3} (h : q ∈ insL dir found p) : q ∈ found ∨ q = p := by
  unfold insL at h
  simp only at h
  split at h
  · simp only [List.mem_append, List.mem_singleton] at h
    rcases h with (h | h) | h
    · exact .inl (List.mem_of_mem_take h)
    · exact .inr h
    · exact .inl (List.mem_of_mem_drop h)
  · exact .inl h
theorem noL_t3 (p : P3) : noList (t3 p) = true := by simp [t3, noList, noLists]
theorem noLs_t3 (ps : List P3) : noLists (ps.map t3) = true := by
  rw [noLists_iff]
  intro x hx
  obtain ⟨p, _, rfl⟩ := List.mem_map.mp hx
  exact noL_t3 p
def t3i : D → P3
  | .tuple [.int a, .int b, .int c] => (a, b, c)
  | _ => (0, 0, 0)
theorem t3i_t3 (p : P3) : t3i (t3 p) = p := rfl
theorem filter_t3 (f : P3 → Bool) (ps : List P3) : (ps.map t3).filter (fun x => f (t3i x)) = (ps.filter f).map t3 := by
  induction ps with
  | nil => rfl
  | cons p ps ih =>
    rw [List.map_cons, List.filter_cons, List.filter_cons, ih, t3i_t3]
    cases f p <;> rfl
theorem order_loop (n : Nat) (E : EPo) (dir : P2) (hd : Bt2 7000 dir) (De : En) (d0 d1 : D) : ∀ (ps found : List P3) (z3 z4 z5 : Option D), (∀ p ∈ ps, Bt3 3000 p) → (∀ p ∈ found, Bt3 3000 p) → found.length + ps.length ≤ 1000 →
    (∀ z3 z4 z5, De.nx [.d d0, .d (tp dir), .own ((ps.foldl (insL dir) found).map t3), slo z3, slo z4, slo z5]) →
    forGo (.one 3) (wpSs (phi T (n + 2)) E b_in_order_1) De (ps.map t3) [.d d0, .d (tp dir), .own (found.map t3), slo z3, slo z4, slo z5]
  | [], found, z3, z4, z5, _, _, _, h => by simpa [forGo] using h z3 z4 z5
  | p :: ps, found, z3, z4, z5, hp, hf, hl, h => by
    have bp := hp p (List.mem_cons_self ..)
    have next := fun z4 z5 => order_loop n E dir hd De d0 d1 ps (insL dir found p) (some (t3 p)) z4 z5 (fun q hq => hp q (List.mem_cons_of_mem _ hq)) (fun q hq => (insL_mem hq).elim (hf q) fun e => e ▸ bp)
      (by rcases insL_len dir found p with e | e <;> rw [e] <;> simp only [List.length_cons] at hl <;> omega) h
    have fl : ∀ R : DP, R (.list ((found.filter fun q => decide (0 < dt (vec q p) dir)).map t3)) → lcGo (fun x R => phi T (n + 2) "is_sooner" [x, t3 p, tp dir] (fun v => truW v fun b => if b = true then R (some x) else R none) (fun _ _ => False)) (found.map t3) [] fun ys => R (.list ys) := fun R hR => by
      refine lc_filter (p := fun x => decide (0 < dt (vec (t3i x) p) dir)) (f := id) (fun x hx R' hR' => ?_) ?_
      · obtain ⟨q, hq, rfl⟩ := List.mem_map.mp hx
        refine is_sooner_spec n q p dir (hf q hq) bp hd _ _ ?_
        rw [tw_bool]
        rw [t3i_t3] at hR'
        by_cases y : 0 < dt (vec q p) dir
        · simpa [y] using hR'
        · simpa [y] using hR'
      · rw [filter_t3 (fun q => decide (0 < dt (vec q p) dir)) found, List.map_id, List.nil_append]
        exact hR
    rw [List.map_cons]
    show tgW Sl.d (.one 3) (t3 p) _ _
    rw [tg_one]
    simp only [List.set_cons_succ, List.set_cons_zero]
    have ev : ∀ R : DP, R (.int ((found.filter fun q => decide (0 < dt (vec q p) dir)).length : Nat)) → wpE (phi T (n + 2)) (.bi .len (.cons (.lc [("q", 5)] (.one 5) (.seq (.var 2)) (.yes (.val (.call "is_sooner" (.cons (.var 5) (.cons (.var 3) (.cons (.var 1) .nil)))))) (.var 5)) .nil)) E
        (viewOf [2, 5, 3, 1, 5] [.d d0, .d (tp dir), .own (found.map t3), .d (t3 p), slo z4, slo z5]) R := fun R hR => by
      simp [List.length_map, wpSs, wpS, wpE, wpEs, wpP, wpT, wpI, wpTo, viewOf, viewFrom, viewFrom_slo, slo_some, slo_none, vE, vEs, vP, vT, vI, vTo, aft, noList, noLists, frz, frz1, tg_one, tg_tt, tg_tl, tgs_nil, tgs_cons, lenT, wipeD, parOk, setPar, noOwn]
      refine ⟨by simp at hl; omega, ?_⟩
      refine fl (fun d => biW .len [d] R) ?_
      rw [bi_len_list, List.length_map]
      exact hR
    refine ss_asg (ev _ ?_)
    have fin1 := next (some (.int ((found.filter fun q => decide (0 < dt (vec q p) dir)).length : Nat))) z5
    have le := List.length_filter_le (fun q => decide (0 < dt (vec q p) dir)) found
    have ins : insL dir found p = if (found.filter fun q => decide (0 < dt (vec q p) dir)).length = found.length ∨ found[(found.filter fun q => decide (0 < dt (vec q p) dir)).length]? ≠ some p then found.take (found.filter fun q => decide (0 < dt (vec q p) dir)).length ++ [p] ++ found.drop (found.filter fun q => decide (0 < dt (vec q p) dir)).length else found := rfl
    generalize (found.filter fun q => decide (0 < dt (vec q p) dir)).length = k at *
    show wpSs _ _ _ _ [.d d0, .d (tp dir), .own (found.map t3), .d (t3 p), .d (.int (k : Nat)), slo z5]
    simp only [slo_some] at fin1
    refine ss_ite ?_
    simp [List.length_map, wpSs, wpS, wpE, wpEs, wpP, wpT, wpI, wpTo, viewOf, viewFrom, viewFrom_slo, slo_some, slo_none, vE, vEs, vP, vT, vI, vTo, aft, noList, noLists, frz, frz1, tg_one, tg_tt, tg_tl, tgs_nil, tgs_cons, lenT, wipeD, parOk, setPar, noOwn]
    simp [eq_ints, cw_eq, cw_ne, cw_lt, cw_le, cw_gt, cw_ge, cw_isN, cw_notN, cw_isB, cw_notB, tw_none, tw_bool, tw_int, tw_list, tw_tuple, ix_list, ix_tuple, bw_add, bw_sub, bi_len_list, bi_len_tuple, bi_repr, isNone_none, isNone_tuple, isNone_int, isNone_str, isNone_bool, eq_ints, eq_strs, eq_nilT, eq_nilL, eqv_ii, eqv_bb, eqv_ss, eqv_nn, eqv_tt, eqv_ll, eqvs_nil, eqvs_cons, eqvs_nc, eqvs_cn]
    have put : (k = found.length ∨ found[k]? ≠ some p) → ∃ j : Nat, (k : Int) = j ∧ j ≤ found.length ∧ found.length < 100000 ∧ forGo (.one 3) (wpSs (phi T (n + 2)) E b_in_order_1) De (ps.map t3)
        [.d d0, .d (tp dir), .own ((found.map t3).take j ++ t3 p :: (found.map t3).drop j), .d (t3 p), .d (.int (k : Nat)), slo z5] := fun c => by
      rw [ins, if_pos c] at fin1
      refine ⟨k, rfl, le, by simp at hl; omega, ?_⟩
      simpa [List.map_take, List.map_drop, List.map_append] using fin1
    by_cases c : k = found.length
    · rw [if_pos (by exact_mod_cast c)]
      exact put (.inl c)
    · rw [if_neg (by exact_mod_cast c)]
      have kl : k < found.length := by omega
      refine ⟨t3 found[k], by rw [atI_nat (by simpa using kl)]; simp [kl], eq_t3, ?_⟩
      rw [eqv_t3]
      by_cases e : found[k] = p
      · rw [if_pos (by simpa using e)]
        have : ¬(k = found.length ∨ found[k]? ≠ some p) := by
          rw [List.getElem?_eq_getElem kl, e]
          simp [c]
        rw [ins, if_neg this] at fin1
        exact fin1
      · rw [if_neg (by simpa using e)]
        exact put (.inr (by rw [List.getElem?_eq_getElem kl]; simpa using e))
theorem in_order_spec (n : Nat) (ps : List P3) (dir : P2) (hd : Bt2 7000 dir) (hp : ∀ p ∈ ps, Bt3 3000 p) (hl : ps.length ≤ 1000) (Q : DP) (E : EPo) (h : Q (.list ((ordL dir ps).map t3))) : phi T (n + 3) "in_order" [.list (ps.map t3), tp dir] Q E := by
  refine ⟨_, T_in_order, rfl, ?_⟩
  show wpSs _ _ c_in_order _ [.d (.list (ps.map t3)), .d (tp dir), .no, .no, .no, .no]
  have lp := fun De h => order_loop n E dir hd De (.list (ps.map t3)) .none ps [] none none none hp (fun _ h => nomatch h) (by simpa using hl) h
  simp [c_in_order, wpSs, wpS, wpE, wpEs, wpP, wpT, wpI, wpTo, viewOf, viewFrom, viewFrom_slo, slo_some, slo_none, vE, vEs, vP, vT, vI, vTo, aft, noList, noLists, frz, frz1, tg_one, tg_tt, tg_tl, tgs_nil, tgs_cons, lenT, wipeD, parOk, setPar, noOwn]
  refine lp _ fun z3 z4 z5 => ?_
  simp [j_in_order_1, wpSs, wpS, wpE, wpEs, wpP, wpT, wpI, wpTo, viewOf, viewFrom, viewFrom_slo, slo_some, slo_none, vE, vEs, vP, vT, vI, vTo, aft, noList, noLists, frz, frz1, tg_one, tg_tt, tg_tl, tgs_nil, tgs_cons, lenT, wipeD, parOk, setPar, noOwn]
  exact h
theorem fdiv_bt {k : Nat} {i : Int} {g : Nat} (h : Bt k i) : Bt k (i.fdiv (g : Int)) := by
  rw [Int.fdiv_eq_ediv_of_nonneg i (Int.natCast_nonneg g)]
  exact Nat.lt_of_le_of_lt (Int.natAbs_ediv_le_natAbs i g) h
theorem direction_raw_spec (n : Nat) (x y : Int) (nz : x ≠ 0 ∨ y ≠ 0) (hx : Bt 7000 x) (hy : Bt 7000 y) (Q : DP) (E : EPo) (h : ∀ d : P2, Bt2 7000 d → Q (tp d)) : phi T (n + 1) "direction_raw" [.int x, .int y] Q E := by
  refine ⟨_, T_direction_raw, rfl, ?_⟩
  show wpSs _ _ c_direction_raw _ [.d (.int x), .d (.int y), .no]
  have g0 : Nat.gcd x.natAbs y.natAbs ≠ 0 := fun z => by
    have := Nat.eq_zero_of_gcd_eq_zero_left z
    have := Nat.eq_zero_of_gcd_eq_zero_right z
    omega
  have gl : (Nat.gcd x.natAbs y.natAbs).log2 < 9000 := by
    have le : Nat.gcd x.natAbs y.natAbs < 2 ^ 7000 := by
      rcases nz with h | h
      · exact Nat.lt_of_le_of_lt (Nat.gcd_le_left _ (by omega)) hx
      · exact Nat.lt_of_le_of_lt (Nat.gcd_le_right _ (by omega)) hy
    have := (Nat.log2_lt g0).mpr le
    omega
  simp [c_direction_raw, biW, wpSs, wpS, wpE, wpEs, wpP, wpT, wpI, wpTo, viewOf, viewFrom, viewFrom_slo, slo_some, slo_none, vE, vEs, vP, vT, vI, vTo, aft, noList, noLists, frz, frz1, tg_one, tg_tt, tg_tl, tgs_nil, tgs_cons, lenT, wipeD, parOk, setPar, noOwn]
  rw [bw_fdiv]
  refine ⟨⟨by exact_mod_cast g0, by simpa using gl⟩, ?_⟩
  rw [bw_fdiv]
  refine ⟨⟨by exact_mod_cast g0, by simpa using gl⟩, ?_⟩
  exact h (_, _) ⟨fdiv_bt hx, fdiv_bt hy⟩
theorem direction_to_spec (n : Nat) (p q : P3) (nz : (vec p q).1 ≠ 0 ∨ (vec p q).2 ≠ 0) (hp : Bt3 3000 p) (hq : Bt3 3000 q) (Q : DP) (E : EPo) (h : ∀ d : P2, Bt2 7000 d → Q (tp d)) : phi T (n + 2) "direction_to" [t3 p, t3 q] Q E := by
  refine ⟨_, T_direction_to, rfl, ?_⟩
  show wpSs _ _ c_direction_to _ [.d (t3 p), .d (t3 q)]
  simp [c_direction_to, ix3_0, ix3_1, ix3_2, bw_mul, bw_sub, hq.1.cm hp.2.2, hp.1.cm hq.2.2, hq.2.1.cm hp.2.2, hp.2.1.cm hq.2.2, wpSs, wpS, wpE, wpEs, wpP, wpT, wpI, wpTo, viewOf, viewFrom, viewFrom_slo, slo_some, slo_none, vE, vEs, vP, vT, vI, vTo, aft, noList, noLists, frz, frz1, tg_one, tg_tt, tg_tl, tgs_nil, tgs_cons, lenT, wipeD, parOk, setPar, noOwn]
  have v := (vec_bt hp hq).mono (by decide : 3000 + 3000 + 1 ≤ 7000)
  exact direction_raw_spec n _ _ nz v.1 v.2 _ _ h
theorem onfilter (n : Nat) (E : EPo) (ps : List P3) (a b : P3) (nz : Nz (crs a b)) (hp : ∀ p ∈ ps, Bt3 3000 p) (ha : Bt3 1000 a) (hb : Bt3 1000 b) (R : List D → Prop) (h : R ((ps.filter fun p => onB p a b).map t3)) :
    lcGo (fun x R => phi T (n + 4) "is_on" [x, t3 a, t3 b] (fun v => truW v fun b => if b = true then R (some x) else R none) E) (ps.map t3) [] R := by
  refine lc_filter (p := fun x => onB (t3i x) a b) (f := id) (fun x hx R' hR' => ?_) ?_
  · obtain ⟨q, hq, rfl⟩ := List.mem_map.mp hx
    refine is_on_spec n q a b nz (hp q hq) ha hb _ _ ?_
    rw [tw_bool]
    rw [t3i_t3] at hR'
    cases y : onB q a b
    · simpa [y] using hR'
    · simpa [y] using hR'
  · rw [filter_t3 (fun q => onB q a b) ps, List.map_id, List.nil_append]
    exact h
def two (a b : P3) : D := .tuple [t3 a, t3 b]
theorem cut_last (xs : List D) : cutD (cutD xs (some 1) none) (some (-1)) none = (xs.drop 1).drop ((xs.drop 1).length - 1) := by
  have e : cutD xs (some 1) none = xs.drop 1 := cutD_drop xs 1
  rw [e]
  generalize xs.drop 1 = ys
  unfold cutD
  rw [cutAt_neg (by decide)]
  simp only [cutAt]
  rw [List.take_of_length_le (by simp)]
  congr 1
  omega
theorem common_part_spec (n : Nat) (a b c d : P3) (ha : IsPl a) (hb : IsPl b) (hc : IsPl c) (hd : IsPl d) (ab : a ≠ b) (cd : c ≠ d) (ba : Bt3 400 a) (bb : Bt3 400 b) (bc : Bt3 400 c) (bd : Bt3 400 d) (nz : (vec a b).1 ≠ 0 ∨ (vec a b).2 ≠ 0) (Q : DP) (E : EPo)
    (h : ∀ dir, Q (.tuple ((commonL dir a b c d).map t3))) : phi T (n + 6) "common_part" [two a b, two c d] Q E := by
  refine ⟨_, T_common_part, rfl, ?_⟩
  show wpSs _ _ c_common_part _ [.d (two a b), .d (two c d), .no, .no, .no, .no, .no]
  have z1 := crs_nz ha hb ab
  have z2 := crs_nz hc hd cd
  have bl := thr_le ba bb
  have bk := thr_le bc bd
  have i20 : ∀ {x y : P3} {R : DP}, ixW (two x y) (.int 0) R ↔ R (t3 x) := by intro x y R; simp [two, ix_tuple, L2.atI, L2.ixN]
  have i21 : ∀ {x y : P3} {R : DP}, ixW (two x y) (.int 1) R ↔ R (t3 y) := by intro x y R; simp [two, ix_tuple, L2.atI, L2.ixN]
  simp [c_common_part, i20, i21, wpSs, wpS, wpE, wpEs, wpP, wpT, wpI, wpTo, viewOf, viewFrom, viewFrom_slo, slo_some, slo_none, vE, vEs, vP, vT, vI, vTo, aft, noList, noLists, frz, frz1, tg_one, tg_tt, tg_tl, tgs_nil, tgs_cons, lenT, wipeD, parOk, setPar, noOwn]
  refine through_raw_spec (n + 3) a b z1 (ba.mono (by decide)) (bb.mono (by decide)) _ _ ?_
  refine through_raw_spec (n + 3) c d z2 (bc.mono (by decide)) (bd.mono (by decide)) _ _ ?_
  refine meeting_raw_spec (n + 3) _ _ (bl.mono (by decide)) (bk.mono (by decide)) _ _ ?_
  rw [cw_notN]
  have bm := plT_bt (crs_bt bl bk)
  have hx : ∀ dir, Q (.tuple ((commonL dir a b c d).map t3)) := h
  unfold commonL at h
  by_cases np : (crs (thr a b) (thr c d)).2.2 = 0
  · have e : meetD (thr a b) (thr c d) = .none := by unfold meetD; rw [if_pos np]
    rw [e]
    simp only [isNone_none, Bool.not_true, Bool.false_eq_true, if_false]
    simp [j_common_part_2, i20, wpSs, wpS, wpE, wpEs, wpP, wpT, wpI, wpTo, viewOf, viewFrom, viewFrom_slo, slo_some, slo_none, vE, vEs, vP, vT, vI, vTo, aft, noList, noLists, frz, frz1, tg_one, tg_tt, tg_tl, tgs_nil, tgs_cons, lenT, wipeD, parOk, setPar, noOwn]
    refine side_raw_spec (n + 3) _ _ (bl.mono (by decide)) (bc.mono (by decide)) _ _ ?_
    rw [cw_ne, eqv_ii]
    refine ⟨eq_ints, ?_⟩
    by_cases on : wth (thr a b) c = 0
    · have on' : sgn (wth (thr a b) c) = 0 := sgn_zero.mpr on
      simp only [on', decide_true, Bool.not_true, Bool.false_eq_true, if_false]
      have form : ∀ dir, Q (.tuple (((ordL dir (someL a b c d)).take 1 ++ ((ordL dir (someL a b c d)).drop 1).drop (((ordL dir (someL a b c d)).drop 1).length - 1)).map t3)) := fun dir => by
        have := h dir
        rw [if_neg (fun h => h np), if_neg (fun h => h on)] at this
        exact this
      have b3 : ∀ p ∈ [a, b], Bt3 3000 p := fun p hp => by
        simp at hp
        rcases hp with rfl | rfl
        · exact ba.mono (by decide)
        · exact bb.mono (by decide)
      have d3 : ∀ p ∈ [c, d], Bt3 3000 p := fun p hp => by
        simp at hp
        rcases hp with rfl | rfl
        · exact bc.mono (by decide)
        · exact bd.mono (by decide)
      have sb : ∀ p ∈ someL a b c d, Bt3 3000 p := fun p hp => by
        rcases mem_some.mp hp with ⟨rfl, _⟩ | ⟨rfl, _⟩ | ⟨rfl, _⟩ | ⟨rfl, _⟩
        · exact b3 _ (by simp)
        · exact b3 _ (by simp)
        · exact d3 _ (by simp)
        · exact d3 _ (by simp)
      have sl : (someL a b c d).length ≤ 4 := by
        have h1 := List.length_filter_le (fun p => onB p c d) [a, b]
        have h2 := List.length_filter_le (fun p => onB p a b) [c, d]
        simp only [someL, List.length_append, List.length_cons, List.length_nil] at *
        omega
      simp [j_common_part_1, i20, i21, wpSs, wpS, wpE, wpEs, wpP, wpT, wpI, wpTo, viewOf, viewFrom, viewFrom_slo, slo_some, slo_none, vE, vEs, vP, vT, vI, vTo, aft, noList, noLists, frz, frz1, tg_one, tg_tt, tg_tl, tgs_nil, tgs_cons, lenT, wipeD, parOk, setPar, noOwn]
      refine .inr ⟨[a, b].map t3, rfl, by simp, ?_⟩
      refine onfilter (n + 1) E0 [a, b] c d z2 b3 (bc.mono (by decide)) (bd.mono (by decide)) _ ?_
      refine .inr ⟨[c, d].map t3, rfl, by simp, ?_⟩
      refine onfilter (n + 1) E0 [c, d] a b z1 d3 (ba.mono (by decide)) (bb.mono (by decide)) _ ?_
      have es : ([a, b].filter fun p => onB p c d).map t3 ++ ([c, d].filter fun p => onB p a b).map t3 = (someL a b c d).map t3 := by rw [← List.map_append]; rfl
      refine ⟨?_, ?_⟩
      · rw [← List.length_append, es, List.length_map]
        omega
      rw [es]
      refine direction_to_spec (n + 3) a b nz (ba.mono (by decide)) (bb.mono (by decide)) _ _ fun dir bdir => ?_
      refine in_order_spec (n + 2) _ dir bdir sb (by omega) _ _ ?_
      have f := form dir
      generalize ordL dir (someL a b c d) = L at f
      show (cutD (L.map t3) none (some 1)).length + (cutD (cutD (L.map t3) (some 1) none) (some (-1)) none).length ≤ 100000 ∧ Q (.tuple (cutD (L.map t3) none (some 1) ++ cutD (cutD (L.map t3) (some 1) none) (some (-1)) none))
      rw [cut_last, show cutD (L.map t3) none (some 1) = (L.map t3).take 1 from cutD_take _ 1]
      refine ⟨by simp; omega, ?_⟩
      simpa [List.map_append, List.map_take, List.map_drop] using f
    · have on' : ¬ sgn (wth (thr a b) c) = 0 := fun y => on (sgn_zero.mp y)
      simp only [on', decide_false, Bool.not_false, if_true]
      have := h (0, 0)
      rw [if_neg (fun h => h np), if_pos on] at this
      exact this
  · have e : meetD (thr a b) (thr c d) = t3 (plT (crs (thr a b) (thr c d))) := by unfold meetD; rw [if_neg np]
    have := h (0, 0)
    rw [if_pos np] at this
    rw [e]
    have nn : isNone (t3 (plT (crs (thr a b) (thr c d)))) = false := rfl
    simp only [nn, Bool.not_false, if_true]
    refine is_on_spec (n + 1) _ a b z1 (bm.mono (by decide)) (ba.mono (by decide)) (bb.mono (by decide)) _ _ ?_
    rw [tw_bool]
    cases o1 : onB (plT (crs (thr a b) (thr c d))) a b
    · simpa [o1] using this
    · simp only [if_true]
      refine is_on_spec (n + 1) _ c d z2 (bm.mono (by decide)) (bc.mono (by decide)) (bd.mono (by decide)) _ _ ?_
      rw [tw_bool]
      cases o2 : onB (plT (crs (thr a b) (thr c d))) c d <;> simpa [o1, o2] using this
theorem corner_spec (n : Nat) (a : P2) (Q : DP) (E : EPo) (h : Q (t3 (cn a))) : phi T (n + 1) "corner" [tp a] Q E := by
  refine ⟨_, T_corner, rfl, ?_⟩
  show wpSs _ _ c_corner _ [.d (tp a)]
  simp [c_corner, ixp_0, ixp_1, wpSs, wpS, wpE, wpEs, wpP, wpT, wpI, wpTo, viewOf, viewFrom, viewFrom_slo, slo_some, slo_none, vE, vEs, vP, vT, vI, vTo, aft, noList, noLists, frz, frz1, tg_one, tg_tt, tg_tl, tgs_nil, tgs_cons, lenT, wipeD, parOk, setPar, noOwn]
  exact h
/-- a wall -/
def wl (s : Str) (a b : P2) : D := .tuple [.str s, tp a, tp b]
theorem ixw_0 {s : Str} {a b : P2} {Q : DP} : ixW (wl s a b) (.int 0) Q ↔ Q (.str s) := by simp [wl, ix_tuple, L2.atI, L2.ixN]
theorem ixw_1 {s : Str} {a b : P2} {Q : DP} : ixW (wl s a b) (.int 1) Q ↔ Q (tp a) := by simp [wl, ix_tuple, L2.atI, L2.ixN]
theorem ixw_2 {s : Str} {a b : P2} {Q : DP} : ixW (wl s a b) (.int 2) Q ↔ Q (tp b) := by simp [wl, ix_tuple, L2.atI, L2.ixN]
theorem ends_spec (n : Nat) (s : Str) (a b : P2) (Q : DP) (E : EPo) (h : Q (two (cn a) (cn b))) : phi T (n + 2) "ends" [wl s a b] Q E := by
  refine ⟨_, T_ends, rfl, ?_⟩
  show wpSs _ _ c_ends _ [.d (wl s a b)]
  simp [c_ends, ixw_1, ixw_2, wpSs, wpS, wpE, wpEs, wpP, wpT, wpI, wpTo, viewOf, viewFrom, viewFrom_slo, slo_some, slo_none, vE, vEs, vP, vT, vI, vTo, aft, noList, noLists, frz, frz1, tg_one, tg_tt, tg_tl, tgs_nil, tgs_cons, lenT, wipeD, parOk, setPar, noOwn]
  refine corner_spec n a _ _ ?_
  refine corner_spec n b _ _ ?_
  exact h
theorem cn_bt {k : Nat} {a : P2} (h : Bt2 k a) (hk : 1 ≤ k) : Bt3 k (cn a) := ⟨h.1, h.2, Bt.mono (j := 1) (show (1 : Int).natAbs < 2 ^ 1 by decide) hk⟩
theorem do_clash_spec (n : Nat) (s t : Str) (a b c d : P2) (ab : a ≠ b) (cd : c ≠ d) (ba : Bt2 400 a) (bb : Bt2 400 b) (bc : Bt2 400 c) (bd : Bt2 400 d) (Q : DP) (E : EPo) (h : Q (.bool (crossB a b c d))) : phi T (n + 7) "do_clash" [wl s a b, wl t c d] Q E := by
  refine ⟨_, T_do_clash, rfl, ?_⟩
  show wpSs _ _ c_do_clash _ [.d (wl s a b), .d (wl t c d), .no, .no, .no]
  simp [c_do_clash, wpSs, wpS, wpE, wpEs, wpP, wpT, wpI, wpTo, viewOf, viewFrom, viewFrom_slo, slo_some, slo_none, vE, vEs, vP, vT, vI, vTo, aft, noList, noLists, frz, frz1, tg_one, tg_tt, tg_tl, tgs_nil, tgs_cons, lenT, wipeD, parOk, setPar, noOwn]
  refine ends_spec (n + 4) s a b _ _ ?_
  refine ends_spec (n + 4) t c d _ _ ?_
  have nz : (vec (cn a) (cn b)).1 ≠ 0 ∨ (vec (cn a) (cn b)).2 ≠ 0 := by
    simp only [vec, cn, Int.mul_one]
    by_cases z : b.1 - a.1 = 0
    · exact .inr fun y => ab (Prod.ext (by omega) (by omega))
    · exact .inl z
  refine common_part_spec n _ _ _ _ (cn_pl a) (cn_pl b) (cn_pl c) (cn_pl d) (cn_ne ab) (cn_ne cd) (cn_bt ba (by decide)) (cn_bt bb (by decide)) (cn_bt bc (by decide)) (cn_bt bd (by decide)) nz _ _ fun dir => ?_
  have e := clash_eq dir ab cd
  rw [← e] at h
  unfold clashB at h
  generalize commonL dir (cn a) (cn b) (cn c) (cn d) = L at h ⊢
  rw [bi_len_tuple, cw_eq, eqv_ii, List.length_map]
  refine ⟨eq_ints, ?_⟩
  by_cases l2 : L.length = 2
  · have : ((L.length : Nat) : Int) = 2 := by omega
    rw [if_pos (by simpa using this)]
    simpa [l2] using h
  · have : ¬ ((L.length : Nat) : Int) = 2 := by omega
    rw [if_neg (by simpa using this), bi_len_tuple, cw_eq, eqv_ii, List.length_map]
    refine ⟨eq_ints, ?_⟩
    by_cases l1 : L.length = 1
    · have : ((L.length : Nat) : Int) = 1 := by omega
      rw [if_pos (by simpa using this)]
      match L, l1 with
      | [p], _ =>
        rw [ix_tuple]
        refine ⟨t3 p, rfl, ?_⟩
        have sh : shp (.tuple [t3 (cn a), t3 (cn b), t3 (cn c), t3 (cn d)]) = true := by simp [t3, shp, PyData.plain, PyData.plainAll, PyData.depth, PyData.depthAll]
        refine ⟨by simp, ⟨shp_t3 p, sh⟩, ?_⟩
        have ev : (([t3 (cn a), t3 (cn b)] ++ [t3 (cn c), t3 (cn d)]).any fun y => PyData.eqv y (t3 p)) = (decide (p = cn a) || (decide (p = cn b) || (decide (p = cn c) || decide (p = cn d)))) := by
          simp [eqv_t3, eq_comm]
        rw [ev]
        simpa using h
    · have : ¬ ((L.length : Nat) : Int) = 1 := by omega
      rw [if_neg (by simpa using this)]
      simpa [l2, l1] using h
/-- the law's own look at two walls -/
theorem turn_cn (a b c : P2) : (b.1 - a.1) * (c.2 - a.2) - (b.2 - a.2) * (c.1 - a.1) = wth (crs (cn a) (cn b)) (cn c) := by
  simp only [cn, crs, wth, Int.mul_one]; grind
theorem turn_spec (n : Nat) (a b c : P2) (ha : Bt2 400 a) (hb : Bt2 400 b) (hc : Bt2 400 c) (Q : DP) (E : EPo) (h : Q (.int (sgn (wth (crs (cn a) (cn b)) (cn c))))) : phi T (n + 2) "_law_turn" [tp a, tp b, tp c] Q E :=
  lturn_spec n _ _ _ _ _ _ 400 (by decide) ha.1 ha.2 hb.1 hb.2 hc.1 hc.2 _ _ (by rw [turn_cn]; exact h)
theorem bw_min {i j : Int} {Q : DP} : biW .min2 [.int i, .int j] Q ↔ Q (.int (mn i j)) := Iff.rfl
theorem bw_max {i j : Int} {Q : DP} : biW .max2 [.int i, .int j] Q ↔ Q (.int (mx i j)) := Iff.rfl
theorem is_crossed_spec (n : Nat) (s t : Str) (a b c d : P2) (ab : a ≠ b) (cd : c ≠ d) (ba : Bt2 400 a) (bb : Bt2 400 b) (bc : Bt2 400 c) (bd : Bt2 400 d) (Q : DP) (E : EPo) (h : Q (.bool (crossB a b c d))) : phi T (n + 3) "_law_is_crossed" [wl s a b, wl t c d] Q E := by
  refine ⟨_, T__law_is_crossed, rfl, ?_⟩
  show wpSs _ _ c__law_is_crossed _ [.d (wl s a b), .d (wl t c d), .no, .no, .no, .no, .no, .no, .no]
  simp [c__law_is_crossed, ixw_1, ixw_2, wpSs, wpS, wpE, wpEs, wpP, wpT, wpI, wpTo, viewOf, viewFrom, viewFrom_slo, slo_some, slo_none, vE, vEs, vP, vT, vI, vTo, aft, noList, noLists, frz, frz1, tg_one, tg_tt, tg_tl, tgs_nil, tgs_cons, lenT, wipeD, parOk, setPar, noOwn]
  refine turn_spec n a b c ba bb bc _ _ ?_
  rw [cw_eq, eqv_ii]
  refine ⟨eq_ints, ?_⟩
  have tail : (¬(sgn (wth (crs (cn a) (cn b)) (cn c)) = 0 ∧ sgn (wth (crs (cn a) (cn b)) (cn d)) = 0)) → wpSs (phi T (n + 2)) E j__law_is_crossed_1 { nx := fun x => Q PyData.none, rt := Q }
      [.d (wl s a b), .d (wl t c d), .d (tp a), .d (tp b), .d (tp c), .d (tp d), .no, .no, .no] := fun no => by
    unfold crossB at h
    rw [if_neg no] at h
    simp [j__law_is_crossed_1, wpSs, wpS, wpE, wpEs, wpP, wpT, wpI, wpTo, viewOf, viewFrom, viewFrom_slo, slo_some, slo_none, vE, vEs, vP, vT, vI, vTo, aft, noList, noLists, frz, frz1, tg_one, tg_tt, tg_tl, tgs_nil, tgs_cons, lenT, wipeD, parOk, setPar, noOwn]
    refine turn_spec n a b c ba bb bc _ _ ?_
    refine turn_spec n a b d ba bb bd _ _ ?_
    have sm : ∀ i : Int, -2 < sgn i ∧ sgn i < 2 := fun i => by unfold sgn; split <;> (try split) <;> omega
    have cm : ∀ i j : Int, L2.CMul (sgn i) (sgn j) ∨ L2.CMulW (sgn i) (sgn j) := fun i j => .inl (.inl ⟨by have := sm i; omega, by have := sm i; omega⟩)
    rw [bw_mul]
    refine ⟨cm _ _, ?_⟩
    rw [cw_lt]
    by_cases y : sgn (wth (crs (cn a) (cn b)) (cn c)) * sgn (wth (crs (cn a) (cn b)) (cn d)) < 0
    · simp only [y, decide_true, if_true, Bool.true_and] at h ⊢
      refine turn_spec n c d a bc bd ba _ _ ?_
      refine turn_spec n c d b bc bd bb _ _ ?_
      rw [bw_mul]
      refine ⟨cm _ _, ?_⟩
      rw [cw_lt]
      exact h
    · simp only [y, decide_false, Bool.false_eq_true, if_false, Bool.false_and] at h ⊢
      exact h
  by_cases z1 : sgn (wth (crs (cn a) (cn b)) (cn c)) = 0
  · simp only [z1, decide_true, if_true]
    refine turn_spec n a b d ba bb bd _ _ ?_
    rw [cw_eq, eqv_ii]
    refine ⟨eq_ints, ?_⟩
    by_cases z2 : sgn (wth (crs (cn a) (cn b)) (cn d)) = 0
    · simp only [z2, decide_true, if_true]
      unfold crossB at h
      rw [if_pos ⟨z1, z2⟩] at h
      simp [i__law_is_crossed_1, ixp_0, wpSs, wpS, wpE, wpEs, wpP, wpT, wpI, wpTo, viewOf, viewFrom, viewFrom_slo, slo_some, slo_none, vE, vEs, vP, vT, vI, vTo, aft, noList, noLists, frz, frz1, tg_one, tg_tt, tg_tl, tgs_nil, tgs_cons, lenT, wipeD, parOk, setPar, noOwn]
      rw [cw_ne, eqv_ii]
      refine ⟨eq_ints, ?_⟩
      by_cases e : a.1 = b.1
      · have at1 : ∀ p, atI a b p = p.2 := fun p => by simp [atI, e]
        simp only [at1] at h
        simp only [e, decide_true, Bool.not_true, Bool.false_eq_true, if_false, ixp_1, bw_min, bw_max, cw_lt]
        exact h
      · have at1 : ∀ p, atI a b p = p.1 := fun p => by simp [atI, e]
        simp only [at1] at h
        simp only [e, decide_false, Bool.not_false, if_true, bw_min, bw_max, cw_lt]
        exact h
    · simp only [z2, decide_false, Bool.false_eq_true, if_false]
      exact tail fun y => z2 y.2
  · simp only [z1, decide_false, Bool.false_eq_true, if_false]
    exact tail fun y => z1 y.1
end Law

end
section
set_option Elab.async false
set_option linter.all false
set_option maxRecDepth 100000
set_option exponentiation.threshold 9000
/-! Pu: names, walls, rows of walls. -/
namespace Law
open PySem Ey
def LET : Str := "abcdefghijklmnopqrstuvwxyz"
def SIG : Str := "abcdefghijklmnopqrstuvwxyz0123456789"
def nameL : List Nat → Bool
  | [] => false
  | c :: r => decide (r.length < 8) && (decide (c ∈ LET.cps.toList) && (c :: r).all fun c => decide (c ∈ SIG.cps.toList))
def nameB : D → Bool
  | .str s => nameL s.cps.toList
  | _ => false
theorem rc_pos (q c : Nat) : 1 ≤ (Builtin.Str.reprChar q c).length := by
  unfold Builtin.Str.reprChar
  simp only
  repeat' split
  all_goals simp
theorem fold_ge (q : Nat) : ∀ (l : List Nat) (n : Nat), n + l.length ≤ l.foldl (fun n c => n + (Builtin.Str.reprChar q c).length) n
  | [], n => by simp
  | c :: r, n => by
    have := fold_ge q r (n + (Builtin.Str.reprChar q c).length)
    have := rc_pos q c
    simp only [List.foldl_cons, List.length_cons]
    omega
theorem str_le (s : Str) : s.length ≤ (reprText s).length := by
  rw [← reprLen_eq s, ← Array.foldl_toList]
  have := fold_ge (reprQuote s) s.cps.toList 2
  have e : s.cps.toList.length = s.length := by simp [Str.length]
  omega
theorem gd_str {p w : Nat} {s : Str} (h : Gd p w (.str s)) : s.length ≤ w := by
  have := h.wt
  simp only [wt] at this
  have := str_le s
  omega
theorem in_loop (x : Str) : ∀ (l : List Nat) (acc : List D) (Q : List D → Prop), Q (acc ++ l.map fun c => .bool (decide (c ∈ x.cps.toList))) → lcGo (fun y R => cmpW .isin y (.str x) fun b => R (some (.bool b))) (l.map fun c => PyData.str ⟨#[c]⟩) acc Q
  | [], acc, Q, h => by simpa [lcGo] using h
  | c :: r, acc, Q, h => by
    simp only [List.map_cons, lcGo]
    exact ⟨c, rfl, in_loop x r _ Q (by simpa using h)⟩
theorem out_loop (x : Str) : ∀ (l : List Nat) (acc : List D) (Q : List D → Prop), Q (acc ++ (l.filter fun c => !decide (c ∈ x.cps.toList)).map fun c => PyData.str ⟨#[c]⟩) →
    lcGo (fun y R => cmpW .notin y (.str x) fun b => if b = true then R (some y) else R none) (l.map fun c => PyData.str ⟨#[c]⟩) acc Q
  | [], acc, Q, h => by simpa [lcGo] using h
  | c :: r, acc, Q, h => by
    simp only [List.map_cons, lcGo]
    refine ⟨c, rfl, ?_⟩
    by_cases z : c ∈ x.cps.toList
    · simp only [z, decide_true, Bool.not_true, Bool.false_eq_true, if_false]
      refine out_loop x r _ Q ?_
      rw [List.filter_cons, if_neg (by simpa using z)] at h
      exact h
    · simp only [z, decide_false, Bool.not_false, if_true]
      refine out_loop x r _ Q ?_
      rw [List.filter_cons, if_pos (by simpa using z)] at h
      simpa using h
theorem bools_of_map (f : Nat → Bool) : ∀ l : List Nat, boolsOf (l.map fun c => PyData.bool (f c)) = some (l.map f)
  | [] => rfl
  | c :: r => by simp [boolsOf, bools_of_map f r]
theorem is_name_spec (n : Nat) (x : D) (hx : ∀ s, x = .str s → s.length ≤ 100000) (Q : DP) (E : EPo) (h : Q (.bool (nameB x))) : phi T (n + 1) "is_name" [x] Q E := by
  refine ⟨_, T_is_name, rfl, ?_⟩
  show wpSs _ _ c_is_name _ [.d x, .no]
  cases x
  case str s =>
    have lz := hx s rfl
    obtain ⟨⟨l⟩⟩ := s
    simp [c_is_name, isiD, tw_bool, kD, biW, wpSs, wpS, wpE, wpEs, wpP, wpT, wpI, wpTo, viewOf, viewFrom, viewFrom_slo, slo_some, slo_none, vE, vEs, vP, vT, vI, vTo, aft, noList, noLists, frz, frz1, tg_one, tg_tt, tg_tl, tgs_nil, tgs_cons, lenT, wipeD, parOk, setPar, noOwn]
    refine ⟨lz, ?_⟩
    rw [cw_le]
    have e : (⟨⟨l⟩⟩ : Str).length = l.length := rfl
    rw [e]
    cases l with
    | nil => simpa [nameB, nameL] using h
    | cons c r =>
      rw [if_pos (by simp; omega), cw_le]
      simp only [nameB, nameL] at h
      by_cases z : r.length < 8
      · rw [if_pos (by simp; omega)]
        refine ⟨lz, c, by simp [L2.atI, L2.ixN], c, rfl, ?_⟩
        by_cases y : c ∈ LET.cps.toList
        · have y' : c ∈ ("abcdefghijklmnopqrstuvwxyz" : Str).cps.toList := y
          simp only [y', decide_true, Bool.not_true, Bool.false_eq_true, if_false]
          simp [j_is_name_1, wpSs, wpS, wpE, wpEs, wpP, wpT, wpI, wpTo, viewOf, viewFrom, viewFrom_slo, slo_some, slo_none, vE, vEs, vP, vT, vI, vTo, aft, noList, noLists, frz, frz1, tg_one, tg_tt, tg_tl, tgs_nil, tgs_cons, lenT, wipeD, parOk, setPar, noOwn]
          have k0 : sgnD ⟨⟨c :: r⟩⟩ = (c :: r).map fun c => PyData.str ⟨#[c]⟩ := rfl
          refine ⟨by rw [k0, List.length_map]; simp; omega, ?_⟩
          rw [k0]
          refine in_loop SIG (c :: r) [] _ ?_
          rw [List.nil_append]
          refine ⟨_, bools_of_map (fun c => decide (c ∈ SIG.cps.toList)) (c :: r), ?_⟩
          have y2 : (decide (c ∈ LET.cps.toList)) = true := by simpa using y
          have z2 : decide (r.length < 8) = true := by simpa using z
          rw [z2, y2, Bool.true_and, Bool.true_and] at h
          rw [List.all_map]
          exact h
        · have y' : ¬ c ∈ ("abcdefghijklmnopqrstuvwxyz" : Str).cps.toList := y
          have y2 : (decide (c ∈ LET.cps.toList)) = false := by simpa using y
          rw [y2, Bool.false_and, Bool.and_false] at h
          simp only [y', decide_false, Bool.not_false, if_true]
          exact h
      · rw [if_neg (by simp; omega)]
        have z2 : decide (r.length < 8) = false := by simpa using z
        rw [z2, Bool.false_and] at h
        exact h
  all_goals
    simp [c_is_name, isiD, tw_bool, wpSs, wpS, wpE, wpEs, wpP, wpT, wpI, wpTo, viewOf, viewFrom, viewFrom_slo, slo_some, slo_none, vE, vEs, vP, vT, vI, vTo, aft, noList, noLists, frz, frz1, tg_one, tg_tt, tg_tl, tgs_nil, tgs_cons, lenT, wipeD, parOk, setPar, noOwn]
    exact h
theorem lis_name_spec (n : Nat) (x : D) (hx : ∀ s, x = .str s → s.length ≤ 100000) (Q : DP) (E : EPo) (h : Q (.bool (nameB x))) : phi T (n + 1) "_law_is_name" [x] Q E := by
  refine ⟨_, T__law_is_name, rfl, ?_⟩
  show wpSs _ _ c__law_is_name _ [.d x, .no]
  cases x
  case str s =>
    have lz := hx s rfl
    obtain ⟨⟨l⟩⟩ := s
    simp [c__law_is_name, isiD, tw_bool, biW, wpSs, wpS, wpE, wpEs, wpP, wpT, wpI, wpTo, viewOf, viewFrom, viewFrom_slo, slo_some, slo_none, vE, vEs, vP, vT, vI, vTo, aft, noList, noLists, frz, frz1, tg_one, tg_tt, tg_tl, tgs_nil, tgs_cons, lenT, wipeD, parOk, setPar, noOwn]
    refine ⟨lz, ?_⟩
    rw [cw_lt]
    have e : (⟨⟨l⟩⟩ : Str).length = l.length := rfl
    rw [e]
    cases l with
    | nil => simpa [nameB, nameL] using h
    | cons c r =>
      rw [if_pos (by simp <;> omega), cw_lt]
      simp only [nameB, nameL] at h
      by_cases z : r.length < 8
      · rw [if_pos (by simp; omega)]
        refine ⟨lz, c, by simp [L2.atI, L2.ixN], c, rfl, ?_⟩
        by_cases y : c ∈ LET.cps.toList
        · have y' : c ∈ ("abcdefghijklmnopqrstuvwxyz" : Str).cps.toList := y
          simp only [y', decide_true, Bool.not_true, Bool.false_eq_true, if_false]
          simp [j__law_is_name_1, wpSs, wpS, wpE, wpEs, wpP, wpT, wpI, wpTo, viewOf, viewFrom, viewFrom_slo, slo_some, slo_none, vE, vEs, vP, vT, vI, vTo, aft, noList, noLists, frz, frz1, tg_one, tg_tt, tg_tl, tgs_nil, tgs_cons, lenT, wipeD, parOk, setPar, noOwn]
          have k0 : sgnD ⟨⟨c :: r⟩⟩ = (c :: r).map fun c => PyData.str ⟨#[c]⟩ := rfl
          refine ⟨by rw [k0, List.length_map]; simp; omega, ?_⟩
          rw [k0]
          refine out_loop SIG (c :: r) [] _ ?_
          rw [List.nil_append, cw_eq, eqv_ll]
          refine ⟨eq_nilL, ?_⟩
          have y2 : (decide (c ∈ LET.cps.toList)) = true := by simpa using y
          have z2 : decide (r.length < 8) = true := by simpa using z
          rw [z2, y2, Bool.true_and, Bool.true_and] at h
          have ev : PyData.eqvAll (((c :: r).filter fun c => !decide (c ∈ SIG.cps.toList)).map fun c => PyData.str ⟨#[c]⟩) [] = (c :: r).all fun c => decide (c ∈ SIG.cps.toList) := by
            generalize (c :: r) = m
            induction m with
            | nil => rfl
            | cons a m ih =>
              rw [List.filter_cons, List.all_cons]
              cases decide (a ∈ SIG.cps.toList)
              · simp [eqvs_cn]
              · simpa using ih
          rw [ev]
          exact h
        · have y' : ¬ c ∈ ("abcdefghijklmnopqrstuvwxyz" : Str).cps.toList := y
          have y2 : (decide (c ∈ LET.cps.toList)) = false := by simpa using y
          rw [y2, Bool.false_and, Bool.and_false] at h
          simp only [y', decide_false, Bool.not_false, if_true]
          exact h
      · rw [if_neg (by simp; omega)]
        have z2 : decide (r.length < 8) = false := by simpa using z
        rw [z2, Bool.false_and] at h
        exact h
  all_goals
    simp [c__law_is_name, isiD, tw_bool, wpSs, wpS, wpE, wpEs, wpP, wpT, wpI, wpTo, viewOf, viewFrom, viewFrom_slo, slo_some, slo_none, vE, vEs, vP, vT, vI, vTo, aft, noList, noLists, frz, frz1, tg_one, tg_tt, tg_tl, tgs_nil, tgs_cons, lenT, wipeD, parOk, setPar, noOwn]
    exact h
/-- a row of at most so many: what len and the walks are asked of -/
def Tame (x : D) : Prop := (∀ xs, x = .tuple xs → xs.length ≤ 100000) ∧ ∀ s, x = .str s → s.length ≤ 100000
theorem Tame.of {p w : Nat} {x : D} (h : Gd p w x) (hw : w ≤ 100000) : Tame x := by
  refine ⟨fun xs e => ?_, fun s e => ?_⟩
  · subst e
    obtain ⟨q, v, _, e2, g⟩ := h.of_tuple
    have := g.len
    omega
  · subst e
    exact Nat.le_trans (gd_str h) hw
def segB : D → Bool
  | .tuple [s, a, b] => nameB s && (areI 2 a && (areI 2 b && !PyData.eqv a b))
  | _ => false
def Tames (x : D) : Prop := Tame x ∧ ∀ xs, x = .tuple xs → ∀ y ∈ xs, Tame y
theorem pair_of {x : D} (h : areI 2 x = true) : ∃ a : P2, x = tp a := by
  unfold areI at h
  split at h
  · rename_i xs
    rw [Bool.and_eq_true, decide_eq_true_eq] at h
    obtain ⟨h1, h2⟩ := h
    match xs, h1, h2 with
    | [u, v], _, h2 =>
      simp only [List.all_cons, List.all_nil, Bool.and_true, Bool.and_eq_true] at h2
      obtain ⟨g1, g2⟩ := h2
      cases u <;> first | (simp [isI] at g1; done) | skip
      cases v <;> first | (simp [isI] at g2; done) | skip
      exact ⟨(_, _), rfl⟩
    | [], h1, _ => simp at h1
    | [_], h1, _ => simp at h1
    | _ :: _ :: _ :: _, h1, _ => simp at h1; omega
  · cases h
theorem shp_tp (a : P2) : shp (tp a) = true := by simp [tp, t2, shp, PyData.plain, PyData.plainAll, PyData.depth, PyData.depthAll]
theorem eqv_tp {a b : P2} : PyData.eqv (tp a) (tp b) = decide (a = b) := by
  obtain ⟨a0, a1⟩ := a
  obtain ⟨b0, b1⟩ := b
  simp [tp, t2, eqv_tt, eqvs_cons, eqvs_nil, eqv_ii]
theorem is_segment_spec (n : Nat) (x : D) (hx : Tames x) (Q : DP) (E : EPo) (h : Q (.bool (segB x))) : phi T (n + 3) "is_segment" [x] Q E := by
  refine ⟨_, T_is_segment, rfl, ?_⟩
  show wpSs _ _ c_is_segment _ [.d x]
  cases x
  case tuple xs =>
    have h1 := hx.1.1 xs rfl
    have h2 := hx.2 xs rfl
    simp [c_is_segment, isiD, tw_bool, biW, wpSs, wpS, wpE, wpEs, wpP, wpT, wpI, wpTo, viewOf, viewFrom, viewFrom_slo, slo_some, slo_none, vE, vEs, vP, vT, vI, vTo, aft, noList, noLists, frz, frz1, tg_one, tg_tt, tg_tl, tgs_nil, tgs_cons, lenT, wipeD, parOk, setPar, noOwn]
    rw [cw_ne, eqv_ii]
    refine ⟨eq_ints, ?_⟩
    match xs, h1, h2 with
    | [s, a, b], h1, h2 =>
      simp only [List.length_cons, List.length_nil]
      simp [L2.atI, L2.ixN, cw_eq, cw_ne, cw_lt, cw_le, cw_gt, cw_ge, cw_isN, cw_notN, cw_isB, cw_notB, tw_none, tw_bool, tw_int, tw_list, tw_tuple, ix_list, ix_tuple, bw_add, bw_sub, bi_len_list, bi_len_tuple, bi_repr, isNone_none, isNone_tuple, isNone_int, isNone_str, isNone_bool, eq_ints, eq_strs, eq_nilT, eq_nilL, eqv_ii, eqv_bb, eqv_ss, eqv_nn, eqv_tt, eqv_ll, eqvs_nil, eqvs_cons, eqvs_nc, eqvs_cn]
      refine is_name_spec (n + 1) s (h2 s (by simp)).2 _ _ ?_
      rw [tw_bool]
      simp only [segB] at h
      cases nb : nameB s
      · rw [nb] at h
        simpa using h
      · rw [nb, Bool.true_and] at h
        simp only [Bool.not_true, Bool.false_eq_true, if_false]
        simp [j_is_segment_1, L2.atI, L2.ixN, ix_tuple, wpSs, wpS, wpE, wpEs, wpP, wpT, wpI, wpTo, viewOf, viewFrom, viewFrom_slo, slo_some, slo_none, vE, vEs, vP, vT, vI, vTo, aft, noList, noLists, frz, frz1, tg_one, tg_tt, tg_tl, tgs_nil, tgs_cons, lenT, wipeD, parOk, setPar, noOwn]
        refine are_spec n a 2 (h2 a (by simp)).1 _ _ ?_
        cases ea : areI 2 a
        · rw [ea, Bool.false_and] at h
          exact .inl ⟨rfl, h⟩
        · rw [ea, Bool.true_and] at h
          refine .inr ⟨rfl, ?_⟩
          refine are_spec n b 2 (h2 b (by simp)).1 _ _ ?_
          cases eb : areI 2 b
          · rw [eb, Bool.false_and] at h
            exact .inl ⟨rfl, h⟩
          · rw [eb, Bool.true_and] at h
            obtain ⟨u, rfl⟩ := pair_of ea
            obtain ⟨v, rfl⟩ := pair_of eb
            exact .inr ⟨rfl, .inl ⟨shp_tp u, shp_tp v⟩, h⟩
    | [], _, _ => simpa [segB] using h
    | [_], _, _ => simpa [segB] using h
    | [_, _], _, _ => simpa [segB] using h
    | a :: b :: c :: d :: r, _, _ =>
      have ne : ¬ (((a :: b :: c :: d :: r).length : Nat) : Int) = 3 := by simp; omega
      rw [if_pos (by simpa using ne)]
      simpa [segB] using h
  all_goals
    simp [c_is_segment, isiD, tw_bool, wpSs, wpS, wpE, wpEs, wpP, wpT, wpI, wpTo, viewOf, viewFrom, viewFrom_slo, slo_some, slo_none, vE, vEs, vP, vT, vI, vTo, aft, noList, noLists, frz, frz1, tg_one, tg_tt, tg_tl, tgs_nil, tgs_cons, lenT, wipeD, parOk, setPar, noOwn]
    exact h
theorem lis_segment_spec (n : Nat) (x : D) (hx : Tames x) (Q : DP) (E : EPo) (h : Q (.bool (segB x))) : phi T (n + 3) "_law_is_segment" [x] Q E := by
  refine ⟨_, T__law_is_segment, rfl, ?_⟩
  show wpSs _ _ c__law_is_segment _ [.d x]
  cases x
  case tuple xs =>
    have h1 := hx.1.1 xs rfl
    have h2 := hx.2 xs rfl
    simp [c__law_is_segment, isiD, tw_bool, biW, wpSs, wpS, wpE, wpEs, wpP, wpT, wpI, wpTo, viewOf, viewFrom, viewFrom_slo, slo_some, slo_none, vE, vEs, vP, vT, vI, vTo, aft, noList, noLists, frz, frz1, tg_one, tg_tt, tg_tl, tgs_nil, tgs_cons, lenT, wipeD, parOk, setPar, noOwn]
    rw [cw_ne, eqv_ii]
    refine ⟨eq_ints, ?_⟩
    match xs, h1, h2 with
    | [s, a, b], h1, h2 =>
      simp only [List.length_cons, List.length_nil]
      simp [L2.atI, L2.ixN, cw_eq, cw_ne, cw_lt, cw_le, cw_gt, cw_ge, cw_isN, cw_notN, cw_isB, cw_notB, tw_none, tw_bool, tw_int, tw_list, tw_tuple, ix_list, ix_tuple, bw_add, bw_sub, bi_len_list, bi_len_tuple, bi_repr, isNone_none, isNone_tuple, isNone_int, isNone_str, isNone_bool, eq_ints, eq_strs, eq_nilT, eq_nilL, eqv_ii, eqv_bb, eqv_ss, eqv_nn, eqv_tt, eqv_ll, eqvs_nil, eqvs_cons, eqvs_nc, eqvs_cn]
      refine lis_name_spec (n + 1) s (h2 s (by simp)).2 _ _ ?_
      rw [tw_bool]
      simp only [segB] at h
      cases nb : nameB s
      · rw [nb] at h
        simpa using h
      · rw [nb, Bool.true_and] at h
        simp only [Bool.not_true, Bool.false_eq_true, if_false]
        simp [j__law_is_segment_1, L2.atI, L2.ixN, ix_tuple, wpSs, wpS, wpE, wpEs, wpP, wpT, wpI, wpTo, viewOf, viewFrom, viewFrom_slo, slo_some, slo_none, vE, vEs, vP, vT, vI, vTo, aft, noList, noLists, frz, frz1, tg_one, tg_tt, tg_tl, tgs_nil, tgs_cons, lenT, wipeD, parOk, setPar, noOwn]
        refine lare_spec n a 2 (h2 a (by simp)).1 _ _ ?_
        cases ea : areI 2 a
        · rw [ea, Bool.false_and] at h
          exact .inl ⟨rfl, h⟩
        · rw [ea, Bool.true_and] at h
          refine .inr ⟨rfl, ?_⟩
          refine lare_spec n b 2 (h2 b (by simp)).1 _ _ ?_
          cases eb : areI 2 b
          · rw [eb, Bool.false_and] at h
            exact .inl ⟨rfl, h⟩
          · rw [eb, Bool.true_and] at h
            obtain ⟨u, rfl⟩ := pair_of ea
            obtain ⟨v, rfl⟩ := pair_of eb
            exact .inr ⟨rfl, .inl ⟨shp_tp u, shp_tp v⟩, h⟩
    | [], _, _ => simpa [segB] using h
    | [_], _, _ => simpa [segB] using h
    | [_, _], _, _ => simpa [segB] using h
    | a :: b :: c :: d :: r, _, _ =>
      have ne : ¬ (((a :: b :: c :: d :: r).length : Nat) : Int) = 3 := by simp; omega
      rw [if_pos (by simpa using ne)]
      simpa [segB] using h
  all_goals
    simp [c__law_is_segment, isiD, tw_bool, wpSs, wpS, wpE, wpEs, wpP, wpT, wpI, wpTo, viewOf, viewFrom, viewFrom_slo, slo_some, slo_none, vE, vEs, vP, vT, vI, vTo, aft, noList, noLists, frz, frz1, tg_one, tg_tt, tg_tl, tgs_nil, tgs_cons, lenT, wipeD, parOk, setPar, noOwn]
    exact h
abbrev Wl := Str × P2 × P2
def wD (w : Wl) : D := wl w.1 w.2.1 w.2.2
theorem seg_of {x : D} (h : segB x = true) : ∃ w : Wl, x = wD w ∧ nameB (.str w.1) = true ∧ w.2.1 ≠ w.2.2 := by
  unfold segB at h
  split at h
  · rename_i s a b
    simp only [Bool.and_eq_true, Bool.not_eq_true'] at h
    obtain ⟨h1, h2, h3, h4⟩ := h
    obtain ⟨u, rfl⟩ := pair_of h2
    obtain ⟨v, rfl⟩ := pair_of h3
    cases s <;> first | (simp [nameB] at h1; done) | skip
    rw [eqv_tp] at h4
    exact ⟨(_, u, v), rfl, h1, by simpa using h4⟩
  · cases h
def namesL (ws : List Wl) : List Str := ws.map (·.1)
/-- a row of different names -/
theorem nodup_len {α : Type} [DecidableEq α] {L xs : List α} (h : L.Nodup) (m : ∀ y, y ∈ L ↔ y ∈ xs) : L.length = xs.length ↔ xs.Nodup := by
  constructor
  · intro e
    refine Classical.byContradiction fun nd => ?_
    have short : ∀ xs : List α, ¬ xs.Nodup → ∃ ys : List α, ys.length < xs.length ∧ ∀ y ∈ xs, y ∈ ys := by
      intro xs
      induction xs with
      | nil => intro h; exact absurd List.nodup_nil h
      | cons x r ih =>
        intro h
        by_cases z : x ∈ r
        · exact ⟨r, by simp, fun y hy => (List.mem_cons.mp hy).elim (fun e => e ▸ z) id⟩
        · obtain ⟨ys, l, k⟩ := ih fun q => h (List.nodup_cons.mpr ⟨z, q⟩)
          exact ⟨x :: ys, by simpa using l, fun y hy => (List.mem_cons.mp hy).elim (fun e => e ▸ List.mem_cons_self ..) fun q => List.mem_cons_of_mem _ (k y q)⟩
    obtain ⟨ys, l, k⟩ := short xs nd
    have := St.few_of h fun y hy => k y ((m y).mp hy)
    omega
  · intro nd
    have h1 := St.few_of h fun y hy => (m y).mp hy
    have h2 := St.few_of nd fun y hy => (m y).mpr hy
    omega
def toW : D → Wl
  | .tuple [.str s, .tuple [.int a, .int b], .tuple [.int c, .int d]] => (s, (a, b), (c, d))
  | _ => (LET, (0, 0), (0, 0))
theorem toW_wD (w : Wl) : toW (wD w) = w := rfl
def segsOf : D → Option (List Wl)
  | .tuple xs => if xs.all segB = true then some (xs.map toW) else none
  | _ => none
def segsB (x : D) : Bool := match segsOf x with
  | some ws => decide (namesL ws).Nodup
  | none => false
theorem all_wD : ∀ {xs : List D}, xs.all segB = true → xs = (xs.map toW).map wD
  | [], _ => rfl
  | x :: r, h => by
    simp only [List.all_cons, Bool.and_eq_true] at h
    obtain ⟨w, rfl, _⟩ := seg_of h.1
    simp only [List.map_cons, toW_wD]
    rw [← all_wD h.2]
structure Row (x : D) : Prop where
  t : Tame x
  few : ∀ xs, x = .tuple xs → xs.all segB = true → xs.length < 1000
  its : ∀ xs, x = .tuple xs → ∀ y ∈ xs, Tames y
theorem seg_wt {x : D} (h : segB x = true) : 200 ≤ wt x := by
  obtain ⟨w, rfl, _⟩ := seg_of h
  simp [wD, wl, tp, t2, wt, wts]
  omega
theorem segs_wt : ∀ {xs : List D}, xs.all segB = true → 200 * xs.length ≤ wts xs
  | [], _ => by simp
  | x :: r, h => by
    simp only [List.all_cons, Bool.and_eq_true] at h
    have h1 := seg_wt h.1
    have h2 := segs_wt h.2
    simp only [List.length_cons, wts]
    omega
theorem Tames.of {p w : Nat} {x : D} (h : Gd p w x) (hw : w ≤ 100000) : Tames x := by
  refine ⟨Tame.of h hw, fun xs e y hy => ?_⟩
  subst e
  obtain ⟨q, v, _, e2, g⟩ := h.of_tuple
  exact Tame.of (g.mem hy) (by omega)
theorem Row.of {p w : Nat} {x : D} (h : Gd p w x) (hw : w ≤ 100000) : Row x := by
  refine ⟨Tame.of h hw, fun xs e al => ?_, fun xs e y hy => ?_⟩
  · subst e
    obtain ⟨q, v, _, e2, g⟩ := h.of_tuple
    have h1 := segs_wt al
    have h2 := g.wt
    omega
  · subst e
    obtain ⟨q, v, _, e2, g⟩ := h.of_tuple
    exact Tames.of (g.mem hy) (by omega)
theorem bools_of_mapD (f : D → Bool) : ∀ l : List D, boolsOf (l.map fun c => PyData.bool (f c)) = some (l.map f) := bools_map f
theorem lens_names (ws : List Wl) (hl : ws.length < 1000) (R : DP) (h : ∀ n : Nat, (n = ws.length ↔ (namesL ws).Nodup) → R (.int n)) : lensW ((namesL ws).map PyData.str) R := by
  refine ⟨.inl ⟨⟨_, rfl⟩, by simpa [namesL] using hl⟩, fun L nd hm => h _ ?_⟩
  haveI : DecidableEq D := fun _ _ => Classical.propDecidable _
  have e := nodup_len nd hm
  have l1 : ((namesL ws).map PyData.str).length = ws.length := by simp [namesL]
  rw [l1] at e
  rw [e]
  constructor
  · intro h; exact List.Pairwise.of_map PyData.str (fun _ _ hne e => hne (congrArg _ e)) h
  · intro h; exact h.map _ fun a b ne e => ne (by injection e)
theorem names_loop (Φ : Phi) (ws : List Wl) (Q : List D → Prop) (h : Q ((namesL ws).map PyData.str)) : ∀ acc : List D, (acc = [] ) → lcGo (fun x R => ixW x (.int 0) fun y => R (some y)) (ws.map wD) acc Q := by
  intro acc e
  subst e
  have g : ∀ (ws : List Wl) (acc : List D), Q (acc ++ (namesL ws).map PyData.str) → lcGo (fun x R => ixW x (.int 0) fun y => R (some y)) (ws.map wD) acc Q := by
    intro ws
    induction ws with
    | nil => intro acc h; simpa [lcGo, namesL] using h
    | cons w r ih =>
      intro acc h
      simp only [List.map_cons, lcGo]
      show ixW (wl w.1 w.2.1 w.2.2) (.int 0) _
      rw [ixw_0]
      exact ih _ (by simpa [namesL] using h)
  exact g ws [] (by simpa using h)
theorem names_end (ws : List Wl) (k : Nat) (hk : k = ws.length ↔ (namesL ws).Nodup) (Q : DP) (h : Q (.bool (decide (namesL ws).Nodup))) : biW .len [.tuple (ws.map wD)] fun y => cmpW .eq (.int k) y fun c => Q (.bool c) := by
  rw [bi_len_tuple, cw_eq, eqv_ii]
  refine ⟨eq_ints, ?_⟩
  have e : decide ((k : Int) = (((ws.map wD).length : Nat) : Int)) = decide (namesL ws).Nodup := by
    rw [List.length_map, decide_eq_decide, ← hk]
    omega
  rw [e]
  exact h
theorem are_segments_spec (n : Nat) (x : D) (hx : Row x) (Q : DP) (E : EPo) (h : Q (.bool (segsB x))) : phi T (n + 4) "are_segments" [x] Q E := by
  refine ⟨_, T_are_segments, rfl, ?_⟩
  show wpSs _ _ c_are_segments _ [.d x, .no]
  cases x
  case tuple xs =>
    have h1 := hx.t.1 xs rfl
    have h2 := hx.its xs rfl
    have h3' := hx.few xs rfl
    simp [c_are_segments, isiD, tw_bool, wpSs, wpS, wpE, wpEs, wpP, wpT, wpI, wpTo, viewOf, viewFrom, viewFrom_slo, slo_some, slo_none, vE, vEs, vP, vT, vI, vTo, aft, noList, noLists, frz, frz1, tg_one, tg_tt, tg_tl, tgs_nil, tgs_cons, lenT, wipeD, parOk, setPar, noOwn]
    refine ⟨h1, ?_⟩
    refine lc_map (f := fun x => .bool (segB x)) (fun y hy R hR => is_segment_spec n y (h2 y hy) _ _ hR) ?_
    rw [List.nil_append]
    refine ⟨_, bools_map segB xs, ?_⟩
    have ea : ((xs.map segB).all id) = xs.all segB := by rw [List.all_map]; rfl
    show truW (.bool ((xs.map segB).all id)) _
    rw [tw_bool, ea]
    cases e : xs.all segB
    · have so : segsB (.tuple xs) = false := by simp [segsB, segsOf, e]
      rw [so] at h
      rw [if_neg Bool.false_ne_true]
      exact h
    · have so : segsB (.tuple xs) = decide (namesL (xs.map toW)).Nodup := by simp only [segsB, segsOf, e, if_true]
      rw [so] at h
      rw [if_pos rfl]
      simp [j_are_segments_1, wpSs, wpS, wpE, wpEs, wpP, wpT, wpI, wpTo, viewOf, viewFrom, viewFrom_slo, slo_some, slo_none, vE, vEs, vP, vT, vI, vTo, aft, noList, noLists, frz, frz1, tg_one, tg_tt, tg_tl, tgs_nil, tgs_cons, lenT, wipeD, parOk, setPar, noOwn]
      refine ⟨h1, ?_⟩
      have h3 := h3' e
      clear h3'
      have ex := all_wD e
      generalize xs.map toW = ws at ex h
      subst ex
      refine names_loop (phi T (n + 3)) ws _ ?_ [] rfl
      refine lens_names ws (by simpa using h3) _ fun k hk => ?_
      exact names_end ws k hk Q h
  all_goals
    simp [c_are_segments, isiD, tw_bool, wpSs, wpS, wpE, wpEs, wpP, wpT, wpI, wpTo, viewOf, viewFrom, viewFrom_slo, slo_some, slo_none, vE, vEs, vP, vT, vI, vTo, aft, noList, noLists, frz, frz1, tg_one, tg_tt, tg_tl, tgs_nil, tgs_cons, lenT, wipeD, parOk, setPar, noOwn]
    exact h
theorem lare_segments_spec (n : Nat) (x : D) (hx : Row x) (Q : DP) (E : EPo) (h : Q (.bool (segsB x))) : phi T (n + 4) "_law_are_segments" [x] Q E := by
  refine ⟨_, T__law_are_segments, rfl, ?_⟩
  show wpSs _ _ c__law_are_segments _ [.d x, .no]
  cases x
  case tuple xs =>
    have h1 := hx.t.1 xs rfl
    have h2 := hx.its xs rfl
    have h3' := hx.few xs rfl
    simp [c__law_are_segments, isiD, tw_bool, wpSs, wpS, wpE, wpEs, wpP, wpT, wpI, wpTo, viewOf, viewFrom, viewFrom_slo, slo_some, slo_none, vE, vEs, vP, vT, vI, vTo, aft, noList, noLists, frz, frz1, tg_one, tg_tt, tg_tl, tgs_nil, tgs_cons, lenT, wipeD, parOk, setPar, noOwn]
    refine ⟨h1, ?_⟩
    refine lc_filter (p := fun x => !segB x) (f := id) (fun y hy R hR => lis_segment_spec n y (h2 y hy) _ _ ?_) ?_
    · rw [tw_bool]
      cases e : segB y <;> simpa [e] using hR
    rw [List.nil_append, List.map_id, cw_ne, eqv_ll]
    refine ⟨eq_nilL, ?_⟩
    have ea : PyData.eqvAll (xs.filter fun x => !segB x) [] = xs.all segB := by
      generalize xs = ys
      induction ys with
      | nil => rfl
      | cons y r ih =>
        rw [List.filter_cons, List.all_cons]
        cases segB y
        · simp [eqvs_cn]
        · simpa using ih
    rw [ea]
    cases e : xs.all segB
    · have so : segsB (.tuple xs) = false := by simp [segsB, segsOf, e]
      rw [so] at h
      simpa using h
    · have so : segsB (.tuple xs) = decide (namesL (xs.map toW)).Nodup := by simp only [segsB, segsOf, e, if_true]
      rw [so] at h
      simp only [Bool.not_true, Bool.false_eq_true, if_false]
      simp [j__law_are_segments_1, wpSs, wpS, wpE, wpEs, wpP, wpT, wpI, wpTo, viewOf, viewFrom, viewFrom_slo, slo_some, slo_none, vE, vEs, vP, vT, vI, vTo, aft, noList, noLists, frz, frz1, tg_one, tg_tt, tg_tl, tgs_nil, tgs_cons, lenT, wipeD, parOk, setPar, noOwn]
      refine ⟨h1, ?_⟩
      have h3 := h3' e
      clear h3'
      have ex := all_wD e
      generalize xs.map toW = ws at ex h
      subst ex
      refine names_loop (phi T (n + 3)) ws _ ?_ [] rfl
      refine lens_names ws (by simpa using h3) _ fun k hk => ?_
      exact names_end ws k hk Q h
  all_goals
    simp [c__law_are_segments, isiD, tw_bool, wpSs, wpS, wpE, wpEs, wpP, wpT, wpI, wpTo, viewOf, viewFrom, viewFrom_slo, slo_some, slo_none, vE, vEs, vP, vT, vI, vTo, aft, noList, noLists, frz, frz1, tg_one, tg_tt, tg_tl, tgs_nil, tgs_cons, lenT, wipeD, parOk, setPar, noOwn]
    exact h
end Law

end
section
set_option Elab.async false
set_option linter.all false
set_option maxRecDepth 100000
set_option exponentiation.threshold 9000
/-! Pv: first faults of rows of walls. -/
namespace Law
open PySem Ey
def crW (v w : Wl) : Bool := crossB v.2.1 v.2.2 w.2.1 w.2.2
def okW (w : Wl) : Prop := w.2.1 ≠ w.2.2 ∧ Bt2 400 w.2.1 ∧ Bt2 400 w.2.2
def meetT (i j : Nat) : D := .tuple [.str "meet", .int i, .int j]
def bf (f : Str) : CSs := .cons (.ite (.val (.call f (.cons (.var 2) (.cons (.ix (.var 0) (.var 3)) .nil)))) (.cons (.ret (.tup (.cons (.str "meet") (.cons (.var 1) (.cons (.var 3) .nil))))) .nil) .nil) .nil
def bo (f : Str) : CSs := .cons (.for (.one 3) (.rng2 (.bin .add (.var 1) (.int 1)) (.bi .len (.cons (.var 0) .nil))) (bf f)) .nil
def hits (ws : List Wl) (one : Wl) (j : Nat) : Bool := match ws[j]? with
  | some w => crW one w
  | none => false
def fltL (ws : List Wl) : Nat → List Wl → Option (Nat × Nat)
  | _, [] => none
  | k, w :: r => match ((List.range (ws.length - (k + 1))).map fun t => k + 1 + t).find? (hits ws w) with
    | some j => some (k, j)
    | none => fltL ws (k + 1) r
def fltD (ws : List Wl) : D := match fltL ws 0 ws with
  | some p => meetT p.1 p.2
  | none => .none
theorem rng_js (i n : Nat) : rngD ((i : Int) + 1) (((n : Int) - ((i : Int) + 1)).toNat) = ((List.range (n - (i + 1))).map fun t => i + 1 + t).map fun j : Nat => PyData.int (j : Int) := by
  have e : ((n : Int) - ((i : Int) + 1)).toNat = n - (i + 1) := by omega
  rw [e]
  simp [rngD]
section
variable {Φ : Phi} {E : EPo} {f : Str} (ws : List Wl) (hw : ∀ w ∈ ws, okW w) (call : ∀ v w R, okW v → okW w → R (.bool (crW v w)) → Φ f [wD v, wD w] R E)
include hw call
theorem inner_loop (De : En) (i : Nat) (one : Wl) (ho : okW one) : ∀ (js : List Nat) (z3 : Option D), (∀ j ∈ js, j < ws.length) →
    (∀ j, js.find? (hits ws one) = some j → De.rt (meetT i j)) → (js.find? (hits ws one) = none → ∀ z3, De.nx [.d (.tuple (ws.map wD)), .d (.int (i : Nat)), .d (wD one), slo z3]) →
    forGo (.one 3) (wpSs Φ E (bf f)) De (js.map fun j : Nat => PyData.int (j : Int)) [.d (.tuple (ws.map wD)), .d (.int (i : Nat)), .d (wD one), slo z3]
  | [], z3, _, _, h2 => by simpa [forGo] using h2 rfl z3
  | j :: js, z3, hj, h1, h2 => by
    have lj : j < ws.length := hj j (List.mem_cons_self ..)
    have hit : hits ws one j = crW one ws[j] := by simp [hits, lj]
    simp only [List.map_cons, forGo, tg_one, List.set_cons_succ, List.set_cons_zero]
    refine ss_ite ?_
    simp [List.length_map, wpSs, wpS, wpE, wpEs, wpP, wpT, wpI, wpTo, viewOf, viewFrom, viewFrom_slo, slo_some, slo_none, vE, vEs, vP, vT, vI, vTo, aft, noList, noLists, frz, frz1, tg_one, tg_tt, tg_tl, tgs_nil, tgs_cons, lenT, wipeD, parOk, setPar, noOwn]
    rw [ix_tuple]
    refine ⟨wD ws[j], by rw [atI_nat (by simpa using lj)]; simp [lj], ?_⟩
    refine call one ws[j] _ ho (hw _ (List.getElem_mem lj)) ?_
    rw [tw_bool, ← hit]
    cases e : hits ws one j
    · simp only [Bool.false_eq_true, if_false]
      have nx := inner_loop De i one ho js (some (.int j)) (fun k hk => hj k (List.mem_cons_of_mem _ hk)) (fun k hk => h1 k (by rw [List.find?_cons, e]; exact hk)) (fun hk => h2 (by rw [List.find?_cons, e]; exact hk))
      exact nx
    · simp only [if_true]
      have rt := h1 j (by rw [List.find?_cons, e])
      exact rt
theorem outer_loop (De : En) (hl : ws.length < 1000) : ∀ (r : List Wl) (k : Nat) (z1 z2 z3 : Option D), r = ws.drop k → (∀ i j, fltL ws k r = some (i, j) → De.rt (meetT i j)) → (fltL ws k r = none → ∀ z1 z2 z3, De.nx [.d (.tuple (ws.map wD)), slo z1, slo z2, slo z3]) →
    forGo (.tup (.cons (.one 1) (.cons (.one 2) .nil))) (wpSs Φ E (bo f)) De (enumD k (r.map wD)) [.d (.tuple (ws.map wD)), slo z1, slo z2, slo z3]
  | [], k, z1, z2, z3, _, _, h2 => by simpa [forGo, enumD] using h2 rfl z1 z2 z3
  | w :: r, k, z1, z2, z3, e, h1, h2 => by
    have lk : k < ws.length := by
      have := congrArg List.length e
      simp at this
      omega
    have wk : ws[k]? = some w := by
      have := congrArg (fun l => l[0]?) e
      simpa using this.symm
    have mw : w ∈ ws := List.mem_of_getElem? wk
    have er : r = ws.drop (k + 1) := by
      have := congrArg List.tail e
      simpa [List.tail_drop] using this
    simp only [List.map_cons, enumD, forGo, tg_tt, tgs_cons, tgs_nil, tg_one, List.set_cons_succ, List.set_cons_zero, List.length_cons, List.length_nil, lenT]
    refine ⟨trivial, ?_⟩
    refine ss_for ?_
    simp [List.length_map, biW, bw_add, wpSs, wpS, wpE, wpEs, wpP, wpT, wpI, wpTo, viewOf, viewFrom, viewFrom_slo, slo_some, slo_none, vE, vEs, vP, vT, vI, vTo, aft, noList, noLists, frz, frz1, tg_one, tg_tt, tg_tl, tgs_nil, tgs_cons, lenT, wipeD, parOk, setPar, noOwn]
    refine ⟨by omega, ?_⟩
    rw [rng_js]
    refine inner_loop ws hw call _ k w (hw w mw) _ z3 (fun j hj => ?_) (fun j hj => ?_) (fun hn z3 => ?_)
    · simp at hj
      omega
    · exact h1 k j (by simp only [fltL, hj])
    · have nx := outer_loop De hl r (k + 1) (some (.int (k : Nat))) (some (wD w)) z3 er (fun i j hij => h1 i j (by simp only [fltL, hn]; exact hij)) (fun hij => h2 (by simp only [fltL, hn]; exact hij))
      simp only [wpSs]
      exact nx
end
theorem fault_of_spec (n : Nat) (ws : List Wl) (hw : ∀ w ∈ ws, okW w) (hl : ws.length < 1000) (Q : DP) (E : EPo) (h : Q (fltD ws)) : phi T (n + 8) "fault_of" [.tuple (ws.map wD)] Q E := by
  refine ⟨_, T_fault_of, rfl, ?_⟩
  show wpSs _ _ c_fault_of _ [.d (.tuple (ws.map wD)), .no, .no, .no]
  have lp := fun De h1 h2 => outer_loop (Φ := phi T (n + 7)) (E := E) (f := "do_clash") ws hw (fun v w R hv hw hR => do_clash_spec n v.1 w.1 _ _ _ _ hv.1 hw.1 hv.2.1 hv.2.2 hw.2.1 hw.2.2 _ _ hR) De hl ws 0 none none none rfl h1 h2
  unfold fltD at h
  refine ss_for ?_
  simp [List.map_map, wpSs, wpS, wpE, wpEs, wpP, wpT, wpI, wpTo, viewOf, viewFrom, viewFrom_slo, slo_some, slo_none, vE, vEs, vP, vT, vI, vTo, aft, noList, noLists, frz, frz1, tg_one, tg_tt, tg_tl, tgs_nil, tgs_cons, lenT, wipeD, parOk, setPar, noOwn]
  refine lp _ (fun i j hij => ?_) fun hn z1 z2 z3 => ?_
  · rw [hij] at h
    exact h
  · rw [hn] at h
    simp [j_fault_of_1, wpSs, wpS, wpE, wpEs, wpP, wpT, wpI, wpTo, viewOf, viewFrom, viewFrom_slo, slo_some, slo_none, vE, vEs, vP, vT, vI, vTo, aft, noList, noLists, frz, frz1, tg_one, tg_tt, tg_tl, tgs_nil, tgs_cons, lenT, wipeD, parOk, setPar, noOwn]
    exact h
theorem lfault_spec (n : Nat) (ws : List Wl) (hw : ∀ w ∈ ws, okW w) (hl : ws.length < 1000) (Q : DP) (E : EPo) (h : Q (fltD ws)) : phi T (n + 4) "_law_fault" [.tuple (ws.map wD)] Q E := by
  refine ⟨_, T__law_fault, rfl, ?_⟩
  show wpSs _ _ c__law_fault _ [.d (.tuple (ws.map wD)), .no, .no, .no]
  have lp := fun De h1 h2 => outer_loop (Φ := phi T (n + 3)) (E := E) (f := "_law_is_crossed") ws hw (fun v w R hv hw hR => is_crossed_spec n v.1 w.1 _ _ _ _ hv.1 hw.1 hv.2.1 hv.2.2 hw.2.1 hw.2.2 _ _ hR) De hl ws 0 none none none rfl h1 h2
  unfold fltD at h
  refine ss_for ?_
  simp [List.map_map, wpSs, wpS, wpE, wpEs, wpP, wpT, wpI, wpTo, viewOf, viewFrom, viewFrom_slo, slo_some, slo_none, vE, vEs, vP, vT, vI, vTo, aft, noList, noLists, frz, frz1, tg_one, tg_tt, tg_tl, tgs_nil, tgs_cons, lenT, wipeD, parOk, setPar, noOwn]
  refine lp _ (fun i j hij => ?_) fun hn z1 z2 z3 => ?_
  · rw [hij] at h
    exact h
  · rw [hn] at h
    simp [j__law_fault_1, wpSs, wpS, wpE, wpEs, wpP, wpT, wpI, wpTo, viewOf, viewFrom, viewFrom_slo, slo_some, slo_none, vE, vEs, vP, vT, vI, vTo, aft, noList, noLists, frz, frz1, tg_one, tg_tt, tg_tl, tgs_nil, tgs_cons, lenT, wipeD, parOk, setPar, noOwn]
    exact h
end Law

end
section
set_option Elab.async false
set_option linter.all false
set_option maxRecDepth 100000
set_option exponentiation.threshold 9000
/-! Pw: is_plan and the law's own. -/
namespace Law
open PySem Ey
def planB (x : D) : Bool := match segsOf x with
  | some ws => decide (namesL ws).Nodup && isNone (fltD ws)
  | none => false
theorem seg_ok {w : Wl} (h : segB (wD w) = true) (hb : ibs 400 (wD w) = true) : okW w := by
  obtain ⟨s, ⟨a0, a1⟩, b0, b1⟩ := w
  have h' : segB (.tuple [.str s, tp (a0, a1), tp (b0, b1)]) = true := h
  simp only [segB, Bool.and_eq_true, Bool.not_eq_true', eqv_tp, decide_eq_false_iff_not] at h'
  have hb' : ibs 400 (.tuple [.str s, .tuple [.int a0, .int a1], .tuple [.int b0, .int b1]]) = true := hb
  rw [ib_tuple] at hb'
  have h1 := hb' (.tuple [.int a0, .int a1]) (by simp)
  have h2 := hb' (.tuple [.int b0, .int b1]) (by simp)
  rw [ib_tuple] at h1 h2
  exact ⟨h'.2.2.2, ⟨ib_int.mp (h1 _ (by simp)), ib_int.mp (h1 _ (by simp))⟩, ib_int.mp (h2 _ (by simp)), ib_int.mp (h2 _ (by simp))⟩
theorem segs_some {x : D} {ws : List Wl} (h : segsOf x = some ws) : x = .tuple (ws.map wD) ∧ (ws.map wD).all segB = true := by
  cases x <;> first | (simp [segsOf] at h; done) | skip
  rename_i xs
  simp only [segsOf] at h
  split at h
  · rename_i e
    cases h
    have := all_wD e
    rw [← this]
    exact ⟨rfl, e⟩
  · cases h
theorem walls_ok {x : D} {ws : List Wl} (h : segsOf x = some ws) (hb : ibs 400 x = true) : ∀ w ∈ ws, okW w := by
  obtain ⟨rfl, e⟩ := segs_some h
  rw [ib_tuple] at hb
  rw [List.all_eq_true] at e
  intro w hw
  exact seg_ok (e _ (List.mem_map_of_mem hw)) (hb _ (List.mem_map_of_mem hw))
theorem plan_and (Φ : Phi) (E : EPo) (x : D) (hx : Row x) (hb : ibs 400 x = true) (f g : Str) (Q : DP) (h : Q (.bool (planB x)))
    (c1 : ∀ R : DP, R (.bool (segsB x)) → Φ f [x] R E) (c2 : ∀ (ws : List Wl) (R : DP), (∀ w ∈ ws, okW w) → ws.length < 1000 → R (fltD ws) → Φ g [.tuple (ws.map wD)] R E) :
    wpE Φ (.and (.call f (.cons (.var 0) .nil)) (.cmp .isN (.call g (.cons (.var 0) .nil)) .non)) E [some x] Q := by
  simp [List.map_map, wpSs, wpS, wpE, wpEs, wpP, wpT, wpI, wpTo, viewOf, viewFrom, viewFrom_slo, slo_some, slo_none, vE, vEs, vP, vT, vI, vTo, aft, noList, noLists, frz, frz1, tg_one, tg_tt, tg_tl, tgs_nil, tgs_cons, lenT, wipeD, parOk, setPar, noOwn]
  refine c1 _ ?_
  unfold planB at h
  cases e : segsOf x with
  | none =>
    have s : segsB x = false := by simp [segsB, e]
    rw [e] at h
    rw [s]
    exact .inl ⟨rfl, h⟩
  | some ws =>
    have s : segsB x = decide (namesL ws).Nodup := by simp [segsB, e]
    rw [e] at h
    simp only at h
    rw [s]
    by_cases nd : (namesL ws).Nodup
    · have ok := walls_ok e hb
      obtain ⟨rfl, al⟩ := segs_some e
      have few := hx.few _ rfl al
      simp only [nd, decide_true, Bool.true_and] at h ⊢
      refine .inr ⟨trivial, ?_⟩
      refine c2 ws _ ok (by simpa using few) ?_
      rw [cw_isN]
      exact h
    · simp only [nd, decide_false, Bool.false_and] at h ⊢
      exact .inl ⟨trivial, h⟩
theorem is_plan_spec (n : Nat) (x : D) (hx : Row x) (hb : ibs 400 x = true) (Q : DP) (E : EPo) (h : Q (.bool (planB x))) : phi T (n + 10) "is_plan" [x] Q E := by
  refine ⟨_, T_is_plan, rfl, ?_⟩
  show wpSs _ _ c_is_plan _ [.d x]
  simp [c_is_plan, wpSs, wpS, wpE, wpEs, wpP, wpT, wpI, wpTo, viewOf, viewFrom, viewFrom_slo, slo_some, slo_none, vE, vEs, vP, vT, vI, vTo, aft, noList, noLists, frz, frz1, tg_one, tg_tt, tg_tl, tgs_nil, tgs_cons, lenT, wipeD, parOk, setPar, noOwn]
  refine ⟨_, T_is_plan_value, rfl, ?_⟩
  show wpSs _ _ c_is_plan_value _ [.d x]
  refine ss_ret ?_
  exact plan_and (phi T (n + 8)) E x hx hb "are_segments" "fault_of" Q h (fun R hR => are_segments_spec (n + 4) x hx _ _ hR) (fun ws R h1 h2 hR => fault_of_spec n ws h1 h2 _ _ hR)
theorem lis_plan_spec (n : Nat) (x : D) (hx : Row x) (hb : ibs 400 x = true) (Q : DP) (E : EPo) (h : Q (.bool (planB x))) : phi T (n + 5) "_law_is_plan" [x] Q E := by
  refine ⟨_, T__law_is_plan, rfl, ?_⟩
  show wpSs _ _ c__law_is_plan _ [.d x]
  refine ss_ret ?_
  exact plan_and (phi T (n + 4)) E x hx hb "_law_are_segments" "_law_fault" Q h (fun R hR => lare_segments_spec n x hx _ _ hR) (fun ws R h1 h2 hR => lfault_spec n ws h1 h2 _ _ hR)
end Law

end
section
set_option Elab.async false
set_option linter.all false
set_option maxRecDepth 100000
set_option exponentiation.threshold 9000
/-! Pc: two walls' crossing: both ways round, ends exchanged, the plane moved. -/
namespace Law
open PySem Ey
theorem prod_neg_iff {x y p q k : Int} (hk : k ≠ 0) (e : x = k * p) (f : y = k * q) : x * y < 0 ↔ p * q < 0 := by
  refine neg_iff (x := 1) (y := k * k) (by decide) (sq_pos hk) ?_
  rw [e, f]
  grind
/-- what is common of two stretches on a line -/
def ovB (ta tb tc td : Int) : Bool := decide (mx (mn ta tb) (mn tc td) < mn (mx ta tb) (mx tc td))
theorem ov_comm (ta tb tc td : Int) : ovB tc td ta tb = ovB ta tb tc td := by
  unfold ovB
  rw [decide_eq_decide]
  unfold mx mn
  repeat' split
  all_goals omega
theorem ov_swap (ta tb tc td : Int) : ovB tb ta tc td = ovB ta tb tc td := by
  unfold ovB
  rw [decide_eq_decide]
  unfold mx mn
  repeat' split
  all_goals omega
def sideW (a b c : P2) : Int := wth (crs (cn a) (cn b)) (cn c)
theorem cross_def (a b c d : P2) : crossB a b c d = if sideW a b c = 0 ∧ sideW a b d = 0 then ovB (atI a b a) (atI a b b) (atI a b c) (atI a b d) else decide (sideW a b c * sideW a b d < 0) && decide (sideW c d a * sideW c d b < 0) := by
  unfold crossB sideW ovB
  simp only [sgn_zero, sgn_prod]
theorem side_swap (a b c : P2) : sideW b a c = -sideW a b c := by
  simp only [sideW, cn, crs, wth, Int.mul_one]; grind
theorem cross_swap (a b c d : P2) : crossB b a c d = crossB a b c d := by
  rw [cross_def, cross_def]
  have e : atI b a = atI a b := by
    funext p
    unfold atI
    by_cases y : a.1 = b.1
    · rw [if_neg (by simp [y]), if_neg (by simp [y])]
    · rw [if_pos (Ne.symm y), if_pos y]
  have s1 := side_swap a b c
  have s2 := side_swap a b d
  rw [e, s1, s2, ov_swap]
  have h : (-sideW a b c = 0 ∧ -sideW a b d = 0) ↔ (sideW a b c = 0 ∧ sideW a b d = 0) := by omega
  by_cases z : sideW a b c = 0 ∧ sideW a b d = 0
  · rw [if_pos z, if_pos (h.mpr z)]
  · rw [if_neg z, if_neg (fun y => z (h.mp y))]
    have p1 : -sideW a b c * -sideW a b d = sideW a b c * sideW a b d := by grind
    rw [p1, Int.mul_comm (sideW c d b)]
theorem col_sym {a b c d : P2} (hab : a ≠ b) (h1 : sideW a b c = 0) (h2 : sideW a b d = 0) : sideW c d a = 0 ∧ sideW c d b = 0 :=
  ⟨col_wth hab (at_ab hab).1 h1 h2, col_wth hab (at_ab hab).2 h1 h2⟩
theorem at_same {a b c d : P2} (hab : a ≠ b) (hcd : c ≠ d) (h1 : sideW a b c = 0) (h2 : sideW a b d = 0) : atI c d = atI a b := by
  have e := OnL.two (a := a) (b := b) (p := d) (q := c) h2 h1
  have key : a.1 = b.1 ↔ c.1 = d.1 := by
    constructor
    · intro y
      have y2 : b.2 - a.2 ≠ 0 := fun w => hab (Prod.ext y (by omega))
      rw [show b.1 - a.1 = 0 by omega, Int.zero_mul] at e
      have := (Int.mul_eq_zero.mp e.symm).resolve_left y2
      omega
    · intro z
      have z2 : d.2 - c.2 ≠ 0 := fun w => hcd (Prod.ext z (by omega))
      rw [show d.1 - c.1 = 0 by omega, Int.mul_zero] at e
      have := (Int.mul_eq_zero.mp e).resolve_right z2
      omega
  funext p
  unfold atI
  by_cases y : a.1 = b.1
  · have z := key.mp y
    simp only [y, z, ne_eq, not_true, if_false]
  · have z : ¬ c.1 = d.1 := fun z => y (key.mpr z)
    simp only [y, z, ne_eq, not_false_eq_true, if_true]
theorem cross_comm {a b c d : P2} (hab : a ≠ b) (hcd : c ≠ d) : crossB c d a b = crossB a b c d := by
  rw [cross_def, cross_def]
  by_cases z : sideW a b c = 0 ∧ sideW a b d = 0
  · rw [if_pos z, if_pos (col_sym hab z.1 z.2), at_same hab hcd z.1 z.2, ov_comm]
  · rw [if_neg z, if_neg (fun y => z (col_sym hcd y.1 y.2)), Bool.and_comm]
theorem cross_swap2 {a b c d : P2} (hab : a ≠ b) (hcd : c ≠ d) : crossB a b d c = crossB a b c d := by
  rw [← cross_comm hab (Ne.symm hcd), cross_swap, cross_comm hab hcd]
/-! moved -/
def mvP (m : Mv) (p : P2) : P2 := (m.a * p.1 + m.b * p.2 + m.x, m.c * p.1 + m.d * p.2 + m.y)
theorem raw_cn (m : Mv) (p : P2) : m.raw (cn p) = cn (mvP m p) := by simp [Mv.raw, cn, mvP]
theorem side_mv (m : Mv) (a b c : P2) : sideW (mvP m a) (mvP m b) (mvP m c) = m.det * sideW a b c := by
  unfold sideW
  rw [← raw_cn, ← raw_cn, ← raw_cn, crs_raw, wth_cof]
theorem mvP_ne {m : Mv} (hd : m.det ≠ 0) {a b : P2} (h : a ≠ b) : mvP m a ≠ mvP m b := by
  intro e
  obtain ⟨a0, a1⟩ := a
  obtain ⟨b0, b1⟩ := b
  simp only [mvP, Prod.mk.injEq] at e
  obtain ⟨e1, e2⟩ := e
  have f1 : m.det * (a0 - b0) = 0 := by unfold Mv.det; grind
  have f2 : m.det * (a1 - b1) = 0 := by unfold Mv.det; grind
  have g1 := (Int.mul_eq_zero.mp f1).resolve_left hd
  have g2 := (Int.mul_eq_zero.mp f2).resolve_left hd
  exact h (Prod.ext (by simp only; omega) (by simp only; omega))
theorem at_mv {m : Mv} (hd : m.det ≠ 0) {a b p q : P2} (hab : a ≠ b) (hp : sideW a b p = 0) (hq : sideW a b q = 0) :
    (atI a b b - atI a b a) * (atI (mvP m a) (mvP m b) (mvP m q) - atI (mvP m a) (mvP m b) (mvP m p)) = (atI (mvP m a) (mvP m b) (mvP m b) - atI (mvP m a) (mvP m b) (mvP m a)) * (atI a b q - atI a b p) := by
  have e := OnL.two (a := a) (b := b) (p := q) (q := p) hq hp
  obtain ⟨a0, a1⟩ := a
  obtain ⟨b0, b1⟩ := b
  obtain ⟨p0, p1⟩ := p
  obtain ⟨q0, q1⟩ := q
  simp only at e
  unfold atI
  split <;> split <;> simp only [mvP] <;> grind
theorem at_ne {a b : P2} (h : a ≠ b) : atI a b b - atI a b a ≠ 0 := fun z => h ((at_eq h (at_ab h).1 (at_ab h).2).mpr (by omega))
theorem lt_scale {k k' x y x' y' : Int} (hk : k ≠ 0) (hk' : k' ≠ 0) (e : k * (y' - x') = k' * (y - x)) : (0 < k * k' → (x' < y' ↔ x < y)) ∧ (k * k' < 0 → (x' < y' ↔ y < x)) := by
  constructor
  · intro h
    have e2 : (k * k) * (x' - y') = (k * k') * (x - y) := by grind
    have := neg_iff (sq_pos hk) h e2
    omega
  · intro h
    have e2 : (k * k) * (x' - y') = (-(k * k')) * (y - x) := by grind
    have := neg_iff (sq_pos hk) (by omega) e2
    omega
theorem ov_iff (ta tb tc td : Int) : ovB ta tb tc td = true ↔ (ta < tc ∨ ta < td ∨ tb < tc ∨ tb < td) ∧ (tc < ta ∨ tc < tb ∨ td < ta ∨ td < tb) ∧ (ta < tb ∨ tb < ta) ∧ (tc < td ∨ td < tc) := by
  unfold ovB
  rw [decide_eq_true_eq]
  unfold mx mn
  repeat' split
  all_goals omega
theorem cross_mv {m : Mv} (hd : m.det ≠ 0) {a b c d : P2} (hab : a ≠ b) : crossB (mvP m a) (mvP m b) (mvP m c) (mvP m d) = crossB a b c d := by
  rw [cross_def, cross_def, side_mv, side_mv, side_mv, side_mv]
  have z0 : ∀ x : Int, m.det * x = 0 ↔ x = 0 := fun x => ⟨fun h => (Int.mul_eq_zero.mp h).resolve_left hd, fun h => by rw [h, Int.mul_zero]⟩
  have zz : (m.det * sideW a b c = 0 ∧ m.det * sideW a b d = 0) ↔ (sideW a b c = 0 ∧ sideW a b d = 0) := and_congr (z0 _) (z0 _)
  by_cases z : sideW a b c = 0 ∧ sideW a b d = 0
  · rw [if_pos z, if_pos (zz.mpr z)]
    have oa : sideW a b a = 0 := (at_ab hab).1
    have ob : sideW a b b = 0 := (at_ab hab).2
    have k1 := at_ne hab
    have k2 := at_ne (mvP_ne hd hab)
    have nz := Int.mul_ne_zero k1 k2
    have ls := fun {p q : P2} (hp : sideW a b p = 0) (hq : sideW a b q = 0) => lt_scale k1 k2 (at_mv hd hab hp hq)
    rw [Bool.eq_iff_iff, ov_iff, ov_iff]
    rcases Int.lt_or_gt_of_ne nz with h | h
    · rw [(ls oa z.1).2 h, (ls oa z.2).2 h, (ls ob z.1).2 h, (ls ob z.2).2 h, (ls z.1 oa).2 h, (ls z.1 ob).2 h, (ls z.2 oa).2 h, (ls z.2 ob).2 h, (ls oa ob).2 h, (ls ob oa).2 h, (ls z.1 z.2).2 h, (ls z.2 z.1).2 h]
      omega
    · rw [(ls oa z.1).1 h, (ls oa z.2).1 h, (ls ob z.1).1 h, (ls ob z.2).1 h, (ls z.1 oa).1 h, (ls z.1 ob).1 h, (ls z.2 oa).1 h, (ls z.2 ob).1 h, (ls oa ob).1 h, (ls ob oa).1 h, (ls z.1 z.2).1 h, (ls z.2 z.1).1 h]
  · rw [if_neg z, if_neg (fun y => z (zz.mp y)), decide_eq_decide.mpr (prod_neg_iff hd rfl rfl), decide_eq_decide.mpr (prod_neg_iff hd rfl rfl)]
end Law

end
section
set_option Elab.async false
set_option linter.all false
set_option maxRecDepth 100000
set_option exponentiation.threshold 9000
/-! Px: drawn plans. -/
namespace Law
open PySem Ey
theorem pickT_spec (n : Nat) (xs : List D) (hx : xs ≠ []) (hl : xs.length < 2 ^ 64) (Q : DP) (E : EPo) (h : ∀ x ∈ xs, Q x) : phi T (n + 2) "_law_pick" [deckD, .tuple xs] Q E := by
  refine ⟨_, T__law_pick, rfl, ?_⟩
  show wpSs _ _ c__law_pick _ [.d deckD, .d (.tuple xs)]
  have hp : 0 < xs.length := List.length_pos_iff.mpr hx
  simp [c__law_pick, biW, wpSs, wpS, wpE, wpEs, wpP, wpT, wpI, wpTo, viewOf, viewFrom, viewFrom_slo, slo_some, slo_none, vE, vEs, vP, vT, vI, vTo, aft, noList, noLists, frz, frz1, tg_one, tg_tt, tg_tl, tgs_nil, tgs_cons, lenT, wipeD, parOk, setPar, noOwn]
  refine draw_spec n _ (by omega) (by omega) _ _ fun i i0 i1 => ?_
  rw [ix_tuple]
  have il : i.toNat < xs.length := by omega
  refine ⟨xs[i.toNat], ?_, h _ (List.getElem_mem il)⟩
  have e : i = ((i.toNat : Nat) : Int) := by omega
  have e2 : L2.atI xs i = xs[i.toNat]? := (congrArg (L2.atI xs) e).trans (atI_nat il)
  rw [e2]
  simp [il]
def nmL : List D := [.str "a", .str "b", .str "c1", .str "wall", .str "z", .str "door2", .str "longname", .str "m", .str "k9", .str "x"]
theorem names_step (n : Nat) (E : EPo) (d1 : D) (De : En) (left found : List D) (z4 : Option D) (pos : 0 < left.length) (l10 : left.length ≤ 10) (fl : found.length < 1000)
    (h : ∀ m z, left[m]? = some z → De.nx [.d deckD, .d d1, .own (left.eraseIdx m), .own (found ++ [z]), slo z4]) : wpSs (phi T (n + 1)) E b__law_names_1 De [.d deckD, .d d1, .own left, .own found, slo z4] := by
  simp [b__law_names_1, wpSs, wpS, wpE, wpEs, wpP, wpT, wpI, wpTo, viewOf, viewFrom, viewFrom_slo, slo_some, slo_none, vE, vEs, vP, vT, vI, vTo, aft, noList, noLists, frz, frz1, tg_one, tg_tt, tg_tl, tgs_nil, tgs_cons, lenT, wipeD, parOk, setPar, noOwn]
  refine ⟨by omega, ?_⟩
  rw [bi_len_list]
  refine draw_spec n _ (by omega) (by omega) _ _ fun i i0 i1 => ?_
  have il : i.toNat < left.length := by omega
  refine ⟨i.toNat, by rw [show i = ((i.toNat : Nat) : Int) by omega]; simp, by omega, left[i.toNat], by simp [il], ?_⟩
  exact h _ _ (by simp [il])
theorem erase_perm : ∀ (l : List D) (m : Nat) (h : m < l.length), (l[m] :: l.eraseIdx m).Perm l
  | x :: r, 0, _ => .refl _
  | x :: r, m + 1, h => by
    have hm : m < r.length := by simpa using h
    have ih := erase_perm r m hm
    simp only [List.getElem_cons_succ, List.eraseIdx_cons_succ]
    exact (List.Perm.swap x (r[m]'hm) _).trans (ih.cons x)
theorem names_go (n : Nat) (E : EPo) (d1 : D) (De : En) : ∀ (items left found : List D) (z4 : Option D), (∀ x ∈ left, x ∈ nmL) → (∀ x ∈ found, x ∈ nmL) → (found ++ left).Nodup → items.length ≤ left.length → left.length ≤ 10 → found.length + items.length ≤ 1000 →
    (∀ left found z4, (∀ x ∈ found, x ∈ nmL) → found.Nodup → found.length ≤ 1000 → De.nx [.d deckD, .d d1, .own left, .own found, slo z4]) → forGo (.one 4) (wpSs (phi T (n + 1)) E b__law_names_1) De items [.d deckD, .d d1, .own left, .own found, slo z4]
  | [], left, found, z4, _, hf, nd, _, _, hn, h => by simpa [forGo] using h left found z4 hf (List.nodup_append.mp nd).1 (by simpa using hn)
  | x :: r, left, found, z4, hl, hf, nd, hi, h10, hn, h => by
    simp only [forGo, tg_one, List.set_cons_succ, List.set_cons_zero]
    simp only [List.length_cons] at hi hn
    refine names_step n E d1 _ left found (some x) (by omega) h10 (by omega) fun m z hz => ?_
    have lm : m < left.length := (List.getElem?_eq_some_iff.mp hz).1
    have ez : left[m] = z := (List.getElem?_eq_some_iff.mp hz).2
    have pm : ((found ++ [z]) ++ left.eraseIdx m).Perm (found ++ left) := by
      rw [List.append_assoc, ← ez]
      exact (erase_perm left m lm).append_left found
    exact names_go n E d1 De r (left.eraseIdx m) (found ++ [z]) (some x) (fun y hy => hl y (List.mem_of_mem_eraseIdx hy)) (fun y hy => (List.mem_append.mp hy).elim (hf y) fun q => by rw [List.mem_singleton.mp q]; exact hl z (List.mem_of_getElem? hz))
      (pm.nodup_iff.mpr nd) (by rw [List.length_eraseIdx_of_lt lm]; omega) (by rw [List.length_eraseIdx_of_lt lm]; omega) (by simp; omega) h
theorem nm_nodup : nmL.Nodup := by
  have e : (nmL.map fun x => match x with | .str s => s | _ => "").Nodup := by decide +kernel
  exact List.Pairwise.of_map _ (fun a b h e => h (by rw [e])) e
theorem names_spec (n : Nat) (many : Nat) (hm : many ≤ 10) (Q : DP) (E : EPo) (h : ∀ xs : List D, (∀ x ∈ xs, x ∈ nmL) → xs.Nodup → xs.length ≤ 1000 → Q (.list xs)) : phi T (n + 2) "_law_names" [deckD, .int many] Q E := by
  refine ⟨_, T__law_names, rfl, ?_⟩
  show wpSs _ _ c__law_names _ [.d deckD, .d (.int many), .no, .no, .no]
  have lp := fun De h => names_go n E (.int many) De (rngD 0 many) nmL [] none (fun _ h => h) (fun _ h => nomatch h) (by simpa using nm_nodup) (by simp [rngD, nmL]; omega) (by decide) (by simp [rngD]; omega) h
  simp [c__law_names, wpSs, wpS, wpE, wpEs, wpP, wpT, wpI, wpTo, viewOf, viewFrom, viewFrom_slo, slo_some, slo_none, vE, vEs, vP, vT, vI, vTo, aft, noList, noLists, frz, frz1, tg_one, tg_tt, tg_tl, tgs_nil, tgs_cons, lenT, wipeD, parOk, setPar, noOwn]
  refine ⟨by omega, ?_⟩
  refine lp _ fun left found z4 hf nd hl => ?_
  simp [j__law_names_1, wpSs, wpS, wpE, wpEs, wpP, wpT, wpI, wpTo, viewOf, viewFrom, viewFrom_slo, slo_some, slo_none, vE, vEs, vP, vT, vI, vTo, aft, noList, noLists, frz, frz1, tg_one, tg_tt, tg_tl, tgs_nil, tgs_cons, lenT, wipeD, parOk, setPar, noOwn]
  exact h found hf nd hl
/-- a layout: pairs of different points with coordinates up to 12 -/
def ptB : D → Bool
  | .tuple [.int a, .int b] => decide (a.natAbs ≤ 12) && decide (b.natAbs ≤ 12)
  | _ => false
def prB : D → Bool
  | .tuple [p, q] => ptB p && (ptB q && !PyData.eqv p q)
  | _ => false
def prD (p : P2 × P2) : D := .tuple [tp p.1, tp p.2]
def toP : D → P2 × P2
  | .tuple [.tuple [.int a, .int b], .tuple [.int c, .int d]] => ((a, b), (c, d))
  | _ => ((0, 0), (0, 0))
theorem toP_prD (p : P2 × P2) : toP (prD p) = p := rfl
/-- two pairs that do not cross -/
def noX (p q : P2 × P2) : Prop := crossB p.1 p.2 q.1 q.2 = false
def pwB : List (P2 × P2) → Bool
  | [] => true
  | p :: r => (r.all fun q => !crossB p.1 p.2 q.1 q.2) && pwB r
theorem pw_of : ∀ {L : List (P2 × P2)}, pwB L = true → L.Pairwise noX
  | [], _ => .nil
  | p :: r, h => by
    simp only [pwB, Bool.and_eq_true, List.all_eq_true, Bool.not_eq_true'] at h
    exact .cons (fun q hq => h.1 q hq) (pw_of h.2)
def layB : D → Bool
  | .tuple xs => xs.all prB && (decide (xs.length ≤ 6) && pwB (xs.map toP))
  | _ => false
theorem layouts_spec (n : Nat) (Q : DP) (E : EPo) (h : ∀ xs : List D, xs.all layB = true → xs ≠ [] → xs.length ≤ 10 → Q (.list xs)) : phi T (n + 1) "_law_layouts" [] Q E := by
  refine ⟨_, T__law_layouts, rfl, ?_⟩
  show wpSs _ _ c__law_layouts _ [.no]
  simp [c__law_layouts, wpApp, wpSs, wpS, wpE, wpEs, wpP, wpT, wpI, wpTo, viewOf, viewFrom, viewFrom_slo, slo_some, slo_none, vE, vEs, vP, vT, vI, vTo, aft, noList, noLists, frz, frz1, tg_one, tg_tt, tg_tl, tgs_nil, tgs_cons, lenT, wipeD, parOk, setPar, noOwn]
  exact h _ (by decide +kernel) (by simp) (by simp)
/-- a pair of different points that are near -/
def PairD (x : D) : Prop := ∃ a b : P2, x = .tuple [tp a, tp b] ∧ a ≠ b ∧ Bt2 7 a ∧ Bt2 7 b
theorem pt_of {x : D} (h : ptB x = true) : ∃ a : P2, x = tp a ∧ a.1.natAbs ≤ 12 ∧ a.2.natAbs ≤ 12 := by
  unfold ptB at h
  split at h
  · rename_i a b
    rw [Bool.and_eq_true, decide_eq_true_eq, decide_eq_true_eq] at h
    exact ⟨(a, b), rfl, h.1, h.2⟩
  · cases h
theorem pr_of {x : D} (h : prB x = true) : ∃ a b : P2, x = .tuple [tp a, tp b] ∧ a ≠ b ∧ (a.1.natAbs ≤ 12 ∧ a.2.natAbs ≤ 12) ∧ b.1.natAbs ≤ 12 ∧ b.2.natAbs ≤ 12 := by
  unfold prB at h
  split at h
  · rename_i p q
    simp only [Bool.and_eq_true, Bool.not_eq_true'] at h
    obtain ⟨h1, h2, h3⟩ := h
    obtain ⟨a, rfl, a1⟩ := pt_of h1
    obtain ⟨b, rfl, b1⟩ := pt_of h2
    rw [eqv_tp] at h3
    exact ⟨a, b, rfl, by simpa using h3, a1, b1⟩
  · cases h
theorem lay_of {x : D} (h : layB x = true) : ∃ L : List (P2 × P2), x = .tuple (L.map prD) ∧ (∀ p ∈ L, p.1 ≠ p.2 ∧ (p.1.1.natAbs ≤ 12 ∧ p.1.2.natAbs ≤ 12) ∧ p.2.1.natAbs ≤ 12 ∧ p.2.2.natAbs ≤ 12) ∧ L.Pairwise noX ∧ L.length ≤ 6 := by
  unfold layB at h
  split at h
  · rename_i xs
    simp only [Bool.and_eq_true, decide_eq_true_eq, List.all_eq_true] at h
    obtain ⟨h1, h2, h3⟩ := h
    refine ⟨xs.map toP, ?_, fun p hp => ?_, pw_of h3, by simpa using h2⟩
    · rw [List.map_map]
      congr 1
      symm
      refine (List.map_congr_left fun x hx => ?_).trans (List.map_id xs)
      obtain ⟨a, b, rfl, _⟩ := pr_of (h1 x hx)
      rfl
    · obtain ⟨x, hx, rfl⟩ := List.mem_map.mp hp
      obtain ⟨a, b, rfl, ne, ha, hb⟩ := pr_of (h1 x hx)
      exact ⟨ne, ha, hb⟩
  · cases h
/-- a moved point of a layout is near -/
theorem moved_near {a : P2} {many sc x y : Int} {mir : Bool} (ha : a.1.natAbs ≤ 12 ∧ a.2.natAbs ≤ 12) (s0 : 0 < sc) (s9 : sc ≤ 3) (hx : x.natAbs ≤ 10) (hy : y.natAbs ≤ 10) :
    Bt2 7 ((mvOf many mir sc x y).a * a.1 + (mvOf many mir sc x y).b * a.2 + x, (mvOf many mir sc x y).c * a.1 + (mvOf many mir sc x y).d * a.2 + y) := by
  have hs : sc = 1 ∨ sc = 2 ∨ sc = 3 := by omega
  obtain ⟨a0, a1⟩ := a
  simp only at ha
  unfold Bt2 Bt mvOf turnM
  rcases hs with rfl | rfl | rfl <;> cases mir <;> simp only [Bool.false_eq_true, if_true, if_false] <;> (split; · simp; omega) <;> (split; · simp; omega) <;> (split; · simp; omega) <;> simp <;> omega
end Law

end
section
set_option Elab.async false
set_option linter.all false
set_option maxRecDepth 100000
set_option exponentiation.threshold 9000
/-! Py: freely drawn pairs. -/
namespace Law
open PySem Ey
def okP (p : P2 × P2) : Prop := p.1 ≠ p.2 ∧ Bt2 7 p.1 ∧ Bt2 7 p.2
theorem noL_tp (a : P2) : noList (tp a) = true := by simp [tp, t2, noList, noLists]
theorem noL_pr (p : P2 × P2) : noList (prD p) = true := by simp [prD, noList, noLists, noL_tp]
theorem noX_comm {p q : P2 × P2} (h : p.1 ≠ p.2) (g : q.1 ≠ q.2) (x : noX p q) : noX q p := by
  unfold noX at x ⊢
  rw [cross_comm h g, x]
theorem noX_snoc {found : List (P2 × P2)} {r : P2 × P2} (pw : found.Pairwise noX) (hf : ∀ p ∈ found, p.1 ≠ p.2) (hr : r.1 ≠ r.2) (nx : ∀ p ∈ found, noX r p) : (found ++ [r]).Pairwise noX := by
  rw [List.pairwise_append]
  exact ⟨pw, List.pairwise_singleton .., fun a ha b hb => by rw [List.mem_singleton.mp hb]; exact noX_comm hr (hf a ha) (nx a ha)⟩
def crP (p q : P2) : D → Bool
  | .tuple [.tuple [.int a, .int b], .tuple [.int c, .int d]] => crossB p q (a, b) (c, d)
  | _ => false
theorem free_end (n : Nat) (E : EPo) (De : En) (many most : D) (mi : Int) (hm : many = .int mi) (found : List (P2 × P2)) (hf : ∀ p ∈ found, okP p) (fl : found.length < 1000) (p q : P2) (bp : Bt2 7 p) (bq : Bt2 7 q) (z4 z7 : Option D)
    (h1 : De.nx [.d deckD, .d many, .d most, .own (found.map prD), slo z4, .d (tp p), .d (tp q), slo z7]) (h2 : p ≠ q → (found.length : Int) < mi → (∀ r ∈ found, noX (p, q) r) → De.nx [.d deckD, .d many, .d most, .own ((found ++ [(p, q)]).map prD), slo z4, .d (tp p), .d (tp q), slo z7]) :
    wpSs (phi T (n + 4)) E j__law_free_1 De [.d deckD, .d many, .d most, .own (found.map prD), slo z4, .d (tp p), .d (tp q), slo z7] := by
  subst hm
  simp [j__law_free_1, noL_tp, wpSs, wpS, wpE, wpEs, wpP, wpT, wpI, wpTo, viewOf, viewFrom, viewFrom_slo, slo_some, slo_none, vE, vEs, vP, vT, vI, vTo, aft, noList, noLists, frz, frz1, tg_one, tg_tt, tg_tl, tgs_nil, tgs_cons, lenT, wipeD, parOk, setPar, noOwn]
  rw [cw_ne, eqv_tp]
  refine ⟨.inl ⟨shp_tp p, shp_tp q⟩, ?_⟩
  by_cases e : p = q
  · simp only [e, decide_true, Bool.not_true, Bool.false_eq_true, if_false]
    rw [e] at h1
    exact h1
  · simp only [e, decide_false, Bool.not_false, if_true]
    rw [bi_len_list, cw_lt, List.length_map]
    by_cases lm : ((found.length : Nat) : Int) < mi
    · rw [if_pos (by simpa using lm)]
      refine ⟨by omega, ?_⟩
      refine lc_filter (p := crP p q) (f := id) (fun x hx R hR => ?_) ?_
      · obtain ⟨r, hr, rfl⟩ := List.mem_map.mp hx
        obtain ⟨o1, o2, o3⟩ := hf r hr
        refine ⟨by simp, ?_⟩
        refine is_crossed_spec (n + 1) "" "" p q r.1 r.2 e o1 (bp.mono (by decide)) (bq.mono (by decide)) (o2.mono (by decide)) (o3.mono (by decide)) _ _ ?_
        rw [tw_bool]
        have hR' : R (if crossB p q r.1 r.2 = true then some (prD r) else none) := hR
        cases ec : crossB p q r.1 r.2 <;> simpa [ec] using hR'
      · rw [List.map_id, List.nil_append, cw_eq, eqv_ll]
        refine ⟨eq_nilL, ?_⟩
        split
        · rename_i ef
          have nx : ∀ r ∈ found, noX (p, q) r := fun r hr => by
            refine eq_false_of_ne_true fun ec => ?_
            have mem : prD r ∈ List.filter (crP p q) (found.map prD) := List.mem_filter.mpr ⟨List.mem_map_of_mem hr, ec⟩
            revert ef mem
            generalize List.filter _ _ = l
            cases l with
            | nil => intro _ m; exact nomatch m
            | cons _ _ => intro ef _; rw [eqvs_cn] at ef; cases ef
          have := h2 e lm nx
          rw [List.map_append] at this
          simp [wpApp, noL_tp, wpSs, wpS, wpE, wpEs, wpP, wpT, wpI, wpTo, viewOf, viewFrom, viewFrom_slo, slo_some, slo_none, vE, vEs, vP, vT, vI, vTo, aft, noList, noLists, frz, frz1, tg_one, tg_tt, tg_tl, tgs_nil, tgs_cons, lenT, wipeD, parOk, setPar, noOwn]
          exact ⟨by omega, this⟩
        · exact h1
    · rw [if_neg (by simpa using lm)]
      exact h1
theorem free_step (n : Nat) (E : EPo) (De : En) (mi m : Int) (m0 : 0 < m) (m6 : m ≤ 60) (found : List (P2 × P2)) (hf : ∀ p ∈ found, okP p) (pw : found.Pairwise noX) (fl : found.length < 1000) (hB : (found.length : Int) ≤ mi) (z4 z5 z6 z7 : Option D)
    (h : ∀ (f' : List (P2 × P2)) z5 z6 z7, (∀ p ∈ f', okP p) → f'.Pairwise noX → (f'.length : Int) ≤ mi → De.nx [.d deckD, .d (.int mi), .d (.int m), .own (f'.map prD), slo z4, slo z5, slo z6, slo z7]) :
    wpSs (phi T (n + 4)) E b__law_free_1 De [.d deckD, .d (.int mi), .d (.int m), .own (found.map prD), slo z4, slo z5, slo z6, slo z7] := by
  have pt : ∀ i j : Int, 0 ≤ i → i < 2 * m + 1 → 0 ≤ j → j < 2 * m + 1 → Bt2 7 (i - m, j - m) := fun i j _ _ _ _ => by unfold Bt2 Bt; simp only; omega
  have fin : ∀ p q : P2, Bt2 7 p → Bt2 7 q → wpSs (phi T (n + 4)) E j__law_free_1 De [.d deckD, .d (.int mi), .d (.int m), .own (found.map prD), slo z4, .d (tp p), .d (tp q), slo z7] := fun p q bp bq =>
    free_end n E De (.int mi) (.int m) mi rfl found hf fl p q bp bq z4 z7 (h found (some (tp p)) (some (tp q)) z7 hf pw hB)
      fun ne lm nx => h (found ++ [(p, q)]) (some (tp p)) (some (tp q)) z7 (fun r hr => (List.mem_append.mp hr).elim (hf r) fun e => by rw [List.mem_singleton.mp e]; exact ⟨ne, bp, bq⟩) (noX_snoc pw (fun r hr => (hf r hr).1) ne nx) (by simp; omega)
  have cm : L2.CMul 2 m ∨ L2.CMulW 2 m := .inl (.inl ⟨by decide, by decide⟩)
  have dr : ∀ R : DP, (∀ i, 0 ≤ i → i < 2 * m + 1 → R (.int i)) → phi T (n + 4) "_law_draw" [deckD, .int (2 * m + 1)] R E := fun R hR => upL (n := 1) (by omega) (draw_spec 0 _ (by omega) (by omega) _ _ hR)
  simp [b__law_free_1, bw_mul, bw_add, cm, wpSs, wpS, wpE, wpEs, wpP, wpT, wpI, wpTo, viewOf, viewFrom, viewFrom_slo, slo_some, slo_none, vE, vEs, vP, vT, vI, vTo, aft, noList, noLists, frz, frz1, tg_one, tg_tt, tg_tl, tgs_nil, tgs_cons, lenT, wipeD, parOk, setPar, noOwn]
  refine dr _ fun i1 a1 b1 => ?_
  rw [bw_sub]
  refine dr _ fun i2 a2 b2 => ?_
  rw [bw_sub]
  refine dr _ fun i3 a3 b3 => ?_
  rw [bw_sub]
  refine dr _ fun i4 a4 b4 => ?_
  rw [bw_sub]
  have p1 := pt i1 i2 a1 b1 a2 b2
  have p2 := pt i3 i4 a3 b3 a4 b4
  have f0 := fin _ _ p1 p2
  rw [cw_ne, eqv_ll]
  refine ⟨eq_nilL, ?_⟩
  by_cases e : found = []
  · have ev : PyData.eqvAll (found.map prD) [] = true := by rw [e]; exact eqvs_nil
    rw [ev]
    exact f0
  · have ev : PyData.eqvAll (found.map prD) [] = false := by
      cases found with
      | nil => exact absurd rfl e
      | cons _ _ => exact eqvs_cn
    rw [ev, Bool.not_false, if_pos rfl]
    refine upL (n := 1) (by omega) (draw_spec 0 3 (by decide) (by decide) _ _ fun i _ _ => ?_)
    rw [cw_eq, eqv_ii]
    refine ⟨eq_ints, ?_⟩
    split
    · refine upL (n := 2) (by omega) (pick_spec 0 _ (by simpa using e) (by simp; omega) _ _ fun y hy => ?_)
      obtain ⟨r, hr, rfl⟩ := List.mem_map.mp hy
      obtain ⟨o1, o2, o3⟩ := hf r hr
      refine upL (n := 2) (by omega) (pickT_spec 0 _ (by simp) (by simp) _ _ fun z hz => ?_)
      have hz' : z = tp r.1 ∨ z = tp r.2 := by simpa using hz
      rcases hz' with rfl | rfl
      · rw [if_pos (noL_tp _)]
        exact fin _ _ o2 p2
      · rw [if_pos (noL_tp _)]
        exact fin _ _ o3 p2
    · exact f0
theorem free_go (n : Nat) (E : EPo) (De : En) (mi m : Int) (m0 : 0 < m) (m6 : m ≤ 60) (mb : mi ≤ 100) : ∀ (items : List D) (found : List (P2 × P2)) (z4 z5 z6 z7 : Option D), (∀ p ∈ found, okP p) → found.Pairwise noX → (found.length : Int) ≤ mi →
    (∀ (f' : List (P2 × P2)) z4 z5 z6 z7, (∀ p ∈ f', okP p) → f'.Pairwise noX → (f'.length : Int) ≤ mi → De.nx [.d deckD, .d (.int mi), .d (.int m), .own (f'.map prD), slo z4, slo z5, slo z6, slo z7]) →
    forGo (.one 4) (wpSs (phi T (n + 4)) E b__law_free_1) De items [.d deckD, .d (.int mi), .d (.int m), .own (found.map prD), slo z4, slo z5, slo z6, slo z7]
  | [], found, z4, z5, z6, z7, hf, pw, hB, h => by simpa [forGo] using h found z4 z5 z6 z7 hf pw hB
  | x :: r, found, z4, z5, z6, z7, hf, pw, hB, h => by
    simp only [forGo, tg_one, List.set_cons_succ, List.set_cons_zero]
    exact free_step n E _ mi m m0 m6 found hf pw (by omega) hB (some x) z5 z6 z7 fun f' z5 z6 z7 hf' pw' hB' => free_go n E De mi m m0 m6 mb r f' (some x) z5 z6 z7 hf' pw' hB' h
theorem free_spec (n : Nat) (mi m : Int) (i0 : 0 ≤ mi) (mb : mi ≤ 100) (m0 : 0 < m) (m6 : m ≤ 60) (Q : DP) (E : EPo) (h : ∀ f' : List (P2 × P2), (∀ p ∈ f', okP p) → f'.Pairwise noX → (f'.length : Int) ≤ mi → Q (.list (f'.map prD))) : phi T (n + 5) "_law_free" [deckD, .int mi, .int m] Q E := by
  refine ⟨_, T__law_free, rfl, ?_⟩
  show wpSs _ _ c__law_free _ [.d deckD, .d (.int mi), .d (.int m), .no, .no, .no, .no, .no]
  have lp := fun De h => free_go n E De mi m m0 m6 mb (rngD 0 (3 * mi).toNat) [] none none none none (fun _ h => nomatch h) .nil (by simpa using i0) h
  simp [c__law_free, bw_mul, wpSs, wpS, wpE, wpEs, wpP, wpT, wpI, wpTo, viewOf, viewFrom, viewFrom_slo, slo_some, slo_none, vE, vEs, vP, vT, vI, vTo, aft, noList, noLists, frz, frz1, tg_one, tg_tt, tg_tl, tgs_nil, tgs_cons, lenT, wipeD, parOk, setPar, noOwn]
  refine ⟨.inl (.inl ⟨by decide, by decide⟩), by omega, ?_⟩
  refine lp _ fun f' z4 z5 z6 z7 hf pw hB => ?_
  simp [j__law_free_2, wpSs, wpS, wpE, wpEs, wpP, wpT, wpI, wpTo, viewOf, viewFrom, viewFrom_slo, slo_some, slo_none, vE, vEs, vP, vT, vI, vTo, aft, noList, noLists, frz, frz1, tg_one, tg_tt, tg_tl, tgs_nil, tgs_cons, lenT, wipeD, parOk, setPar, noOwn]
  exact h f' hf pw hB
end Law

end
section
set_option Elab.async false
set_option linter.all false
set_option maxRecDepth 100000
set_option exponentiation.threshold 9000
/-! Pz: plans of layouts. -/
namespace Law
open PySem Ey
def small (a : P2) : Prop := a.1.natAbs ≤ 12 ∧ a.2.natAbs ≤ 12
theorem moved_tp (n : Nat) (a : P2) (many sc x y : Int) (mir : Bool) (h0 : 0 ≤ many) (h4 : many < 4) (s0 : 0 < sc) (s9 : sc ≤ 3) (ha : small a) (hx : x.natAbs ≤ 10) (hy : y.natAbs ≤ 10) (Q : DP) (E : EPo) (h : Bt2 7 (mvP (mvOf many mir sc x y) a) → Q (tp (mvP (mvOf many mir sc x y) a))) :
    phi T (n + 1) "_law_moved" [tp a, .int many, .bool mir, .int sc, .int x, .int y] Q E :=
  moved_spec n a.1 a.2 many sc x y mir h0 h4 s0 (by omega) _ _ (h (moved_near ha s0 s9 hx hy))
/-- the pairs found are pairs of those before, moved, some the other way round -/
def isMv (m : Mv) (p r : P2 × P2) : Prop := r = (mvP m p.1, mvP m p.2) ∨ r = (mvP m p.2, mvP m p.1)
theorem isMv_ok {m : Mv} (hd : m.det ≠ 0) {p r : P2 × P2} (ne : p.1 ≠ p.2) (h : isMv m p r) : r.1 ≠ r.2 := by
  rcases h with rfl | rfl
  · exact mvP_ne hd ne
  · exact mvP_ne hd (Ne.symm ne)
theorem isMv_noX {m : Mv} (hd : m.det ≠ 0) {p r q s : P2 × P2} (np : p.1 ≠ p.2) (nq : q.1 ≠ q.2) (h : isMv m p r) (g : isMv m q s) (x : noX p q) : noX r s := by
  have e := cross_mv hd np (c := q.1) (d := q.2)
  have m1 := mvP_ne hd np
  have m2 := mvP_ne hd nq
  unfold noX at x ⊢
  rw [x] at e
  rcases h with rfl | rfl <;> rcases g with rfl | rfl
  · exact e
  · simp only; rw [cross_swap2 m1 m2, e]
  · simp only; rw [cross_swap, e]
  · simp only; rw [cross_swap, cross_swap2 m1 m2, e]
/-- what is found so far, and what is to come -/
structure LayI (m : Mv) (most : Int) (rest found : List (P2 × P2)) : Prop where
  ok : ∀ p ∈ found, okP p
  pw : found.Pairwise noX
  nx : ∀ q ∈ rest, ∀ p ∈ found, ∃ p0 : P2 × P2, p0.1 ≠ p0.2 ∧ isMv m p0 p ∧ noX p0 q
  few : (found.length : Int) ≤ most
theorem LayI.skip {m : Mv} {most : Int} {q : P2 × P2} {rest found : List (P2 × P2)} (h : LayI m most (q :: rest) found) : LayI m most rest found :=
  ⟨h.ok, h.pw, fun s hs => h.nx s (List.mem_cons_of_mem _ hs), h.few⟩
theorem LayI.add {m : Mv} (hd : m.det ≠ 0) {most : Int} {q r : P2 × P2} {rest found : List (P2 × P2)} (h : LayI m most (q :: rest) found) (nq : q.1 ≠ q.2) (pq : ∀ s ∈ rest, noX q s) (lm : (found.length : Int) < most) (hr : isMv m q r) (b1 : Bt2 7 r.1) (b2 : Bt2 7 r.2) : LayI m most rest (found ++ [r]) := by
  have ne := isMv_ok hd nq hr
  refine ⟨fun p hp => (List.mem_append.mp hp).elim (h.ok p) fun e => by rw [List.mem_singleton.mp e]; exact ⟨ne, b1, b2⟩, ?_, fun s hs p hp => ?_, by simp; omega⟩
  · rw [List.pairwise_append]
    refine ⟨h.pw, List.pairwise_singleton .., fun a ha b hb => ?_⟩
    rw [List.mem_singleton.mp hb]
    obtain ⟨p0, n0, i0, x0⟩ := h.nx q (List.mem_cons_self ..) a ha
    exact isMv_noX hd n0 nq i0 hr x0
  · rcases List.mem_append.mp hp with hp | hp
    · exact h.nx s (List.mem_cons_of_mem _ hs) p hp
    · rw [List.mem_singleton.mp hp]
      exact ⟨q, nq, hr, pq s hs⟩
theorem lay_step (n : Nat) (E : EPo) (De : En) (most many sc x y : Int) (mir : Bool) (h0 : 0 ≤ many) (h4 : many < 4) (s0 : 0 < sc) (s9 : sc ≤ 3) (hx : x.natAbs ≤ 10) (hy : y.natAbs ≤ 10) (mb : most ≤ 100) (p q : P2) (rest found : List (P2 × P2)) (hI : LayI (mvOf many mir sc x y) most ((p, q) :: rest) found)
    (ne : p ≠ q) (pq : ∀ s ∈ rest, noX (p, q) s) (sp : small p) (sq : small q) (z10 z11 z12 : Option D)
    (h : ∀ (f' : List (P2 × P2)) z10, LayI (mvOf many mir sc x y) most rest f' → De.nx [.d deckD, .d (.int most), .own (f'.map prD), .d (.int many), .d (.bool mir), .d (.int sc), .d (.int x), .d (.int y), .d (tp p), .d (tp q), slo z10, slo z11, slo z12]) :
    wpSs (phi T (n + 4)) E b__law_drawn_plan_1 De [.d deckD, .d (.int most), .own (found.map prD), .d (.int many), .d (.bool mir), .d (.int sc), .d (.int x), .d (.int y), .d (tp p), .d (tp q), slo z10, slo z11, slo z12] := by
  have h1 := h found z10 hI.skip
  have hd : (mvOf many mir sc x y).det ≠ 0 := (mvOf_det many mir s0 x y).1
  have hB := hI.few
  simp [b__law_drawn_plan_1, wpSs, wpS, wpE, wpEs, wpP, wpT, wpI, wpTo, viewOf, viewFrom, viewFrom_slo, slo_some, slo_none, vE, vEs, vP, vT, vI, vTo, aft, noList, noLists, frz, frz1, tg_one, tg_tt, tg_tl, tgs_nil, tgs_cons, lenT, wipeD, parOk, setPar, noOwn]
  refine upL (n := 1) (by omega) (draw_spec 0 6 (by decide) (by decide) _ _ fun i _ _ => ?_)
  rw [cw_gt]
  split
  · rw [bi_len_list, cw_lt, List.length_map]
    split
    · rename_i lm
      have lm' : (found.length : Int) < most := by simpa using lm
      simp [i__law_drawn_plan_1, wpApp, noL_tp, wpSs, wpS, wpE, wpEs, wpP, wpT, wpI, wpTo, viewOf, viewFrom, viewFrom_slo, slo_some, slo_none, vE, vEs, vP, vT, vI, vTo, aft, noList, noLists, frz, frz1, tg_one, tg_tt, tg_tl, tgs_nil, tgs_cons, lenT, wipeD, parOk, setPar, noOwn]
      refine upL (n := 1) (by omega) (moved_tp 0 p many sc x y mir h0 h4 s0 s9 sp hx hy _ _ fun ba => ?_)
      refine upL (n := 1) (by omega) (moved_tp 0 q many sc x y mir h0 h4 s0 s9 sq hx hy _ _ fun bb => ?_)
      have add : ∀ r : P2 × P2, isMv (mvOf many mir sc x y) (p, q) r → Bt2 7 r.1 → Bt2 7 r.2 → De.nx [.d deckD, .d (.int most), .own (found.map prD ++ [prD r]), .d (.int many), .d (.bool mir), .d (.int sc), .d (.int x), .d (.int y), .d (tp p), .d (tp q), .d (.tuple [tp (mvP (mvOf many mir sc x y) p), tp (mvP (mvOf many mir sc x y) q)]), slo z11, slo z12] := fun r hr b1 b2 => by
        have := h (found ++ [r]) (some (.tuple [tp (mvP (mvOf many mir sc x y) p), tp (mvP (mvOf many mir sc x y) q)])) (hI.add hd ne pq lm' hr b1 b2)
        rw [List.map_append] at this
        exact this
      refine ⟨by omega, ?_⟩
      refine upL (n := 1) (by omega) (draw_spec 0 2 (by decide) (by decide) _ _ fun i _ _ => ?_)
      rw [cw_eq, eqv_ii]
      refine ⟨eq_ints, ?_⟩
      split
      · exact add (_, _) (.inl rfl) ba bb
      · exact add (_, _) (.inr rfl) bb ba
    · exact h1
  · exact h1
end Law

end
section
set_option Elab.async false
set_option linter.all false
set_option maxRecDepth 100000
set_option exponentiation.threshold 9000
/-! Pz1: drawn plans. -/
namespace Law
open PySem Ey
theorem lay_go (n : Nat) (E : EPo) (De : En) (most many sc x y : Int) (mir : Bool) (h0 : 0 ≤ many) (h4 : many < 4) (s0 : 0 < sc) (s9 : sc ≤ 3) (hx : x.natAbs ≤ 10) (hy : y.natAbs ≤ 10) (mb : most ≤ 100) :
    ∀ (rest found : List (P2 × P2)) (z8 z9 z10 z11 z12 : Option D), (∀ p ∈ rest, p.1 ≠ p.2 ∧ small p.1 ∧ small p.2) → rest.Pairwise noX → LayI (mvOf many mir sc x y) most rest found →
    (∀ (f' : List (P2 × P2)) z8 z9 z10, LayI (mvOf many mir sc x y) most [] f' → De.nx [.d deckD, .d (.int most), .own (f'.map prD), .d (.int many), .d (.bool mir), .d (.int sc), .d (.int x), .d (.int y), slo z8, slo z9, slo z10, slo z11, slo z12]) →
    forGo (.tup (.cons (.one 8) (.cons (.one 9) .nil))) (wpSs (phi T (n + 4)) E b__law_drawn_plan_1) De (rest.map prD) [.d deckD, .d (.int most), .own (found.map prD), .d (.int many), .d (.bool mir), .d (.int sc), .d (.int x), .d (.int y), slo z8, slo z9, slo z10, slo z11, slo z12]
  | [], found, z8, z9, z10, z11, z12, _, _, hI, h => by simpa [forGo] using h found z8 z9 z10 hI
  | (p, q) :: r, found, z8, z9, z10, z11, z12, hi, pw, hI, h => by
    obtain ⟨ne, sp, sq⟩ := hi (p, q) (List.mem_cons_self ..)
    simp only [List.map_cons, prD, forGo, tg_tt, tgs_cons, tgs_nil, tg_one, List.set_cons_succ, List.set_cons_zero]
    refine ⟨rfl, ?_⟩
    exact lay_step n E _ most many sc x y mir h0 h4 s0 s9 hx hy mb p q r found hI ne (List.pairwise_cons.mp pw).1 sp sq z10 z11 z12 fun f' z10 hI' =>
      lay_go n E De most many sc x y mir h0 h4 s0 s9 hx hy mb r f' (some (tp p)) (some (tp q)) z10 z11 z12 (fun z hz => hi z (List.mem_cons_of_mem _ hz)) (List.pairwise_cons.mp pw).2 hI' h
/-- a drawn wall -/
def nearW (w : Wl) : Prop := PyData.str w.1 ∈ nmL ∧ okP w.2
/-- a drawn plan -/
structure Drawn (ws : List Wl) : Prop where
  near : ∀ w ∈ ws, nearW w
  nd : (namesL ws).Nodup
  pw : (ws.map (·.2)).Pairwise noX
theorem nm_str {x : D} (h : x ∈ nmL) : ∃ s : Str, x = .str s := by
  simp only [nmL, List.mem_cons, List.not_mem_nil, or_false] at h
  rcases h with rfl | rfl | rfl | rfl | rfl | rfl | rfl | rfl | rfl | rfl <;> exact ⟨_, rfl⟩
theorem nm_strs : ∀ {xs : List D}, (∀ x ∈ xs, x ∈ nmL) → ∃ ss : List Str, xs = ss.map PyData.str
  | [], _ => ⟨[], rfl⟩
  | x :: r, h => by
    obtain ⟨s, rfl⟩ := nm_str (h _ (List.mem_cons_self ..))
    obtain ⟨ss, rfl⟩ := nm_strs (xs := r) fun z hz => h z (List.mem_cons_of_mem _ hz)
    exact ⟨s :: ss, rfl⟩
theorem zip_prD : ∀ (ss : List Str) (fs : List (P2 × P2)), zipD (ss.map PyData.str) (fs.map prD) = (ss.zip fs).map fun w => .tuple [.str w.1, prD w.2]
  | [], _ => by simp [zipD]
  | _ :: _, [] => by simp [zipD]
  | s :: ss, f :: fs => by simpa [zipD] using zip_prD ss fs
theorem zip_fst : ∀ (ss : List Str) (fs : List (P2 × P2)), (namesL (ss.zip fs)).Sublist ss
  | [], _ => by simp [namesL]
  | _ :: _, [] => by simp [namesL]
  | s :: ss, f :: fs => by simpa [namesL] using zip_fst ss fs
theorem zip_snd : ∀ (ss : List Str) (fs : List (P2 × P2)), ((ss.zip fs).map (·.2)).Sublist fs
  | [], _ => by simp
  | _ :: _, [] => by simp
  | s :: ss, f :: fs => by simpa using zip_snd ss fs
def joinD : D → D
  | .tuple [.str s, .tuple [a, b]] => .tuple [.str s, a, b]
  | x => x
theorem plan_lc (n : Nat) (E : EPo) (f' : List (P2 × P2)) (hf : ∀ p ∈ f', okP p) (pw : f'.Pairwise noX) (hl : f'.length ≤ 10) (d1 : D) (z3 z4 z5 z6 z7 z8 z9 z10 z11 z12 : Option D) (R : DP)
    (hR : ∀ ws : List Wl, Drawn ws → ws.length ≤ f'.length → R (.list (ws.map wD))) :
    wpE (phi T (n + 2)) (.lc [("name", 12), ("pair", 10)] (.tup (.cons (.one 12) (.cons (.one 10) .nil))) (.zip (.call "_law_names" (.cons (.var 0) (.cons (.bi .len (.cons (.var 2) .nil)) .nil))) (.var 2)) .no (.bin .add (.tup (.cons (.var 12) .nil)) (.bi .tuple (.cons (.var 10) .nil)))) E
      [some deckD, some d1, some (.list (f'.map prD)), z3, z4, z5, z6, z7, z8, z9, z10, z11, z12] R := by
  simp [bi_len_list, List.length_map, wpSs, wpS, wpE, wpEs, wpP, wpT, wpI, wpTo, viewOf, viewFrom, viewFrom_slo, slo_some, slo_none, vE, vEs, vP, vT, vI, vTo, aft, noList, noLists, frz, frz1, tg_one, tg_tt, tg_tl, tgs_nil, tgs_cons, lenT, wipeD, parOk, setPar, noOwn]
  refine names_spec n f'.length hl _ _ fun xs hx nd hxl => ?_
  obtain ⟨ss, rfl⟩ := nm_strs hx
  have nd' : ss.Nodup := List.Pairwise.of_map _ (fun a b h e => h (by rw [e])) nd
  refine ⟨_, rfl, ?_⟩
  rw [zip_prD]
  have ll : (ss.zip f').length ≤ f'.length := by simp [List.length_zip]; omega
  refine ⟨by simp only [List.length_map]; omega, ?_⟩
  refine lc_map (f := joinD) (fun z hz R hR => ?_) ?_
  · obtain ⟨w, hw, rfl⟩ := List.mem_map.mp hz
    simp [prD, biW, binW, wpSs, wpS, wpE, wpEs, wpP, wpT, wpI, wpTo, viewOf, viewFrom, viewFrom_slo, slo_some, slo_none, vE, vEs, vP, vT, vI, vTo, aft, noList, noLists, frz, frz1, tg_one, tg_tt, tg_tl, tgs_nil, tgs_cons, lenT, wipeD, parOk, setPar, noOwn]
    exact hR
  · rw [List.nil_append, List.map_map]
    refine hR (ss.zip f') ⟨fun w hw => ?_, List.Nodup.sublist (zip_fst ss f') nd', List.Pairwise.sublist (zip_snd ss f') pw⟩ ll
    have h := List.of_mem_zip (a := w.1) (b := w.2) hw
    exact ⟨hx _ (List.mem_map_of_mem h.1), hf _ h.2⟩
theorem plan_end (n : Nat) (E : EPo) (Q : DP) (De : En) (hQ : De.rt = Q) (f' : List (P2 × P2)) (hf : ∀ p ∈ f', okP p) (pw : f'.Pairwise noX) (hl : f'.length ≤ 10) (s2 : Sl) (hs : s2 = .d (.list (f'.map prD)) ∨ s2 = .own (f'.map prD)) (d1 : D) (z3 z4 z5 z6 z7 z8 z9 z10 z11 z12 : Option D)
    (h : ∀ ws : List Wl, Drawn ws → ws.length ≤ f'.length → Q (.tuple (ws.map wD))) :
    wpSs (phi T (n + 2)) E j__law_drawn_plan_1 De [.d deckD, .d d1, s2, slo z3, slo z4, slo z5, slo z6, slo z7, slo z8, slo z9, slo z10, slo z11, slo z12] := by
  subst hQ
  refine ss_asg ?_
  rcases hs with rfl | rfl
  · have e : viewOf (vE (.lc [("name", 12), ("pair", 10)] (.tup (.cons (.one 12) (.cons (.one 10) .nil))) (.zip (.call "_law_names" (.cons (.var 0) (.cons (.bi .len (.cons (.var 2) .nil)) .nil))) (.var 2)) .no (.bin .add (.tup (.cons (.var 12) .nil)) (.bi .tuple (.cons (.var 10) .nil)))))
        [.d deckD, .d d1, .d (.list (f'.map prD)), slo z3, slo z4, slo z5, slo z6, slo z7, slo z8, slo z9, slo z10, slo z11, slo z12] = [some deckD, some d1, some (.list (f'.map prD)), z3, z4, z5, z6, z7, z8, z9, z10, z11, z12] := by simp [viewOf, viewFrom, viewFrom_slo]
    rw [e]
    refine plan_lc n E f' hf pw hl d1 z3 z4 z5 z6 z7 z8 z9 z10 z11 z12 _ fun ws k l => ?_
    have := h ws k l
    cases z10 <;> cases z12 <;> (simp [biW, wpSs, wpS, wpE, wpEs, wpP, wpT, wpI, wpTo, viewOf, viewFrom, viewFrom_slo, slo_some, slo_none, vE, vEs, vP, vT, vI, vTo, aft, noList, noLists, frz, frz1, tg_one, tg_tt, tg_tl, tgs_nil, tgs_cons, lenT, wipeD, parOk, setPar, noOwn]; exact this)
  · have e : viewOf (vE (.lc [("name", 12), ("pair", 10)] (.tup (.cons (.one 12) (.cons (.one 10) .nil))) (.zip (.call "_law_names" (.cons (.var 0) (.cons (.bi .len (.cons (.var 2) .nil)) .nil))) (.var 2)) .no (.bin .add (.tup (.cons (.var 12) .nil)) (.bi .tuple (.cons (.var 10) .nil)))))
        [.d deckD, .d d1, .own (f'.map prD), slo z3, slo z4, slo z5, slo z6, slo z7, slo z8, slo z9, slo z10, slo z11, slo z12] = [some deckD, some d1, some (.list (f'.map prD)), z3, z4, z5, z6, z7, z8, z9, z10, z11, z12] := by simp [viewOf, viewFrom, viewFrom_slo, vE, vEs, vI, vTo]
    rw [e]
    refine plan_lc n E f' hf pw hl d1 z3 z4 z5 z6 z7 z8 z9 z10 z11 z12 _ fun ws k l => ?_
    have := h ws k l
    cases z10 <;> cases z12 <;> (simp [biW, wpSs, wpS, wpE, wpEs, wpP, wpT, wpI, wpTo, viewOf, viewFrom, viewFrom_slo, slo_some, slo_none, vE, vEs, vP, vT, vI, vTo, aft, noList, noLists, frz, frz1, tg_one, tg_tt, tg_tl, tgs_nil, tgs_cons, lenT, wipeD, parOk, setPar, noOwn]; exact this)
end Law

end
section
set_option Elab.async false
set_option linter.all false
set_option maxRecDepth 100000
set_option exponentiation.threshold 9000
/-! Pz2: plans with walls put between, parts spoilt. -/
namespace Law
open PySem Ey
/-- a wall that is short to write -/
def goodW (w : Wl) : Prop := (reprText w.1).length ≤ 20 ∧ Bt2 7 w.2.1 ∧ Bt2 7 w.2.2
theorem nm_len {s : Str} (h : PyData.str s ∈ nmL) : (reprText s).length ≤ 20 := by
  have e : nmL.all (fun x => match x with | .str s => decide ((reprText s).length ≤ 20) | _ => true) = true := by decide +kernel
  simpa using List.all_eq_true.mp e _ h
theorem nearW.good {w : Wl} (h : nearW w) : goodW w := ⟨nm_len h.1, h.2.2⟩
theorem Drawn.good {ws : List Wl} (h : Drawn ws) : ∀ w ∈ ws, goodW w := fun w hw => (h.near w hw).good
theorem noL_wD (w : Wl) : noList (wD w) = true := by simp [wD, wl, noList, noLists, noL_tp]
theorem noL_ws (ws : List Wl) : noLists (ws.map wD) = true := by
  rw [noLists_iff]
  intro x hx
  obtain ⟨w, _, rfl⟩ := List.mem_map.mp hx
  exact noL_wD w
theorem gd_tp {k : Nat} (hk : k ≤ 100) {a : P2} (h : Bt2 k a) : Gd 1 (40 * k + 128) (tp a) := by
  have g : ∀ {i : Int}, Bt k i → Gd 0 (20 * k + 60) (.int i) := fun h => Gd.int k (by omega) h (by omega)
  exact (Gd.tuple (Gds.cons (g h.1) (Gds.cons (g h.2) (Gds.nil (w := 0))))).mono (by omega) (by omega)
theorem gd_wD {w : Wl} (h : goodW w) : Gd 2 850 (wD w) := by
  have a := gd_tp (by decide) h.2.1
  have b := gd_tp (by decide) h.2.2
  exact (Gd.tuple (Gds.cons (Gd.str (p := 1) h.1) (Gds.cons a (Gds.cons b (Gds.nil (w := 0)))))).mono (by omega) (by omega)
theorem ib_wD {w : Wl} (h : goodW w) : ibs 45 (wD w) = true := by
  have g : ∀ {i : Int}, Bt 7 i → ibs 45 (.int i) = true := fun h => ib_int.mpr (Nat.lt_of_lt_of_le h (by decide))
  have e : ∀ {a : P2}, Bt2 7 a → ibs 45 (tp a) = true := fun h => ib_tuple.mpr (by simpa using ⟨g h.1, g h.2⟩)
  exact ib_tuple.mpr (by simpa using ⟨by simp [ibs], e h.2.1, e h.2.2⟩)
theorem gd_ws {ws : List Wl} (h : ∀ w ∈ ws, goodW w) (n : Nat) (hl : ws.length ≤ n) : Gds 2 (n * 852) (ws.map wD) :=
  Gds.of (fun x hx => by obtain ⟨w, hw, rfl⟩ := List.mem_map.mp hx; exact gd_wD (h w hw)) (by simpa using hl)
theorem ib_ws {ws : List Wl} (h : ∀ w ∈ ws, goodW w) : ∀ x ∈ ws.map wD, ibs 45 x = true := fun x hx => by
  obtain ⟨w, hw, rfl⟩ := List.mem_map.mp hx
  exact ib_wD (h w hw)
theorem LayI.start {m : Mv} {most : Int} {rest : List (P2 × P2)} (m0 : 0 ≤ most) : LayI m most rest [] :=
  ⟨(fun _ h => nomatch h), List.Pairwise.nil, (fun _ _ _ h => nomatch h), by simpa using m0⟩
theorem drawn_plan_spec (n : Nat) (most : Int) (m0 : 0 ≤ most) (m9 : most ≤ 9) (Q : DP) (E : EPo) (h : ∀ ws : List Wl, Drawn ws → (ws.length : Int) ≤ most → Q (.tuple (ws.map wD))) : phi T (n + 6) "_law_drawn_plan" [deckD, .int most] Q E := by
  refine ⟨_, T__law_drawn_plan, rfl, ?_⟩
  show wpSs _ _ c__law_drawn_plan _ [.d deckD, .d (.int most), .no, .no, .no, .no, .no, .no, .no, .no, .no, .no, .no]
  have dr : ∀ (k : Int) (R : DP) (E : EPo), 0 < k → k < 1000 → (∀ i, 0 ≤ i → i < k → R (.int i)) → phi T (n + 5) "_law_draw" [deckD, .int k] R E := fun k R E a b hR => upL (n := 1) (by omega) (draw_spec 0 _ (by omega) (by omega) _ _ hR)
  have pe := fun (De : En) (hQ : De.rt = Q) (f' : List (P2 × P2)) (hf : ∀ p ∈ f', okP p) (pw : f'.Pairwise noX) (hl : (f'.length : Int) ≤ most) s2 hs z3 z4 z5 z6 z7 z8 z9 z10 => plan_end (n + 3) E Q De hQ f' hf pw (by omega) s2 hs (.int most) z3 z4 z5 z6 z7 z8 z9 z10 none none fun ws hw hl' => h ws hw (by omega)
  have lp := fun (De : En) many mir sc x y h0 h4 s0 s9 hx hy rest hi pw h => lay_go (n + 1) E De most many sc x y mir h0 h4 s0 s9 hx hy (by omega) rest [] none none none none none hi pw (LayI.start m0) h
  simp [c__law_drawn_plan, wpSs, wpS, wpE, wpEs, wpP, wpT, wpI, wpTo, viewOf, viewFrom, viewFrom_slo, slo_some, slo_none, vE, vEs, vP, vT, vI, vTo, aft, noList, noLists, frz, frz1, tg_one, tg_tt, tg_tl, tgs_nil, tgs_cons, lenT, wipeD, parOk, setPar, noOwn]
  refine dr _ _ _ (by omega) (by omega) fun i _ _ => ?_
  rw [cw_eq, eqv_ii]
  refine ⟨eq_ints, ?_⟩
  split
  · rw [bw_add]
    refine dr _ _ _ (by omega) (by omega) fun k k0 k1 => ?_
    refine upL (n := 2) (by omega) (pick_spec 0 _ (by simp) (by simp) _ _ fun y hy => ?_)
    have hy' : ∃ m : Int, y = .int m ∧ 0 < m ∧ m ≤ 60 := by
      simp only [List.mem_cons, List.not_mem_nil, or_false] at hy
      rcases hy with rfl | rfl | rfl
      · exact ⟨4, rfl, by decide, by decide⟩
      · exact ⟨9, rfl, by decide, by decide⟩
      · exact ⟨60, rfl, by decide, by decide⟩
    obtain ⟨m, rfl, m0, m6⟩ := hy'
    refine free_spec n k m k0 (by omega) m0 m6 _ _ fun f' hf pw hl => ?_
    exact pe _ rfl f' hf pw (by omega) _ (.inl rfl) none none none none none none none none
  · simp [i__law_drawn_plan_2, wpSs, wpS, wpE, wpEs, wpP, wpT, wpI, wpTo, viewOf, viewFrom, viewFrom_slo, slo_some, slo_none, vE, vEs, vP, vT, vI, vTo, aft, noList, noLists, frz, frz1, tg_one, tg_tt, tg_tl, tgs_nil, tgs_cons, lenT, wipeD, parOk, setPar, noOwn]
    refine dr _ _ _ (by omega) (by omega) fun many a0 a4 => ?_
    refine dr _ _ _ (by omega) (by omega) fun mr _ _ => ?_
    rw [cw_eq, eqv_ii]
    refine ⟨eq_ints, ?_⟩
    refine upL (n := 2) (by omega) (pick_spec 0 _ (by simp) (by simp) _ _ fun s hs => ?_)
    have hs' : ∃ m : Int, s = .int m ∧ 0 < m ∧ m ≤ 3 := by
      simp only [List.mem_cons, List.not_mem_nil, or_false] at hs
      rcases hs with rfl | rfl | rfl | rfl <;> exact ⟨_, rfl, by decide, by decide⟩
    obtain ⟨sc, rfl, s0, s9⟩ := hs'
    refine dr _ _ _ (by omega) (by omega) fun x x0 x1 => ?_
    rw [bw_sub]
    refine dr _ _ _ (by omega) (by omega) fun y y0 y1 => ?_
    rw [bw_sub]
    refine layouts_spec (n + 4) _ _ fun lays hl ne l10 => ?_
    refine pick_spec (n + 3) _ ne (by omega) _ _ fun lay hm => ?_
    obtain ⟨L, rfl, hL, pwL, _⟩ := lay_of (List.all_eq_true.mp hl lay hm)
    refine .inr ⟨_, rfl, ?_⟩
    refine lp _ _ _ _ _ _ a0 a4 s0 s9 (by omega) (by omega) L (fun z hz => ⟨(hL z hz).1, (hL z hz).2.1, (hL z hz).2.2⟩) pwL fun f' z8 z9 z10 hI => ?_
    exact pe { nx := fun _ => Q .none, rt := Q } rfl f' hI.ok hI.pw hI.few _ (.inr rfl) (some (.int many)) (some (.bool (decide (mr = 0)))) (some (.int sc)) (some (.int (x - 10))) (some (.int (y - 10))) z8 z9 z10
end Law

end
section
set_option Elab.async false
set_option linter.all false
set_option maxRecDepth 100000
set_option exponentiation.threshold 9000
/-! Pz3: plans with walls put between. -/
namespace Law
open PySem Ey
def newS (t : Int) : Str := ("new" : Str) ++ (toString t : Str)
theorem newS_ok : (∀ t : Int, t = 0 ∨ t = 1 → (reprText (newS t)).length ≤ 20 ∧ PyData.str (newS t) ∉ nmL ∧ nameB (.str (newS t)) = true) ∧ newS 0 ≠ newS 1 := by
  have e : ∀ x : Str, (nmL.all fun y => match y with | .str s => decide (s ≠ x) | _ => true) = true → PyData.str x ∉ nmL := fun x h m => by
    have := List.all_eq_true.mp h _ m
    simp at this
  refine ⟨fun t ht => ?_, by decide +kernel⟩
  rcases ht with rfl | rfl
  · exact ⟨by decide +kernel, e _ (by decide +kernel), by decide +kernel⟩
  · exact ⟨by decide +kernel, e _ (by decide +kernel), by decide +kernel⟩
/-- walls with different names -/
structure PlanC (k : Nat) (ws : List Wl) : Prop where
  nm : ∀ w ∈ ws, PyData.str w.1 ∈ nmL ∨ ∃ j : Nat, j < k ∧ w.1 = newS j
  ok : ∀ w ∈ ws, okP w.2
  nd : (namesL ws).Nodup
  few : ws.length ≤ 9
theorem PlanC.mono {k : Nat} {ws : List Wl} (h : PlanC k ws) : PlanC (k + 1) ws :=
  ⟨fun w hw => (h.nm w hw).imp id fun ⟨j, l, e⟩ => ⟨j, by omega, e⟩, h.ok, h.nd, h.few⟩
theorem PlanC.good {k : Nat} (hk : k ≤ 2) {ws : List Wl} (h : PlanC k ws) : ∀ w ∈ ws, goodW w := fun w hw => by
  refine ⟨?_, (h.ok w hw).2⟩
  rcases h.nm w hw with m | ⟨j, l, e⟩
  · exact nm_len m
  · rw [e]; exact (newS_ok.1 j (by omega)).1
theorem Drawn.c {ws : List Wl} (h : Drawn ws) (l : ws.length ≤ 9) : PlanC 0 ws := ⟨fun w hw => .inl (h.near w hw).1, fun w hw => (h.near w hw).2, h.nd, l⟩
theorem PlanC.add {t : Nat} (ht : t < 2) {ws : List Wl} (h : PlanC t ws) (l : ws.length < 9) {p : P2 × P2} (hp : okP p) (at' : Nat) : PlanC (t + 1) (ws.take at' ++ (newS t, p) :: ws.drop at') := by
  have pm : (ws.take at' ++ (newS t, p) :: ws.drop at').Perm ((newS t, p) :: ws) := by
    have := List.perm_middle (a := (newS t, p)) (l₁ := ws.take at') (l₂ := ws.drop at')
    rwa [List.take_append_drop] at this
  have no : newS t ∉ namesL ws := fun m => by
    obtain ⟨w, hw, e⟩ := List.mem_map.mp m
    rcases h.nm w hw with m | ⟨j, l, e2⟩
    · rw [e] at m
      exact (newS_ok.1 t (by omega)).2.1 m
    · have tj : t = 1 ∧ j = 0 := by omega
      rw [e2, tj.1, tj.2] at e
      exact newS_ok.2 e
  refine ⟨fun w hw => ?_, fun w hw => ?_, ?_, ?_⟩
  · rcases List.mem_cons.mp (pm.mem_iff.mp hw) with rfl | hw
    · exact .inr ⟨t, by omega, rfl⟩
    · exact (h.nm w hw).imp id fun ⟨j, l, e⟩ => ⟨j, by omega, e⟩
  · rcases List.mem_cons.mp (pm.mem_iff.mp hw) with rfl | hw
    · exact hp
    · exact h.ok w hw
  · have := (pm.map (·.1)).nodup_iff.mpr (by simpa using ⟨by simpa [namesL] using no, h.nd⟩)
    exact this
  · rw [pm.length_eq]
    simp
    omega
def CrS (ws : List Wl) (most : D) (t : Int) (z4 z5 z6 z7 z8 : Option D) : Sls := [.d deckD, .d most, .d (.tuple (ws.map wD)), .d (.int t), slo z4, slo z5, slo z6, slo z7, slo z8]
theorem cross_add (n : Nat) (E : EPo) (De : En) (most : D) (t : Nat) (ht : t < 2) (ws : List Wl) (hw : PlanC t ws) (hl : ws.length < 9) (p q : P2) (ok : okP (p, q)) (z6 z7 z8 : Option D)
    (h : ∀ ws' z8, PlanC (t + 1) ws' → De.nx (CrS ws' most t (some (tp p)) (some (tp q)) z6 z7 z8)) :
    wpSs (phi T (n + 3)) E i__law_crossed_plan_1 De (CrS ws most t (some (tp p)) (some (tp q)) z6 z7 z8) := by
  have tl : ((t : Int).natAbs).log2 < 1920 := by
    have : t = 0 ∨ t = 1 := by omega
    rcases this with rfl | rfl <;> decide
  simp [i__law_crossed_plan_1, CrS, bi_len_tuple, bw_add, wpSs, wpS, wpE, wpEs, wpP, wpT, wpI, wpTo, viewOf, viewFrom, viewFrom_slo, slo_some, slo_none, vE, vEs, vP, vT, vI, vTo, aft, noList, noLists, frz, frz1, tg_one, tg_tt, tg_tl, tgs_nil, tgs_cons, lenT, wipeD, parOk, setPar, noOwn]
  refine upL (n := 1) (by omega) (draw_spec 0 _ (by omega) (by omega) _ _ fun i i0 i1 => ?_)
  obtain ⟨j, rfl⟩ := Int.eq_ofNat_of_zero_le i0
  have h1 := h (ws.take j ++ (newS t, (p, q)) :: ws.drop j) (some (.int j)) (hw.add ht hl ok j)
  simp [slW, cutD_take, cutD_drop, binW, biW, tl, noL_tp, noL_ws, wpSs, wpS, wpE, wpEs, wpP, wpT, wpI, wpTo, viewOf, viewFrom, viewFrom_slo, slo_some, slo_none, vE, vEs, vP, vT, vI, vTo, aft, noList, noLists, frz, frz1, tg_one, tg_tt, tg_tl, tgs_nil, tgs_cons, lenT, wipeD, parOk, setPar, noOwn]
  refine ⟨by simpa using tl, ?_, by omega, by omega, ?_⟩
  · have : t = 0 ∨ t = 1 := by omega
    rcases this with rfl | rfl <;> decide +kernel
  · simpa [CrS, newS, wD, wl, slo_some] using h1
def mPts (p q : P2) : List P2 := [(q.1, p.2), (p.1 + 1, p.2 - 2), (q.1 * 2 - p.1, q.2 * 2 - p.2), ((p.1 + q.1).fdiv 2, (p.2 + q.2).fdiv 2), q]
def pPts (p q m : P2) : List (P2 × P2) := [(p, m), (m, q), (m, (m.1 - 5, m.2 + 3)), (p, q), ((p.1 - 3, p.2), (q.1, q.2 + 2))]
theorem ints_max {p q : P2} {m : Int} (h : ∀ y, y ∈ [(if p.1 < 0 then -p.1 else p.1), (if p.2 < 0 then -p.2 else p.2), (if q.1 < 0 then -q.1 else q.1), (if q.2 < 0 then -q.2 else q.2)] → y ≤ m) (hm : m ≤ 60) : Bt2 7 p ∧ Bt2 7 q := by
  have h1 := h _ (by simp : (if p.1 < 0 then -p.1 else p.1) ∈ _)
  have h2 := h _ (by simp : (if p.2 < 0 then -p.2 else p.2) ∈ _)
  have h3 := h _ (by simp : (if q.1 < 0 then -q.1 else q.1) ∈ _)
  have h4 := h _ (by simp : (if q.2 < 0 then -q.2 else q.2) ∈ _)
  unfold Bt2 Bt
  refine ⟨⟨?_, ?_⟩, ?_, ?_⟩
  · split at h1 <;> omega
  · split at h2 <;> omega
  · split at h3 <;> omega
  · split at h4 <;> omega
theorem cross_tail (n : Nat) (E : EPo) (De : En) (most : D) (t : Nat) (ht : t < 2) (ws : List Wl) (hw : PlanC t ws) (hl : ws.length < 9) (p q : P2) (z6 z7 z8 : Option D)
    (h : ∀ ws' z4 z5 z6 z7 z8, PlanC (t + 1) ws' → De.nx (CrS ws' most t z4 z5 z6 z7 z8)) :
    wpSs (phi T (n + 3)) E (.cons (.ite (.and (.cmp .ne (.var 4) (.var 5)) (.cmp .le (.bi .maxL (.cons (.lc [("x", 7)] (.one 7) (.seq (.bin .add (.var 4) (.var 5))) .no (.bi .abs (.cons (.var 7) .nil))) .nil)) (.int 60))) i__law_crossed_plan_1 .nil) .nil) De (CrS ws most t (some (tp p)) (some (tp q)) z6 z7 z8) := by
  have h1 := h ws (some (tp p)) (some (tp q)) z6 z7 z8 hw.mono
  have ad := fun ok => cross_add n E De most t ht ws hw hl p q ok z6 z7 z8 fun ws' z8 hw' => h ws' (some (tp p)) (some (tp q)) z6 z7 z8 hw'
  simp only [CrS, slo_some] at h1 ad
  simp [CrS, wpSs, wpS, wpE, wpEs, wpP, wpT, wpI, wpTo, viewOf, viewFrom, viewFrom_slo, slo_some, slo_none, vE, vEs, vP, vT, vI, vTo, aft, noList, noLists, frz, frz1, tg_one, tg_tt, tg_tl, tgs_nil, tgs_cons, lenT, wipeD, parOk, setPar, noOwn]
  rw [cw_ne, eqv_tp]
  refine ⟨.inl ⟨shp_tp p, shp_tp q⟩, ?_⟩
  by_cases e : p = q
  · rw [if_neg (by simp [e])]
    exact h1
  · rw [if_pos (by simpa using e)]
    simp [tp, t2, binW, biW, lcGo, wpSs, wpS, wpE, wpEs, wpP, wpT, wpI, wpTo, viewOf, viewFrom, viewFrom_slo, slo_some, slo_none, vE, vEs, vP, vT, vI, vTo, aft, noList, noLists, frz, frz1, tg_one, tg_tt, tg_tl, tgs_nil, tgs_cons, lenT, wipeD, parOk, setPar, noOwn]
    refine ⟨_, rfl, by simp, fun m _ hy => ?_⟩
    rw [cw_le]
    by_cases m6 : m ≤ 60
    · rw [if_pos (by simpa using m6)]
      obtain ⟨bp, bq⟩ := ints_max hy m6
      exact ad ⟨e, bp, bq⟩
    · rw [if_neg (by simpa using m6)]
      exact h1
theorem cross_par (Φ : Phi) (E : EPo) (De : En) (r : CSs) (n : Nat) (hΦ : Φ = phi T (n + 3)) (most : D) (t : Int) (ws : List Wl) (hok : ∀ w ∈ ws, okP w.2) (ne : ws ≠ []) (l9 : ws.length ≤ 9) (z4 z5 z6 z7 z8 : Option D)
    (h : ∀ p q : P2, Bt2 7 p → Bt2 7 q → wpSs Φ E r De (CrS ws most t (some (tp p)) (some (tp q)) z6 z7 z8)) :
    wpSs Φ E (.cons (.par [4, 5] [false, false] (.cons (.ix (.call "_law_pick" (.cons (.var 0) (.cons (.var 2) .nil))) (.int 1)) (.cons (.ix (.call "_law_pick" (.cons (.var 0) (.cons (.var 2) .nil))) (.int 2)) .nil))) r) De (CrS ws most t z4 z5 z6 z7 z8) := by
  subst hΦ
  have pk : ∀ R : DP, (∀ w ∈ ws, R (wD w)) → phi T (n + 3) "_law_pick" [deckD, .tuple (ws.map wD)] R E := fun R hR =>
    upL (n := 2) (by omega) (pickT_spec 0 _ (by simpa using ne) (by simp; omega) _ _ fun x hx => by obtain ⟨w, hw, rfl⟩ := List.mem_map.mp hx; exact hR w hw)
  simp only [CrS] at h ⊢
  simp [CrS, wpSs, wpS, wpE, wpEs, wpP, wpT, wpI, wpTo, viewOf, viewFrom, viewFrom_slo, slo_some, slo_none, vE, vEs, vP, vT, vI, vTo, aft, noList, noLists, frz, frz1, tg_one, tg_tt, tg_tl, tgs_nil, tgs_cons, lenT, wipeD, parOk, setPar, noOwn]
  refine pk _ fun w hw => ?_
  show ixW (wl w.1 w.2.1 w.2.2) _ _
  rw [ixw_1]
  refine pk _ fun v hv => ?_
  show ixW (wl v.1 v.2.1 v.2.2) _ _
  rw [ixw_2]
  exact h _ _ (hok w hw).2.1 (hok v hv).2.2
theorem cross_m (Φ : Phi) (E : EPo) (De : En) (r : CSs) (n : Nat) (hΦ : Φ = phi T (n + 3)) (most : D) (t : Int) (ws : List Wl) (p q : P2) (bp : Bt2 7 p) (bq : Bt2 7 q) (z6 z7 z8 : Option D)
    (h : ∀ m : P2, wpSs Φ E r De (CrS ws most t (some (tp p)) (some (tp q)) (some (tp m)) z7 z8)) :
    wpSs Φ E (.cons (.asg 6 (.call "_law_pick" (.cons (.var 0) (.cons (.lst (.cons (.tup (.cons (.ix (.var 5) (.int 0)) (.cons (.ix (.var 4) (.int 1)) .nil))) (.cons (.tup (.cons (.bin .add (.ix (.var 4) (.int 0)) (.int 1)) (.cons (.bin .sub (.ix (.var 4) (.int 1)) (.int 2)) .nil))) (.cons (.tup (.cons (.bin .sub (.bin .mul (.ix (.var 5) (.int 0)) (.int 2)) (.ix (.var 4) (.int 0))) (.cons (.bin .sub (.bin .mul (.ix (.var 5) (.int 1)) (.int 2)) (.ix (.var 4) (.int 1))) .nil))) (.cons (.tup (.cons (.bin .fdiv (.bin .add (.ix (.var 4) (.int 0)) (.ix (.var 5) (.int 0))) (.int 2)) (.cons (.bin .fdiv (.bin .add (.ix (.var 4) (.int 1)) (.ix (.var 5) (.int 1))) (.int 2)) .nil))) (.cons (.var 5) .nil)))))) .nil)))) r) De (CrS ws most t (some (tp p)) (some (tp q)) z6 z7 z8) := by
  subst hΦ
  have cm : ∀ i : Int, Bt 7 i → (L2.CMul i 2 ∨ L2.CMulW i 2) := fun i hi => hi.cm (k := 2) (by unfold Bt; decide)
  simp only [CrS] at h ⊢
  simp [CrS, ixp_0, ixp_1, bw_add, bw_sub, bw_mul, cm _ bq.1, cm _ bq.2, show (2 : Int).natAbs.log2 < 9000 by decide, binW, wpSs, wpS, wpE, wpEs, wpP, wpT, wpI, wpTo, viewOf, viewFrom, viewFrom_slo, slo_some, slo_none, vE, vEs, vP, vT, vI, vTo, aft, noList, noLists, frz, frz1, tg_one, tg_tt, tg_tl, tgs_nil, tgs_cons, lenT, wipeD, parOk, setPar, noOwn]
  refine ⟨by decide, ?_⟩
  refine upL (n := 2) (by omega) (pick_spec 0 _ (by simp) (by simp) _ _ fun x hx => ?_)
  have hx' : ∃ m : P2, x = tp m := by
    simp only [List.mem_cons, List.not_mem_nil, or_false] at hx
    rcases hx with rfl | rfl | rfl | rfl | rfl
    · exact ⟨(q.1, p.2), rfl⟩
    · exact ⟨(p.1 + 1, p.2 - 2), rfl⟩
    · exact ⟨(q.1 * 2 - p.1, q.2 * 2 - p.2), rfl⟩
    · exact ⟨((p.1 + q.1).fdiv 2, (p.2 + q.2).fdiv 2), rfl⟩
    · exact ⟨_, rfl⟩
  obtain ⟨m, rfl⟩ := hx'
  exact h m
theorem cross_pq (Φ : Phi) (E : EPo) (De : En) (r : CSs) (n : Nat) (hΦ : Φ = phi T (n + 3)) (most : D) (t : Int) (ws : List Wl) (p q m : P2) (z7 z8 : Option D)
    (h : ∀ p q : P2, wpSs Φ E r De (CrS ws most t (some (tp p)) (some (tp q)) (some (tp m)) z7 z8)) :
    wpSs Φ E (.cons (.asgT (.tup (.cons (.one 4) (.cons (.one 5) .nil))) (.call "_law_pick" (.cons (.var 0) (.cons (.lst (.cons (.tup (.cons (.var 4) (.cons (.var 6) .nil))) (.cons (.tup (.cons (.var 6) (.cons (.var 5) .nil))) (.cons (.tup (.cons (.var 6) (.cons (.tup (.cons (.bin .sub (.ix (.var 6) (.int 0)) (.int 5)) (.cons (.bin .add (.ix (.var 6) (.int 1)) (.int 3)) .nil))) .nil))) (.cons (.tup (.cons (.var 4) (.cons (.var 5) .nil))) (.cons (.tup (.cons (.tup (.cons (.bin .sub (.ix (.var 4) (.int 0)) (.int 3)) (.cons (.ix (.var 4) (.int 1)) .nil))) (.cons (.tup (.cons (.ix (.var 5) (.int 0)) (.cons (.bin .add (.ix (.var 5) (.int 1)) (.int 2)) .nil))) .nil))) .nil)))))) .nil)))) r) De (CrS ws most t (some (tp p)) (some (tp q)) (some (tp m)) z7 z8) := by
  subst hΦ
  simp only [CrS] at h ⊢
  simp [CrS, ixp_0, ixp_1, bw_add, bw_sub, wpSs, wpS, wpE, wpEs, wpP, wpT, wpI, wpTo, viewOf, viewFrom, viewFrom_slo, slo_some, slo_none, vE, vEs, vP, vT, vI, vTo, aft, noList, noLists, frz, frz1, tg_one, tg_tt, tg_tl, tgs_nil, tgs_cons, lenT, wipeD, parOk, setPar, noOwn]
  refine upL (n := 2) (by omega) (pick_spec 0 _ (by simp) (by simp) _ _ fun x hx => ?_)
  have hx' : ∃ a b : P2, x = .tuple [tp a, tp b] := by
    simp only [List.mem_cons, List.not_mem_nil, or_false] at hx
    rcases hx with rfl | rfl | rfl | rfl | rfl
    · exact ⟨_, _, rfl⟩
    · exact ⟨_, _, rfl⟩
    · exact ⟨m, (m.1 - 5, m.2 + 3), rfl⟩
    · exact ⟨_, _, rfl⟩
    · exact ⟨(p.1 - 3, p.2), (q.1, q.2 + 2), rfl⟩
  obtain ⟨a, b, rfl⟩ := hx'
  simp [noL_tp, wpSs, wpS, wpE, wpEs, wpP, wpT, wpI, wpTo, viewOf, viewFrom, viewFrom_slo, slo_some, slo_none, vE, vEs, vP, vT, vI, vTo, aft, noList, noLists, frz, frz1, tg_one, tg_tt, tg_tl, tgs_nil, tgs_cons, lenT, wipeD, parOk, setPar, noOwn]
  exact h a b
theorem cross_body (n : Nat) (E : EPo) (De : En) (most : D) (t : Nat) (ht : t < 2) (ws : List Wl) (hw : PlanC t ws) (z4 z5 z6 z7 z8 : Option D)
    (h : ∀ ws' z4 z5 z6 z7 z8, PlanC (t + 1) ws' → De.nx (CrS ws' most t z4 z5 z6 z7 z8)) :
    wpSs (phi T (n + 3)) E b__law_crossed_plan_1 De (CrS ws most t z4 z5 z6 z7 z8) := by
  have h1 := h ws z4 z5 z6 z7 z8 hw.mono
  have main : ∀ De' : En, (∀ ws' z4 z5 z6 z7 z8, PlanC (t + 1) ws' → De'.nx (CrS ws' most t z4 z5 z6 z7 z8)) → ws ≠ [] → ws.length < 9 → wpSs (phi T (n + 3)) E i__law_crossed_plan_2 De' (CrS ws most t z4 z5 z6 z7 z8) := fun De' h ne l9 => by
    unfold i__law_crossed_plan_2
    exact cross_par _ E De' _ n rfl most t ws hw.ok ne hw.few z4 z5 z6 z7 z8 fun p q bp bq =>
      cross_m _ E De' _ n rfl most t ws p q bp bq z6 z7 z8 fun m =>
      cross_pq _ E De' _ n rfl most t ws p q m z7 z8 fun p q => cross_tail n E De' most t ht ws hw l9 p q (some (tp m)) z7 z8 h
  simp only [CrS] at h1 main
  simp [b__law_crossed_plan_1, CrS, wpSs, wpS, wpE, wpEs, wpP, wpT, wpI, wpTo, viewOf, viewFrom, viewFrom_slo, slo_some, slo_none, vE, vEs, vP, vT, vI, vTo, aft, noList, noLists, frz, frz1, tg_one, tg_tt, tg_tl, tgs_nil, tgs_cons, lenT, wipeD, parOk, setPar, noOwn]
  rw [bi_len_tuple, cw_gt, List.length_map]
  by_cases pos : 0 < ws.length
  · rw [if_pos (by simpa using pos), bi_len_tuple, cw_lt, List.length_map]
    by_cases l9 : ws.length < 9
    · rw [if_pos (by rw [decide_eq_true_eq]; omega)]
      exact main _ h (fun e => by simp [e] at pos) l9
    · rw [if_neg (by rw [decide_eq_true_eq]; omega)]
      exact h1
  · rw [if_neg (by rw [decide_eq_true_eq]; omega)]
    exact h1
theorem crossed_plan_spec (n : Nat) (most : Int) (m0 : 0 ≤ most) (m9 : most ≤ 9) (Q : DP) (E : EPo) (h : ∀ ws : List Wl, PlanC 2 ws → Q (.tuple (ws.map wD))) : phi T (n + 7) "_law_crossed_plan" [deckD, .int most] Q E := by
  refine ⟨_, T__law_crossed_plan, rfl, ?_⟩
  show wpSs _ _ c__law_crossed_plan _ [.d deckD, .d (.int most), .no, .no, .no, .no, .no, .no, .no]
  have bd := fun (De : En) t ht ws hw z4 z5 z6 z7 z8 h => cross_body (n + 3) E De (.int most) t ht ws hw z4 z5 z6 z7 z8 h
  simp only [CrS] at bd
  have fin : ∀ ws z3 z4 z5 z6 z7 z8, PlanC 2 ws → wpSs (phi T (n + 6)) E j__law_crossed_plan_1 { nx := fun _ => Q .none, rt := Q } [.d deckD, .d (.int most), .d (.tuple (ws.map wD)), slo z3, slo z4, slo z5, slo z6, slo z7, slo z8] := fun ws z3 z4 z5 z6 z7 z8 hw => by
    simp [j__law_crossed_plan_1, wpSs, wpS, wpE, wpEs, wpP, wpT, wpI, wpTo, viewOf, viewFrom, viewFrom_slo, slo_some, slo_none, vE, vEs, vP, vT, vI, vTo, aft, noList, noLists, frz, frz1, tg_one, tg_tt, tg_tl, tgs_nil, tgs_cons, lenT, wipeD, parOk, setPar, noOwn]
    exact h ws hw
  refine ss_asg ?_
  simp [vE, wpSs, wpS, wpE, wpEs, wpP, wpT, wpI, wpTo, viewOf, viewFrom, viewFrom_slo, slo_some, slo_none, vE, vEs, vP, vT, vI, vTo, aft, noList, noLists, frz, frz1, tg_one, tg_tt, tg_tl, tgs_nil, tgs_cons, lenT, wipeD, parOk, setPar, noOwn]
  refine drawn_plan_spec n most m0 m9 _ _ fun ws hw hl => ?_
  have c0 := hw.c (by omega)
  refine upL (n := 2) (by omega) (pick_spec 0 _ (by simp) (by simp) _ _ fun x hx => ?_)
  have hx' : x = .int 0 ∨ x = .int 1 ∨ x = .int 2 := by
    simp only [List.mem_cons, List.not_mem_nil, or_false] at hx
    rcases hx with rfl | rfl | rfl | rfl <;> simp
  rcases hx' with rfl | rfl | rfl
  · simp [rngD, List.range_succ, forGo, wpSs, wpS, wpE, wpEs, wpP, wpT, wpI, wpTo, viewOf, viewFrom, viewFrom_slo, slo_some, slo_none, vE, vEs, vP, vT, vI, vTo, aft, noList, noLists, frz, frz1, tg_one, tg_tt, tg_tl, tgs_nil, tgs_cons, lenT, wipeD, parOk, setPar, noOwn]
    exact fin ws none none none none none none c0.mono.mono
  · simp [rngD, List.range_succ, forGo, wpSs, wpS, wpE, wpEs, wpP, wpT, wpI, wpTo, viewOf, viewFrom, viewFrom_slo, slo_some, slo_none, vE, vEs, vP, vT, vI, vTo, aft, noList, noLists, frz, frz1, tg_one, tg_tt, tg_tl, tgs_nil, tgs_cons, lenT, wipeD, parOk, setPar, noOwn]
    refine bd _ 0 (by decide) ws c0 none none none none none fun ws' z4 z5 z6 z7 z8 c1 => ?_
    exact fin ws' (some (.int 0)) z4 z5 z6 z7 z8 c1.mono
  · simp [rngD, List.range_succ, forGo, wpSs, wpS, wpE, wpEs, wpP, wpT, wpI, wpTo, viewOf, viewFrom, viewFrom_slo, slo_some, slo_none, vE, vEs, vP, vT, vI, vTo, aft, noList, noLists, frz, frz1, tg_one, tg_tt, tg_tl, tgs_nil, tgs_cons, lenT, wipeD, parOk, setPar, noOwn]
    refine bd _ 0 (by decide) ws c0 none none none none none fun ws' z4 z5 z6 z7 z8 c1 => ?_
    simp [forGo, wpSs, wpS, wpE, wpEs, wpP, wpT, wpI, wpTo, viewOf, viewFrom, viewFrom_slo, slo_some, slo_none, vE, vEs, vP, vT, vI, vTo, aft, noList, noLists, frz, frz1, tg_one, tg_tt, tg_tl, tgs_nil, tgs_cons, lenT, wipeD, parOk, setPar, noOwn]
    refine bd _ 1 (by decide) ws' c1 z4 z5 z6 z7 z8 fun ws2 z4 z5 z6 z7 z8 c2 => ?_
    exact fin ws2 (some (.int 1)) z4 z5 z6 z7 z8 c2
end Law

end
section
set_option Elab.async false
set_option linter.all false
set_option maxRecDepth 100000
set_option exponentiation.threshold 9000
/-! Pz4: a value in which one part is otherwise. -/
namespace Law
open PySem Ey
def SP (p w : Nat) : Nat := (p + 1) * (w + 10) + BB 1 w
theorem SP_succ (p w : Nat) : SP (p + 1) w = SP p w + w + 10 := by
  unfold SP
  rw [Nat.add_mul (p + 1) 1]
  omega
theorem SP_mono {p v w : Nat} (l : v ≤ w) : SP p v ≤ SP p w := by
  unfold SP BB
  have a : (p + 1) * (v + 10) ≤ (p + 1) * (w + 10) := Nat.mul_le_mul_left _ (by omega)
  omega
theorem SP_ge (p w : Nat) : BB 1 w + w + 10 ≤ SP p w := by
  unfold SP
  have : 1 * (w + 10) ≤ (p + 1) * (w + 10) := Nat.mul_le_mul_right _ (by omega)
  omega
theorem spoilt_here (n b : Nat) (hb : 45 ≤ b) (x : D) (p w : Nat) (hx : Gd p w x) (hib : ibs b x = true) (hw : w ≤ 38000) (Q : DP) (E : EPo) (De : En) (hrt : De.rt = Q) (h : ∀ y, Gd (p + 9) (SP p w) y → ibs (b + 3) y = true → Q y) :
    wpSs (phi T (n + 7)) E i__law_spoilt_1 De [.d deckD, .d x, .no] := by
  subst hrt
  have l := SP_ge p w
  have bent : phi T (n + 7) "_law_bent" [deckD, x, .int 1] De.rt E := bent_spec n b hb 1 x p w hx hib hw _ _ fun y hy hi => h y (hy.mono (by omega) (by omega)) hi
  simp [i__law_spoilt_1, j__law_spoilt_1, wpSs, wpS, wpE, wpEs, wpP, wpT, wpI, wpTo, viewOf, viewFrom, viewFrom_slo, slo_some, slo_none, vE, vEs, vP, vT, vI, vTo, aft, noList, noLists, frz, frz1, tg_one, tg_tt, tg_tl, tgs_nil, tgs_cons, lenT, wipeD, parOk, setPar, noOwn]
  refine upL (n := 1) (by omega) (lint_spec 0 x _ _ ?_)
  rw [tw_bool]
  cases e : isI x
  · simpa using bent
  · obtain ⟨i, rfl⟩ : ∃ i, x = .int i := by
      cases x <;> first | exact ⟨_, rfl⟩ | simp [isI] at e
    simp only [if_true]
    refine upL (n := 1) (by omega) (draw_spec 0 _ (by omega) (by omega) _ _ fun k _ _ => ?_)
    rw [cw_eq, eqv_ii]
    refine ⟨eq_ints, ?_⟩
    split
    · refine upL (n := 2) (by omega) (pick_spec 0 _ (by simp) (by simp) _ _ fun y hy => ?_)
      have hy' : ∃ m : Int, y = .int m ∧ m.natAbs ≤ 2 := by
        simp only [List.mem_cons, List.not_mem_nil, or_false] at hy
        rcases hy with rfl | rfl | rfl <;> exact ⟨_, rfl, by decide⟩
      obtain ⟨m, rfl, hm⟩ := hy'
      rw [bw_add]
      obtain ⟨j1, j2⟩ := hx.int_log
      have a := abs_log (i := i) (l := i.natAbs.log2) (Nat.le_refl _)
      have b4 : 4 ≤ 2 ^ (i.natAbs.log2 + 2) := Nat.le_trans (by decide : 4 ≤ 2 ^ 2) (Nat.pow_le_pow_right (by decide) (by omega))
      have c : 2 ^ (i.natAbs.log2 + 3) = 2 * 2 ^ (i.natAbs.log2 + 2) := by rw [show i.natAbs.log2 + 3 = i.natAbs.log2 + 2 + 1 by omega, Nat.pow_add]; omega
      have c2 : 2 ^ (i.natAbs.log2 + 2) = 2 * 2 ^ (i.natAbs.log2 + 1) := by rw [show i.natAbs.log2 + 2 = i.natAbs.log2 + 1 + 1 by omega, Nat.pow_add]; omega
      rw [ib_int] at hib
      have four : 4 ≤ 2 ^ b := Nat.le_trans (by decide : 4 ≤ 2 ^ 45) (Nat.pow_le_pow_right (by decide) hb)
      have pw : 2 ^ (b + 3) = 8 * 2 ^ b := by rw [Nat.pow_add]; omega
      have bb : BB 1 w = 2 * w + 18000 + 10 := rfl
      refine h _ (Gd.int (i.natAbs.log2 + 3) (by omega) (by omega) (by omega)) ?_
      rw [ib_int]
      omega
    · exact bent
theorem spoilt_spec (n b : Nat) (hb : 45 ≤ b) : ∀ (p : Nat) (x : D) (w : Nat), Gd p w x → ibs b x = true → w ≤ 38000 → ∀ (Q : DP) (E : EPo), (∀ y, Gd (p + 9) (SP p w) y → ibs (b + 3) y = true → Q y) → phi T (n + p + 8) "_law_spoilt" [deckD, x] Q E := by
  intro p
  induction p with
  | zero =>
    intro x w hx hib hw Q E h
    refine ⟨_, T__law_spoilt, rfl, ?_⟩
    show wpSs (phi T (n + 7)) _ c__law_spoilt _ [.d deckD, .d x, .no]
    have hh : ∀ De : En, De.rt = Q → wpSs (phi T (n + 7)) E i__law_spoilt_1 De [.d deckD, .d x, .no] := fun De e => spoilt_here n b hb x 0 w hx hib hw Q E De e fun y hy hi => h y (hy.mono (by omega) (by omega)) hi
    simp [c__law_spoilt, wpSs, wpS, wpE, wpEs, wpP, wpT, wpI, wpTo, viewOf, viewFrom, viewFrom_slo, slo_some, slo_none, vE, vEs, vP, vT, vI, vTo, aft, noList, noLists, frz, frz1, tg_one, tg_tt, tg_tl, tgs_nil, tgs_cons, lenT, wipeD, parOk, setPar, noOwn]
    cases x with
    | tuple xs =>
      obtain ⟨q, v, e, _⟩ := hx.of_tuple
      omega
    | _ =>
      simp [isiD, truW]
      exact hh _ rfl
  | succ p ih =>
    intro x w hx hib hw Q E h
    refine ⟨_, T__law_spoilt, rfl, ?_⟩
    show wpSs (phi T (n + (p + 1) + 7)) _ c__law_spoilt _ [.d deckD, .d x, .no]
    have hh : ∀ De : En, De.rt = Q → wpSs (phi T (n + (p + 1) + 7)) E i__law_spoilt_1 De [.d deckD, .d x, .no] := fun De e => spoilt_here (n + (p + 1)) b hb x (p + 1) w hx hib hw Q E De e fun y hy hi => h y (hy.mono (by omega) (by omega)) hi
    simp [c__law_spoilt, wpSs, wpS, wpE, wpEs, wpP, wpT, wpI, wpTo, viewOf, viewFrom, viewFrom_slo, slo_some, slo_none, vE, vEs, vP, vT, vI, vTo, aft, noList, noLists, frz, frz1, tg_one, tg_tt, tg_tl, tgs_nil, tgs_cons, lenT, wipeD, parOk, setPar, noOwn]
    cases x with
    | tuple xs =>
      simp [isiD, truW, cw_eq]
      refine ⟨.inr (.inl ⟨_, rfl, rfl⟩), ?_⟩
      obtain ⟨q, v, e1, rfl, g⟩ := hx.of_tuple
      cases e1
      have hl := g.len
      by_cases e0 : PyData.eqv (.tuple xs) (.tuple []) = true
      · rw [if_pos e0]
        exact hh _ rfl
      · rw [if_neg e0]
        have pos : 0 < xs.length := by
          cases xs with
          | nil => exact absurd (by rw [eqv_tt, eqvs_nil]) e0
          | cons _ _ => simp
        refine upL (n := 1) (by omega) (draw_spec 0 _ (by omega) (by omega) _ _ fun i i0 i9 => ?_)
        rw [eqv_ii]
        refine ⟨eq_ints, ?_⟩
        by_cases iz : i = 0
        · rw [if_pos (by simpa using iz)]
          exact hh _ rfl
        · rw [if_neg (by simpa using iz)]
          simp [j__law_spoilt_2, biW, wpSs, wpS, wpE, wpEs, wpP, wpT, wpI, wpTo, viewOf, viewFrom, viewFrom_slo, slo_some, slo_none, vE, vEs, vP, vT, vI, vTo, aft, noList, noLists, frz, frz1, tg_one, tg_tt, tg_tl, tgs_nil, tgs_cons, lenT, wipeD, parOk, setPar, noOwn]
          refine upL (n := 1) (by omega) (draw_spec 0 _ (by omega) (by omega) _ _ fun j j0 jl => ?_)
          obtain ⟨k, rfl⟩ := Int.eq_ofNat_of_zero_le j0
          have hk : k < xs.length := by omega
          have mem : xs[k] ∈ xs := List.getElem_mem hk
          simp [ixW, L2.atI, L2.ixN, hk, binW]
          refine ih xs[k] v (g.mem mem) (ib_tuple.mp hib _ mem) (by omega) _ _ fun y hy hyi => ?_
          have hm := ib_tuple.mp hib
          refine upL (n := 1) (by omega) (instead_spec 0 xs k hk (by omega) y _ _ (h _ ?_ (ib_tuple.mpr fun z hz => ?_)))
          rotate_left
          · simp only [List.mem_append, List.mem_singleton] at hz
            rcases hz with (hz | hz) | hz
            · exact ibs_mono (by omega) z (hm z (List.mem_of_mem_take hz))
            · rw [hz]; exact hyi
            · exact ibs_mono (by omega) z (hm z (List.mem_of_mem_drop hz))
          have b1 := SP_succ p (v + 4)
          have b2 : SP p v ≤ SP p (v + 4) := SP_mono (by omega)
          have tk : Gds p (wts (xs.take k)) (xs.take k) := ⟨(g.take k).nd, (g.take k).sh, (g.take k).dp, Nat.le_refl _⟩
          have dp : Gds p (wts (xs.drop (k + 1))) (xs.drop (k + 1)) := ⟨(g.drop (k + 1)).nd, (g.drop (k + 1)).sh, (g.drop (k + 1)).dp, Nat.le_refl _⟩
          have e : wts (xs.take k) + wts (xs.drop (k + 1)) ≤ v := by
            have e1 := wts_append (xs.take k) (xs.drop k)
            rw [List.take_append_drop, List.drop_eq_getElem_cons hk] at e1
            simp only [wts] at e1
            have := g.wt
            omega
          exact (Gd.tuple (((tk.mono (by omega : p ≤ p + 9) (Nat.le_refl _)).append (Gds.one hy)).append (dp.mono (by omega : p ≤ p + 9) (Nat.le_refl _)))).mono (by omega) (by omega)
    | _ =>
      simp [isiD, truW]
      exact hh _ rfl
end Law

end
section
set_option Elab.async false
set_option linter.all false
set_option maxRecDepth 100000
set_option exponentiation.threshold 9000
/-! Q1: rows of walls with different names; fault. -/
namespace Law
open PySem Ey
/-- what a law may ask of -/
structure Ask (x : D) : Prop where
  g : Gd 20 100000 x
  i : ibs 400 x = true
structure Wok (ws : List Wl) : Prop where
  nm : ∀ w ∈ ws, nameB (.str w.1) = true
  ok : ∀ w ∈ ws, okP w.2
  sh : ∀ w ∈ ws, (reprText w.1).length ≤ 20
  nd : (namesL ws).Nodup
  few : ws.length ≤ 9
theorem nm_name {s : Str} (h : PyData.str s ∈ nmL) : nameB (.str s) = true := by
  have e : nmL.all nameB = true := by decide +kernel
  exact List.all_eq_true.mp e _ h
theorem PlanC.wok {k : Nat} (hk : k ≤ 2) {ws : List Wl} (h : PlanC k ws) : Wok ws := by
  refine ⟨fun w hw => ?_, h.ok, fun w hw => (h.good hk w hw).1, h.nd, h.few⟩
  rcases h.nm w hw with m | ⟨j, l, e⟩
  · exact nm_name m
  · rw [e]; exact (newS_ok.1 j (by omega)).2.2
theorem Drawn.wok {ws : List Wl} (h : Drawn ws) (l : ws.length ≤ 9) : Wok ws := (h.c l).wok (by decide)
namespace Wok
variable {ws us : List Wl}
theorem sub (h : Wok ws) (s : us.Sublist ws) : Wok us :=
  ⟨fun w hw => h.nm w (s.mem hw), fun w hw => h.ok w (s.mem hw), fun w hw => h.sh w (s.mem hw), List.Nodup.sublist (show (namesL us).Sublist (namesL ws) from s.map _) h.nd, Nat.le_trans s.length_le h.few⟩
theorem good (h : Wok ws) : ∀ w ∈ ws, goodW w := fun w hw => ⟨h.sh w hw, (h.ok w hw).2⟩
theorem g (h : Wok ws) : Gd 3 7672 (.tuple (ws.map wD)) := (Gd.tuple (gd_ws h.good 9 h.few)).mono (by decide) (by decide)
theorem ib (h : Wok ws) : ∀ x ∈ ws.map wD, ibs 45 x = true := ib_ws h.good
theorem ask (h : Wok ws) : Ask (.tuple (ws.map wD)) := ⟨h.g.mono (by decide) (by decide), ib_tuple.mpr fun z hz => ibs_mono (by decide) z (h.ib z hz)⟩
theorem row (h : Wok ws) : Row (.tuple (ws.map wD)) := Row.of h.ask.g (Nat.le_refl _)
theorem okw (h : Wok ws) : ∀ w ∈ ws, okW w := fun w hw => ⟨(h.ok w hw).1, (h.ok w hw).2.1.mono (by decide), (h.ok w hw).2.2.mono (by decide)⟩
theorem seg (h : Wok ws) : ∀ w ∈ ws, segB (wD w) = true := fun w hw => by
  obtain ⟨s, ⟨a0, a1⟩, b0, b1⟩ := w
  show segB (.tuple [.str s, tp (a0, a1), tp (b0, b1)]) = true
  have ne : (a0, a1) ≠ (b0, b1) := (h.ok _ hw).1
  have nm : nameB (.str s) = true := h.nm _ hw
  simp only [segB, nm, Bool.true_and, eqv_tp]
  have e : decide ((a0, a1) = (b0, b1)) = false := decide_eq_false ne
  rw [e]
  rfl
theorem segs (h : Wok ws) : segsOf (.tuple (ws.map wD)) = some ws := by
  have al : (ws.map wD).all segB = true := List.all_eq_true.mpr fun x hx => by
    obtain ⟨w, hw, rfl⟩ := List.mem_map.mp hx
    exact h.seg w hw
  simp only [segsOf, al, if_true, List.map_map]
  congr 1
  refine (List.map_congr_left fun x hx => ?_).trans (List.map_id ws)
  rfl
theorem segsB (h : Wok ws) : segsB (.tuple (ws.map wD)) = true := by
  unfold Law.segsB
  rw [h.segs]
  exact decide_eq_true h.nd
theorem plan (h : Wok ws) : planB (.tuple (ws.map wD)) = isNone (fltD ws) := by
  unfold planB
  rw [h.segs]
  simp [h.nd]
theorem fault (n : Nat) (h : Wok ws) (Q : DP) (E : EPo) (hq : Q (fltD ws)) : phi T (n + 9) "fault" [.tuple (ws.map wD)] Q E := by
  refine ⟨_, T_fault, rfl, ?_⟩
  show wpSs _ _ c_fault _ [.d (.tuple (ws.map wD))]
  simp [c_fault, wpSs, wpS, wpE, wpEs, wpP, wpT, wpI, wpTo, viewOf, viewFrom, viewFrom_slo, slo_some, slo_none, vE, vEs, vP, vT, vI, vTo, aft, noList, noLists, frz, frz1, tg_one, tg_tt, tg_tl, tgs_nil, tgs_cons, lenT, wipeD, parOk, setPar, noOwn]
  refine are_segments_spec (n + 4) _ h.row _ _ ?_
  rw [h.segsB]
  simp [tw_bool, j_fault_1, wpSs, wpS, wpE, wpEs, wpP, wpT, wpI, wpTo, viewOf, viewFrom, viewFrom_slo, slo_some, slo_none, vE, vEs, vP, vT, vI, vTo, aft, noList, noLists, frz, frz1, tg_one, tg_tt, tg_tl, tgs_nil, tgs_cons, lenT, wipeD, parOk, setPar, noOwn]
  exact fault_of_spec n ws h.okw (by have := h.few; omega) _ _ hq
theorem lfault (n : Nat) (h : Wok ws) (Q : DP) (E : EPo) (hq : Q (fltD ws)) : phi T (n + 4) "_law_fault" [.tuple (ws.map wD)] Q E := lfault_spec n ws h.okw (by have := h.few; omega) _ _ hq
end Wok
theorem fault_bad (n : Nat) (x : D) (hx : Row x) (hb : segsB x = false) (Q : DP) (E : EPo) (h : E "BadPlan" x) : phi T (n + 5) "fault" [x] Q E := by
  refine ⟨_, T_fault, rfl, ?_⟩
  show wpSs _ _ c_fault _ [.d x]
  simp [c_fault, wpSs, wpS, wpE, wpEs, wpP, wpT, wpI, wpTo, viewOf, viewFrom, viewFrom_slo, slo_some, slo_none, vE, vEs, vP, vT, vI, vTo, aft, noList, noLists, frz, frz1, tg_one, tg_tt, tg_tl, tgs_nil, tgs_cons, lenT, wipeD, parOk, setPar, noOwn]
  refine are_segments_spec n _ hx _ _ ?_
  rw [hb]
  simp [tw_bool, wpSs, wpS, wpE, wpEs, wpP, wpT, wpI, wpTo, viewOf, viewFrom, viewFrom_slo, slo_some, slo_none, vE, vEs, vP, vT, vI, vTo, aft, noList, noLists, frz, frz1, tg_one, tg_tt, tg_tl, tgs_nil, tgs_cons, lenT, wipeD, parOk, setPar, noOwn]
  exact h
theorem flt_mem {ws : List Wl} {i j : Nat} : ∀ (r : List Wl) (k : Nat), r = ws.drop k → fltL ws k r = some (i, j) → ∃ v w, ws[i]? = some v ∧ ws[j]? = some w ∧ i < j ∧ crW v w = true
  | [], k, _, h => by simp [fltL] at h
  | w :: r, k, e, h => by
    have wk : ws[k]? = some w := by
      have := congrArg (fun l => l[0]?) e
      simpa using this.symm
    have er : r = ws.drop (k + 1) := by
      have := congrArg List.tail e
      simpa [List.tail_drop] using this
    simp only [fltL] at h
    split at h
    · rename_i j' hj
      cases h
      have h1 := List.find?_some hj
      have h2 := List.mem_of_find?_eq_some hj
      simp at h2
      unfold hits at h1
      split at h1
      · rename_i v hv
        exact ⟨w, v, wk, hv, by omega, h1⟩
      · cases h1
    · exact flt_mem r (k + 1) er h
theorem fltD_cases (ws : List Wl) : (fltD ws = .none ∧ isNone (fltD ws) = true) ∨ ∃ i j v w, fltD ws = meetT i j ∧ ws[i]? = some v ∧ ws[j]? = some w ∧ i < j ∧ crW v w = true := by
  unfold fltD
  cases e : fltL ws 0 ws with
  | none => exact .inl ⟨rfl, rfl⟩
  | some p =>
    obtain ⟨i, j⟩ := p
    obtain ⟨v, w, h1, h2, h3, h4⟩ := flt_mem ws 0 (by simp) e
    exact .inr ⟨i, j, v, w, rfl, h1, h2, h3, h4⟩
theorem flt_two {v w : Wl} (h : crW v w = true) : fltD [v, w] = meetT 0 1 := by
  have e : hits [v, w] v 1 = true := h
  simp [fltD, fltL, List.range_succ, e]
theorem crW_comm {v w : Wl} (hv : okP v.2) (hw : okP w.2) (h : crW v w = true) : crW w v = true := by
  unfold crW at h ⊢
  rw [cross_comm hv.1 hw.1, h]
theorem Wok.two {ws : List Wl} (h : Wok ws) {i j : Nat} {v w : Wl} (hi : ws[i]? = some v) (hj : ws[j]? = some w) (l : i < j) : Wok [v, w] ∧ Wok [w, v] := by
  have mv := List.mem_of_getElem? hi
  have mw := List.mem_of_getElem? hj
  have ne : v.1 ≠ w.1 := by
    obtain ⟨li, ei⟩ := List.getElem?_eq_some_iff.mp hi
    obtain ⟨lj, ej⟩ := List.getElem?_eq_some_iff.mp hj
    have := List.pairwise_iff_getElem.mp h.nd i j (by simpa [namesL] using li) (by simpa [namesL] using lj) l
    simpa [namesL, ei, ej] using this
  refine ⟨⟨fun u hu => ?_, fun u hu => ?_, fun u hu => ?_, by simpa [namesL] using ne, by simp⟩, ⟨fun u hu => ?_, fun u hu => ?_, fun u hu => ?_, by simpa [namesL] using Ne.symm ne, by simp⟩⟩ <;>
    (simp only [List.mem_cons, List.not_mem_nil, or_false] at hu; rcases hu with rfl | rfl) <;> first | exact h.nm _ ‹_› | exact h.ok _ ‹_› | exact h.sh _ ‹_›
theorem cw_ne_same {a : Str} {Q : Bool → Prop} (h : Q false) : cmpW .ne (.str a) (.str a) Q := by
  refine ⟨eq_strs, ?_⟩
  rw [eqv_ss]
  simpa using h
theorem noL_flt (ws : List Wl) : noList (fltD ws) = true := by
  rcases fltD_cases ws with ⟨e, _⟩ | ⟨i, j, v, w, e, _⟩ <;> rw [e] <;> simp [meetT, noList, noLists]
theorem two_shown (d : D) : (PyData.tuple [d, d]).shown = ((("(" : Str) ++ d.shown ++ ", " ++ d.shown) ++ ")") := by
  simp only [PyData.shown, PyData.shownAll, tupleText, Str.join, Str.append_assoc]
  rfl
end Law

end
section
set_option maxRecDepth 1000000
set_option linter.all false
set_option Elab.async false
namespace K07
open PySem PySem.Spec L2 Ey Law
def topS (i : Nat) : Stmt := PySem.Challenge.pw_eyeorder_k07_first_faults_of_plans.main.body.getD i (.Pass ⟨0, 0, 0, 0⟩)
def cf : Cfg where
  bl := ["abs", "all", "bool", "enumerate", "int", "isinstance", "len", "list", "max", "min", "range", "repr", "set", "str", "tuple", "zip"]
  gcd := true
  fn := (("is_integer" : Str), ["thing"]) :: (("are_integers" : Str), ["thing", "many"]) :: (("place_raw" : Str), ["x", "y", "w"]) :: (("corner" : Str), ["pair"]) :: (("line_raw" : Str), ["a", "b", "c"]) :: (("through_raw" : Str), ["p", "q"]) :: (("worth" : Str), ["line", "p"]) :: (("sign" : Str), ["number"]) :: (("side_raw" : Str), ["line", "p"]) :: (("meeting_raw" : Str), ["one", "other"]) :: (("direction_raw" : Str), ["x", "y"]) :: (("direction_to" : Str), ["p", "q"]) :: (("dot" : Str), ["one", "other"]) :: (("is_inside" : Str), ["p", "one", "other"]) :: (("vector" : Str), ["p", "q"]) :: (("is_on" : Str), ["p", "one", "other"]) :: (("is_sooner" : Str), ["p", "q", "direction"]) :: (("in_order" : Str), ["places", "direction"]) :: (("common_part" : Str), ["one", "other"]) :: (("is_name" : Str), ["thing"]) :: (("is_segment" : Str), ["thing"]) :: (("are_segments" : Str), ["thing"]) :: (("ends" : Str), ["wall"]) :: (("do_clash" : Str), ["one", "other"]) :: (("fault_of" : Str), ["walls"]) :: (("is_plan_value" : Str), ["thing"]) :: (("is_plan" : Str), ["thing"]) :: (("fault" : Str), ["walls"]) :: (("_law_draw" : Str), ["deck", "many"]) :: (("_law_pick" : Str), ["deck", "some"]) :: (("_law_is_integer" : Str), ["thing"]) :: (("_law_any" : Str), ["deck", "deep"]) :: (("_law_instead" : Str), ["some", "at", "item"]) :: (("_law_bent" : Str), ["deck", "thing", "deep"]) :: (("_law_are_integers" : Str), ["thing", "many"]) :: (("_law_is_name" : Str), ["thing"]) :: (("_law_sign" : Str), ["x"]) :: (("_law_is_segment" : Str), ["thing"]) :: (("_law_turn" : Str), ["p", "q", "r"]) :: (("_law_is_crossed" : Str), ["one", "other"]) :: (("_law_are_segments" : Str), ["thing"]) :: (("_law_fault" : Str), ["walls"]) :: (("_law_layouts" : Str), []) :: (("_law_moved" : Str), ["p", "many", "is_mirrored", "scale", "x", "y"]) :: (("_law_names" : Str), ["deck", "many"]) :: (("_law_free" : Str), ["deck", "many", "most"]) :: (("_law_drawn_plan" : Str), ["deck", "most"]) :: (("_law_crossed_plan" : Str), ["deck", "most"]) :: (("_law_told" : Str), ["walls", "way"]) :: []
  kw := [("fault", 0, ["walls"], [0])]
  er := ["BadPlan"]
  eb := ["BadPlan", "EyeError"]
  cn := [("LETTERS", .inr "abcdefghijklmnopqrstuvwxyz"), ("MOST_SIGNS", .inl 8), ("SIGNS", .inr "abcdefghijklmnopqrstuvwxyz0123456789")]
def n__law_told : List Str := ["walls", "way", "e"]
def c__law_told : CSs := .cons (.try (.cons (.ret (.tup (.cons (.str "told") (.cons (.ite (.cmp .eq (.var 1) (.int 0)) (.call "fault" (.cons (.var 0) .nil)) (.callK "fault" .nil ["walls"] (.cons (.var 0) .nil) [0])) .nil)))) .nil) [⟨"BadPlan", 2, (.tup (.cons (.str "plan") (.cons (.fld "thing") (.cons (.isi "EyeError") .nil))))⟩]) .nil
def f__law_told : Fn := ⟨n__law_told, ["walls", "way"], c__law_told⟩
def j_law_1 : CSs := .cons (.ite (.cmp .ne (.bi .repr (.cons (.call "fault" (.cons (.bin .add (.sl (.var 3) .no (.yes (.var 5))) (.sl (.var 3) (.yes (.bin .add (.var 5) (.int 1))) .no)) .nil)) .nil)) (.bi .repr (.cons (.call "_law_fault" (.cons (.bin .add (.sl (.var 3) .no (.yes (.var 5))) (.sl (.var 3) (.yes (.bin .add (.var 5) (.int 1))) .no)) .nil)) .nil))) (.cons (.ret (.bl false)) .nil) .nil) .nil
def i_law_1 : CSs := .cons (.asgT (.tup (.cons (.one 5) (.cons (.one 6) .nil))) (.sl (.var 4) (.yes (.int 1)) .no)) (.cons (.asg 7 (.tup (.cons (.ix (.var 3) (.var 5)) (.cons (.ix (.var 3) (.var 6)) .nil)))) (.cons (.ite (.cmp .ne (.bi .repr (.cons (.tup (.cons (.call "fault" (.cons (.var 7) .nil)) (.cons (.call "fault" (.cons (.rev (.var 7)) .nil)) (.cons (.call "is_plan" (.cons (.var 7) .nil)) .nil)))) .nil)) (.bi .repr (.cons (.tup (.cons (.tup (.cons (.str "meet") (.cons (.int 0) (.cons (.int 1) .nil)))) (.cons (.tup (.cons (.str "meet") (.cons (.int 0) (.cons (.int 1) .nil)))) (.cons (.bl false) .nil)))) .nil))) (.cons (.ret (.bl false)) .nil) .nil) j_law_1))
def j_law_2 : CSs := .cons (.asg 8 (.call "_law_pick" (.cons (.var 1) (.cons (.lst (.cons .non (.cons (.bi .list (.cons (.var 3) .nil)) (.cons (.bin .add (.var 3) (.tup (.cons .non .nil))) (.cons (.bin .add (.var 3) (.sl (.var 3) .no (.yes (.int 1)))) (.cons (.tup (.cons (.tup (.cons (.str "") (.cons (.tup (.cons (.int 0) (.cons (.int 0) .nil))) (.cons (.tup (.cons (.int 1) (.cons (.int 1) .nil))) .nil)))) .nil)) (.cons (.call "_law_bent" (.cons (.var 1) (.cons (.var 3) (.cons (.int 3) .nil)))) (.cons (.call "_law_any" (.cons (.var 1) (.cons (.int 2) .nil))) .nil)))))))) .nil)))) (.cons (.asg 9 (.bi .repr (.cons (.tup (.cons (.str "plan") (.cons (.var 8) (.cons (.bl true) .nil)))) .nil))) (.cons (.ite (.and (.not (.val (.call "_law_are_segments" (.cons (.var 8) .nil)))) (.or (.cmp .ne (.bi .repr (.cons (.tup (.cons (.call "_law_told" (.cons (.var 8) (.cons (.int 0) .nil))) (.cons (.call "_law_told" (.cons (.var 8) (.cons (.int 1) .nil))) .nil))) .nil)) (.bin .add (.bin .add (.bin .add (.bin .add (.str "(") (.var 9)) (.str ", ")) (.var 9)) (.str ")"))) (.cmp .ne (.bi .repr (.cons (.tup (.cons (.str "plan") (.cons (.var 8) (.cons (.bl true) .nil)))) .nil)) (.var 9)))) (.cons (.ret (.bl false)) .nil) .nil) .nil))
def j_law_3 : CSs := .cons (.ite (.cmp .notN (.var 4) .non) i_law_1 .nil) j_law_2
def b_law_1 : CSs := .cons (.asg 3 (.call "_law_crossed_plan" (.cons (.var 1) (.cons (.int 7) .nil)))) (.cons (.asg 4 (.call "_law_fault" (.cons (.var 3) .nil))) (.cons (.ite (.or (.cmp .ne (.bi .repr (.cons (.tup (.cons (.call "_law_told" (.cons (.var 3) (.cons (.int 0) .nil))) (.cons (.call "_law_told" (.cons (.var 3) (.cons (.int 1) .nil))) .nil))) .nil)) (.bi .repr (.cons (.bin .mul (.tup (.cons (.tup (.cons (.str "told") (.cons (.var 4) .nil))) .nil)) (.int 2)) .nil))) (.cmp .ne (.bi .repr (.cons (.call "is_plan" (.cons (.var 3) .nil)) .nil)) (.bi .repr (.cons (.cmp .isN (.var 4) .non) .nil)))) (.cons (.ret (.bl false)) .nil) .nil) j_law_3))
def j_law_4 : CSs := .cons (.ret (.bl true)) .nil
def n_law : List Str := ["script", "deck", "turn", "walls", "due", "i", "j", "two", "thing", "text"]
def c_law : CSs := .cons (.for (.one 2) (.rng1 (.int 6)) b_law_1) j_law_4
def s_is_integer : Stmt := topS 5
theorem ok_is_integer : okSs cf n_is_integer true (defScope s_is_integer) c_is_integer (defBody s_is_integer) = true := by decide +kernel
def s_are_integers : Stmt := topS 6
theorem ok_are_integers : okSs cf n_are_integers true (defScope s_are_integers) c_are_integers (defBody s_are_integers) = true := by decide +kernel
def s_place_raw : Stmt := topS 7
theorem ok_place_raw : okSs cf n_place_raw true (defScope s_place_raw) c_place_raw (defBody s_place_raw) = true := by decide +kernel
def s_corner : Stmt := topS 8
theorem ok_corner : okSs cf n_corner true (defScope s_corner) c_corner (defBody s_corner) = true := by decide +kernel
def s_line_raw : Stmt := topS 9
theorem ok_line_raw : okSs cf n_line_raw true (defScope s_line_raw) c_line_raw (defBody s_line_raw) = true := by decide +kernel
def s_through_raw : Stmt := topS 10
theorem ok_through_raw : okSs cf n_through_raw true (defScope s_through_raw) c_through_raw (defBody s_through_raw) = true := by decide +kernel
def s_worth : Stmt := topS 11
theorem ok_worth : okSs cf n_worth true (defScope s_worth) c_worth (defBody s_worth) = true := by decide +kernel
def s_sign : Stmt := topS 12
theorem ok_sign : okSs cf n_sign true (defScope s_sign) c_sign (defBody s_sign) = true := by decide +kernel
def s_side_raw : Stmt := topS 13
theorem ok_side_raw : okSs cf n_side_raw true (defScope s_side_raw) c_side_raw (defBody s_side_raw) = true := by decide +kernel
def s_meeting_raw : Stmt := topS 14
theorem ok_meeting_raw : okSs cf n_meeting_raw true (defScope s_meeting_raw) c_meeting_raw (defBody s_meeting_raw) = true := by decide +kernel
def s_direction_raw : Stmt := topS 15
theorem ok_direction_raw : okSs cf n_direction_raw true (defScope s_direction_raw) c_direction_raw (defBody s_direction_raw) = true := by decide +kernel
def s_direction_to : Stmt := topS 16
theorem ok_direction_to : okSs cf n_direction_to true (defScope s_direction_to) c_direction_to (defBody s_direction_to) = true := by decide +kernel
def s_dot : Stmt := topS 17
theorem ok_dot : okSs cf n_dot true (defScope s_dot) c_dot (defBody s_dot) = true := by decide +kernel
def s_is_inside : Stmt := topS 18
theorem ok_is_inside : okSs cf n_is_inside true (defScope s_is_inside) c_is_inside (defBody s_is_inside) = true := by decide +kernel
def s_vector : Stmt := topS 19
theorem ok_vector : okSs cf n_vector true (defScope s_vector) c_vector (defBody s_vector) = true := by decide +kernel
def s_is_on : Stmt := topS 20
theorem ok_is_on : okSs cf n_is_on true (defScope s_is_on) c_is_on (defBody s_is_on) = true := by decide +kernel
def s_is_sooner : Stmt := topS 21
theorem ok_is_sooner : okSs cf n_is_sooner true (defScope s_is_sooner) c_is_sooner (defBody s_is_sooner) = true := by decide +kernel
def s_in_order : Stmt := topS 22
theorem ok_in_order : okSs cf n_in_order true (defScope s_in_order) c_in_order (defBody s_in_order) = true := by decide +kernel
def s_common_part : Stmt := topS 23
theorem ok_common_part : okSs cf n_common_part true (defScope s_common_part) c_common_part (defBody s_common_part) = true := by decide +kernel
def s_is_name : Stmt := topS 28
theorem ok_is_name : okSs cf n_is_name true (defScope s_is_name) c_is_name (defBody s_is_name) = true := by decide +kernel
def s_is_segment : Stmt := topS 29
theorem ok_is_segment : okSs cf n_is_segment true (defScope s_is_segment) c_is_segment (defBody s_is_segment) = true := by decide +kernel
def s_are_segments : Stmt := topS 30
theorem ok_are_segments : okSs cf n_are_segments true (defScope s_are_segments) c_are_segments (defBody s_are_segments) = true := by decide +kernel
def s_ends : Stmt := topS 31
theorem ok_ends : okSs cf n_ends true (defScope s_ends) c_ends (defBody s_ends) = true := by decide +kernel
def s_do_clash : Stmt := topS 32
theorem ok_do_clash : okSs cf n_do_clash true (defScope s_do_clash) c_do_clash (defBody s_do_clash) = true := by decide +kernel
def s_fault_of : Stmt := topS 33
theorem ok_fault_of : okSs cf n_fault_of true (defScope s_fault_of) c_fault_of (defBody s_fault_of) = true := by decide +kernel
def s_is_plan_value : Stmt := topS 34
theorem ok_is_plan_value : okSs cf n_is_plan_value true (defScope s_is_plan_value) c_is_plan_value (defBody s_is_plan_value) = true := by decide +kernel
def s_is_plan : Stmt := topS 36
theorem ok_is_plan : okSs cf n_is_plan true (defScope s_is_plan) c_is_plan (defBody s_is_plan) = true := by decide +kernel
def s_fault : Stmt := topS 37
theorem ok_fault : okSs cf n_fault true (defScope s_fault) c_fault (defBody s_fault) = true := by decide +kernel
def s__law_draw : Stmt := topS 40
theorem ok__law_draw : okSs cf n__law_draw true (defScope s__law_draw) c__law_draw (defBody s__law_draw) = true := by decide +kernel
def s__law_pick : Stmt := topS 41
theorem ok__law_pick : okSs cf n__law_pick true (defScope s__law_pick) c__law_pick (defBody s__law_pick) = true := by decide +kernel
def s__law_is_integer : Stmt := topS 42
theorem ok__law_is_integer : okSs cf n__law_is_integer true (defScope s__law_is_integer) c__law_is_integer (defBody s__law_is_integer) = true := by decide +kernel
def s__law_any : Stmt := topS 43
theorem ok__law_any : okSs cf n__law_any true (defScope s__law_any) c__law_any (defBody s__law_any) = true := by decide +kernel
def s__law_instead : Stmt := topS 44
theorem ok__law_instead : okSs cf n__law_instead true (defScope s__law_instead) c__law_instead (defBody s__law_instead) = true := by decide +kernel
def s__law_bent : Stmt := topS 45
theorem ok__law_bent : okSs cf n__law_bent true (defScope s__law_bent) c__law_bent (defBody s__law_bent) = true := by decide +kernel
def s__law_are_integers : Stmt := topS 46
theorem ok__law_are_integers : okSs cf n__law_are_integers true (defScope s__law_are_integers) c__law_are_integers (defBody s__law_are_integers) = true := by decide +kernel
def s__law_is_name : Stmt := topS 47
theorem ok__law_is_name : okSs cf n__law_is_name true (defScope s__law_is_name) c__law_is_name (defBody s__law_is_name) = true := by decide +kernel
def s__law_sign : Stmt := topS 48
theorem ok__law_sign : okSs cf n__law_sign true (defScope s__law_sign) c__law_sign (defBody s__law_sign) = true := by decide +kernel
def s__law_is_segment : Stmt := topS 49
theorem ok__law_is_segment : okSs cf n__law_is_segment true (defScope s__law_is_segment) c__law_is_segment (defBody s__law_is_segment) = true := by decide +kernel
def s__law_turn : Stmt := topS 50
theorem ok__law_turn : okSs cf n__law_turn true (defScope s__law_turn) c__law_turn (defBody s__law_turn) = true := by decide +kernel
def s__law_is_crossed : Stmt := topS 51
theorem ok__law_is_crossed : okSs cf n__law_is_crossed true (defScope s__law_is_crossed) c__law_is_crossed (defBody s__law_is_crossed) = true := by decide +kernel
def s__law_are_segments : Stmt := topS 52
theorem ok__law_are_segments : okSs cf n__law_are_segments true (defScope s__law_are_segments) c__law_are_segments (defBody s__law_are_segments) = true := by decide +kernel
def s__law_fault : Stmt := topS 53
theorem ok__law_fault : okSs cf n__law_fault true (defScope s__law_fault) c__law_fault (defBody s__law_fault) = true := by decide +kernel
def s__law_layouts : Stmt := topS 54
theorem ok__law_layouts : okSs cf n__law_layouts true (defScope s__law_layouts) c__law_layouts (defBody s__law_layouts) = true := by decide +kernel
def s__law_moved : Stmt := topS 55
theorem ok__law_moved : okSs cf n__law_moved true (defScope s__law_moved) c__law_moved (defBody s__law_moved) = true := by decide +kernel
def s__law_names : Stmt := topS 56
theorem ok__law_names : okSs cf n__law_names true (defScope s__law_names) c__law_names (defBody s__law_names) = true := by decide +kernel
def s__law_free : Stmt := topS 57
theorem ok__law_free : okSs cf n__law_free true (defScope s__law_free) c__law_free (defBody s__law_free) = true := by decide +kernel
def s__law_drawn_plan : Stmt := topS 58
theorem ok__law_drawn_plan : okSs cf n__law_drawn_plan true (defScope s__law_drawn_plan) c__law_drawn_plan (defBody s__law_drawn_plan) = true := by decide +kernel
def s__law_crossed_plan : Stmt := topS 59
theorem ok__law_crossed_plan : okSs cf n__law_crossed_plan true (defScope s__law_crossed_plan) c__law_crossed_plan (defBody s__law_crossed_plan) = true := by decide +kernel
def s__law_told : Stmt := topS 60
theorem ok__law_told : okSs cf n__law_told true (defScope s__law_told) c__law_told (defBody s__law_told) = true := by decide +kernel
def s_law : Stmt := topS 61
theorem ok_law : okSs cf n_law true (defScope s_law) c_law ((defBody s_law).drop 1) = true := by decide +kernel
def tb : List (Str × Fn) := (("_law_told" : Str), f__law_told) :: []
def T : Tb := fun f => (Law.T f).or (tb.lookup f)
theorem sub : ∀ f F, Law.T f = some F → T f = some F := fun f F h => by simp [T, h]
theorem T__law_told : T "_law_told" = some f__law_told := by kernel_rfl
end K07

end
section
set_option Elab.async false
set_option linter.all false
set_option maxRecDepth 100000
set_option exponentiation.threshold 9000
namespace K07
open PySem Ey Law
theorem up {n m : Nat} (l : n ≤ m) {f : Str} {xs : List D} {Q : DP} {E : EPo} (h : phi Law.T n f xs Q E) : phi T m f xs Q E := phi_up sub l h
theorem told_ok (ws : List Wl) (hw : Wok ws) (k : Int) (Q : DP) (E : EPo) (h : Q (.tuple [.str "told", fltD ws])) : phi T 40 "_law_told" [.tuple (ws.map wD), .int k] Q E := by
  refine ⟨_, T__law_told, rfl, ?_⟩
  show wpSs _ _ c__law_told _ [.d (.tuple (ws.map wD)), .d (.int k), .no]
  simp [c__law_told, wpSs, wpS, wpE, wpEs, wpP, wpT, wpI, wpTo, viewOf, viewFrom, viewFrom_slo, slo_some, slo_none, vE, vEs, vP, vT, vI, vTo, aft, noList, noLists, frz, frz1, tg_one, tg_tt, tg_tl, tgs_nil, tgs_cons, lenT, wipeD, parOk, setPar, noOwn]
  rw [cw_eq]
  refine ⟨eq_ints, ?_⟩
  have fin : ∀ E', phi T 39 "fault" [.tuple (ws.map wD)] (fun d => Q (.tuple [.str "told", d])) E' := fun E' => up (n := 9) (by decide) (hw.fault 0 _ _ h)
  exact fin _
def planT (x : D) : D := .tuple [.str "plan", x, .bool true]
theorem told_bad (x : D) (hx : Row x) (hb : segsB x = false) (k : Int) (Q : DP) (E : EPo) (h : Q (planT x)) : phi T 40 "_law_told" [x, .int k] Q E := by
  refine ⟨_, T__law_told, rfl, ?_⟩
  show wpSs _ _ c__law_told _ [.d x, .d (.int k), .no]
  simp [c__law_told, wpSs, wpS, wpE, wpEs, wpP, wpT, wpI, wpTo, viewOf, viewFrom, viewFrom_slo, slo_some, slo_none, vE, vEs, vP, vT, vI, vTo, aft, noList, noLists, frz, frz1, tg_one, tg_tt, tg_tl, tgs_nil, tgs_cons, lenT, wipeD, parOk, setPar, noOwn]
  rw [cw_eq]
  refine ⟨eq_ints, ?_⟩
  have fin : phi T 39 "fault" [x] (fun d => Q (.tuple [.str "told", d])) (tryE E Q [⟨"BadPlan", 2, (.tup (.cons (.str "plan") (.cons (.fld "thing") (.cons (.isi "EyeError") .nil))))⟩]) := by
    refine up (n := 5) (by decide) (fault_bad 0 x hx hb _ _ ?_)
    simp only [tryE, show subE "BadPlan" "BadPlan" = true by decide, if_true]
    refine ⟨by decide, ?_⟩
    simpa only [planT, chD, chDs, show subE "BadPlan" "EyeError" = true by decide] using h
  exact fin
def St (ws : List Wl) (z2 z5 z6 z7 z8 z9 : Option D) : Sls := [.no, .d deckD, slo z2, .d (.tuple (ws.map wD)), .d (fltD ws), slo z5, slo z6, slo z7, slo z8, slo z9]
theorem main2 (De : En) (ws : List Wl) (x : D) (hx : Ask x) (hl : wt x ≤ 40000) (z2 z5 z6 z7 z9 : Option D) (hn : ∀ z8 z9, De.nx (St ws z2 z5 z6 z7 z8 z9)) :
    wpSs (phi T 40) E0 (.cons (.asg 9 (.bi .repr (.cons (.tup (.cons (.str "plan") (.cons (.var 8) (.cons (.bl true) .nil)))) .nil))) (.cons (.ite (.and (.not (.val (.call "_law_are_segments" (.cons (.var 8) .nil)))) (.or (.cmp .ne (.bi .repr (.cons (.tup (.cons (.call "_law_told" (.cons (.var 8) (.cons (.int 0) .nil))) (.cons (.call "_law_told" (.cons (.var 8) (.cons (.int 1) .nil))) .nil))) .nil)) (.bin .add (.bin .add (.bin .add (.bin .add (.str "(") (.var 9)) (.str ", ")) (.var 9)) (.str ")"))) (.cmp .ne (.bi .repr (.cons (.tup (.cons (.str "plan") (.cons (.var 8) (.cons (.bl true) .nil)))) .nil)) (.var 9)))) (.cons (.ret (.bl false)) .nil) .nil) .nil)) De (St ws z2 z5 z6 z7 (some x) z9) := by
  have gp : Gd 21 100200 (planT x) := (Gd.tuple (Gds.cons (p := 20) (Gd.dec (w := 20) (by decide +kernel)) (Gds.cons hx.g (Gds.one (Gd.bool (w := 10) (by decide)))))).mono (by decide) (by decide)
  have r1 := gp.repr (by decide) (by decide)
  have r2 : ReprOk (.tuple [planT x, planT x]) := (Gd.tuple (Gds.cons gp (Gds.one gp))).repr (by decide) (by decide)
  have n1 := hn (some x) (some (.str (planT x).shown))
  have row := Row.of hx.g (Nat.le_refl _)
  have ts := two_shown (planT x)
  have pl : (planT x).shown.length ≤ 40100 := by
    have h1 := shown_le (planT x)
    have h2 : (reprText ("plan" : Str)).length = 6 := by decide +kernel
    simp only [planT, wt, wts] at h1 h2
    unfold planT
    omega
  simp only [St, slo_some] at n1 ⊢
  unfold planT at *
  simp [bi_repr, r1, wpSs, wpS, wpE, wpEs, wpP, wpT, wpI, wpTo, viewOf, viewFrom, viewFrom_slo, slo_some, slo_none, vE, vEs, vP, vT, vI, vTo, aft, noList, noLists, frz, frz1, tg_one, tg_tt, tg_tl, tgs_nil, tgs_cons, lenT, wipeD, parOk, setPar, noOwn]
  refine up (n := 4) (by decide) (lare_segments_spec 0 x row _ _ ?_)
  rw [tw_bool]
  cases e : segsB x
  · rw [if_neg Bool.false_ne_true]
    refine told_bad x row e 0 _ _ ?_
    refine told_bad x row e 1 _ _ ?_
    unfold planT
    refine ⟨r2, ?_⟩
    have s1 : ("(" : Str).length = 1 := rfl
    have s2 : (", " : Str).length = 2 := rfl
    have s3 : (")" : Str).length = 1 := rfl
    simp only [binW, slen_append, s1, s2, s3]
    refine ⟨by omega, by omega, by omega, by omega, ?_⟩
    rw [← ts, cw_ne, eqv_ss]
    refine ⟨eq_strs, ?_⟩
    simp only [decide_true, Bool.not_true, Bool.false_eq_true, if_false]
    rw [cw_ne, eqv_ss]
    refine ⟨eq_strs, ?_⟩
    simp only [decide_true, Bool.not_true, Bool.false_eq_true, if_false]
    exact n1
  · rw [if_pos rfl]
    exact n1
theorem pick8 (De : En) (r : CSs) (ws : List Wl) (hw : Wok ws) (z2 z5 z6 z7 z8 z9 : Option D) (h : ∀ x, Ask x → wt x ≤ 40000 → wpSs (phi T 40) E0 r De (St ws z2 z5 z6 z7 (some x) z9)) :
    wpSs (phi T 40) E0 (.cons (.asg 8 (.call "_law_pick" (.cons (.var 1) (.cons (.lst (.cons .non (.cons (.bi .list (.cons (.var 3) .nil)) (.cons (.bin .add (.var 3) (.tup (.cons .non .nil))) (.cons (.bin .add (.var 3) (.sl (.var 3) .no (.yes (.int 1)))) (.cons (.tup (.cons (.tup (.cons (.str "") (.cons (.tup (.cons (.int 0) (.cons (.int 0) .nil))) (.cons (.tup (.cons (.int 1) (.cons (.int 1) .nil))) .nil)))) .nil)) (.cons (.call "_law_bent" (.cons (.var 1) (.cons (.var 3) (.cons (.int 3) .nil)))) (.cons (.call "_law_any" (.cons (.var 1) (.cons (.int 2) .nil))) .nil)))))))) .nil)))) r) De (St ws z2 z5 z6 z7 z8 z9) := by
  have ll : (ws.map wD).length ≤ 9 := by simpa using hw.few
  have gs : Gds 2 7668 (ws.map wD) := (gd_ws hw.good 9 hw.few).mono (by decide) (by decide)
  have ib' : ∀ x ∈ ws.map wD, ibs 400 x = true := fun x hx => ibs_mono (by decide) x (hw.ib x hx)
  have mk : ∀ {p w : Nat} {x : D}, Gd p w x → p ≤ 20 → w ≤ 40000 → ibs 400 x = true → Ask x ∧ wt x ≤ 40000 := fun g a b i => ⟨⟨g.mono a (by omega), i⟩, Nat.le_trans g.wt b⟩
  simp only [St, slo_some] at h ⊢
  simp [biW, slW, wpSs, wpS, wpE, wpEs, wpP, wpT, wpI, wpTo, viewOf, viewFrom, viewFrom_slo, slo_some, slo_none, vE, vEs, vP, vT, vI, vTo, aft, noList, noLists, frz, frz1, tg_one, tg_tt, tg_tl, tgs_nil, tgs_cons, lenT, wipeD, parOk, setPar, noOwn]
  have e1 : cutD (ws.map wD) none (some 1) = (ws.map wD).take 1 := by
    rw [show (some 1 : Option Int) = some ((1 : Nat) : Int) from rfl, cutD_take]
  simp only [binW, e1]
  refine ⟨by simp only [List.length_cons, List.length_nil]; omega, by simp only [List.length_take]; omega, ?_⟩
  refine up (n := 9) (by decide) (bent_spec 0 45 (by decide) 3 _ 3 7672 hw.g (ib_tuple.mpr hw.ib) (by decide) _ _ fun y gy iy => ?_)
  refine up (n := 5) (by decide) (any_spec 0 2 _ _ fun v gv iv => ?_)
  refine up (n := 2) (by decide) (pick_spec 0 _ (by simp) (by simp) _ _ fun x hx => ?_)
  have hx' : Ask x ∧ wt x ≤ 40000 := by
    simp only [List.mem_cons, List.not_mem_nil, or_false] at hx
    rcases hx with rfl | rfl | rfl | rfl | rfl | rfl | rfl
    · exact mk (Gd.none (p := 0) (w := 4) (by decide)) (by decide) (by decide) rfl
    · exact mk (Gd.list gs) (by decide) (by decide) (ib_list.mpr ib')
    · exact mk (Gd.tuple (gs.append (Gds.one (Gd.none (w := 4) (by decide))))) (by decide) (by decide) (ib_tuple.mpr fun z hz => (List.mem_append.mp hz).elim (ib' z) fun e => by rw [List.mem_singleton.mp e]; rfl)
    · exact mk (Gd.tuple (gs.append (gs.take 1))) (by decide) (by decide) (ib_tuple.mpr fun z hz => (List.mem_append.mp hz).elim (ib' z) fun e => ib' z (List.mem_of_mem_take e))
    · exact mk (Gd.dec (p := 4) (w := 2000) (by decide +kernel)) (by decide) (by decide) (by decide +kernel)
    · exact mk gy (by decide) (by decide) (ibs_mono (by decide) x iy)
    · exact mk gv (by decide) (by decide) (ibs_mono (by decide) x iv)
  exact h x hx'.1 hx'.2
theorem tail2 (De : En) (ws : List Wl) (hw : Wok ws) (z2 z5 z6 z7 z8 z9 : Option D) (hn : ∀ z8 z9, De.nx (St ws z2 z5 z6 z7 z8 z9)) : wpSs (phi T 40) E0 j_law_2 De (St ws z2 z5 z6 z7 z8 z9) := by
  unfold j_law_2
  exact pick8 De _ ws hw z2 z5 z6 z7 z8 z9 fun x hx hl => main2 De ws x hx hl z2 z5 z6 z7 z9 hn
theorem gd_flt (ws : List Wl) (l : ws.length ≤ 9) : Gd 1 1000 (fltD ws) := by
  rcases fltD_cases ws with ⟨e, _⟩ | ⟨i, j, v, w, e, hi, hj, l, _⟩
  · rw [e]; exact Gd.none (by decide)
  · obtain ⟨li, _⟩ := List.getElem?_eq_some_iff.mp hi
    obtain ⟨lj, _⟩ := List.getElem?_eq_some_iff.mp hj
    rw [e]
    exact (Gd.tuple (Gds.cons (p := 0) (Gd.dec (w := 20) (by decide +kernel)) (Gds.cons (Gd.int 4 (by decide) (by omega) (w := 200) (by decide)) (Gds.one (Gd.int 4 (by decide) (by omega) (w := 200) (by decide)))))).mono (by decide) (by decide)
theorem tail1 (De : En) (ws : List Wl) (hw : Wok ws) (i : Nat) (z2 z6 z7 z8 z9 : Option D) (hn : De.nx (St ws z2 (some (.int i)) z6 z7 z8 z9)) : wpSs (phi T 40) E0 j_law_1 De (St ws z2 (some (.int i)) z6 z7 z8 z9) := by
  have e1 : cutD (ws.map wD) none (some ((i : Nat) : Int)) ++ cutD (ws.map wD) (some ((i : Int) + 1)) none = (ws.take i ++ ws.drop (i + 1)).map wD := by
    rw [cutD_take, show ((i : Int) + 1) = ((i + 1 : Nat) : Int) by omega, cutD_drop]
    simp
  have sub : (ws.take i ++ ws.drop (i + 1)).Sublist ws := by
    have h1 : (ws.drop (i + 1)).Sublist (ws.drop i) := by
      have e : ws.drop (i + 1) = (ws.drop i).drop 1 := by rw [List.drop_drop]
      rw [e]
      exact List.drop_sublist 1 _
    have := List.Sublist.append (List.Sublist.refl (ws.take i)) h1
    rwa [List.take_append_drop] at this
  have hw' := hw.sub sub
  have ll : (ws.take i ++ ws.drop (i + 1)).length ≤ 9 := hw'.few
  have r := (gd_flt _ ll).repr (by decide) (by decide)
  simp only [St, slo_some] at hn ⊢
  simp [j_law_1, slW, bw_add, wpSs, wpS, wpE, wpEs, wpP, wpT, wpI, wpTo, viewOf, viewFrom, viewFrom_slo, slo_some, slo_none, vE, vEs, vP, vT, vI, vTo, aft, noList, noLists, frz, frz1, tg_one, tg_tt, tg_tl, tgs_nil, tgs_cons, lenT, wipeD, parOk, setPar, noOwn]
  have lf := hw.few
  simp only [binW, e1, bi_repr]
  refine ⟨by simp [cutD]; omega, ?_⟩
  refine up (n := 9) (by decide) (hw'.fault 0 _ _ ?_)
  refine ⟨r, by simp [cutD]; omega, ?_⟩
  refine up (n := 4) (by decide) (hw'.lfault 0 _ _ ?_)
  refine ⟨r, ?_⟩
  rw [cw_ne, eqv_ss]
  refine ⟨eq_strs, ?_⟩
  simp only [decide_true, Bool.not_true, Bool.false_eq_true, if_false]
  exact hn
theorem some1 (De : En) (ws : List Wl) (hw : Wok ws) (i j : Nat) (v w : Wl) (hi : ws[i]? = some v) (hj : ws[j]? = some w) (l : i < j) (cr : crW v w = true) (e : fltD ws = meetT i j) (z2 z5 z6 z7 z8 z9 : Option D) (hn : ∀ z5 z6 z7, De.nx (St ws z2 z5 z6 z7 z8 z9)) :
    wpSs (phi T 40) E0 i_law_1 De (St ws z2 z5 z6 z7 z8 z9) := by
  have t1 := fun z6 z7 => tail1 De ws hw i z2 z6 z7 z8 z9 (hn _ z6 z7)
  obtain ⟨w1, w2⟩ := hw.two hi hj l
  have li := (List.getElem?_eq_some_iff.mp hi).1
  have lj := (List.getElem?_eq_some_iff.mp hj).1
  have ei := (List.getElem?_eq_some_iff.mp hi).2
  have ej := (List.getElem?_eq_some_iff.mp hj).2
  have ov := hw.ok v (List.mem_of_getElem? hi)
  have ow := hw.ok w (List.mem_of_getElem? hj)
  have f1 := flt_two cr
  have f2 := flt_two (crW_comm ov ow cr)
  have p1 : planB (.tuple [wD v, wD w]) = false := by
    have := w1.plan
    rw [f1] at this
    exact this
  simp only [St, slo_some, e] at t1 ⊢
  have e2 : cutD [PyData.str "meet", .int i, .int j] (some 1) none = [.int i, .int j] := rfl
  have ixv : ∀ R : DP, ixW (.tuple (ws.map wD)) (.int i) R ↔ R (wD v) := fun R => by
    rw [ix_tuple, atI_nat (by simpa using li)]
    simp [li, ei]
  have ixw : ∀ R : DP, ixW (.tuple (ws.map wD)) (.int j) R ↔ R (wD w) := fun R => by
    rw [ix_tuple, atI_nat (by simpa using lj)]
    simp [lj, ej]
  have rr : ReprOk (.tuple [meetT 0 1, meetT 0 1, .bool false]) := (Gd.dec (p := 3) (w := 2000) (by decide +kernel)).repr (by decide) (by decide)
  simp [i_law_1, meetT, slW, e2, ixv, ixw, noL_wD, revW, wpSs, wpS, wpE, wpEs, wpP, wpT, wpI, wpTo, viewOf, viewFrom, viewFrom_slo, slo_some, slo_none, vE, vEs, vP, vT, vI, vTo, aft, noList, noLists, frz, frz1, tg_one, tg_tt, tg_tl, tgs_nil, tgs_cons, lenT, wipeD, parOk, setPar, noOwn]
  refine up (n := 9) (by decide) (w1.fault 0 _ _ ?_)
  refine up (n := 9) (by decide) (w2.fault 0 _ _ ?_)
  refine up (n := 10) (by decide) (is_plan_spec 0 _ w1.row w1.ask.i _ _ ?_)
  simp only [List.map_cons, List.map_nil]
  rw [f1, f2, p1, bi_repr]
  refine ⟨rr, rr, cw_ne_same ?_⟩
  rw [if_neg Bool.false_ne_true]
  exact t1 (some (.int j)) (some (.tuple [wD v, wD w]))
theorem tail3 (De : En) (ws : List Wl) (hw : Wok ws) (z2 z5 z6 z7 z8 z9 : Option D) (hn : ∀ z5 z6 z7 z8 z9, De.nx (St ws z2 z5 z6 z7 z8 z9)) : wpSs (phi T 40) E0 j_law_3 De (St ws z2 z5 z6 z7 z8 z9) := by
  have t2 := fun z5 z6 z7 => tail2 De ws hw z2 z5 z6 z7 z8 z9 (hn z5 z6 z7)
  have s1 := fun i j v w hi hj l cr e => some1 { De with nx := wpSs (phi T 40) E0 j_law_2 De } ws hw i j v w hi hj l cr e z2 z5 z6 z7 z8 z9 t2
  have t20 := t2 z5 z6 z7
  simp only [St] at t20 s1
  simp [j_law_3, St, wpSs, wpS, wpE, wpEs, wpP, wpT, wpI, wpTo, viewOf, viewFrom, viewFrom_slo, slo_some, slo_none, vE, vEs, vP, vT, vI, vTo, aft, noList, noLists, frz, frz1, tg_one, tg_tt, tg_tl, tgs_nil, tgs_cons, lenT, wipeD, parOk, setPar, noOwn]
  rw [cw_notN]
  rcases fltD_cases ws with ⟨e, e'⟩ | ⟨i, j, v, w, e, hi, hj, l, cr⟩
  · rw [e', Bool.not_true, if_neg Bool.false_ne_true]
    exact t20
  · have s2 := s1 i j v w hi hj l cr e
    have e' : isNone (fltD ws) = false := by rw [e]; rfl
    rw [e', Bool.not_false, if_pos rfl]
    exact s2
theorem body (De : En) (hn : ∀ z2 z3 z4 z5 z6 z7 z8 z9, De.nx [.no, .d deckD, slo z2, slo z3, slo z4, slo z5, slo z6, slo z7, slo z8, slo z9]) (z2 z3 z4 z5 z6 z7 z8 z9 : Option D) :
    wpSs (phi T 40) E0 b_law_1 De [.no, .d deckD, slo z2, slo z3, slo z4, slo z5, slo z6, slo z7, slo z8, slo z9] := by
  have t3 := fun ws hw => tail3 De ws hw z2 z5 z6 z7 z8 z9 fun z5 z6 z7 z8 z9 => hn z2 (some (.tuple (ws.map wD))) (some (fltD ws)) z5 z6 z7 z8 z9
  simp only [St] at t3
  refine ss_asg ?_
  simp [vE, vEs, wpSs, wpS, wpE, wpEs, wpP, wpT, wpI, wpTo, viewOf, viewFrom, viewFrom_slo, slo_some, slo_none, vE, vEs, vP, vT, vI, vTo, aft, noList, noLists, frz, frz1, tg_one, tg_tt, tg_tl, tgs_nil, tgs_cons, lenT, wipeD, parOk, setPar, noOwn]
  refine up (n := 7) (by decide) (crossed_plan_spec 0 7 (by decide) (by decide) _ _ fun ws hc => ?_)
  have hw := hc.wok (by decide)
  have gf := gd_flt ws hw.few
  have gt : Gd 3 2200 (.tuple [.tuple [.str "told", fltD ws], .tuple [.str "told", fltD ws]]) := by
    have h1 := Gd.tuple (Gds.cons (p := 1) (Gd.dec (x := .str "told") (w := 20) (by decide +kernel)) (Gds.one gf))
    exact (Gd.tuple (Gds.cons h1 (Gds.one h1))).mono (by decide) (by decide)
  have r1 := gt.repr (by decide) (by decide)
  have rb : ∀ b : Bool, ReprOk (.bool b) := fun b => (Gd.bool (p := 0) (w := 5) (by decide)).repr (by decide) (by decide)
  refine up (n := 4) (by decide) (hw.lfault 0 _ _ ?_)
  refine told_ok ws hw 0 _ _ ?_
  refine told_ok ws hw 1 _ _ ?_
  refine ⟨r1, ⟨by decide, by decide, by simp⟩, r1, cw_ne_same ?_⟩
  rw [if_neg Bool.false_ne_true]
  refine up (n := 10) (by decide) (is_plan_spec 0 _ hw.row hw.ask.i _ _ ?_)
  rw [hw.plan]
  refine ⟨rb _, rb _, cw_ne_same ?_⟩
  rw [if_neg Bool.false_ne_true]
  exact t3 ws hw
theorem wp_law : LawWp T 40 n_law.length 1 c_law := by
  show wpSs _ _ c_law _ [.no, .d deckD, .no, .no, .no, .no, .no, .no, .no, .no]
  simp [c_law, wpSs, wpS, wpE, wpEs, wpP, wpT, wpI, wpTo, viewOf, viewFrom, viewFrom_slo, slo_some, slo_none, vE, vEs, vP, vT, vI, vTo, aft, noList, noLists, frz, frz1, tg_one, tg_tt, tg_tl, tgs_nil, tgs_cons, lenT, wipeD, parOk, setPar, noOwn]
  refine for_inv (fun st => ∃ z2 z3 z4 z5 z6 z7 z8 z9, st = [.no, .d deckD, slo z2, slo z3, slo z4, slo z5, slo z6, slo z7, slo z8, slo z9]) ⟨none, none, none, none, none, none, none, none, rfl⟩ (fun x hx st hst De' hn ht _ _ => ?_) fun st hst => ?_
  · obtain ⟨z2, z3, z4, z5, z6, z7, z8, z9, rfl⟩ := hst
    exact body De' (fun z2 z3 z4 z5 z6 z7 z8 z9 => hn _ ⟨z2, z3, z4, z5, z6, z7, z8, z9, rfl⟩) (some x) z3 z4 z5 z6 z7 z8 z9
  · obtain ⟨z2, z3, z4, z5, z6, z7, z8, z9, rfl⟩ := hst
    simp [j_law_4, wpSs, wpS, wpE, wpEs, wpP, wpT, wpI, wpTo, viewOf, viewFrom, viewFrom_slo, slo_some, slo_none, vE, vEs, vP, vT, vI, vTo, aft, noList, noLists, frz, frz1, tg_one, tg_tt, tg_tl, tgs_nil, tgs_cons, lenT, wipeD, parOk, setPar, noOwn]
end K07

end
section
set_option maxRecDepth 1000000
set_option linter.all false
set_option Elab.async false
set_option maxHeartbeats 0
namespace K07
open PySem PySem.Spec PyProof.Rows L2 Ey Law
def s__law_deck : Stmt := topS 39
def n__law_deck : List Str := ["script", "seed", "mixed", "cell"]
theorem ok__law_deck : deckC cf n__law_deck ["script", "seed"] (defScope s__law_deck) 2 3 (defBody s__law_deck) = true := by decide +kernel
theorem okl : lawC cf n_law (defScope s_law) 1 1 c_law (defBody s_law) = true := by decide +kernel
theorem sc_is_integer : FnScope n_is_integer ["thing"] (defScope s_is_integer) := ⟨rfl, rfl, rfl, by decide +kernel, rfl, by decide +kernel, by decide +kernel⟩
theorem sc_are_integers : FnScope n_are_integers ["thing", "many"] (defScope s_are_integers) := ⟨rfl, rfl, rfl, by decide +kernel, rfl, by decide +kernel, by decide +kernel⟩
theorem sc_place_raw : FnScope n_place_raw ["x", "y", "w"] (defScope s_place_raw) := ⟨rfl, rfl, rfl, by decide +kernel, rfl, by decide +kernel, by decide +kernel⟩
theorem sc_corner : FnScope n_corner ["pair"] (defScope s_corner) := ⟨rfl, rfl, rfl, by decide +kernel, rfl, by decide +kernel, by decide +kernel⟩
theorem sc_line_raw : FnScope n_line_raw ["a", "b", "c"] (defScope s_line_raw) := ⟨rfl, rfl, rfl, by decide +kernel, rfl, by decide +kernel, by decide +kernel⟩
theorem sc_through_raw : FnScope n_through_raw ["p", "q"] (defScope s_through_raw) := ⟨rfl, rfl, rfl, by decide +kernel, rfl, by decide +kernel, by decide +kernel⟩
theorem sc_worth : FnScope n_worth ["line", "p"] (defScope s_worth) := ⟨rfl, rfl, rfl, by decide +kernel, rfl, by decide +kernel, by decide +kernel⟩
theorem sc_sign : FnScope n_sign ["number"] (defScope s_sign) := ⟨rfl, rfl, rfl, by decide +kernel, rfl, by decide +kernel, by decide +kernel⟩
theorem sc_side_raw : FnScope n_side_raw ["line", "p"] (defScope s_side_raw) := ⟨rfl, rfl, rfl, by decide +kernel, rfl, by decide +kernel, by decide +kernel⟩
theorem sc_meeting_raw : FnScope n_meeting_raw ["one", "other"] (defScope s_meeting_raw) := ⟨rfl, rfl, rfl, by decide +kernel, rfl, by decide +kernel, by decide +kernel⟩
theorem sc_direction_raw : FnScope n_direction_raw ["x", "y"] (defScope s_direction_raw) := ⟨rfl, rfl, rfl, by decide +kernel, rfl, by decide +kernel, by decide +kernel⟩
theorem sc_direction_to : FnScope n_direction_to ["p", "q"] (defScope s_direction_to) := ⟨rfl, rfl, rfl, by decide +kernel, rfl, by decide +kernel, by decide +kernel⟩
theorem sc_dot : FnScope n_dot ["one", "other"] (defScope s_dot) := ⟨rfl, rfl, rfl, by decide +kernel, rfl, by decide +kernel, by decide +kernel⟩
theorem sc_is_inside : FnScope n_is_inside ["p", "one", "other"] (defScope s_is_inside) := ⟨rfl, rfl, rfl, by decide +kernel, rfl, by decide +kernel, by decide +kernel⟩
theorem sc_vector : FnScope n_vector ["p", "q"] (defScope s_vector) := ⟨rfl, rfl, rfl, by decide +kernel, rfl, by decide +kernel, by decide +kernel⟩
theorem sc_is_on : FnScope n_is_on ["p", "one", "other"] (defScope s_is_on) := ⟨rfl, rfl, rfl, by decide +kernel, rfl, by decide +kernel, by decide +kernel⟩
theorem sc_is_sooner : FnScope n_is_sooner ["p", "q", "direction"] (defScope s_is_sooner) := ⟨rfl, rfl, rfl, by decide +kernel, rfl, by decide +kernel, by decide +kernel⟩
theorem sc_in_order : FnScope n_in_order ["places", "direction"] (defScope s_in_order) := ⟨rfl, rfl, rfl, by decide +kernel, rfl, by decide +kernel, by decide +kernel⟩
theorem sc_common_part : FnScope n_common_part ["one", "other"] (defScope s_common_part) := ⟨rfl, rfl, rfl, by decide +kernel, rfl, by decide +kernel, by decide +kernel⟩
theorem sc_is_name : FnScope n_is_name ["thing"] (defScope s_is_name) := ⟨rfl, rfl, rfl, by decide +kernel, rfl, by decide +kernel, by decide +kernel⟩
theorem sc_is_segment : FnScope n_is_segment ["thing"] (defScope s_is_segment) := ⟨rfl, rfl, rfl, by decide +kernel, rfl, by decide +kernel, by decide +kernel⟩
theorem sc_are_segments : FnScope n_are_segments ["thing"] (defScope s_are_segments) := ⟨rfl, rfl, rfl, by decide +kernel, rfl, by decide +kernel, by decide +kernel⟩
theorem sc_ends : FnScope n_ends ["wall"] (defScope s_ends) := ⟨rfl, rfl, rfl, by decide +kernel, rfl, by decide +kernel, by decide +kernel⟩
theorem sc_do_clash : FnScope n_do_clash ["one", "other"] (defScope s_do_clash) := ⟨rfl, rfl, rfl, by decide +kernel, rfl, by decide +kernel, by decide +kernel⟩
theorem sc_fault_of : FnScope n_fault_of ["walls"] (defScope s_fault_of) := ⟨rfl, rfl, rfl, by decide +kernel, rfl, by decide +kernel, by decide +kernel⟩
theorem sc_is_plan_value : FnScope n_is_plan_value ["thing"] (defScope s_is_plan_value) := ⟨rfl, rfl, rfl, by decide +kernel, rfl, by decide +kernel, by decide +kernel⟩
theorem sc_is_plan : FnScope n_is_plan ["thing"] (defScope s_is_plan) := ⟨rfl, rfl, rfl, by decide +kernel, rfl, by decide +kernel, by decide +kernel⟩
theorem sc_fault : FnScope n_fault ["walls"] (defScope s_fault) := ⟨rfl, rfl, rfl, by decide +kernel, rfl, by decide +kernel, by decide +kernel⟩
theorem sc__law_draw : FnScope n__law_draw ["deck", "many"] (defScope s__law_draw) := ⟨rfl, rfl, rfl, by decide +kernel, rfl, by decide +kernel, by decide +kernel⟩
theorem sc__law_pick : FnScope n__law_pick ["deck", "some"] (defScope s__law_pick) := ⟨rfl, rfl, rfl, by decide +kernel, rfl, by decide +kernel, by decide +kernel⟩
theorem sc__law_is_integer : FnScope n__law_is_integer ["thing"] (defScope s__law_is_integer) := ⟨rfl, rfl, rfl, by decide +kernel, rfl, by decide +kernel, by decide +kernel⟩
theorem sc__law_any : FnScope n__law_any ["deck", "deep"] (defScope s__law_any) := ⟨rfl, rfl, rfl, by decide +kernel, rfl, by decide +kernel, by decide +kernel⟩
theorem sc__law_instead : FnScope n__law_instead ["some", "at", "item"] (defScope s__law_instead) := ⟨rfl, rfl, rfl, by decide +kernel, rfl, by decide +kernel, by decide +kernel⟩
theorem sc__law_bent : FnScope n__law_bent ["deck", "thing", "deep"] (defScope s__law_bent) := ⟨rfl, rfl, rfl, by decide +kernel, rfl, by decide +kernel, by decide +kernel⟩
theorem sc__law_are_integers : FnScope n__law_are_integers ["thing", "many"] (defScope s__law_are_integers) := ⟨rfl, rfl, rfl, by decide +kernel, rfl, by decide +kernel, by decide +kernel⟩
theorem sc__law_is_name : FnScope n__law_is_name ["thing"] (defScope s__law_is_name) := ⟨rfl, rfl, rfl, by decide +kernel, rfl, by decide +kernel, by decide +kernel⟩
theorem sc__law_sign : FnScope n__law_sign ["x"] (defScope s__law_sign) := ⟨rfl, rfl, rfl, by decide +kernel, rfl, by decide +kernel, by decide +kernel⟩
theorem sc__law_is_segment : FnScope n__law_is_segment ["thing"] (defScope s__law_is_segment) := ⟨rfl, rfl, rfl, by decide +kernel, rfl, by decide +kernel, by decide +kernel⟩
theorem sc__law_turn : FnScope n__law_turn ["p", "q", "r"] (defScope s__law_turn) := ⟨rfl, rfl, rfl, by decide +kernel, rfl, by decide +kernel, by decide +kernel⟩
theorem sc__law_is_crossed : FnScope n__law_is_crossed ["one", "other"] (defScope s__law_is_crossed) := ⟨rfl, rfl, rfl, by decide +kernel, rfl, by decide +kernel, by decide +kernel⟩
theorem sc__law_are_segments : FnScope n__law_are_segments ["thing"] (defScope s__law_are_segments) := ⟨rfl, rfl, rfl, by decide +kernel, rfl, by decide +kernel, by decide +kernel⟩
theorem sc__law_fault : FnScope n__law_fault ["walls"] (defScope s__law_fault) := ⟨rfl, rfl, rfl, by decide +kernel, rfl, by decide +kernel, by decide +kernel⟩
theorem sc__law_layouts : FnScope n__law_layouts [] (defScope s__law_layouts) := ⟨rfl, rfl, rfl, by decide +kernel, rfl, by decide +kernel, by decide +kernel⟩
theorem sc__law_moved : FnScope n__law_moved ["p", "many", "is_mirrored", "scale", "x", "y"] (defScope s__law_moved) := ⟨rfl, rfl, rfl, by decide +kernel, rfl, by decide +kernel, by decide +kernel⟩
theorem sc__law_names : FnScope n__law_names ["deck", "many"] (defScope s__law_names) := ⟨rfl, rfl, rfl, by decide +kernel, rfl, by decide +kernel, by decide +kernel⟩
theorem sc__law_free : FnScope n__law_free ["deck", "many", "most"] (defScope s__law_free) := ⟨rfl, rfl, rfl, by decide +kernel, rfl, by decide +kernel, by decide +kernel⟩
theorem sc__law_drawn_plan : FnScope n__law_drawn_plan ["deck", "most"] (defScope s__law_drawn_plan) := ⟨rfl, rfl, rfl, by decide +kernel, rfl, by decide +kernel, by decide +kernel⟩
theorem sc__law_crossed_plan : FnScope n__law_crossed_plan ["deck", "most"] (defScope s__law_crossed_plan) := ⟨rfl, rfl, rfl, by decide +kernel, rfl, by decide +kernel, by decide +kernel⟩
theorem sc__law_told : FnScope n__law_told ["walls", "way"] (defScope s__law_told) := ⟨rfl, rfl, rfl, by decide +kernel, rfl, by decide +kernel, by decide +kernel⟩
theorem sc_law : FnScope n_law ["script"] (defScope s_law) := ⟨rfl, rfl, rfl, by decide +kernel, rfl, by decide +kernel, by decide +kernel⟩
theorem sc__law_deck : FnScope n__law_deck ["script", "seed"] (defScope s__law_deck) := ⟨rfl, rfl, rfl, by decide +kernel, rfl, by decide +kernel, by decide +kernel⟩
def ini (i j : Nat) : Stmt := match topS i with
  | .ClassDef _ _ _ b _ _ _ _ _ _ _ => b.getD j (.Pass ⟨0, 0, 0, 0⟩)
  | s => s
theorem all_mk {P : Program} {w : World} {K : PySem.W.Frag} {h : Heap} {mg : Str → Option Value} {fa fl f0 f1 f2 f3 f4 f5 f6 f7 f8 f9 f10 f11 f12 f13 f14 f15 f16 f17 f18 f19 f20 f21 f22 f23 f24 f25 f26 f27 f28 f29 f30 f31 f32 f33 f34 f35 f36 f37 f38 f39 f40 f41 f42 f43 f44 f45 f46 f47 f48 f49 E0 E1 I0 : Addr} (X : K.In h) (G : h.Ns mainGlobals mg) (hfa : mg "law" = some (.ref fa))
    {od0 an0 : Option Addr} {sl0 : Array (Option Value)} {oc0 kV0 dc0 pm0 cd0 ct0 : Value}
    (a0 : PySem.W.nsIn K mainGlobals "is_integer" = some (some (.ref f0)))
    (l0 : K.lookup f0 = some ⟨oc0, od0, .func (PySem.W.fnOf "is_integer" "is_integer" (defArgs s_is_integer) (defBody s_is_integer) (defScope s_is_integer) .none kV0 dc0 pm0 an0 cd0 ct0), sl0⟩)
    (c0 : PySem.W.codeIn K cd0 "is_integer" = true)
    (k0 : PySem.W.keepIn K (.ref f0) = true)
    {od1 an1 : Option Addr} {sl1 : Array (Option Value)} {oc1 kV1 dc1 pm1 cd1 ct1 : Value}
    (a1 : PySem.W.nsIn K mainGlobals "are_integers" = some (some (.ref f1)))
    (l1 : K.lookup f1 = some ⟨oc1, od1, .func (PySem.W.fnOf "are_integers" "are_integers" (defArgs s_are_integers) (defBody s_are_integers) (defScope s_are_integers) .none kV1 dc1 pm1 an1 cd1 ct1), sl1⟩)
    (c1 : PySem.W.codeIn K cd1 "are_integers" = true)
    (k1 : PySem.W.keepIn K (.ref f1) = true)
    {od2 an2 : Option Addr} {sl2 : Array (Option Value)} {oc2 kV2 dc2 pm2 cd2 ct2 : Value}
    (a2 : PySem.W.nsIn K mainGlobals "place_raw" = some (some (.ref f2)))
    (l2 : K.lookup f2 = some ⟨oc2, od2, .func (PySem.W.fnOf "place_raw" "place_raw" (defArgs s_place_raw) (defBody s_place_raw) (defScope s_place_raw) .none kV2 dc2 pm2 an2 cd2 ct2), sl2⟩)
    (c2 : PySem.W.codeIn K cd2 "place_raw" = true)
    (k2 : PySem.W.keepIn K (.ref f2) = true)
    {od3 an3 : Option Addr} {sl3 : Array (Option Value)} {oc3 kV3 dc3 pm3 cd3 ct3 : Value}
    (a3 : PySem.W.nsIn K mainGlobals "corner" = some (some (.ref f3)))
    (l3 : K.lookup f3 = some ⟨oc3, od3, .func (PySem.W.fnOf "corner" "corner" (defArgs s_corner) (defBody s_corner) (defScope s_corner) .none kV3 dc3 pm3 an3 cd3 ct3), sl3⟩)
    (c3 : PySem.W.codeIn K cd3 "corner" = true)
    (k3 : PySem.W.keepIn K (.ref f3) = true)
    {od4 an4 : Option Addr} {sl4 : Array (Option Value)} {oc4 kV4 dc4 pm4 cd4 ct4 : Value}
    (a4 : PySem.W.nsIn K mainGlobals "line_raw" = some (some (.ref f4)))
    (l4 : K.lookup f4 = some ⟨oc4, od4, .func (PySem.W.fnOf "line_raw" "line_raw" (defArgs s_line_raw) (defBody s_line_raw) (defScope s_line_raw) .none kV4 dc4 pm4 an4 cd4 ct4), sl4⟩)
    (c4 : PySem.W.codeIn K cd4 "line_raw" = true)
    (k4 : PySem.W.keepIn K (.ref f4) = true)
    {od5 an5 : Option Addr} {sl5 : Array (Option Value)} {oc5 kV5 dc5 pm5 cd5 ct5 : Value}
    (a5 : PySem.W.nsIn K mainGlobals "through_raw" = some (some (.ref f5)))
    (l5 : K.lookup f5 = some ⟨oc5, od5, .func (PySem.W.fnOf "through_raw" "through_raw" (defArgs s_through_raw) (defBody s_through_raw) (defScope s_through_raw) .none kV5 dc5 pm5 an5 cd5 ct5), sl5⟩)
    (c5 : PySem.W.codeIn K cd5 "through_raw" = true)
    (k5 : PySem.W.keepIn K (.ref f5) = true)
    {od6 an6 : Option Addr} {sl6 : Array (Option Value)} {oc6 kV6 dc6 pm6 cd6 ct6 : Value}
    (a6 : PySem.W.nsIn K mainGlobals "worth" = some (some (.ref f6)))
    (l6 : K.lookup f6 = some ⟨oc6, od6, .func (PySem.W.fnOf "worth" "worth" (defArgs s_worth) (defBody s_worth) (defScope s_worth) .none kV6 dc6 pm6 an6 cd6 ct6), sl6⟩)
    (c6 : PySem.W.codeIn K cd6 "worth" = true)
    (k6 : PySem.W.keepIn K (.ref f6) = true)
    {od7 an7 : Option Addr} {sl7 : Array (Option Value)} {oc7 kV7 dc7 pm7 cd7 ct7 : Value}
    (a7 : PySem.W.nsIn K mainGlobals "sign" = some (some (.ref f7)))
    (l7 : K.lookup f7 = some ⟨oc7, od7, .func (PySem.W.fnOf "sign" "sign" (defArgs s_sign) (defBody s_sign) (defScope s_sign) .none kV7 dc7 pm7 an7 cd7 ct7), sl7⟩)
    (c7 : PySem.W.codeIn K cd7 "sign" = true)
    (k7 : PySem.W.keepIn K (.ref f7) = true)
    {od8 an8 : Option Addr} {sl8 : Array (Option Value)} {oc8 kV8 dc8 pm8 cd8 ct8 : Value}
    (a8 : PySem.W.nsIn K mainGlobals "side_raw" = some (some (.ref f8)))
    (l8 : K.lookup f8 = some ⟨oc8, od8, .func (PySem.W.fnOf "side_raw" "side_raw" (defArgs s_side_raw) (defBody s_side_raw) (defScope s_side_raw) .none kV8 dc8 pm8 an8 cd8 ct8), sl8⟩)
    (c8 : PySem.W.codeIn K cd8 "side_raw" = true)
    (k8 : PySem.W.keepIn K (.ref f8) = true)
    {od9 an9 : Option Addr} {sl9 : Array (Option Value)} {oc9 kV9 dc9 pm9 cd9 ct9 : Value}
    (a9 : PySem.W.nsIn K mainGlobals "meeting_raw" = some (some (.ref f9)))
    (l9 : K.lookup f9 = some ⟨oc9, od9, .func (PySem.W.fnOf "meeting_raw" "meeting_raw" (defArgs s_meeting_raw) (defBody s_meeting_raw) (defScope s_meeting_raw) .none kV9 dc9 pm9 an9 cd9 ct9), sl9⟩)
    (c9 : PySem.W.codeIn K cd9 "meeting_raw" = true)
    (k9 : PySem.W.keepIn K (.ref f9) = true)
    {od10 an10 : Option Addr} {sl10 : Array (Option Value)} {oc10 kV10 dc10 pm10 cd10 ct10 : Value}
    (a10 : PySem.W.nsIn K mainGlobals "direction_raw" = some (some (.ref f10)))
    (l10 : K.lookup f10 = some ⟨oc10, od10, .func (PySem.W.fnOf "direction_raw" "direction_raw" (defArgs s_direction_raw) (defBody s_direction_raw) (defScope s_direction_raw) .none kV10 dc10 pm10 an10 cd10 ct10), sl10⟩)
    (c10 : PySem.W.codeIn K cd10 "direction_raw" = true)
    (k10 : PySem.W.keepIn K (.ref f10) = true)
    {od11 an11 : Option Addr} {sl11 : Array (Option Value)} {oc11 kV11 dc11 pm11 cd11 ct11 : Value}
    (a11 : PySem.W.nsIn K mainGlobals "direction_to" = some (some (.ref f11)))
    (l11 : K.lookup f11 = some ⟨oc11, od11, .func (PySem.W.fnOf "direction_to" "direction_to" (defArgs s_direction_to) (defBody s_direction_to) (defScope s_direction_to) .none kV11 dc11 pm11 an11 cd11 ct11), sl11⟩)
    (c11 : PySem.W.codeIn K cd11 "direction_to" = true)
    (k11 : PySem.W.keepIn K (.ref f11) = true)
    {od12 an12 : Option Addr} {sl12 : Array (Option Value)} {oc12 kV12 dc12 pm12 cd12 ct12 : Value}
    (a12 : PySem.W.nsIn K mainGlobals "dot" = some (some (.ref f12)))
    (l12 : K.lookup f12 = some ⟨oc12, od12, .func (PySem.W.fnOf "dot" "dot" (defArgs s_dot) (defBody s_dot) (defScope s_dot) .none kV12 dc12 pm12 an12 cd12 ct12), sl12⟩)
    (c12 : PySem.W.codeIn K cd12 "dot" = true)
    (k12 : PySem.W.keepIn K (.ref f12) = true)
    {od13 an13 : Option Addr} {sl13 : Array (Option Value)} {oc13 kV13 dc13 pm13 cd13 ct13 : Value}
    (a13 : PySem.W.nsIn K mainGlobals "is_inside" = some (some (.ref f13)))
    (l13 : K.lookup f13 = some ⟨oc13, od13, .func (PySem.W.fnOf "is_inside" "is_inside" (defArgs s_is_inside) (defBody s_is_inside) (defScope s_is_inside) .none kV13 dc13 pm13 an13 cd13 ct13), sl13⟩)
    (c13 : PySem.W.codeIn K cd13 "is_inside" = true)
    (k13 : PySem.W.keepIn K (.ref f13) = true)
    {od14 an14 : Option Addr} {sl14 : Array (Option Value)} {oc14 kV14 dc14 pm14 cd14 ct14 : Value}
    (a14 : PySem.W.nsIn K mainGlobals "vector" = some (some (.ref f14)))
    (l14 : K.lookup f14 = some ⟨oc14, od14, .func (PySem.W.fnOf "vector" "vector" (defArgs s_vector) (defBody s_vector) (defScope s_vector) .none kV14 dc14 pm14 an14 cd14 ct14), sl14⟩)
    (c14 : PySem.W.codeIn K cd14 "vector" = true)
    (k14 : PySem.W.keepIn K (.ref f14) = true)
    {od15 an15 : Option Addr} {sl15 : Array (Option Value)} {oc15 kV15 dc15 pm15 cd15 ct15 : Value}
    (a15 : PySem.W.nsIn K mainGlobals "is_on" = some (some (.ref f15)))
    (l15 : K.lookup f15 = some ⟨oc15, od15, .func (PySem.W.fnOf "is_on" "is_on" (defArgs s_is_on) (defBody s_is_on) (defScope s_is_on) .none kV15 dc15 pm15 an15 cd15 ct15), sl15⟩)
    (c15 : PySem.W.codeIn K cd15 "is_on" = true)
    (k15 : PySem.W.keepIn K (.ref f15) = true)
    {od16 an16 : Option Addr} {sl16 : Array (Option Value)} {oc16 kV16 dc16 pm16 cd16 ct16 : Value}
    (a16 : PySem.W.nsIn K mainGlobals "is_sooner" = some (some (.ref f16)))
    (l16 : K.lookup f16 = some ⟨oc16, od16, .func (PySem.W.fnOf "is_sooner" "is_sooner" (defArgs s_is_sooner) (defBody s_is_sooner) (defScope s_is_sooner) .none kV16 dc16 pm16 an16 cd16 ct16), sl16⟩)
    (c16 : PySem.W.codeIn K cd16 "is_sooner" = true)
    (k16 : PySem.W.keepIn K (.ref f16) = true)
    {od17 an17 : Option Addr} {sl17 : Array (Option Value)} {oc17 kV17 dc17 pm17 cd17 ct17 : Value}
    (a17 : PySem.W.nsIn K mainGlobals "in_order" = some (some (.ref f17)))
    (l17 : K.lookup f17 = some ⟨oc17, od17, .func (PySem.W.fnOf "in_order" "in_order" (defArgs s_in_order) (defBody s_in_order) (defScope s_in_order) .none kV17 dc17 pm17 an17 cd17 ct17), sl17⟩)
    (c17 : PySem.W.codeIn K cd17 "in_order" = true)
    (k17 : PySem.W.keepIn K (.ref f17) = true)
    {od18 an18 : Option Addr} {sl18 : Array (Option Value)} {oc18 kV18 dc18 pm18 cd18 ct18 : Value}
    (a18 : PySem.W.nsIn K mainGlobals "common_part" = some (some (.ref f18)))
    (l18 : K.lookup f18 = some ⟨oc18, od18, .func (PySem.W.fnOf "common_part" "common_part" (defArgs s_common_part) (defBody s_common_part) (defScope s_common_part) .none kV18 dc18 pm18 an18 cd18 ct18), sl18⟩)
    (c18 : PySem.W.codeIn K cd18 "common_part" = true)
    (k18 : PySem.W.keepIn K (.ref f18) = true)
    {od19 an19 : Option Addr} {sl19 : Array (Option Value)} {oc19 kV19 dc19 pm19 cd19 ct19 : Value}
    (a19 : PySem.W.nsIn K mainGlobals "is_name" = some (some (.ref f19)))
    (l19 : K.lookup f19 = some ⟨oc19, od19, .func (PySem.W.fnOf "is_name" "is_name" (defArgs s_is_name) (defBody s_is_name) (defScope s_is_name) .none kV19 dc19 pm19 an19 cd19 ct19), sl19⟩)
    (c19 : PySem.W.codeIn K cd19 "is_name" = true)
    (k19 : PySem.W.keepIn K (.ref f19) = true)
    {od20 an20 : Option Addr} {sl20 : Array (Option Value)} {oc20 kV20 dc20 pm20 cd20 ct20 : Value}
    (a20 : PySem.W.nsIn K mainGlobals "is_segment" = some (some (.ref f20)))
    (l20 : K.lookup f20 = some ⟨oc20, od20, .func (PySem.W.fnOf "is_segment" "is_segment" (defArgs s_is_segment) (defBody s_is_segment) (defScope s_is_segment) .none kV20 dc20 pm20 an20 cd20 ct20), sl20⟩)
    (c20 : PySem.W.codeIn K cd20 "is_segment" = true)
    (k20 : PySem.W.keepIn K (.ref f20) = true)
    {od21 an21 : Option Addr} {sl21 : Array (Option Value)} {oc21 kV21 dc21 pm21 cd21 ct21 : Value}
    (a21 : PySem.W.nsIn K mainGlobals "are_segments" = some (some (.ref f21)))
    (l21 : K.lookup f21 = some ⟨oc21, od21, .func (PySem.W.fnOf "are_segments" "are_segments" (defArgs s_are_segments) (defBody s_are_segments) (defScope s_are_segments) .none kV21 dc21 pm21 an21 cd21 ct21), sl21⟩)
    (c21 : PySem.W.codeIn K cd21 "are_segments" = true)
    (k21 : PySem.W.keepIn K (.ref f21) = true)
    {od22 an22 : Option Addr} {sl22 : Array (Option Value)} {oc22 kV22 dc22 pm22 cd22 ct22 : Value}
    (a22 : PySem.W.nsIn K mainGlobals "ends" = some (some (.ref f22)))
    (l22 : K.lookup f22 = some ⟨oc22, od22, .func (PySem.W.fnOf "ends" "ends" (defArgs s_ends) (defBody s_ends) (defScope s_ends) .none kV22 dc22 pm22 an22 cd22 ct22), sl22⟩)
    (c22 : PySem.W.codeIn K cd22 "ends" = true)
    (k22 : PySem.W.keepIn K (.ref f22) = true)
    {od23 an23 : Option Addr} {sl23 : Array (Option Value)} {oc23 kV23 dc23 pm23 cd23 ct23 : Value}
    (a23 : PySem.W.nsIn K mainGlobals "do_clash" = some (some (.ref f23)))
    (l23 : K.lookup f23 = some ⟨oc23, od23, .func (PySem.W.fnOf "do_clash" "do_clash" (defArgs s_do_clash) (defBody s_do_clash) (defScope s_do_clash) .none kV23 dc23 pm23 an23 cd23 ct23), sl23⟩)
    (c23 : PySem.W.codeIn K cd23 "do_clash" = true)
    (k23 : PySem.W.keepIn K (.ref f23) = true)
    {od24 an24 : Option Addr} {sl24 : Array (Option Value)} {oc24 kV24 dc24 pm24 cd24 ct24 : Value}
    (a24 : PySem.W.nsIn K mainGlobals "fault_of" = some (some (.ref f24)))
    (l24 : K.lookup f24 = some ⟨oc24, od24, .func (PySem.W.fnOf "fault_of" "fault_of" (defArgs s_fault_of) (defBody s_fault_of) (defScope s_fault_of) .none kV24 dc24 pm24 an24 cd24 ct24), sl24⟩)
    (c24 : PySem.W.codeIn K cd24 "fault_of" = true)
    (k24 : PySem.W.keepIn K (.ref f24) = true)
    {od25 an25 : Option Addr} {sl25 : Array (Option Value)} {oc25 kV25 dc25 pm25 cd25 ct25 : Value}
    (a25 : PySem.W.nsIn K mainGlobals "is_plan_value" = some (some (.ref f25)))
    (l25 : K.lookup f25 = some ⟨oc25, od25, .func (PySem.W.fnOf "is_plan_value" "is_plan_value" (defArgs s_is_plan_value) (defBody s_is_plan_value) (defScope s_is_plan_value) .none kV25 dc25 pm25 an25 cd25 ct25), sl25⟩)
    (c25 : PySem.W.codeIn K cd25 "is_plan_value" = true)
    (k25 : PySem.W.keepIn K (.ref f25) = true)
    {od26 an26 : Option Addr} {sl26 : Array (Option Value)} {oc26 kV26 dc26 pm26 cd26 ct26 : Value}
    (a26 : PySem.W.nsIn K mainGlobals "is_plan" = some (some (.ref f26)))
    (l26 : K.lookup f26 = some ⟨oc26, od26, .func (PySem.W.fnOf "is_plan" "is_plan" (defArgs s_is_plan) (defBody s_is_plan) (defScope s_is_plan) .none kV26 dc26 pm26 an26 cd26 ct26), sl26⟩)
    (c26 : PySem.W.codeIn K cd26 "is_plan" = true)
    (k26 : PySem.W.keepIn K (.ref f26) = true)
    {od27 an27 : Option Addr} {sl27 : Array (Option Value)} {oc27 kV27 dc27 pm27 cd27 ct27 : Value}
    (a27 : PySem.W.nsIn K mainGlobals "fault" = some (some (.ref f27)))
    (l27 : K.lookup f27 = some ⟨oc27, od27, .func (PySem.W.fnOf "fault" "fault" (defArgs s_fault) (defBody s_fault) (defScope s_fault) .none kV27 dc27 pm27 an27 cd27 ct27), sl27⟩)
    (c27 : PySem.W.codeIn K cd27 "fault" = true)
    (k27 : PySem.W.keepIn K (.ref f27) = true)
    {od28 an28 : Option Addr} {sl28 : Array (Option Value)} {oc28 kV28 dc28 pm28 cd28 ct28 : Value}
    (a28 : PySem.W.nsIn K mainGlobals "_law_draw" = some (some (.ref f28)))
    (l28 : K.lookup f28 = some ⟨oc28, od28, .func (PySem.W.fnOf "_law_draw" "_law_draw" (defArgs s__law_draw) (defBody s__law_draw) (defScope s__law_draw) .none kV28 dc28 pm28 an28 cd28 ct28), sl28⟩)
    (c28 : PySem.W.codeIn K cd28 "_law_draw" = true)
    (k28 : PySem.W.keepIn K (.ref f28) = true)
    {od29 an29 : Option Addr} {sl29 : Array (Option Value)} {oc29 kV29 dc29 pm29 cd29 ct29 : Value}
    (a29 : PySem.W.nsIn K mainGlobals "_law_pick" = some (some (.ref f29)))
    (l29 : K.lookup f29 = some ⟨oc29, od29, .func (PySem.W.fnOf "_law_pick" "_law_pick" (defArgs s__law_pick) (defBody s__law_pick) (defScope s__law_pick) .none kV29 dc29 pm29 an29 cd29 ct29), sl29⟩)
    (c29 : PySem.W.codeIn K cd29 "_law_pick" = true)
    (k29 : PySem.W.keepIn K (.ref f29) = true)
    {od30 an30 : Option Addr} {sl30 : Array (Option Value)} {oc30 kV30 dc30 pm30 cd30 ct30 : Value}
    (a30 : PySem.W.nsIn K mainGlobals "_law_is_integer" = some (some (.ref f30)))
    (l30 : K.lookup f30 = some ⟨oc30, od30, .func (PySem.W.fnOf "_law_is_integer" "_law_is_integer" (defArgs s__law_is_integer) (defBody s__law_is_integer) (defScope s__law_is_integer) .none kV30 dc30 pm30 an30 cd30 ct30), sl30⟩)
    (c30 : PySem.W.codeIn K cd30 "_law_is_integer" = true)
    (k30 : PySem.W.keepIn K (.ref f30) = true)
    {od31 an31 : Option Addr} {sl31 : Array (Option Value)} {oc31 kV31 dc31 pm31 cd31 ct31 : Value}
    (a31 : PySem.W.nsIn K mainGlobals "_law_any" = some (some (.ref f31)))
    (l31 : K.lookup f31 = some ⟨oc31, od31, .func (PySem.W.fnOf "_law_any" "_law_any" (defArgs s__law_any) (defBody s__law_any) (defScope s__law_any) .none kV31 dc31 pm31 an31 cd31 ct31), sl31⟩)
    (c31 : PySem.W.codeIn K cd31 "_law_any" = true)
    (k31 : PySem.W.keepIn K (.ref f31) = true)
    {od32 an32 : Option Addr} {sl32 : Array (Option Value)} {oc32 kV32 dc32 pm32 cd32 ct32 : Value}
    (a32 : PySem.W.nsIn K mainGlobals "_law_instead" = some (some (.ref f32)))
    (l32 : K.lookup f32 = some ⟨oc32, od32, .func (PySem.W.fnOf "_law_instead" "_law_instead" (defArgs s__law_instead) (defBody s__law_instead) (defScope s__law_instead) .none kV32 dc32 pm32 an32 cd32 ct32), sl32⟩)
    (c32 : PySem.W.codeIn K cd32 "_law_instead" = true)
    (k32 : PySem.W.keepIn K (.ref f32) = true)
    {od33 an33 : Option Addr} {sl33 : Array (Option Value)} {oc33 kV33 dc33 pm33 cd33 ct33 : Value}
    (a33 : PySem.W.nsIn K mainGlobals "_law_bent" = some (some (.ref f33)))
    (l33 : K.lookup f33 = some ⟨oc33, od33, .func (PySem.W.fnOf "_law_bent" "_law_bent" (defArgs s__law_bent) (defBody s__law_bent) (defScope s__law_bent) .none kV33 dc33 pm33 an33 cd33 ct33), sl33⟩)
    (c33 : PySem.W.codeIn K cd33 "_law_bent" = true)
    (k33 : PySem.W.keepIn K (.ref f33) = true)
    {od34 an34 : Option Addr} {sl34 : Array (Option Value)} {oc34 kV34 dc34 pm34 cd34 ct34 : Value}
    (a34 : PySem.W.nsIn K mainGlobals "_law_are_integers" = some (some (.ref f34)))
    (l34 : K.lookup f34 = some ⟨oc34, od34, .func (PySem.W.fnOf "_law_are_integers" "_law_are_integers" (defArgs s__law_are_integers) (defBody s__law_are_integers) (defScope s__law_are_integers) .none kV34 dc34 pm34 an34 cd34 ct34), sl34⟩)
    (c34 : PySem.W.codeIn K cd34 "_law_are_integers" = true)
    (k34 : PySem.W.keepIn K (.ref f34) = true)
    {od35 an35 : Option Addr} {sl35 : Array (Option Value)} {oc35 kV35 dc35 pm35 cd35 ct35 : Value}
    (a35 : PySem.W.nsIn K mainGlobals "_law_is_name" = some (some (.ref f35)))
    (l35 : K.lookup f35 = some ⟨oc35, od35, .func (PySem.W.fnOf "_law_is_name" "_law_is_name" (defArgs s__law_is_name) (defBody s__law_is_name) (defScope s__law_is_name) .none kV35 dc35 pm35 an35 cd35 ct35), sl35⟩)
    (c35 : PySem.W.codeIn K cd35 "_law_is_name" = true)
    (k35 : PySem.W.keepIn K (.ref f35) = true)
    {od36 an36 : Option Addr} {sl36 : Array (Option Value)} {oc36 kV36 dc36 pm36 cd36 ct36 : Value}
    (a36 : PySem.W.nsIn K mainGlobals "_law_sign" = some (some (.ref f36)))
    (l36 : K.lookup f36 = some ⟨oc36, od36, .func (PySem.W.fnOf "_law_sign" "_law_sign" (defArgs s__law_sign) (defBody s__law_sign) (defScope s__law_sign) .none kV36 dc36 pm36 an36 cd36 ct36), sl36⟩)
    (c36 : PySem.W.codeIn K cd36 "_law_sign" = true)
    (k36 : PySem.W.keepIn K (.ref f36) = true)
    {od37 an37 : Option Addr} {sl37 : Array (Option Value)} {oc37 kV37 dc37 pm37 cd37 ct37 : Value}
    (a37 : PySem.W.nsIn K mainGlobals "_law_is_segment" = some (some (.ref f37)))
    (l37 : K.lookup f37 = some ⟨oc37, od37, .func (PySem.W.fnOf "_law_is_segment" "_law_is_segment" (defArgs s__law_is_segment) (defBody s__law_is_segment) (defScope s__law_is_segment) .none kV37 dc37 pm37 an37 cd37 ct37), sl37⟩)
    (c37 : PySem.W.codeIn K cd37 "_law_is_segment" = true)
    (k37 : PySem.W.keepIn K (.ref f37) = true)
    {od38 an38 : Option Addr} {sl38 : Array (Option Value)} {oc38 kV38 dc38 pm38 cd38 ct38 : Value}
    (a38 : PySem.W.nsIn K mainGlobals "_law_turn" = some (some (.ref f38)))
    (l38 : K.lookup f38 = some ⟨oc38, od38, .func (PySem.W.fnOf "_law_turn" "_law_turn" (defArgs s__law_turn) (defBody s__law_turn) (defScope s__law_turn) .none kV38 dc38 pm38 an38 cd38 ct38), sl38⟩)
    (c38 : PySem.W.codeIn K cd38 "_law_turn" = true)
    (k38 : PySem.W.keepIn K (.ref f38) = true)
    {od39 an39 : Option Addr} {sl39 : Array (Option Value)} {oc39 kV39 dc39 pm39 cd39 ct39 : Value}
    (a39 : PySem.W.nsIn K mainGlobals "_law_is_crossed" = some (some (.ref f39)))
    (l39 : K.lookup f39 = some ⟨oc39, od39, .func (PySem.W.fnOf "_law_is_crossed" "_law_is_crossed" (defArgs s__law_is_crossed) (defBody s__law_is_crossed) (defScope s__law_is_crossed) .none kV39 dc39 pm39 an39 cd39 ct39), sl39⟩)
    (c39 : PySem.W.codeIn K cd39 "_law_is_crossed" = true)
    (k39 : PySem.W.keepIn K (.ref f39) = true)
    {od40 an40 : Option Addr} {sl40 : Array (Option Value)} {oc40 kV40 dc40 pm40 cd40 ct40 : Value}
    (a40 : PySem.W.nsIn K mainGlobals "_law_are_segments" = some (some (.ref f40)))
    (l40 : K.lookup f40 = some ⟨oc40, od40, .func (PySem.W.fnOf "_law_are_segments" "_law_are_segments" (defArgs s__law_are_segments) (defBody s__law_are_segments) (defScope s__law_are_segments) .none kV40 dc40 pm40 an40 cd40 ct40), sl40⟩)
    (c40 : PySem.W.codeIn K cd40 "_law_are_segments" = true)
    (k40 : PySem.W.keepIn K (.ref f40) = true)
    {od41 an41 : Option Addr} {sl41 : Array (Option Value)} {oc41 kV41 dc41 pm41 cd41 ct41 : Value}
    (a41 : PySem.W.nsIn K mainGlobals "_law_fault" = some (some (.ref f41)))
    (l41 : K.lookup f41 = some ⟨oc41, od41, .func (PySem.W.fnOf "_law_fault" "_law_fault" (defArgs s__law_fault) (defBody s__law_fault) (defScope s__law_fault) .none kV41 dc41 pm41 an41 cd41 ct41), sl41⟩)
    (c41 : PySem.W.codeIn K cd41 "_law_fault" = true)
    (k41 : PySem.W.keepIn K (.ref f41) = true)
    {od42 an42 : Option Addr} {sl42 : Array (Option Value)} {oc42 kV42 dc42 pm42 cd42 ct42 : Value}
    (a42 : PySem.W.nsIn K mainGlobals "_law_layouts" = some (some (.ref f42)))
    (l42 : K.lookup f42 = some ⟨oc42, od42, .func (PySem.W.fnOf "_law_layouts" "_law_layouts" (defArgs s__law_layouts) (defBody s__law_layouts) (defScope s__law_layouts) .none kV42 dc42 pm42 an42 cd42 ct42), sl42⟩)
    (c42 : PySem.W.codeIn K cd42 "_law_layouts" = true)
    (k42 : PySem.W.keepIn K (.ref f42) = true)
    {od43 an43 : Option Addr} {sl43 : Array (Option Value)} {oc43 kV43 dc43 pm43 cd43 ct43 : Value}
    (a43 : PySem.W.nsIn K mainGlobals "_law_moved" = some (some (.ref f43)))
    (l43 : K.lookup f43 = some ⟨oc43, od43, .func (PySem.W.fnOf "_law_moved" "_law_moved" (defArgs s__law_moved) (defBody s__law_moved) (defScope s__law_moved) .none kV43 dc43 pm43 an43 cd43 ct43), sl43⟩)
    (c43 : PySem.W.codeIn K cd43 "_law_moved" = true)
    (k43 : PySem.W.keepIn K (.ref f43) = true)
    {od44 an44 : Option Addr} {sl44 : Array (Option Value)} {oc44 kV44 dc44 pm44 cd44 ct44 : Value}
    (a44 : PySem.W.nsIn K mainGlobals "_law_names" = some (some (.ref f44)))
    (l44 : K.lookup f44 = some ⟨oc44, od44, .func (PySem.W.fnOf "_law_names" "_law_names" (defArgs s__law_names) (defBody s__law_names) (defScope s__law_names) .none kV44 dc44 pm44 an44 cd44 ct44), sl44⟩)
    (c44 : PySem.W.codeIn K cd44 "_law_names" = true)
    (k44 : PySem.W.keepIn K (.ref f44) = true)
    {od45 an45 : Option Addr} {sl45 : Array (Option Value)} {oc45 kV45 dc45 pm45 cd45 ct45 : Value}
    (a45 : PySem.W.nsIn K mainGlobals "_law_free" = some (some (.ref f45)))
    (l45 : K.lookup f45 = some ⟨oc45, od45, .func (PySem.W.fnOf "_law_free" "_law_free" (defArgs s__law_free) (defBody s__law_free) (defScope s__law_free) .none kV45 dc45 pm45 an45 cd45 ct45), sl45⟩)
    (c45 : PySem.W.codeIn K cd45 "_law_free" = true)
    (k45 : PySem.W.keepIn K (.ref f45) = true)
    {od46 an46 : Option Addr} {sl46 : Array (Option Value)} {oc46 kV46 dc46 pm46 cd46 ct46 : Value}
    (a46 : PySem.W.nsIn K mainGlobals "_law_drawn_plan" = some (some (.ref f46)))
    (l46 : K.lookup f46 = some ⟨oc46, od46, .func (PySem.W.fnOf "_law_drawn_plan" "_law_drawn_plan" (defArgs s__law_drawn_plan) (defBody s__law_drawn_plan) (defScope s__law_drawn_plan) .none kV46 dc46 pm46 an46 cd46 ct46), sl46⟩)
    (c46 : PySem.W.codeIn K cd46 "_law_drawn_plan" = true)
    (k46 : PySem.W.keepIn K (.ref f46) = true)
    {od47 an47 : Option Addr} {sl47 : Array (Option Value)} {oc47 kV47 dc47 pm47 cd47 ct47 : Value}
    (a47 : PySem.W.nsIn K mainGlobals "_law_crossed_plan" = some (some (.ref f47)))
    (l47 : K.lookup f47 = some ⟨oc47, od47, .func (PySem.W.fnOf "_law_crossed_plan" "_law_crossed_plan" (defArgs s__law_crossed_plan) (defBody s__law_crossed_plan) (defScope s__law_crossed_plan) .none kV47 dc47 pm47 an47 cd47 ct47), sl47⟩)
    (c47 : PySem.W.codeIn K cd47 "_law_crossed_plan" = true)
    (k47 : PySem.W.keepIn K (.ref f47) = true)
    {od48 an48 : Option Addr} {sl48 : Array (Option Value)} {oc48 kV48 dc48 pm48 cd48 ct48 : Value}
    (a48 : PySem.W.nsIn K mainGlobals "_law_told" = some (some (.ref f48)))
    (l48 : K.lookup f48 = some ⟨oc48, od48, .func (PySem.W.fnOf "_law_told" "_law_told" (defArgs s__law_told) (defBody s__law_told) (defScope s__law_told) .none kV48 dc48 pm48 an48 cd48 ct48), sl48⟩)
    (c48 : PySem.W.codeIn K cd48 "_law_told" = true)
    (k48 : PySem.W.keepIn K (.ref f48) = true)
    {od49 an49 : Option Addr} {sl49 : Array (Option Value)} {oc49 kV49 dc49 pm49 cd49 ct49 : Value}
    (a49 : PySem.W.nsIn K mainGlobals "_law_deck" = some (some (.ref f49)))
    (l49 : K.lookup f49 = some ⟨oc49, od49, .func (PySem.W.fnOf "_law_deck" "_law_deck" (defArgs s__law_deck) (defBody s__law_deck) (defScope s__law_deck) .none kV49 dc49 pm49 an49 cd49 ct49), sl49⟩)
    (c49 : PySem.W.codeIn K cd49 "_law_deck" = true)
    (k49 : PySem.W.keepIn K (.ref f49) = true)
    {od50 an50 : Option Addr} {sl50 : Array (Option Value)} {oc50 kV50 dc50 pm50 cd50 ct50 : Value}
    (a50 : PySem.W.nsIn K mainGlobals "law" = some (some (.ref fl)))
    (l50 : K.lookup fl = some ⟨oc50, od50, .func (PySem.W.fnOf "law" "law" (defArgs s_law) (defBody s_law) (defScope s_law) .none kV50 dc50 pm50 an50 cd50 ct50), sl50⟩)
    (c50 : PySem.W.codeIn K cd50 "law" = true)
    (k50 : PySem.W.keepIn K (.ref fl) = true)
    (z0 : PySem.W.nsIn K mainGlobals "abs" = some none)
    (z1 : PySem.W.nsIn K mainGlobals "all" = some none)
    (z2 : PySem.W.nsIn K mainGlobals "bool" = some none)
    (z3 : PySem.W.nsIn K mainGlobals "enumerate" = some none)
    (z4 : PySem.W.nsIn K mainGlobals "int" = some none)
    (z5 : PySem.W.nsIn K mainGlobals "isinstance" = some none)
    (z6 : PySem.W.nsIn K mainGlobals "len" = some none)
    (z7 : PySem.W.nsIn K mainGlobals "list" = some none)
    (z8 : PySem.W.nsIn K mainGlobals "max" = some none)
    (z9 : PySem.W.nsIn K mainGlobals "min" = some none)
    (z10 : PySem.W.nsIn K mainGlobals "range" = some none)
    (z11 : PySem.W.nsIn K mainGlobals "repr" = some none)
    (z12 : PySem.W.nsIn K mainGlobals "set" = some none)
    (z13 : PySem.W.nsIn K mainGlobals "str" = some none)
    (z14 : PySem.W.nsIn K mainGlobals "tuple" = some none)
    (z15 : PySem.W.nsIn K mainGlobals "zip" = some none)
    (zg : PySem.W.nsIn K mainGlobals "gcd" = some (some (.builtin "math.gcd")))
    (ea0 : PySem.W.nsIn K mainGlobals "BadPlan" = some (some (.ref E0)))
    (ebx0 : PySem.W.subIn K (.ref E0) (.type "BaseException") = some true)
    (ecl0 : PySem.W.isClsIn K E0 = true)
    (ety0 : PySem.W.typeIn K (.ref E0) = some (.type "type"))
    (ein0 : PySem.W.excInitIn K E0 Er.tailE "Exception.__new__" = true)
    (eov0 : PySem.W.excOver K E0 Er.tailE = true)
    (esa0 : PySem.W.findIn K (.ref E0) "__setattr__" = some (some (.builtin "object.__setattr__")))
    (ega0 : PySem.W.findIn K (.ref E0) "__getattribute__" = some (some (.builtin "BaseException.__getattribute__")))
    (egg0 : PySem.W.findIn K (.ref E0) "__getattr__" = some none)
    (eno0 : PySem.W.findIn K (.ref E0) "thing" = some none)
    (eic0 : PySem.W.findIn K (.ref E0) "__init__" = some (some (.ref I0)))
    (etc0 : PySem.W.typeIn K (.ref I0) = some (.type "function"))
    (ekc0 : PySem.W.keepIn K (.ref E0) = true)
    (ehd0 : PySem.W.hasDictIn K E0 = true)
    {eoc0 ect0 edoc0 epm0 ecd0 : Value} {eod0 ean0 : Option Addr} {eosl0 : Array (Option Value)}
    (efn0 : K.lookup I0 = some ⟨eoc0, eod0, .func (PySem.W.fnOf "__init__" "BadPlan.__init__" (defArgs (ini 3 0)) (defBody (ini 3 0)) (defScope (ini 3 0)) .none .none edoc0 epm0 ean0 ecd0 ect0), eosl0⟩)
    (eci0 : PySem.W.codeIn K ecd0 "BadPlan.__init__" = true)
    (eha0 : PySem.W.findIn K (.ref E0) "__class__" = some (some (.builtin "object.__class__")))
    (ehm0 : PySem.W.mroIn K E0 (.type "object") = some true)
    (ea1 : PySem.W.nsIn K mainGlobals "EyeError" = some (some (.ref E1)))
    (ebx1 : PySem.W.subIn K (.ref E1) (.type "BaseException") = some true)
    (ecl1 : PySem.W.isClsIn K E1 = true)
    (ety1 : PySem.W.typeIn K (.ref E1) = some (.type "type"))
    (ehn : PySem.W.specialIn K (.builtin "object.__class__") "__get__" = some (some (.builtin "getset_descriptor.__get__")))
    (eht : PySem.W.takesIn K (.builtin "object.__class__") = some true)
    (p0_0 : PySem.W.subIn K (.ref E0) (.ref E0) = some true)
    (p0_1 : PySem.W.subIn K (.ref E0) (.ref E1) = some true)
    {tk0 : Tok}
    (n0 : PySem.W.nsIn K mainGlobals "LETTERS" = some (some (.str "abcdefghijklmnopqrstuvwxyz" tk0)))
    {tk1 : Tok}
    (n1 : PySem.W.nsIn K mainGlobals "MOST_SIGNS" = some (some (.int 8 tk1)))
    {tk2 : Tok}
    (n2 : PySem.W.nsIn K mainGlobals "SIGNS" = some (some (.str "abcdefghijklmnopqrstuvwxyz0123456789" tk2)))
    : ∃ fd : FuncData, (∀ (s : Shared) (v : Value), BindsTo s fd ⟨[v], []⟩ [("script", v)]) ∧ ∀ base : Heap, K.In base → base.Ns mainGlobals mg → FnG P w K mg base 41 fa fd ["script"] (spLaw K) := by
  have e := hfa.symm.trans (PySem.W.mg_of X G a50)
  cases e
  have M : ModAt K mg cf T := modAt (by
    intro x hx
    simp only [cf, List.mem_cons, List.not_mem_nil, or_false] at hx
    rcases hx with rfl | rfl | rfl | rfl | rfl | rfl | rfl | rfl | rfl | rfl | rfl | rfl | rfl | rfl | rfl | rfl
    · exact PySem.W.mg_none_of X G z0
    · exact PySem.W.mg_none_of X G z1
    · exact PySem.W.mg_none_of X G z2
    · exact PySem.W.mg_none_of X G z3
    · exact PySem.W.mg_none_of X G z4
    · exact PySem.W.mg_none_of X G z5
    · exact PySem.W.mg_none_of X G z6
    · exact PySem.W.mg_none_of X G z7
    · exact PySem.W.mg_none_of X G z8
    · exact PySem.W.mg_none_of X G z9
    · exact PySem.W.mg_none_of X G z10
    · exact PySem.W.mg_none_of X G z11
    · exact PySem.W.mg_none_of X G z12
    · exact PySem.W.mg_none_of X G z13
    · exact PySem.W.mg_none_of X G z14
    · exact PySem.W.mg_none_of X G z15
    ) (fun _ => PySem.W.mg_of X G zg) ⟨
    inT (sub _ _ Law.T_is_integer) rfl (defAt (st := s_is_integer) (PySem.W.mg_of X G a0) l0 c0 k0 sc_is_integer ok_is_integer (fun us hl => match us, hl with | [_], _ => rfl) (kw_none (by decide +kernel))),
    inT (sub _ _ Law.T_are_integers) rfl (defAt (st := s_are_integers) (PySem.W.mg_of X G a1) l1 c1 k1 sc_are_integers ok_are_integers (fun us hl => match us, hl with | [_, _], _ => rfl) (kw_none (by decide +kernel))),
    inT (sub _ _ Law.T_place_raw) rfl (defAt (st := s_place_raw) (PySem.W.mg_of X G a2) l2 c2 k2 sc_place_raw ok_place_raw (fun us hl => match us, hl with | [_, _, _], _ => rfl) (kw_none (by decide +kernel))),
    inT (sub _ _ Law.T_corner) rfl (defAt (st := s_corner) (PySem.W.mg_of X G a3) l3 c3 k3 sc_corner ok_corner (fun us hl => match us, hl with | [_], _ => rfl) (kw_none (by decide +kernel))),
    inT (sub _ _ Law.T_line_raw) rfl (defAt (st := s_line_raw) (PySem.W.mg_of X G a4) l4 c4 k4 sc_line_raw ok_line_raw (fun us hl => match us, hl with | [_, _, _], _ => rfl) (kw_none (by decide +kernel))),
    inT (sub _ _ Law.T_through_raw) rfl (defAt (st := s_through_raw) (PySem.W.mg_of X G a5) l5 c5 k5 sc_through_raw ok_through_raw (fun us hl => match us, hl with | [_, _], _ => rfl) (kw_none (by decide +kernel))),
    inT (sub _ _ Law.T_worth) rfl (defAt (st := s_worth) (PySem.W.mg_of X G a6) l6 c6 k6 sc_worth ok_worth (fun us hl => match us, hl with | [_, _], _ => rfl) (kw_none (by decide +kernel))),
    inT (sub _ _ Law.T_sign) rfl (defAt (st := s_sign) (PySem.W.mg_of X G a7) l7 c7 k7 sc_sign ok_sign (fun us hl => match us, hl with | [_], _ => rfl) (kw_none (by decide +kernel))),
    inT (sub _ _ Law.T_side_raw) rfl (defAt (st := s_side_raw) (PySem.W.mg_of X G a8) l8 c8 k8 sc_side_raw ok_side_raw (fun us hl => match us, hl with | [_, _], _ => rfl) (kw_none (by decide +kernel))),
    inT (sub _ _ Law.T_meeting_raw) rfl (defAt (st := s_meeting_raw) (PySem.W.mg_of X G a9) l9 c9 k9 sc_meeting_raw ok_meeting_raw (fun us hl => match us, hl with | [_, _], _ => rfl) (kw_none (by decide +kernel))),
    inT (sub _ _ Law.T_direction_raw) rfl (defAt (st := s_direction_raw) (PySem.W.mg_of X G a10) l10 c10 k10 sc_direction_raw ok_direction_raw (fun us hl => match us, hl with | [_, _], _ => rfl) (kw_none (by decide +kernel))),
    inT (sub _ _ Law.T_direction_to) rfl (defAt (st := s_direction_to) (PySem.W.mg_of X G a11) l11 c11 k11 sc_direction_to ok_direction_to (fun us hl => match us, hl with | [_, _], _ => rfl) (kw_none (by decide +kernel))),
    inT (sub _ _ Law.T_dot) rfl (defAt (st := s_dot) (PySem.W.mg_of X G a12) l12 c12 k12 sc_dot ok_dot (fun us hl => match us, hl with | [_, _], _ => rfl) (kw_none (by decide +kernel))),
    inT (sub _ _ Law.T_is_inside) rfl (defAt (st := s_is_inside) (PySem.W.mg_of X G a13) l13 c13 k13 sc_is_inside ok_is_inside (fun us hl => match us, hl with | [_, _, _], _ => rfl) (kw_none (by decide +kernel))),
    inT (sub _ _ Law.T_vector) rfl (defAt (st := s_vector) (PySem.W.mg_of X G a14) l14 c14 k14 sc_vector ok_vector (fun us hl => match us, hl with | [_, _], _ => rfl) (kw_none (by decide +kernel))),
    inT (sub _ _ Law.T_is_on) rfl (defAt (st := s_is_on) (PySem.W.mg_of X G a15) l15 c15 k15 sc_is_on ok_is_on (fun us hl => match us, hl with | [_, _, _], _ => rfl) (kw_none (by decide +kernel))),
    inT (sub _ _ Law.T_is_sooner) rfl (defAt (st := s_is_sooner) (PySem.W.mg_of X G a16) l16 c16 k16 sc_is_sooner ok_is_sooner (fun us hl => match us, hl with | [_, _, _], _ => rfl) (kw_none (by decide +kernel))),
    inT (sub _ _ Law.T_in_order) rfl (defAt (st := s_in_order) (PySem.W.mg_of X G a17) l17 c17 k17 sc_in_order ok_in_order (fun us hl => match us, hl with | [_, _], _ => rfl) (kw_none (by decide +kernel))),
    inT (sub _ _ Law.T_common_part) rfl (defAt (st := s_common_part) (PySem.W.mg_of X G a18) l18 c18 k18 sc_common_part ok_common_part (fun us hl => match us, hl with | [_, _], _ => rfl) (kw_none (by decide +kernel))),
    inT (sub _ _ Law.T_is_name) rfl (defAt (st := s_is_name) (PySem.W.mg_of X G a19) l19 c19 k19 sc_is_name ok_is_name (fun us hl => match us, hl with | [_], _ => rfl) (kw_none (by decide +kernel))),
    inT (sub _ _ Law.T_is_segment) rfl (defAt (st := s_is_segment) (PySem.W.mg_of X G a20) l20 c20 k20 sc_is_segment ok_is_segment (fun us hl => match us, hl with | [_], _ => rfl) (kw_none (by decide +kernel))),
    inT (sub _ _ Law.T_are_segments) rfl (defAt (st := s_are_segments) (PySem.W.mg_of X G a21) l21 c21 k21 sc_are_segments ok_are_segments (fun us hl => match us, hl with | [_], _ => rfl) (kw_none (by decide +kernel))),
    inT (sub _ _ Law.T_ends) rfl (defAt (st := s_ends) (PySem.W.mg_of X G a22) l22 c22 k22 sc_ends ok_ends (fun us hl => match us, hl with | [_], _ => rfl) (kw_none (by decide +kernel))),
    inT (sub _ _ Law.T_do_clash) rfl (defAt (st := s_do_clash) (PySem.W.mg_of X G a23) l23 c23 k23 sc_do_clash ok_do_clash (fun us hl => match us, hl with | [_, _], _ => rfl) (kw_none (by decide +kernel))),
    inT (sub _ _ Law.T_fault_of) rfl (defAt (st := s_fault_of) (PySem.W.mg_of X G a24) l24 c24 k24 sc_fault_of ok_fault_of (fun us hl => match us, hl with | [_], _ => rfl) (kw_none (by decide +kernel))),
    inT (sub _ _ Law.T_is_plan_value) rfl (defAt (st := s_is_plan_value) (PySem.W.mg_of X G a25) l25 c25 k25 sc_is_plan_value ok_is_plan_value (fun us hl => match us, hl with | [_], _ => rfl) (kw_none (by decide +kernel))),
    inT (sub _ _ Law.T_is_plan) rfl (defAt (st := s_is_plan) (PySem.W.mg_of X G a26) l26 c26 k26 sc_is_plan ok_is_plan (fun us hl => match us, hl with | [_], _ => rfl) (kw_none (by decide +kernel))),
    inT (sub _ _ Law.T_fault) rfl (defAt (st := s_fault) (PySem.W.mg_of X G a27) l27 c27 k27 sc_fault ok_fault (fun us hl => match us, hl with | [_], _ => rfl) (by
      intro n ks pm hm
      simp only [cf, List.mem_cons, List.not_mem_nil, or_false, Prod.mk.injEq] at hm
      rcases hm with hm
      · obtain ⟨_, rfl, rfl, rfl⟩ := hm
        exact ⟨rfl, fun us ws hu hw => match us, ws, hu, hw with | [], [_], _, _ => rfl⟩)),
    inT (sub _ _ Law.T__law_draw) rfl (defAt (st := s__law_draw) (PySem.W.mg_of X G a28) l28 c28 k28 sc__law_draw ok__law_draw (fun us hl => match us, hl with | [_, _], _ => rfl) (kw_none (by decide +kernel))),
    inT (sub _ _ Law.T__law_pick) rfl (defAt (st := s__law_pick) (PySem.W.mg_of X G a29) l29 c29 k29 sc__law_pick ok__law_pick (fun us hl => match us, hl with | [_, _], _ => rfl) (kw_none (by decide +kernel))),
    inT (sub _ _ Law.T__law_is_integer) rfl (defAt (st := s__law_is_integer) (PySem.W.mg_of X G a30) l30 c30 k30 sc__law_is_integer ok__law_is_integer (fun us hl => match us, hl with | [_], _ => rfl) (kw_none (by decide +kernel))),
    inT (sub _ _ Law.T__law_any) rfl (defAt (st := s__law_any) (PySem.W.mg_of X G a31) l31 c31 k31 sc__law_any ok__law_any (fun us hl => match us, hl with | [_, _], _ => rfl) (kw_none (by decide +kernel))),
    inT (sub _ _ Law.T__law_instead) rfl (defAt (st := s__law_instead) (PySem.W.mg_of X G a32) l32 c32 k32 sc__law_instead ok__law_instead (fun us hl => match us, hl with | [_, _, _], _ => rfl) (kw_none (by decide +kernel))),
    inT (sub _ _ Law.T__law_bent) rfl (defAt (st := s__law_bent) (PySem.W.mg_of X G a33) l33 c33 k33 sc__law_bent ok__law_bent (fun us hl => match us, hl with | [_, _, _], _ => rfl) (kw_none (by decide +kernel))),
    inT (sub _ _ Law.T__law_are_integers) rfl (defAt (st := s__law_are_integers) (PySem.W.mg_of X G a34) l34 c34 k34 sc__law_are_integers ok__law_are_integers (fun us hl => match us, hl with | [_, _], _ => rfl) (kw_none (by decide +kernel))),
    inT (sub _ _ Law.T__law_is_name) rfl (defAt (st := s__law_is_name) (PySem.W.mg_of X G a35) l35 c35 k35 sc__law_is_name ok__law_is_name (fun us hl => match us, hl with | [_], _ => rfl) (kw_none (by decide +kernel))),
    inT (sub _ _ Law.T__law_sign) rfl (defAt (st := s__law_sign) (PySem.W.mg_of X G a36) l36 c36 k36 sc__law_sign ok__law_sign (fun us hl => match us, hl with | [_], _ => rfl) (kw_none (by decide +kernel))),
    inT (sub _ _ Law.T__law_is_segment) rfl (defAt (st := s__law_is_segment) (PySem.W.mg_of X G a37) l37 c37 k37 sc__law_is_segment ok__law_is_segment (fun us hl => match us, hl with | [_], _ => rfl) (kw_none (by decide +kernel))),
    inT (sub _ _ Law.T__law_turn) rfl (defAt (st := s__law_turn) (PySem.W.mg_of X G a38) l38 c38 k38 sc__law_turn ok__law_turn (fun us hl => match us, hl with | [_, _, _], _ => rfl) (kw_none (by decide +kernel))),
    inT (sub _ _ Law.T__law_is_crossed) rfl (defAt (st := s__law_is_crossed) (PySem.W.mg_of X G a39) l39 c39 k39 sc__law_is_crossed ok__law_is_crossed (fun us hl => match us, hl with | [_, _], _ => rfl) (kw_none (by decide +kernel))),
    inT (sub _ _ Law.T__law_are_segments) rfl (defAt (st := s__law_are_segments) (PySem.W.mg_of X G a40) l40 c40 k40 sc__law_are_segments ok__law_are_segments (fun us hl => match us, hl with | [_], _ => rfl) (kw_none (by decide +kernel))),
    inT (sub _ _ Law.T__law_fault) rfl (defAt (st := s__law_fault) (PySem.W.mg_of X G a41) l41 c41 k41 sc__law_fault ok__law_fault (fun us hl => match us, hl with | [_], _ => rfl) (kw_none (by decide +kernel))),
    inT (sub _ _ Law.T__law_layouts) rfl (defAt (st := s__law_layouts) (PySem.W.mg_of X G a42) l42 c42 k42 sc__law_layouts ok__law_layouts (fun us hl => match us, hl with | [], _ => rfl) (kw_none (by decide +kernel))),
    inT (sub _ _ Law.T__law_moved) rfl (defAt (st := s__law_moved) (PySem.W.mg_of X G a43) l43 c43 k43 sc__law_moved ok__law_moved (fun us hl => match us, hl with | [_, _, _, _, _, _], _ => rfl) (kw_none (by decide +kernel))),
    inT (sub _ _ Law.T__law_names) rfl (defAt (st := s__law_names) (PySem.W.mg_of X G a44) l44 c44 k44 sc__law_names ok__law_names (fun us hl => match us, hl with | [_, _], _ => rfl) (kw_none (by decide +kernel))),
    inT (sub _ _ Law.T__law_free) rfl (defAt (st := s__law_free) (PySem.W.mg_of X G a45) l45 c45 k45 sc__law_free ok__law_free (fun us hl => match us, hl with | [_, _, _], _ => rfl) (kw_none (by decide +kernel))),
    inT (sub _ _ Law.T__law_drawn_plan) rfl (defAt (st := s__law_drawn_plan) (PySem.W.mg_of X G a46) l46 c46 k46 sc__law_drawn_plan ok__law_drawn_plan (fun us hl => match us, hl with | [_, _], _ => rfl) (kw_none (by decide +kernel))),
    inT (sub _ _ Law.T__law_crossed_plan) rfl (defAt (st := s__law_crossed_plan) (PySem.W.mg_of X G a47) l47 c47 k47 sc__law_crossed_plan ok__law_crossed_plan (fun us hl => match us, hl with | [_, _], _ => rfl) (kw_none (by decide +kernel))),
    inT (T__law_told) rfl (defAt (st := s__law_told) (PySem.W.mg_of X G a48) l48 c48 k48 sc__law_told ok__law_told (fun us hl => match us, hl with | [_, _], _ => rfl) (kw_none (by decide +kernel))),
    trivial⟩
    (by
    intro x hx
    simp only [cf, List.mem_cons, List.not_mem_nil, or_false] at hx
    rcases hx with rfl
    · exact ⟨E0, I0, { fl := by decide, gC := PySem.W.mg_of X G ea0, cls := ein0, ov := eov0, sa := esa0, ga := ega0, gg := egg0, noN := eno0, iC := eic0, tC := etc0, kC := ekc0, exC := ebx0, tyC := ety0, hdC := ehd0, fn := ⟨_, _, _, _, _, _, _, _, _, _, _, _, _, _, _, efn0, eci0⟩ }, ⟨eha0, ehn, eht, ehm0⟩⟩
    )
    (by
    intro y hy
    simp only [cf, List.mem_cons, List.not_mem_nil, or_false] at hy
    rcases hy with rfl | rfl
    · refine ⟨E0, PySem.W.mg_of X G ea0, fun x hx C hC => ?_⟩
      simp only [cf, List.mem_cons, List.not_mem_nil, or_false] at hx
      rcases hx with rfl
      · have e := hC.symm.trans (PySem.W.mg_of X G ea0)
        cases e
        exact pair_of ebx0 ecl0 ety0 p0_0 (fun _ => rfl)
    · refine ⟨E1, PySem.W.mg_of X G ea1, fun x hx C hC => ?_⟩
      simp only [cf, List.mem_cons, List.not_mem_nil, or_false] at hx
      rcases hx with rfl
      · have e := hC.symm.trans (PySem.W.mg_of X G ea0)
        cases e
        exact pair_of ebx1 ecl1 ety1 p0_1 (fun _ => rfl)
    )
    (by
    intro p hp
    simp only [cf, List.mem_cons, List.not_mem_nil, or_false] at hp
    rcases hp with rfl | rfl | rfl
    · exact ⟨_, PySem.W.mg_of X G n0, _, rfl⟩
    · exact ⟨_, PySem.W.mg_of X G n1, _, rfl⟩
    · exact ⟨_, PySem.W.mg_of X G n2, _, rfl⟩
    )
  have D : ∀ base : Heap, FnG P w K mg base 40 f49 _ ["script", "seed"] (spDeck K 2) := fun base => deck_fn M.bl (textAt l49 c49 sc__law_deck) ok__law_deck
  exact ⟨_, fun s v => .of_eq rfl, fun base _ _ => law_fn M (textAt l50 c50 sc_law) okl (PySem.W.mg_of X G a49) k49 (Binds.all fun us hl => match us, hl with | [_, _], _ => rfl) (by decide) (D base) wp_law⟩
end K07

open PySem PySem.W PyProof.Rows
set_option maxHeartbeats 0 in
theorem PySem.Challenge.cw_eyeorder_k07_first_faults_of_plans_holds : PySem.Challenge.rw_eyeorder_k07_first_faults_of_plans.Holds := by
  w_on; o_law; k_head; (case hw => w_witness2)
  k_fill
  refine Ey.walk_G (l := PySem.Challenge.rw_eyeorder_k07_first_faults_of_plans) (n := 63) (k := 41) (x := "script") rfl (by decide) rfl ⟨rfl, by decide, by decide⟩ (fun w h Y => PySem.W.kIn_of Y) ?F
  case F =>
    intro w mg fa h KX G hmg
    refine' K07.all_mk KX G hmg ?a0 ?l0 ?c0 ?k0 ?a1 ?l1 ?c1 ?k1 ?a2 ?l2 ?c2 ?k2 ?a3 ?l3 ?c3 ?k3 ?a4 ?l4 ?c4 ?k4 ?a5 ?l5 ?c5 ?k5 ?a6 ?l6 ?c6 ?k6 ?a7 ?l7 ?c7 ?k7 ?a8 ?l8 ?c8 ?k8 ?a9 ?l9 ?c9 ?k9 ?a10 ?l10 ?c10 ?k10 ?a11 ?l11 ?c11 ?k11 ?a12 ?l12 ?c12 ?k12 ?a13 ?l13 ?c13 ?k13 ?a14 ?l14 ?c14 ?k14 ?a15 ?l15 ?c15 ?k15 ?a16 ?l16 ?c16 ?k16 ?a17 ?l17 ?c17 ?k17 ?a18 ?l18 ?c18 ?k18 ?a19 ?l19 ?c19 ?k19 ?a20 ?l20 ?c20 ?k20 ?a21 ?l21 ?c21 ?k21 ?a22 ?l22 ?c22 ?k22 ?a23 ?l23 ?c23 ?k23 ?a24 ?l24 ?c24 ?k24 ?a25 ?l25 ?c25 ?k25 ?a26 ?l26 ?c26 ?k26 ?a27 ?l27 ?c27 ?k27 ?a28 ?l28 ?c28 ?k28 ?a29 ?l29 ?c29 ?k29 ?a30 ?l30 ?c30 ?k30 ?a31 ?l31 ?c31 ?k31 ?a32 ?l32 ?c32 ?k32 ?a33 ?l33 ?c33 ?k33 ?a34 ?l34 ?c34 ?k34 ?a35 ?l35 ?c35 ?k35 ?a36 ?l36 ?c36 ?k36 ?a37 ?l37 ?c37 ?k37 ?a38 ?l38 ?c38 ?k38 ?a39 ?l39 ?c39 ?k39 ?a40 ?l40 ?c40 ?k40 ?a41 ?l41 ?c41 ?k41 ?a42 ?l42 ?c42 ?k42 ?a43 ?l43 ?c43 ?k43 ?a44 ?l44 ?c44 ?k44 ?a45 ?l45 ?c45 ?k45 ?a46 ?l46 ?c46 ?k46 ?a47 ?l47 ?c47 ?k47 ?a48 ?l48 ?c48 ?k48 ?a49 ?l49 ?c49 ?k49 ?a50 ?l50 ?c50 ?k50 ?z0 ?z1 ?z2 ?z3 ?z4 ?z5 ?z6 ?z7 ?z8 ?z9 ?z10 ?z11 ?z12 ?z13 ?z14 ?z15 ?zg ?ea0 ?ebx0 ?ecl0 ?ety0 ?ein0 ?eov0 ?esa0 ?ega0 ?egg0 ?eno0 ?eic0 ?etc0 ?ekc0 ?ehd0 ?efn0 ?eci0 ?eha0 ?ehm0 ?ea1 ?ebx1 ?ecl1 ?ety1 ?ehn ?eht ?p0_0 ?p0_1 ?n0 ?n1 ?n2
    (case a0 => k_is); (case l0 => k_is); (case c0 => k_is); (case k0 => k_is); (case a1 => k_is); (case l1 => k_is); (case c1 => k_is); (case k1 => k_is); (case a2 => k_is); (case l2 => k_is); (case c2 => k_is); (case k2 => k_is); (case a3 => k_is); (case l3 => k_is); (case c3 => k_is); (case k3 => k_is); (case a4 => k_is); (case l4 => k_is); (case c4 => k_is); (case k4 => k_is); (case a5 => k_is); (case l5 => k_is); (case c5 => k_is); (case k5 => k_is); (case a6 => k_is); (case l6 => k_is); (case c6 => k_is); (case k6 => k_is); (case a7 => k_is); (case l7 => k_is); (case c7 => k_is); (case k7 => k_is); (case a8 => k_is); (case l8 => k_is); (case c8 => k_is); (case k8 => k_is); (case a9 => k_is); (case l9 => k_is); (case c9 => k_is); (case k9 => k_is); (case a10 => k_is); (case l10 => k_is); (case c10 => k_is); (case k10 => k_is); (case a11 => k_is); (case l11 => k_is); (case c11 => k_is); (case k11 => k_is); (case a12 => k_is); (case l12 => k_is); (case c12 => k_is); (case k12 => k_is); (case a13 => k_is); (case l13 => k_is); (case c13 => k_is); (case k13 => k_is); (case a14 => k_is); (case l14 => k_is); (case c14 => k_is); (case k14 => k_is); (case a15 => k_is); (case l15 => k_is); (case c15 => k_is); (case k15 => k_is); (case a16 => k_is); (case l16 => k_is); (case c16 => k_is); (case k16 => k_is); (case a17 => k_is); (case l17 => k_is); (case c17 => k_is); (case k17 => k_is); (case a18 => k_is); (case l18 => k_is); (case c18 => k_is); (case k18 => k_is); (case a19 => k_is); (case l19 => k_is); (case c19 => k_is); (case k19 => k_is); (case a20 => k_is); (case l20 => k_is); (case c20 => k_is); (case k20 => k_is); (case a21 => k_is); (case l21 => k_is); (case c21 => k_is); (case k21 => k_is); (case a22 => k_is); (case l22 => k_is); (case c22 => k_is); (case k22 => k_is); (case a23 => k_is); (case l23 => k_is); (case c23 => k_is); (case k23 => k_is); (case a24 => k_is); (case l24 => k_is); (case c24 => k_is); (case k24 => k_is); (case a25 => k_is); (case l25 => k_is); (case c25 => k_is); (case k25 => k_is); (case a26 => k_is); (case l26 => k_is); (case c26 => k_is); (case k26 => k_is); (case a27 => k_is); (case l27 => k_is); (case c27 => k_is); (case k27 => k_is); (case a28 => k_is); (case l28 => k_is); (case c28 => k_is); (case k28 => k_is); (case a29 => k_is); (case l29 => k_is); (case c29 => k_is); (case k29 => k_is); (case a30 => k_is); (case l30 => k_is); (case c30 => k_is); (case k30 => k_is); (case a31 => k_is); (case l31 => k_is); (case c31 => k_is); (case k31 => k_is); (case a32 => k_is); (case l32 => k_is); (case c32 => k_is); (case k32 => k_is); (case a33 => k_is); (case l33 => k_is); (case c33 => k_is); (case k33 => k_is); (case a34 => k_is); (case l34 => k_is); (case c34 => k_is); (case k34 => k_is); (case a35 => k_is); (case l35 => k_is); (case c35 => k_is); (case k35 => k_is); (case a36 => k_is); (case l36 => k_is); (case c36 => k_is); (case k36 => k_is); (case a37 => k_is); (case l37 => k_is); (case c37 => k_is); (case k37 => k_is); (case a38 => k_is); (case l38 => k_is); (case c38 => k_is); (case k38 => k_is); (case a39 => k_is); (case l39 => k_is); (case c39 => k_is); (case k39 => k_is); (case a40 => k_is); (case l40 => k_is); (case c40 => k_is); (case k40 => k_is); (case a41 => k_is); (case l41 => k_is); (case c41 => k_is); (case k41 => k_is); (case a42 => k_is); (case l42 => k_is); (case c42 => k_is); (case k42 => k_is); (case a43 => k_is); (case l43 => k_is); (case c43 => k_is); (case k43 => k_is); (case a44 => k_is); (case l44 => k_is); (case c44 => k_is); (case k44 => k_is); (case a45 => k_is); (case l45 => k_is); (case c45 => k_is); (case k45 => k_is); (case a46 => k_is); (case l46 => k_is); (case c46 => k_is); (case k46 => k_is); (case a47 => k_is); (case l47 => k_is); (case c47 => k_is); (case k47 => k_is); (case a48 => k_is); (case l48 => k_is); (case c48 => k_is); (case k48 => k_is); (case a49 => k_is); (case l49 => k_is); (case c49 => k_is); (case k49 => k_is); (case a50 => k_is); (case l50 => k_is); (case c50 => k_is); (case k50 => k_is); (case z0 => k_is); (case z1 => k_is); (case z2 => k_is); (case z3 => k_is); (case z4 => k_is); (case z5 => k_is); (case z6 => k_is); (case z7 => k_is); (case z8 => k_is); (case z9 => k_is); (case z10 => k_is); (case z11 => k_is); (case z12 => k_is); (case z13 => k_is); (case z14 => k_is); (case z15 => k_is); (case zg => k_is); (case ea0 => k_is); (case ebx0 => k_is); (case ecl0 => k_is); (case ety0 => k_is); (case ein0 => kx_is); (case eov0 => kx_is); (case esa0 => k_is); (case ega0 => k_is); (case egg0 => k_is); (case eno0 => k_is); (case eic0 => k_is); (case etc0 => k_is); (case ekc0 => k_is); (case ehd0 => k_is); (case efn0 => k_is); (case eci0 => k_is); (case eha0 => k_is); (case ehm0 => k_is); (case ea1 => k_is); (case ebx1 => k_is); (case ecl1 => k_is); (case ety1 => k_is); (case ehn => k_is); (case eht => k_is); (case p0_0 => k_is); (case p0_1 => k_is); (case n0 => k_is); (case n1 => k_is); (case n2 => k_is)

end
