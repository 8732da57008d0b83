import PyProof.Rows.All
import Wide.All
import OpenK.AllK
import Wide.FinOn
import HandS.ForMost
import HandS.Deep
import HandS.TupAny
import HandS.TupMul
import HandS.TupLe
import HandS.Conv
import HandS.IsInst
import HandS.Flow
import HandS.Style
import HandS.Zip
import HandS.RaiseMore
import HandS.Small
import HandS.Strs
import HandS.SetFor
import HandS.Wide
import KE.SortData
import KE.KRevSl
import PyProof.NeKinds
import PyProof.Rows.IntBool
import PyProof.CallStr
import HandS.Lambda
import PyProof.ReprRoads
import KE.GoesMore
import PyProof.Draws
import PyProof.EnumMake
import HandS.ForExc
import HandS.TryOnly
import HandS.ForSpec
import HandS.ExcSuper
import PyProof.ReprLen
import PySem.Challenge.RW_manydeep_k02_webs_led_by_renamings
set_option Elab.async false
set_option linter.all false
set_option maxRecDepth 100000
/-! MiniPy, part A0: operations on bools, empty tuples, tuples of ints, a tuple turned round -/
namespace MP
open PySem PySem.Spec PyProof.Rows L2

def b2I (b : Bool) : Int := if b = true then 1 else 0
section
variable {prog : Program} {w : World} {A : Around} {E : Value → Shared → Prop} {s : Shared}
theorem gives_neg_bool (b : Bool) : Gives (Builtin.«int.__neg__» ⟨[.bool b], []⟩) (.int (-(b2I b))) := by
  cases b <;> exact .of_eq rfl
theorem neg_bool' {b : Bool} {Q : Value → Shared → Prop} (h : Q (.int (-(b2I b)) s.toks) { s with toks := s.toks + 1 }) : wpAny (model prog w) A (unaryOp .USub (.bool b)) Q E s :=
  unaryOp_gives (op := .USub) (T := "bool") rfl rfl F.slot_bool_neg F.entry_int_neg (F.args_int_neg_1 _) (gives_neg_bool b) h
theorem places_rev (n : Nat) : Builtin.Slice.slicePlaces ((n : Int) - 1) (-1) (-1) = n := by
  unfold Builtin.Slice.slicePlaces
  have h1 : ¬ ((-1 : Int) > 0) := by decide
  have e : ((n : Int) - 1 - -1 - 1) / - -1 = (n : Int) - 1 := by
    rw [show (- -1 : Int) = 1 by decide, Int.ediv_one]
    omega
  simp only [h1, if_false, e]
  split <;> omega
theorem adjust_rev (n : Nat) : Builtin.Slice.sliceAdjust none none (-1) (n : Int) = ((n : Int) - 1, -1) := by
  unfold Builtin.Slice.sliceAdjust
  simp
theorem sliceApplied_rev {sl : Addr} {vl vu vs : Value} {n : Nat} {Q : Int × Int × Nat → Shared → Prop} (hs : s.heap.IsSliceOf sl vl vu vs) (pl : IsPart vl none) (pu : IsPart vu none) (ps : IsPart vs (some (-1)))
    (h : Q ((n : Int) - 1, -1, n) s) : wpAny (model prog w) A (Builtin.Slice.sliceApplied (.ref sl) (pure (n : Int))) Q E s := by
  obtain ⟨os, hos, hcs, hds⟩ := id hs
  unfold Builtin.Slice.sliceApplied Builtin.Slice.sliceFields
  refine wpAny_bind (wpAny_bind (wpAny_field hos hds (x := vl) rfl (wpAny_bind (wpAny_field hos hds (x := vu) rfl (wpAny_bind (wpAny_field hos hds (x := vs) rfl (wpAny_pure ?_)))))))
  refine wpAny_bind (HT.slicePart_ ps ?_)
  show wpAny _ _ (if ((-1 : Int) == 0) = true then _ else _) _ _ s
  rw [if_neg (by decide)]
  refine wpAny_bind (HT.slicePart_ pl (wpAny_bind (HT.slicePart_ pu (wpAny_bind (wpAny_pure ?_)))))
  show wpAny _ _ (match Builtin.Slice.sliceAdjust none none (-1) (n : Int) with | (lo, hi) => pure (lo, (-1 : Int), Builtin.Slice.slicePlaces lo hi (-1))) _ _ s
  rw [adjust_rev n]
  show wpAny _ _ (pure ((n : Int) - 1, (-1 : Int), Builtin.Slice.slicePlaces ((n : Int) - 1) (-1) (-1))) _ _ s
  rw [places_rev]
  exact wpAny_pure h
theorem pick_rev (xs : Array Value) : ((List.range xs.size).filterMap fun (k : Nat) => xs[((xs.size : Int) - 1 + (k : Int) * -1).toNat]?).toArray = xs.toList.reverse.toArray := by
  rw [← PySem.W.krv_pick]
  unfold slicePick
  rw [PySem.W.krv_bounds]
  show _ = ((sliceRange ((xs.size : Int) - 1) (-1) (-1)).filterMap (xs[·]?)).toArray
  rw [PySem.W.krv_sliceRange, List.filterMap_map]
  have fc : ∀ {l : List Nat} {f g : Nat → Option Value}, (∀ k ∈ l, f k = g k) → l.filterMap f = l.filterMap g := fun {l f g} h => by
    induction l with
    | nil => rfl
    | cons a l ih => rw [List.filterMap_cons, List.filterMap_cons, h a List.mem_cons_self, ih fun k hk => h k (List.mem_cons_of_mem _ hk)]
  rw [fc fun k hk => ?_]
  have := List.mem_range.mp hk
  show xs[((xs.size : Int) - 1 + (k : Int) * -1).toNat]? = xs[xs.size - 1 - k]?
  have e : ((xs.size : Int) - 1 + (k : Int) * -1).toNat = xs.size - 1 - k := by omega
  rw [e]
theorem getItem_tuple_rev {t sl : Addr} {items : Array Value} {vl vu vs : Value} {Q : Value → Shared → Prop} (ht : IsTup s.heap t items) (hs : s.heap.IsSliceOf sl vl vu vs) (pl : IsPart vl none) (pu : IsPart vu none) (ps : IsPart vs (some (-1)))
    (h : Q (.ref s.heap.objs.size) { s with heap := s.heap.push { cls := .type "tuple", data := .seq items.toList.reverse.toArray } })
    (hsz : items.size ≤ sizeLine) : wpAny (model prog w) A (getItem (.ref t) (.ref sl)) Q E s := by
  have htake : sizeOk (.seq items.toList.reverse.toArray) := by
    show items.toList.reverse.toArray.size ≤ sizeLine
    rw [List.size_toArray, List.length_reverse, Array.length_toList]
    exact hsz
  obtain ⟨os, hos, hcs, hds⟩ := id hs
  have hTs : s.TypeIs (.ref sl) "slice" := ⟨os, hos, hcs⟩
  unfold getItem
  try with_reducible refine wpAny_holding ?_
  first | refine wpAny_bind (wpAny_pure ?_) | skip
  refine wpAny_bind (wpAny_sequenceKey ht.typeIs (by decide) ?_)
  refine wpAny_bind (wpAny_callSpecial?_slot (name := Str.ofString "__getitem__") ht.typeIs PyProof.Rows.slot_tuple_getitem
    (wpAny_call_entry PyProof.Rows.slot_tuple_getitem ht.typeIs entry_tuple_getitem ?_ (args_tuple_getitem _ _)))
  show wpAny _ _ (Builtin.Tuple.tupleItemsOf (.ref t) >>= _) _ _ s
  refine wpAny_bind (tupleItemsOf_ ht ?_)
  refine wpAny_bind (wpAny_typeOf hTs ?_)
  rw [if_pos (by decide)]
  refine wpAny_bind (sliceApplied_rev hs pl pu ps ?_)
  have hno : ¬ ((((items.size : Int) - 1) == 0 && (-1 : Int) == 1 && items.size == items.size) = true) := by
    intro q
    rw [Bool.and_eq_true, Bool.and_eq_true] at q
    exact absurd q.1.2 (by decide)
  show wpAny _ _ (if (((items.size : Int) - 1) == 0 && (-1 : Int) == 1 && items.size == items.size) = true then _ else _) _ _ s
  rw [if_neg hno, pick_rev]
  first
    | exact wpAny_bind (m := Builtin.Tuple.tupleExact _) (wpAny_newObj_type (wpAny_pure ⟨_, rfl, wpAny_pure h⟩) htake)
    | exact wpAny_bind (m := Builtin.Tuple.tupleExact _) (wpAny_newObj_type (wpAny_bind (wpAny_pure (wpAny_pure ⟨_, rfl, wpAny_pure h⟩))) htake)
    | exact wpAny_bind (wpAny_bind (m := Builtin.Tuple.tupleExact _) (wpAny_newObj_type (wpAny_pure (wpAny_pure ⟨_, rfl, wpAny_pure h⟩)) htake))
    | exact wpAny_bind (wpAny_bind (m := Builtin.Tuple.tupleExact _) (wpAny_newObj_type (wpAny_pure ⟨_, rfl, wpAny_pure h⟩) htake))
end
section
variable {X : Cx}
theorem un_negB : UnR X (unaryOp .USub) (fun x H Q => ∃ b, x = .bl b ∧ Q (.int (-(b2I b))) H) := by
  intro pins s σ H x v Q I rx h
  obtain ⟨b, rfl, q⟩ := h
  cases rx
  exact neg_bool' ⟨.int _, H, I.tok _, ⟨_, rfl⟩, q⟩
theorem un_negA : UnR X (unaryOp .USub) (fun x H Q => (∃ i, x = .int i ∧ Q (.int (-i)) H) ∨ (∃ b, x = .bl b ∧ Q (.int (-(b2I b))) H)) := by
  intro pins s σ H x v Q I rx h
  rcases h with h | h
  · exact un_neg pins s σ H x v Q I rx h
  · exact un_negB pins s σ H x v Q I rx h
theorem op_addBI : OpR X (binaryOp .Add) (fun x y H Q => ∃ k j, x = .bl k ∧ y = .int j ∧ Q (.int (b2I k + j)) H) := by
  intro pins s σ H x y v u Q I rx ry h
  obtain ⟨k, j, rfl, rfl, q⟩ := h
  cases rx
  obtain ⟨t, rfl⟩ := ry
  exact PySem.IntBool.add_bool_int ⟨.int (b2I k + j), H, I.tok _, ⟨_, rfl⟩, q⟩
theorem op_subBI : OpR X (binaryOp .Sub) (fun x y H Q => ∃ k j, x = .bl k ∧ y = .int j ∧ Q (.int (b2I k - j)) H) := by
  intro pins s σ H x y v u Q I rx ry h
  obtain ⟨k, j, rfl, rfl, q⟩ := h
  cases rx
  obtain ⟨t, rfl⟩ := ry
  exact PySem.IntBool.sub_bool_int ⟨.int (b2I k - j), H, I.tok _, ⟨_, rfl⟩, q⟩
theorem call_str_bl : CallR X (.type "str") (fun xs H Q => ∃ b : Bool, xs = [.bl b] ∧ Q (.str (if b then "True" else "False")) H) := by
  intro pins s σ H xs us Q I r h
  obtain ⟨b, rfl, q⟩ := h
  obtain ⟨u, rfl, r1⟩ := vals1 r
  cases r1
  exact PySem.P.str_of_bool ⟨.str _, H, I.tok _, ⟨_, rfl⟩, q⟩
/-- == of two tuples of which one is empty -/
theorem op_eqNil {neg : Bool} (hu : X.A.units < cLine) : OpR X (compareOp (if neg = true then .NotEq else .Eq)) (fun x y H Q => ∃ a b xs ys, x = .ref a ∧ y = .ref b ∧ SqT X.K H a xs ∧ SqT X.K H b ys ∧ (xs = [] ∨ ys = []) ∧
    Q (.bl (if neg = true then !decide (xs.length = ys.length) else decide (xs.length = ys.length))) H) := by
  intro pins s σ H x y v u Q I rx ry h
  obtain ⟨a, b, xs, ys, rfl, rfl, ha, hb, hn, q⟩ := h
  cases rx
  cases ry
  obtain ⟨its, r1, p1, _⟩ := I.tuple ha
  obtain ⟨its2, r2, p2, _⟩ := I.tuple hb
  have e1 : its.toArray.size = xs.length := by rw [List.size_toArray]; exact r1.length.symm
  have e2 : its2.toArray.size = ys.length := by rw [List.size_toArray]; exact r2.length.symm
  have hm : min its.toArray.size its2.toArray.size = 0 := by
    rw [e1, e2]
    rcases hn with rfl | rfl <;> simp
  have hne : ∀ j (h1 : j < its.toArray.size) (h2 : j < its2.toArray.size), SeqAt.EqAt X.A.in1 s its.toArray[j] its2.toArray[j] ((fun _ => true) j) := fun j h1 h2 => absurd (Nat.lt_min.mpr ⟨h1, h2⟩) (by rw [hm]; exact Nat.not_lt_zero j)
  have ez : ((List.range (min its.toArray.size its2.toArray.size)).all (fun _ => true) && its.toArray.size == its2.toArray.size) = decide (xs.length = ys.length) := by
    rw [hm, e1, e2, List.range_zero]
    rw [Bool.eq_iff_iff]
    simp
  cases neg with
  | false =>
    refine SeqAt.eq_tupleAt p1 p2 hu hne ?_
    rw [ez]
    exact ⟨.bl _, H, I, rfl, q⟩
  | true =>
    have z : wpAny (model X.prog X.w) X.A (compareOp .NotEq (.ref a) (.ref b)) (EP X pins σ Q) X.xe s := by
      refine SeqAt.RcNeAt.tuples p1 p2 hu hne X.prog X.w X.xe _ ?_
      rw [ez]
      exact ⟨.bl _, H, I, rfl, q⟩
    exact z
/-- == of two lists of which one is empty -/
theorem op_eqNilL {neg : Bool} (hu : X.A.units < cLine) : OpR X (compareOp (if neg = true then .NotEq else .Eq)) (fun x y H Q => ∃ a b xs ys, x = .ref a ∧ y = .ref b ∧ SqL X.K H a xs ∧ SqL X.K H b ys ∧ (xs = [] ∨ ys = []) ∧
    Q (.bl (if neg = true then !decide (xs.length = ys.length) else decide (xs.length = ys.length))) H) := by
  intro pins s σ H x y v u Q I rx ry h
  obtain ⟨a, b, xs, ys, rfl, rfl, ha, hb, hn, q⟩ := h
  cases rx
  cases ry
  obtain ⟨its, r1, p1, _⟩ := I.list ha
  obtain ⟨its2, r2, p2, _⟩ := I.list hb
  have e1 : its.toArray.size = xs.length := by rw [List.size_toArray]; exact r1.length.symm
  have e2 : its2.toArray.size = ys.length := by rw [List.size_toArray]; exact r2.length.symm
  by_cases he : xs.length = ys.length
  · have hx0 : xs.length = 0 := by rcases hn with rfl | rfl <;> simp_all
    have hsz : its.toArray.size = its2.toArray.size := by rw [e1, e2, he]
    have h0 : its.toArray.size = 0 := by rw [e1, hx0]
    have hne : ∀ j (h1 : j < its.toArray.size) (h2 : j < its2.toArray.size), SeqAt.EqAt X.A.in1 s its.toArray[j] its2.toArray[j] ((fun _ => true) j) := fun j h1 h2 => absurd h1 (by rw [h0]; exact Nat.not_lt_zero j)
    rw [decide_eq_true he] at q
    cases neg with
    | false =>
      refine SeqAt.eq_listAt p1.isList p2.isList hsz hu hne ?_
      rw [h0, List.range_zero]
      exact ⟨.bl _, H, I, rfl, q⟩
    | true =>
      have z : wpAny (model X.prog X.w) X.A (compareOp .NotEq (.ref a) (.ref b)) (EP X pins σ Q) X.xe s := by
        refine SeqAt.RcNeAt.lists p1.isList p2.isList hsz hu hne X.prog X.w X.xe _ ?_
        rw [h0, List.range_zero]
        exact ⟨.bl _, H, I, rfl, q⟩
      exact z
  · have hsz : (its.toArray.size != its2.toArray.size) = true := by
      rw [e1, e2]
      simpa using he
    rw [decide_eq_false he] at q
    cases neg with
    | false => exact SeqAt.eq_list_lengthsAt p1.isList p2.isList hsz hu ⟨.bl _, H, I, rfl, q⟩
    | true =>
      have z : wpAny (model X.prog X.w) X.A (compareOp .NotEq (.ref a) (.ref b)) (EP X pins σ Q) X.xe s := SeqAt.RcNeAt.lists_lengths p1.isList p2.isList hsz hu X.prog X.w X.xe _ ⟨.bl _, H, I, rfl, q⟩
      exact z
/-- > of two tuples of ints -/
def gtI : List Int → List Int → Bool
  | [], _ => false
  | _ :: _, [] => true
  | x :: xs, y :: ys => if x = y then gtI xs ys else decide (y < x)
theorem lex_gt : ∀ (k i : Nat) (ns ms : List Int), k = min (ns.length - i) (ms.length - i) → i ≤ ns.length → i ≤ ms.length →
    Ob.lexAt (fun j => decide (ns.getD j 0 = ms.getD j 0)) (fun j => decide (ms.getD j 0 < ns.getD j 0)) (decide (ns.length > ms.length)) i k = gtI (ns.drop i) (ms.drop i) := by
  intro k
  induction k with
  | zero =>
    intro i ns ms hk h1 h2
    rw [Ob.lexAt_zero]
    by_cases q : ns.length = i
    · rw [List.drop_of_length_le (by omega : ns.length ≤ i)]
      show decide _ = false
      exact decide_eq_false (by omega)
    · have q2 : ms.length = i := by omega
      rw [List.drop_of_length_le (by omega : ms.length ≤ i), List.drop_eq_getElem_cons (by omega : i < ns.length)]
      show decide _ = true
      exact decide_eq_true (by omega)
  | succ k ih =>
    intro i ns ms hk h1 h2
    have l1 : i < ns.length := by omega
    have l2 : i < ms.length := by omega
    rw [Ob.lexAt_succ, List.drop_eq_getElem_cons l1, List.drop_eq_getElem_cons l2]
    have g1 : ns.getD i 0 = ns[i] := by rw [List.getD_eq_getElem?_getD, List.getElem?_eq_getElem l1]; rfl
    have g2 : ms.getD i 0 = ms[i] := by rw [List.getD_eq_getElem?_getD, List.getElem?_eq_getElem l2]; rfl
    rw [g1, g2]
    show _ = if ns[i] = ms[i] then gtI (ns.drop (i + 1)) (ms.drop (i + 1)) else decide (ms[i] < ns[i])
    by_cases e : ns[i] = ms[i]
    · rw [if_pos e, if_pos (by simpa using e)]
      exact ih (i + 1) ns ms (by omega) l1 l2
    · rw [if_neg e, if_neg (by simpa using e)]
theorem op_gtT (hu : X.A.units < cLine) : OpR X (compareOp .Gt) (fun x y H Q => ∃ (a b : Addr) (ns ms : List Int), x = .ref a ∧ y = .ref b ∧ SqT X.K H a (ns.map V.int) ∧ SqT X.K H b (ms.map V.int) ∧ Q (.bl (gtI ns ms)) H) := by
  intro pins s σ H x y v u Q I rx ry h
  obtain ⟨a, b, ns, ms, rfl, rfl, ha, hb, q⟩ := h
  cases rx
  cases ry
  obtain ⟨its, r1, p1, _⟩ := I.tuple ha
  obtain ⟨its2, r2, p2, _⟩ := I.tuple hb
  have i1 : IntsAre its ns := Vals.ints r1
  have i2 : IntsAre its2 ms := Vals.ints r2
  have e1 : its.toArray.size = ns.length := by rw [List.size_toArray]; exact i1.length
  have e2 : its2.toArray.size = ms.length := by rw [List.size_toArray]; exact i2.length
  have at1 : ∀ j (h1 : j < its.toArray.size), ∃ t, its.toArray[j] = .int (ns.getD j 0) t := fun j h1 => PyProof.Rows.IntsAre.int_at i1 _ _ (by simp at h1; simp [h1])
  have at2 : ∀ j (h1 : j < its2.toArray.size), ∃ t, its2.toArray[j] = .int (ms.getD j 0) t := fun j h1 => PyProof.Rows.IntsAre.int_at i2 _ _ (by simp at h1; simp [h1])
  have R := Ob.RcOp.tuples_gt (A := X.A) (s := s) (e := fun j => decide (ns.getD j 0 = ms.getD j 0)) (r := fun j => decide (ms.getD j 0 < ns.getD j 0)) p1 p2 hu (fun j h1 h2 => by
    obtain ⟨t, et⟩ := at1 j h1
    obtain ⟨t', et'⟩ := at2 j h2
    rw [et, et']
    have z : (ns.getD j 0 == ms.getD j 0) = decide (ns.getD j 0 = ms.getD j 0) := by
      by_cases q : ns.getD j 0 = ms.getD j 0
      · rw [decide_eq_true q]; exact beq_iff_eq.mpr q
      · rw [decide_eq_false q]; exact beq_eq_false_iff_ne.mpr q
    rw [← z]
    exact SeqAt.EqAt.int_int _ _ _ _) (fun j h1 h2 _ => by
    obtain ⟨t, et⟩ := at1 j h1
    obtain ⟨t', et'⟩ := at2 j h2
    rw [et, et']
    exact Ob.RcOp.gt_int _ _ _ _)
  rw [e1, e2, lex_gt _ 0 ns ms (by simp) (Nat.zero_le _) (Nat.zero_le _), List.drop_zero, List.drop_zero] at R
  have z : wpAny (model X.prog X.w) X.A (compareOp .Gt (.ref a) (.ref b)) (EP X pins σ Q) X.xe s := R X.prog X.w X.xe (EP X pins σ Q) ⟨.bl _, H, I, rfl, q⟩
  exact z
/-! ### xs[::-1], a list's or a tuple's -/
def tRevA (K : PySem.W.Frag) (te : TE) : TE := fun σ H Q => te σ H fun x H1 => (∃ a xs, x = .ref a ∧ SqL K H1 a xs ∧ ∀ p, H1 p = none → Q (.ref p) (upd H1 p (.lst xs.reverse))) ∨
  (∃ a xs, x = .ref a ∧ SqT K H1 a xs ∧ ∀ p, H1 p = none → Q (.ref p) (upd H1 p (.tup xs.reverse)))
theorem pe_revA {e : Expr} {te : TE} {k : Nat} {p1 p2 p3 pos : Pos} (he : PE X e te) : PE X (.Subscript e (.Slice none none (some (.UnaryOp .USub (.Constant (.int 1) k p1) p2)) p3) pos) (tRevA X.K te) := by
  refine ⟨fun pins s σ H Q I h => ?_⟩
  refine Subscript_ (thn (he.run pins s σ H _ I h) fun v s1 ⟨x, H1, I1, r1, q1⟩ => ?_)
  have hst : PO X (some (.UnaryOp .USub (.Constant (.int 1) k p1) p2)) (tPart (tUn (rU fun i => .int (-i)) (tC (.int 1)))) := po_some (pe_un un_neg pe_int)
  refine wpAny_Slice (thn (po_none.run pins s1 σ H1 (fun o H2 => o = none ∧ H2 = H1) I1 ⟨rfl, rfl⟩) fun vl s2 ⟨l, H2, I2, pl, el, e2⟩ => ?_)
  subst el e2
  refine thn (po_none.run pins s2 σ H2 (fun o H3 => o = none ∧ H3 = H2) I2 ⟨rfl, rfl⟩) fun vu s3 ⟨u, H3, I3, pu, eu, e3⟩ => ?_
  subst eu e3
  refine thn (hst.run pins s3 σ H3 (fun o H4 => o = some (-1) ∧ H4 = H3) I3 ⟨1, rfl, -1, rfl, rfl, rfl⟩) fun vs s4 ⟨o, H4, I4, ps, eo, e4⟩ => ?_
  subst eo e4
  have I5 : Inv X pins σ H4 { s4 with heap := s4.heap.push { cls := .type "slice", data := .fields #[vl, vu, vs] } } := I4.kept (t' := s4.toks) fun b ob q => Heap.get?_push_of_some _ q
  show wpAny (model X.prog X.w) X.A (subscriptTail e (.Slice none none (some (.UnaryOp .USub (.Constant (.int 1) k p1) p2)) p3) v (.ref s4.heap.objs.size)) (EP X pins σ Q) X.xe { s4 with heap := s4.heap.push { cls := .type "slice", data := .fields #[vl, vu, vs] } }
  rcases q1 with ⟨a, xs, ex, hx, q⟩ | ⟨a, xs, ex, hx, q⟩
  · subst ex
    cases r1
    obtain ⟨its, r, ht, hz⟩ := I5.list hx
    have hlen := r.length
    refine tail_any (ops := [.ref a, .ref s4.heap.objs.size]) ht.isList.typeIs (PySem.slot_list_getitem.lookup) ?_ (by with_unfolding_all rfl)
    refine wpAny_getItem_list_slice ht.isList (Heap.IsSliceOf.new _ vl vu vs) pl pu ps (by decide) ?_ (by rw [List.size_toArray]; omega)
    rw [PySem.W.krv_pick]
    refine ⟨.ref _, _, I5.laid (t' := s4.toks) (o := .lst xs.reverse) (fun b ob q => Heap.get?_push_of_some _ q) (Nat.le_refl _) ?_, rfl, q _ (I5.hok.fresh (Nat.le_refl _))⟩
    exact ⟨by rw [List.length_reverse]; exact hz, _, 0, r.reverse, Heap.get?_push_size _ rfl⟩
  · subst ex
    cases r1
    obtain ⟨its, r, ht, hz⟩ := I5.tuple hx
    have hlen := r.length
    refine tail_any (ops := [.ref a, .ref s4.heap.objs.size]) ht.typeIs (PyProof.Rows.slot_tuple_getitem.lookup) ?_ (by with_unfolding_all rfl)
    refine getItem_tuple_rev ht (Heap.IsSliceOf.new _ vl vu vs) pl pu ps ?_ (by rw [List.size_toArray]; omega)
    refine ⟨.ref _, _, I5.laid (t' := s4.toks) (o := .tup xs.reverse) (fun b ob q => Heap.get?_push_of_some _ q) (Nat.le_refl _) ?_, rfl, q _ (I5.hok.fresh (Nat.le_refl _))⟩
    exact ⟨by rw [List.length_reverse]; exact hz, _, r.reverse, _, Heap.get?_push_size _ rfl, rfl, _, rfl⟩
end
end MP

set_option Elab.async false
set_option linter.all false
set_option maxRecDepth 100000
/-! MiniPy, part A: values, heap, the compact syntax, the evaluator -/
namespace MP
open PySem L2

inductive T where
  | non | bl (b : Bool) | int (i : Int) | str (x : Str) | tup (xs : List T) | fz (xs : List T) | ref (n : Nat) | fn (f : String)
  deriving Inhabited

/-- a dict's key -/
inductive KT where
  | ki (i : Int) | ks (x : Str)
  deriving DecidableEq
def KT.key : KT → Key
  | .ki i => .inl i
  | .ks x => .inr x
def KT.t : KT → T
  | .ki i => .int i
  | .ks x => .str x
def T.kt : T → Option KT
  | .int i => some (.ki i)
  | .str x => some (.ks x)
  | _ => none

inductive O where
  | lst (xs : List T) | dK (kvs : List (KT × T)) | ins (c : String)
  deriving Inhabited
abbrev Hh := List O

inductive R (α : Type) where
  | ok (a : α) (h : Hh) | exc (c : String) (fs : List T) (h : Hh) | bad
def R.bd {α β : Type} (r : R α) (f : α → Hh → R β) : R β := match r with
  | .ok a h => f a h
  | .exc c fs h => .exc c fs h
  | .bad => .bad
@[simp] theorem R.bd_ok {α β : Type} (a : α) (h : Hh) (f : α → Hh → R β) : (R.ok a h).bd f = f a h := rfl
@[simp] theorem R.bd_exc {α β : Type} (c : String) (fs : List T) (h : Hh) (f : α → Hh → R β) : (R.exc c fs h : R α).bd f = .exc c fs h := rfl
@[simp] theorem R.bd_bad {α β : Type} (f : α → Hh → R β) : (R.bad : R α).bd f = .bad := rfl
theorem R.bd_eq_ok {α β : Type} {r : R α} {f : α → Hh → R β} {b : β} {h' : Hh} (e : r.bd f = .ok b h') : ∃ a h1, r = .ok a h1 ∧ f a h1 = .ok b h' := by
  cases r with
  | ok a h1 => exact ⟨a, h1, rfl, e⟩
  | exc c fs h1 => cases e
  | bad => cases e

/-! ### data -/
mutual
def T.dat (f : Nat → Option PyData) : T → Option PyData
  | .non => some .none
  | .bl b => some (.bool b)
  | .int i => some (.int i)
  | .str x => some (.str x)
  | .tup xs => (T.dats f xs).map .tuple
  | .fz xs => (T.dats f xs).map .list
  | .ref n => f n
  | .fn _ => none
def T.dats (f : Nat → Option PyData) : List T → Option (List PyData)
  | [] => some []
  | x :: xs => match T.dat f x with
    | some d => (T.dats f xs).map (d :: ·)
    | none => none
end
def refD : Nat → Hh → Nat → Option PyData
  | 0, _, _ => none
  | k + 1, h, n => match h[n]? with
    | some (.lst xs) => (T.dats (refD k h) xs).map .list
    | _ => none
def KT.d : KT → PyData
  | .ki i => .int i
  | .ks x => .str x
/-- dicts too, for repr -/
def refR : Nat → Hh → Nat → Option PyData
  | 0, _, _ => none
  | k + 1, h, n => match h[n]? with
    | some (.lst xs) => (T.dats (refR k h) xs).map .list
    | some (.dK kvs) => (T.dats (refR k h) (kvs.map (·.2))).map fun ds => .dict ((kvs.map fun p => p.1.d).zip ds)
    | _ => none
def datR (h : Hh) (t : T) : Option PyData := T.dat (refR 12 h) t
def dat (h : Hh) (t : T) : Option PyData := T.dat (refD 12 h) t
def dats (h : Hh) (ts : List T) : Option (List PyData) := T.dats (refD 12 h) ts

/-! ### the syntax -/
inductive Bop where
  | add | sub | mul | fdiv | mod | pow | shl | shr | band | bor | bxor
  deriving DecidableEq
inductive Cop where
  | eq | ne | lt | le | gt | ge | inn | nin | is | isnt
  deriving DecidableEq
inductive Blt where
  | len | list | tuple | sorted | all | any | sum | max | min | int | repr | str | abs | bool
  deriving DecidableEq
inductive Mth where
  | append | extend | pop | get | index
  deriving DecidableEq

mutual
inductive CE where
  | var (i : Nat) | int (i : Int) | bl (b : Bool) | non | str (x : String)
  | glob (x : String)
  | bin (op : Bop) (a b : CE) | neg (a : CE) | inv (a : CE) | not (a : CE)
  | cmp (op : Cop) (a b : CE) | chn (op op' : Cop) (a b c : CE)
  | isN (a : CE) | isnN (a : CE)
  | and (es : CEs) | or (es : CEs) | ite (c a b : CE)
  | tup (es : CEs) | lst (es : CEs) | dic (ps : CKs)
  | idx (a i : CE) | slc (a : CE) (lo hi : CO) | rev (a : CE)
  | new (c g : String) (a : CE)
  | call (f : String) (as : CEs) | callK (f : String) (as : CEs) (ks : List String) (vs : CEs)
  | blt (b : Blt) (as : CEs) | sset (a : CE) | lset (a : CE)
  | isiT (a : CE) (ts : List String)
  | mth (m : Mth) (o : CE) (as : CEs)
  | rngL (it : CI) | rngT (it : CI)
  | told (g f : String) (is : List Nat) (ks : List String) (js : List Nat)
  | comp (own : List Nat) (tg : Tg) (it : CI) (c : CO) (elt : CE)
inductive CEs where
  | nil | cons (e : CE) (es : CEs)
inductive CKs where
  | nil | cons (k e : CE) (r : CKs)
inductive CO where
  | no | so (e : CE)
inductive CI where
  | val (e : CE) | rng1 (a : CE) | rng2 (a b : CE) | rng3 (a b c : CE) | enum (a : CE) | zip (a b : CE)
inductive Tg where
  | var (i : Nat) | tup (ts : Tgs) | sub (o i : CE)
inductive Tgs where
  | nil | cons (t : Tg) (ts : Tgs)
end
mutual
def Tg.vars : Tg → List Nat
  | .var i => [i]
  | .tup ts => ts.vars
  | .sub _ _ => []
def Tgs.vars : Tgs → List Nat
  | .nil => []
  | .cons t ts => t.vars ++ ts.vars
end
/-! no store into a thing -/
mutual
def Tg.plain : Tg → Bool
  | .var _ => true
  | .tup ts => ts.plain
  | .sub _ _ => false
def Tgs.plain : Tgs → Bool
  | .nil => true
  | .cons t ts => t.plain && ts.plain
end
mutual
inductive CS where
  | pass | expr (e : CE) | ret (e : CE) | retN
  | set (t : Tg) (e : CE) | aug (i : Nat) (op : Bop) (e : CE) | augS (o i : CE) (op : Bop) (e : CE)
  | iff (c : CE) (a b : CSs) | for (t : Tg) (it : CI) (body : CSs) | whl (c : CE) (body : CSs)
  | brk | cnt | never
  | exprX (f : String) (as : CEs) (ks : List String) (vs : CEs) | retX (f : String) (as : CEs) (ks : List String) (vs : CEs) | setX (t : Tg) (f : String) (as : CEs) (ks : List String) (vs : CEs) | raise (c : String) (e : CE)
inductive CSs where
  | nil | cons (s : CS) (ss : CSs)
end

/-! ### operators -/
def CPowB (i j : Int) : Bool := decide (0 ≤ j) && decide (j ≤ 1000000) && decide (i.natAbs < 2 ^ 64)
def CMulB (i j : Int) : Bool := (decide (-(2 ^ 64) < i) && decide (i < 2 ^ 64)) || (decide (-(2 ^ 64) < j) && decide (j < 2 ^ 64)) || (decide (i.natAbs < 2 ^ 600) && decide (j.natAbs < 2 ^ 600))
def CDivB (i j : Int) : Bool := decide (0 < j) && decide (j < 1073741824)
def intOp : Bop → Int → Int → Option Int
  | .add, i, j => some (i + j)
  | .sub, i, j => some (i - j)
  | .mul, i, j => if CMulB i j = true then some (i * j) else none
  | .fdiv, i, j => if CDivB i j = true then some (i / j) else none
  | .mod, i, j => if 0 < j then some (i % j) else none
  | .pow, i, j => if CPowB i j = true then some (i ^ j.toNat) else none
  | .shl, i, j => if CPowB i j = true then some (i * 2 ^ j.toNat) else none
  | .shr, i, j => if 0 ≤ j then some (i / 2 ^ j.toNat) else none
  | .band, i, j => some (Builtin.bitAnd i j)
  | .bor, i, j => some (Builtin.bitOr i j)
  | .bxor, i, j => some (Builtin.bitXor i j)
def mutL (h : Hh) (n : Nat) : Option (List T) := match h[n]? with
  | some (.lst xs) => some xs
  | _ => none
/-- the items of a list -/
def lsT (h : Hh) : T → Option (List T)
  | .ref n => mutL h n
  | .fz xs => some xs
  | _ => none
def newL (h : Hh) (xs : List T) : R T := if xs.length ≤ 16777216 then .ok (.ref h.length) (h ++ [.lst xs]) else .bad
def newT (h : Hh) (xs : List T) : R T := if xs.length ≤ 16777216 then .ok (.tup xs) h else .bad
def binT (op : Bop) (x y : T) (h : Hh) : R T := match x, y with
  | .int i, .int j => match intOp op i j with
    | some k => .ok (.int k) h
    | none => .bad
  | .bl a, .int j => match op with
    | .add => .ok (.int (b2I a + j)) h
    | .sub => .ok (.int (b2I a - j)) h
    | _ => .bad
  | .str a, .str b => match op with
    | .add => if a.length + b.length ≤ 16777216 then .ok (.str (a ++ b)) h else .bad
    | _ => .bad
  | .tup xs, .tup ys => match op with
    | .add => newT h (xs ++ ys)
    | _ => .bad
  | .ref a, .ref b => match op, mutL h a, mutL h b with
    | .add, some xs, some ys => newL h (xs ++ ys)
    | _, _, _ => .bad
  | .ref a, .int k => match op, mutL h a with
    | .mul, some xs => if -(2 ^ 62) ≤ k ∧ k < 2 ^ 62 then newL h (List.replicate k.toNat xs).flatten else .bad
    | _, _ => .bad
  | .tup xs, .int k => match op, xs with
    | .mul, x :: r => if 1 ≤ k ∧ k ≤ 1000 ∧ (x :: r).length ≤ 1000 then .ok (.tup (List.replicate k.toNat (x :: r)).flatten) h else .bad
    | _, _ => .bad
  | _, _ => .bad
def eqD (h : Hh) (x y : T) : Option Bool := match dat h x, dat h y with
  | some d, some e => if (SeqAt.shaped d && SeqAt.shaped e) = true then some (PyData.eqv d e) else none
  | _, _ => none
/-- == of two tuples or two lists of which one is empty -/
def emT (h : Hh) (x y : T) : Option Bool := match x, y with
  | .tup xs, .tup ys => if (xs.isEmpty || ys.isEmpty) = true then some (decide (xs.length = ys.length)) else none
  | .ref a, .ref b => match mutL h a, mutL h b with
    | some xs, some ys => if (xs.isEmpty || ys.isEmpty) = true then some (decide (xs.length = ys.length)) else none
    | _, _ => none
  | _, _ => none
/-- == of two texts -/
def strQ (x y : T) : Option Bool := match x, y with
  | .str a, .str b => some (decide (a = b))
  | _, _ => none
def eqT (h : Hh) (x y : T) : Option Bool := match strQ x y with
  | some b => some b
  | none => match emT h x y with
    | some b => some b
    | none => eqD h x y
/-- x among ys -/
def inT (h : Hh) (x : T) (ys : List T) : Option Bool := match dat h x, dats h ys with
  | some d, some ds => if (SeqAt.shaped d && SeqAt.shaped (.list ds)) = true then some (ds.any fun z => PyData.eqv z d) else none
  | _, _ => none
def T.isNone : T → Bool
  | .non => true
  | _ => false
def T.flat : T → Bool
  | .non => true
  | .bl _ => true
  | .int _ => true
  | .str _ => true
  | _ => false
def intC : Cop → Int → Int → Option Bool
  | .lt, i, j => some (decide (i < j))
  | .le, i, j => some (decide (i ≤ j))
  | .gt, i, j => some (decide (j < i))
  | .ge, i, j => some (decide (j ≤ i))
  | _, _, _ => none
def lookK (kvs : List (KT × T)) (k : KT) : Option T := (kvs.find? fun kv => decide (kv.1 = k)).map (·.2)
def putKT (kvs : List (KT × T)) (k : KT) (v : T) : List (KT × T) :=
  if (kvs.any fun kv => decide (kv.1 = k)) = true then kvs.map (fun kv => if kv.1 = k then (kv.1, v) else kv) else kvs ++ [(k, v)]
def inO (x y : T) (h : Hh) : Option Bool := match y with
  | .fz ys => inT h x ys
  | .ref n => match h[n]? with
    | some (.lst ys) => inT h x ys
    | some (.dK kvs) => match x.kt with
      | some k => some (lookK kvs k).isSome
      | none => none
    | _ => none
  | .tup ys => if (x.flat && ys.all T.flat) = true then inT h x ys else none
  | _ => none
def intsT : List T → Option (List Int)
  | [] => some []
  | .int i :: r => (intsT r).map (i :: ·)
  | _ => none
def numC (op : Cop) (x y : T) (h : Hh) : R T := match x, y with
  | .int i, .int j => match intC op i j with
    | some b => .ok (.bl b) h
    | none => .bad
  | .tup xs, .tup ys => match op, intsT xs, intsT ys with
    | .gt, some ns, some ms => .ok (.bl (gtI ns ms)) h
    | _, _, _ => .bad
  | _, _ => .bad
def cmpT (op : Cop) (x y : T) (h : Hh) : R T := match op with
  | .eq => match eqT h x y with
    | some b => .ok (.bl b) h
    | none => .bad
  | .ne => match eqT h x y with
    | some b => .ok (.bl (!b)) h
    | none => .bad
  | .inn => match inO x y h with
    | some b => .ok (.bl b) h
    | none => .bad
  | .nin => match inO x y h with
    | some b => .ok (.bl (!b)) h
    | none => .bad
  | .is => match x, y with
    | .bl a, .bl b => .ok (.bl (decide (a = b))) h
    | _, _ => .bad
  | .isnt => match x, y with
    | .bl a, .bl b => .ok (.bl (!decide (a = b))) h
    | _, _ => .bad
  | op => numC op x y h
def idxT (x i : T) (h : Hh) : R T := match x, i with
  | .tup xs, .int k => match atI xs k with
    | some v => .ok v h
    | none => .bad
  | .ref n, i => match h[n]?, i with
    | some (.lst xs), .int k => match atI xs k with
      | some v => .ok v h
      | none => .bad
    | some (.dK kvs), i => match i.kt with
      | some k => match lookK kvs k with
        | some v => .ok v h
        | none => .bad
      | none => .bad
    | _, _ => .bad
  | .fz xs, .int k => match atI xs k with
    | some v => .ok v h
    | none => .bad
  | .str x, .int k => match atI x.cps.toList k with
    | some c => if x.length ≤ 16777216 then .ok (.str ⟨#[c]⟩) h else .bad
    | none => .bad
  | _, _ => .bad
def cutT {α : Type} (xs : List α) (lo hi : Option Int) : List α := (xs.drop (HT.sIx xs.length 0 lo)).take (HT.sIx xs.length xs.length hi - HT.sIx xs.length 0 lo)
def slcT (x : T) (lo hi : Option Int) (h : Hh) : R T := match x with
  | .tup xs => .ok (.tup (cutT xs lo hi)) h
  | x => match lsT h x with
    | some xs => newL h (cutT xs lo hi)
    | none => .bad
def revT (x : T) (h : Hh) : R T := match x with
  | .tup xs => .ok (.tup xs.reverse) h
  | x => match lsT h x with
    | some xs => newL h xs.reverse
    | none => .bad
def boolsT : List T → Option (List Bool)
  | [] => some []
  | .bl i :: r => (boolsT r).map (i :: ·)
  | _ => none
def maxI : List Int → Option Int
  | [] => none
  | x :: r => some (r.foldl max x)
def minI : List Int → Option Int
  | [] => none
  | x :: r => some (r.foldl min x)
/-- what can be sorted: all items alike, all tuples with an item at least, or none a tuple or None -/
def sortable (ds : List PyData) : Bool :=
  (ds.all fun d => ds.all fun e => W.alike d e) &&
    ((ds.all fun d => match d with | .tuple (_ :: _) => true | _ => false) || (ds.all fun d => match d with | .none => false | .tuple _ => false | _ => true)) &&
    (ds.all fun d => decide (d.depth ≤ 60))
def sortP (ps : List (T × PyData)) : List (T × PyData) := ps.mergeSort (W.dataLe false fun p : T × PyData => p.2)
def sortT (h : Hh) (xs : List T) : Option (List T) := match dats h xs with
  | some ds => if sortable ds = true ∧ xs.length ≤ 16777216 then some ((sortP (xs.zip ds)).map (·.1)) else none
  | none => none
def seqOf (h : Hh) : T → Option (List T)
  | .tup xs => some xs
  | x => lsT h x
def typeN (h : Hh) : T → Option String
  | .non => some "NoneType"
  | .bl _ => some "bool"
  | .int _ => some "int"
  | .str _ => some "str"
  | .tup _ => some "tuple"
  | .fz _ => some "list"
  | .ref n => match h[n]? with
    | some (.lst _) => some "list"
    | some (.dK _) => some "dict"
    | some (.ins c) => some c
    | none => none
  | .fn _ => none
def isiT1 (n : String) (t : String) : Bool := n == t || (n == "bool" && t == "int")
def bltT (b : Blt) (as : List T) (h : Hh) : R T := match b, as with
  | .len, [x] => match x with
    | .tup xs => .ok (.int xs.length) h
    | .fz xs => .ok (.int xs.length) h
    | .str s => if s.length ≤ 16777216 then .ok (.int s.length) h else .bad
    | .ref n => match h[n]? with
      | some (.lst xs) => .ok (.int xs.length) h
      | some (.dK kvs) => .ok (.int kvs.length) h
      | _ => .bad
    | _ => .bad
  | .list, [x] => match seqOf h x with
    | some xs => newL h xs
    | none => .bad
  | .tuple, [x] => match x with
    | .tup xs => .ok (.tup xs) h
    | x => match lsT h x with
      | some xs => .ok (.tup xs) h
      | none => .bad
  | .sorted, [x] => match seqOf h x with
    | some xs => match sortT h xs with
      | some ys => newL h ys
      | none => .bad
    | none => .bad
  | .all, [x] => match (lsT h x).bind boolsT with
    | some bs => .ok (.bl (bs.all id)) h
    | none => .bad
  | .any, [x] => match (lsT h x).bind boolsT with
    | some bs => .ok (.bl (bs.any id)) h
    | none => .bad
  | .sum, [x] => match (lsT h x).bind intsT with
    | some ns => .ok (.int ns.sum) h
    | none => .bad
  | .max, [x] => match ((lsT h x).bind intsT).bind maxI with
    | some m => .ok (.int m) h
    | none => .bad
  | .min, [x] => match ((lsT h x).bind intsT).bind minI with
    | some m => .ok (.int m) h
    | none => .bad
  | .max, [.int i, .int j] => .ok (.int (if j > i then j else i)) h
  | .min, [.int i, .int j] => .ok (.int (if j < i then j else i)) h
  | .int, [.int i] => .ok (.int i) h
  | .int, [.bl b] => .ok (.int (b2I b)) h
  | .repr, [x] => match datR h x with
    | some d => if (decide (d.shown.length ≤ 16777216) && d.showable && decide (d.depth ≤ 60)) = true then .ok (.str d.shown) h else .bad
    | none => .bad
  | .str, [.int i] => if i.natAbs.log2 < 1920 then .ok (.str (toString i)) h else .bad
  | .str, [.bl b] => .ok (.str (if b then "True" else "False")) h
  | .abs, [.int i] => .ok (.int (if i < 0 then -i else i)) h
  | _, _ => .bad
def Mth.ty : Mth → String
  | .get => "dict"
  | _ => "list"
def mthT (m : Mth) (o : T) (as : List T) (h : Hh) : R T := match m, o, as with
  | .append, .ref n, [x] => match mutL h n with
    | some xs => if xs.length < 16777216 then .ok .non (h.set n (.lst (xs ++ [x]))) else .bad
    | none => .bad
  | .extend, .ref n, [.ref m] => match mutL h n, mutL h m with
    | some xs, some ys => if xs.length + ys.length ≤ 16777216 then .ok .non (h.set n (.lst (xs ++ ys))) else .bad
    | _, _ => .bad
  | .pop, .ref n, [] => match mutL h n with
    | some xs => match xs[xs.length - 1]? with
      | some y => .ok y (h.set n (.lst xs.dropLast))
      | none => .bad
    | none => .bad
  | .pop, .ref n, [.int i] => match mutL h n with
    | some xs => match ixN xs.length i with
      | some k => match xs[k]? with
        | some y => if -(2 ^ 62) ≤ i ∧ i < 2 ^ 62 then .ok y (h.set n (.lst (xs.eraseIdx k))) else .bad
        | none => .bad
      | none => .bad
    | none => .bad
  | .get, .ref n, [x] => match h[n]?, x.kt with
    | some (.dK kvs), some k => .ok ((lookK kvs k).getD .non) h
    | _, _ => .bad
  | .get, .ref n, [x, d] => match h[n]?, x.kt with
    | some (.dK kvs), some k => .ok ((lookK kvs k).getD d) h
    | _, _ => .bad
  | _, _, _ => .bad
def setT (o i v : T) (h : Hh) : R Unit := match o with
  | .ref n => match h[n]?, i with
    | some (.lst xs), .int k => match ixN xs.length k with
      | some j => .ok () (h.set n (.lst (xs.set j v)))
      | none => .bad
    | some (.dK kvs), i => match i.kt with
      | some k => if kvs.length < 16777216 then .ok () (h.set n (.dK (putKT kvs k v))) else .bad
      | none => .bad
    | _, _ => .bad
  | _ => .bad
/-- the ints, each once, in order -/
def insU (k : Int) : List Int → List Int
  | [] => [k]
  | j :: r => if k < j then k :: j :: r else if k = j then j :: r else j :: insU k r
def sdd (ns : List Int) : List Int := ns.foldr insU []
def ssetT (h : Hh) (x : T) : R T := match (lsT h x).bind intsT with
  | some ns => if ns.length < 64 then newL h ((sdd ns).map T.int) else .bad
  | none => .bad
/-- how many unlike ints -/
def lsetT (h : Hh) (x : T) : R T := match (seqOf h x).bind intsT with
  | some ns => if ns.length < 1000 then .ok (.int (sdd ns).length) h else .bad
  | none => .bad
def mergeKT : List (KT × T) → List KT → List T → Option (List (KT × T))
  | acc, [], [] => some acc
  | acc, k :: ks, v :: vs => mergeKT (putKT acc k v) ks vs
  | _, _, _ => none
def keysT : List T → Option (List KT)
  | [] => some []
  | t :: r => match t.kt with
    | some k => (keysT r).map (k :: ·)
    | none => none
def rangeT (a b : Int) : List T := (List.range (b - a).toNat).map fun i => T.int (a + (i : Nat))
def rangeC (a c : Int) (n : Nat) : List T := (List.range n).map fun i => T.int (a + (i : Nat) * c)
def enumT (k : Nat) : List T → List T
  | [] => []
  | x :: r => .tup [.int k, x] :: enumT (k + 1) r
def zipT : List T → List T → List T
  | x :: r, y :: s => .tup [x, y] :: zipT r s
  | _, _ => []
def rgOk (a b : Int) : Bool := decide (-(2 ^ 62) ≤ a) && decide (a < 2 ^ 62) && decide (-(2 ^ 62) ≤ b) && decide (b < 2 ^ 62)

/-! ### the evaluator -/
abbrev Ls := List (Option T)
/-- the lists that a loop walks, as they stand -/
abbrev Wt := List (T × List T)
noncomputable def wtOk (w : Wt) (h : Hh) : Bool := @decide (∀ p ∈ w, lsT h p.1 = some p.2) (Classical.propDecidable _)
inductive Fl where
  | nx | bk | ct | rt (t : T) | xc (c : String) (fs : List T)
def wipeL (ls : Ls) : List Nat → Ls
  | [] => ls
  | v :: vs => (wipeL ls vs).set v none
noncomputable def evFor (w : Wt) (asg : T → Ls → Hh → R Ls) (body : Ls → Hh → R (Fl × Ls)) : List T → Ls → Hh → R (Fl × Ls)
  | [], ls, h => if wtOk w h = true then .ok (.nx, ls) h else .bad
  | x :: xs, ls, h => if wtOk w h = true then (asg x ls h).bd fun ls1 h1 => (body ls1 h1).bd fun p h2 => match p.1 with
      | .nx => evFor w asg body xs p.2 h2
      | .ct => evFor w asg body xs p.2 h2
      | .bk => .ok (.nx, p.2) h2
      | .rt t => .ok (.rt t, p.2) h2
      | .xc c fs => .ok (.xc c fs, p.2) h2
    else .bad
noncomputable def evComp (w : Wt) (asg : T → Ls → Hh → R Ls) (c : Ls → Hh → R T) (elt : Ls → Hh → R T) (ls : Ls) : List T → List T → Hh → R T
  | [], acc, h => if wtOk w h = true then .ok (.ref h.length) (h ++ [.lst acc]) else .bad
  | x :: xs, acc, h => if wtOk w h = true then (asg x ls h).bd fun ls1 h1 => (c ls1 h1).bd fun b h2 => match b with
      | .bl true => (elt ls1 h2).bd fun y h3 => if acc.length < 16777216 then evComp w asg c elt ls xs (acc ++ [y]) h3 else .bad
      | .bl false => evComp w asg c elt ls xs acc h2
      | _ => .bad
    else .bad
def whileN (c : Ls → Hh → R T) (body : Ls → Hh → R (Fl × Ls)) : Nat → Ls → Hh → R (Fl × Ls)
  | 0, _, _ => .bad
  | n + 1, ls, h => (c ls h).bd fun b h1 => match b with
    | .bl false => .ok (.nx, ls) h1
    | .bl true => (body ls h1).bd fun p h2 => match p.1 with
      | .nx => whileN c body n p.2 h2
      | .ct => whileN c body n p.2 h2
      | .bk => .ok (.nx, p.2) h2
      | .rt t => .ok (.rt t, p.2) h2
      | .xc c fs => .ok (.xc c fs, p.2) h2
    | _ => .bad
open Classical in
noncomputable def whileW (c : Ls → Hh → R T) (body : Ls → Hh → R (Fl × Ls)) (ls : Ls) (h : Hh) : R (Fl × Ls) :=
  if e : ∃ n, whileN c body n ls h ≠ .bad then whileN c body e.choose ls h else .bad
def unitT : R Unit → R T
  | .ok _ h => .ok .non h
  | .exc c fs h => .exc c fs h
  | .bad => .bad
structure FD where
  ps : List String
  N : List String
  body : CSs
/-- a def that may use repr -/
def grd (fd : FD) : Bool := decide (Str.ofString "<repr>" ∈ fd.N.map Str.ofString)
structure Tbl where
  fn : String → Option FD
  gl : String → Option T
  kw : List (String × Nat × List String)
  nw : List (String × String)
  td : String → Option (List (String × String))
  xs : List (String × String)
def ordK {α : Type} (ps : List String) (n : Nat) (as : List α) (ks : List String) (vs : List α) : Option (List α) :=
  if as.length + vs.length = ps.length ∧ as.length = n ∧ ks.length = vs.length then
    ((ps.drop n).mapM fun p => (ks.zip vs).lookup p).map (as ++ ·)
  else none
/-- the arguments of a call in the order of the parameters -/
def argX (D : Tbl) (f : String) (xs : List T) (ks : List String) (ys : List T) : Option (List T) := match D.fn f with
  | some fd => match ks with
    | [] => some xs
    | ks => ordK fd.ps xs.length xs ks ys
  | none => none
/-- what a told makes of a call: its value, or the word of the handler and the exception's field -/
def toldT (hs : List (String × String)) : R T → R T
  | .ok v h => .ok (.tup [.str (Str.ofString "told"), v]) h
  | .exc c fs h => match hs.lookup c, fs with
    | some w, [x] => .ok (.tup [.str (Str.ofString w), x]) h
    | _, _ => .bad
  | .bad => .bad
/-- what stands in these slots -/
def getL (ls : Ls) : List Nat → Option (List T)
  | [] => some []
  | i :: r => match ls[i]? with
    | some (some t) => (getL ls r).map (t :: ·)
    | _ => none
def flX : R T → R Fl
  | .ok v h => .ok (.rt v) h
  | .exc c fs h => .ok (.xc c fs) h
  | .bad => .bad

mutual
noncomputable def evE (D : Tbl) (C : String → List T → Hh → R T) : CE → Ls → Hh → R T
  | .var i, ls, h => match ls[i]? with
    | some (some t) => .ok t h
    | _ => .bad
  | .int i, _, h => .ok (.int i) h
  | .bl b, _, h => .ok (.bl b) h
  | .non, _, h => .ok .non h
  | .str x, _, h => .ok (.str (Str.ofString x)) h
  | .glob x, _, h => match D.gl x with
    | some t => .ok t h
    | none => .bad
  | .bin op a b, ls, h => (evE D C a ls h).bd fun x h1 => (evE D C b ls h1).bd fun y h2 => binT op x y h2
  | .neg a, ls, h => (evE D C a ls h).bd fun x h1 => match x with
    | .int i => .ok (.int (-i)) h1
    | .bl b => .ok (.int (-(b2I b))) h1
    | _ => .bad
  | .inv a, ls, h => (evE D C a ls h).bd fun x h1 => match x with
    | .int i => .ok (.int (Builtin.bitNot i)) h1
    | _ => .bad
  | .not a, ls, h => (evE D C a ls h).bd fun x h1 => match x with
    | .bl b => .ok (.bl (!b)) h1
    | _ => .bad
  | .cmp op a b, ls, h => (evE D C a ls h).bd fun x h1 => (evE D C b ls h1).bd fun y h2 => cmpT op x y h2
  | .chn op op' a b c, ls, h => (evE D C a ls h).bd fun x h1 => (evE D C b ls h1).bd fun y h2 => (cmpT op x y h2).bd fun z h3 => match z with
    | .bl true => (evE D C c ls h3).bd fun u h4 => cmpT op' y u h4
    | .bl false => .ok (.bl false) h3
    | _ => .bad
  | .isN a, ls, h => (evE D C a ls h).bd fun x h1 => .ok (.bl x.isNone) h1
  | .isnN a, ls, h => (evE D C a ls h).bd fun x h1 => .ok (.bl (!x.isNone)) h1
  | .and es, ls, h => evAnd D C es ls h
  | .or es, ls, h => evOr D C es ls h
  | .ite c a b, ls, h => (evE D C c ls h).bd fun x h1 => match x with
    | .bl true => evE D C a ls h1
    | .bl false => evE D C b ls h1
    | _ => .bad
  | .tup es, ls, h => (evEs D C es ls h).bd fun xs h1 => newT h1 xs
  | .lst es, ls, h => (evEs D C es ls h).bd fun xs h1 => newL h1 xs
  | .dic ps, ls, h => (evKV D C ps ls h).bd fun p h1 => match keysT p.1 with
    | some ks => match mergeKT [] ks p.2 with
      | some kvs => .ok (.ref h1.length) (h1 ++ [.dK kvs])
      | none => .bad
    | none => .bad
  | .idx a i, ls, h => (evE D C a ls h).bd fun x h1 => (evE D C i ls h1).bd fun y h2 => idxT x y h2
  | .slc a lo hi, ls, h => (evE D C a ls h).bd fun x h1 => (evO D C lo ls h1).bd fun l h2 => (evO D C hi ls h2).bd fun u h3 => slcT x l u h3
  | .rev a, ls, h => (evE D C a ls h).bd fun x h1 => revT x h1
  | .call f as, ls, h => (evEs D C as ls h).bd fun xs h1 => C f xs h1
  | .callK f as ks vs, ls, h => (evEs D C as ls h).bd fun xs h1 => (evEs D C vs ls h1).bd fun ys h2 => match D.fn f with
    | some fd => match ordK fd.ps xs.length xs ks ys with
      | some zs => C f zs h2
      | none => .bad
    | none => .bad
  | .new c g a, ls, h => (evE D C a ls h).bd fun x h1 => (C g [x] h1).bd fun _ h2 => .ok (.ref h2.length) (h2 ++ [.ins c])
  | .blt b as, ls, h => (evEs D C as ls h).bd fun xs h1 => bltT b xs h1
  | .sset a, ls, h => (evE D C a ls h).bd fun x h1 => ssetT h1 x
  | .lset a, ls, h => (evE D C a ls h).bd fun x h1 => lsetT h1 x
  | .isiT a ts, ls, h => (evE D C a ls h).bd fun x h1 => match typeN h1 x with
    | some n => .ok (.bl (ts.any (isiT1 n))) h1
    | none => .bad
  | .mth m o as, ls, h => (evE D C o ls h).bd fun x h1 => if typeN h1 x = some m.ty then (evEs D C as ls h1).bd fun ys h2 => mthT m x ys h2 else .bad
  | .rngL it, ls, h => (evI D C it ls h).bd fun p h1 => newL h1 p.1
  | .rngT it, ls, h => (evI D C it ls h).bd fun p h1 => newT h1 p.1
  | .told g f is ks js, ls, h => match getL ls is, getL ls js with
    | some xs, some ys => match D.td g, argX D f xs ks ys with
      | some hs, some zs => toldT hs (C f zs h)
      | _, _ => .bad
    | _, _ => .bad
  | .comp own tg it c elt, ls, h => (evI D C it ls h).bd fun p h1 =>
      evComp p.2 (fun x l hh => evG D C tg x l hh) (fun l hh => evC D C c l hh) (fun l hh => evE D C elt l hh) (wipeL ls own) p.1 [] h1
noncomputable def evEs (D : Tbl) (C : String → List T → Hh → R T) : CEs → Ls → Hh → R (List T)
  | .nil, _, h => .ok [] h
  | .cons e es, ls, h => (evE D C e ls h).bd fun x h1 => (evEs D C es ls h1).bd fun xs h2 => .ok (x :: xs) h2
noncomputable def evKV (D : Tbl) (C : String → List T → Hh → R T) : CKs → Ls → Hh → R (List T × List T)
  | .nil, _, h => .ok ([], []) h
  | .cons k e r, ls, h => (evE D C k ls h).bd fun x h1 => (evE D C e ls h1).bd fun y h2 => (evKV D C r ls h2).bd fun p h3 => .ok (x :: p.1, y :: p.2) h3
noncomputable def evO (D : Tbl) (C : String → List T → Hh → R T) : CO → Ls → Hh → R (Option Int)
  | .no, _, h => .ok none h
  | .so e, ls, h => (evE D C e ls h).bd fun x h1 => match x with
    | .int i => .ok (some i) h1
    | _ => .bad
/-- a comprehension's test -/
noncomputable def evC (D : Tbl) (C : String → List T → Hh → R T) : CO → Ls → Hh → R T
  | .no, _, h => .ok (.bl true) h
  | .so e, ls, h => evE D C e ls h
noncomputable def evAnd (D : Tbl) (C : String → List T → Hh → R T) : CEs → Ls → Hh → R T
  | .nil, _, _ => .bad
  | .cons e es, ls, h => (evE D C e ls h).bd fun x h1 => match es with
    | .nil => .ok x h1
    | es => match x with
      | .bl true => evAnd D C es ls h1
      | .bl false => .ok (.bl false) h1
      | _ => .bad
noncomputable def evOr (D : Tbl) (C : String → List T → Hh → R T) : CEs → Ls → Hh → R T
  | .nil, _, _ => .bad
  | .cons e es, ls, h => (evE D C e ls h).bd fun x h1 => match es with
    | .nil => .ok x h1
    | es => match x with
      | .bl false => evOr D C es ls h1
      | .bl true => .ok (.bl true) h1
      | _ => .bad
noncomputable def evI (D : Tbl) (C : String → List T → Hh → R T) : CI → Ls → Hh → R (List T × Wt)
  | .val e, ls, h => (evE D C e ls h).bd fun x h1 => match x with
    | .tup xs => .ok (xs, []) h1
    | x => match lsT h1 x with
      | some xs => .ok (xs, [(x, xs)]) h1
      | none => .bad
  | .rng1 a, ls, h => (evE D C a ls h).bd fun x h1 => match x with
    | .int i => if rgOk 0 i = true then .ok (rangeT 0 i, []) h1 else .bad
    | _ => .bad
  | .rng2 a b, ls, h => (evE D C a ls h).bd fun x h1 => (evE D C b ls h1).bd fun y h2 => match x, y with
    | .int i, .int j => if rgOk i j = true then .ok (rangeT i j, []) h2 else .bad
    | _, _ => .bad
  | .rng3 a b c, ls, h => (evE D C a ls h).bd fun x h1 => (evE D C b ls h1).bd fun y h2 => (evE D C c ls h2).bd fun z h3 => match x, y, z with
    | .int i, .int j, .int (-1) => if rgOk i j = true then .ok (rangeC i (-1) (i - j).toNat, []) h3 else .bad
    | _, _, _ => .bad
  | .enum e, ls, h => (evE D C e ls h).bd fun x h1 => match x with
    | .tup xs => .ok (enumT 0 xs, []) h1
    | x => match lsT h1 x with
      | some xs => .ok (enumT 0 xs, [(x, xs)]) h1
      | none => .bad
  | .zip a b, ls, h => (evE D C a ls h).bd fun x h1 => (evE D C b ls h1).bd fun y h2 => match x, y with
    | .tup xs, .tup ys => .ok (zipT xs ys, []) h2
    | x, y => match lsT h2 x, lsT h2 y with
      | some xs, some ys => .ok (zipT xs ys, [(x, xs), (y, ys)]) h2
      | _, _ => .bad
noncomputable def evG (D : Tbl) (C : String → List T → Hh → R T) : Tg → T → Ls → Hh → R Ls
  | .var i, x, ls, h => if i < ls.length then .ok (ls.set i (some x)) h else .bad
  | .tup ts, x, ls, h => match x with
    | .tup xs => evGs D C ts xs ls h
    | _ => .bad
  | .sub o i, x, ls, h => (evE D C o ls h).bd fun p h1 => (evE D C i ls h1).bd fun y h2 => (setT p y x h2).bd fun _ h3 => .ok ls h3
noncomputable def evGs (D : Tbl) (C : String → List T → Hh → R T) : Tgs → List T → Ls → Hh → R Ls
  | .nil, [], ls, h => .ok ls h
  | .cons t ts, x :: xs, ls, h => (evG D C t x ls h).bd fun l1 h1 => evGs D C ts xs l1 h1
  | _, _, _, _ => .bad
end
/-- a call that may raise -/
noncomputable def evX (D : Tbl) (C : String → List T → Hh → R T) (f : String) (as : CEs) (ks : List String) (vs : CEs) (ls : Ls) (h : Hh) : R Fl :=
  (evEs D C as ls h).bd fun xs h1 => (evEs D C vs ls h1).bd fun ys h2 => match argX D f xs ks ys with
    | some zs => flX (C f zs h2)
    | none => .bad
mutual
noncomputable def evS (D : Tbl) (C : String → List T → Hh → R T) : CS → Ls → Hh → R (Fl × Ls)
  | .pass, ls, h => .ok (.nx, ls) h
  | .expr e, ls, h => (evE D C e ls h).bd fun _ h1 => .ok (.nx, ls) h1
  | .ret e, ls, h => (evE D C e ls h).bd fun x h1 => .ok (.rt x, ls) h1
  | .retN, ls, h => .ok (.rt .non, ls) h
  | .set t e, ls, h => (evE D C e ls h).bd fun x h1 => (evG D C t x ls h1).bd fun l h2 => .ok (.nx, l) h2
  | .aug i op e, ls, h => match ls[i]? with
    | some (some x) => (evE D C e ls h).bd fun y h1 => match x, y with
      | .int a, .int b => match op with
        | .add => .ok (.nx, ls.set i (some (.int (a + b)))) h1
        | .sub => .ok (.nx, ls.set i (some (.int (a - b)))) h1
        | _ => .bad
      | _, _ => .bad
    | _ => .bad
  | .augS _ _ _ _, _, _ => .bad
  | .iff c a b, ls, h => (evE D C c ls h).bd fun x h1 => match x with
    | .bl true => evSs D C a ls h1
    | .bl false => evSs D C b ls h1
    | _ => .bad
  | .for t it body, ls, h => (evI D C it ls h).bd fun p h1 => evFor p.2 (fun x l hh => evG D C t x l hh) (fun l hh => evSs D C body l hh) p.1 ls h1
  | .whl c body, ls, h => whileW (fun l hh => evE D C c l hh) (fun l hh => evSs D C body l hh) ls h
  | .brk, ls, h => .ok (.bk, ls) h
  | .cnt, ls, h => .ok (.ct, ls) h
  | .never, _, _ => .bad
  | .exprX f as ks vs, ls, h => (evX D C f as ks vs ls h).bd fun fl h1 => match fl with
    | .rt _ => .ok (.nx, ls) h1
    | fl => .ok (fl, ls) h1
  | .retX f as ks vs, ls, h => (evX D C f as ks vs ls h).bd fun fl h1 => .ok (fl, ls) h1
  | .setX t f as ks vs, ls, h => (evX D C f as ks vs ls h).bd fun fl h1 => match fl with
    | .rt x => (evG D C t x ls h1).bd fun l h2 => .ok (.nx, l) h2
    | fl => .ok (fl, ls) h1
  | .raise c e, ls, h => (evE D C e ls h).bd fun x h1 => .ok (.xc c [x], ls) h1
noncomputable def evSs (D : Tbl) (C : String → List T → Hh → R T) : CSs → Ls → Hh → R (Fl × Ls)
  | .nil, ls, h => .ok (.nx, ls) h
  | .cons s ss, ls, h => (evS D C s ls h).bd fun p h1 => match p.1 with
    | .nx => evSs D C ss p.2 h1
    | f => .ok (f, p.2) h1
end
def fin : R (Fl × Ls) → R T
  | .ok (.rt t, _) h => .ok t h
  | .ok (.nx, _) h => .ok .non h
  | .ok (.xc c fs, _) h => .exc c fs h
  | _ => .bad
def startL (fd : FD) (as : List T) : Ls := as.map some ++ List.replicate (fd.N.length - as.length) none
noncomputable def callN (D : Tbl) : Nat → String → List T → Hh → R T
  | 0, _, _, _ => .bad
  | n + 1, f, as, h => match D.fn f with
    | some fd => if as.length = fd.ps.length then fin (evSs D (callN D n) fd.body (startL fd as) h) else .bad
    | none => .bad
end MP

set_option Elab.async false
set_option linter.all false
set_option maxRecDepth 100000
/-! MiniPy, part B: how values and heaps stand in the model's heap -/
namespace MP
open PySem PySem.Spec PyProof.Rows L2

def KSeq (K : PySem.W.Frag) (ty : String) (a : Addr) (xs : List V) : Prop :=
  ∃ (o : Obj) (its : Array Value) (n : Nat), K.lookup a = some o ∧ o.cls = .type ty ∧ (ty = "list" → o.dict = none) ∧ o.data = .seq its n ∧ its.size ≤ sizeLine ∧ Vals xs its.toList
def TupAt (K : PySem.W.Frag) (H : Hp) (a : Addr) (xs : List V) : Prop := H a = some (.tup xs) ∨ KSeq K "tuple" a xs
def FzAt (K : PySem.W.Frag) (H : Hp) (a : Addr) (xs : List V) : Prop := (∃ o, H a = some (.frz o (.lst xs))) ∨ KSeq K "list" a xs
theorem TupAt.sq {K : PySem.W.Frag} {H : Hp} {a : Addr} {xs : List V} (h : TupAt K H a xs) : SqT K H a xs := by
  rcases h with h | ⟨o, its, n, h1, h2, _, h3, h4, h5⟩
  · exact .inl (.inl h)
  · exact .inr ⟨o, its, n, h1, h2, h3, h4, h5⟩
theorem FzAt.sq {K : PySem.W.Frag} {H : Hp} {a : Addr} {xs : List V} (h : FzAt K H a xs) : SqL K H a xs := by
  rcases h with ⟨o, h⟩ | ⟨o, its, n, h1, h2, h2', h3, h4, h5⟩
  · exact .inl (.inr ⟨o, h⟩)
  · exact .inr ⟨o, its, n, h1, h2, h2' rfl, h3, h4, h5⟩

mutual
inductive RT (K : PySem.W.Frag) (mg : Str → Option Value) (ρ : List Addr) (H : Hp) : T → V → Prop
  | non : RT K mg ρ H .non .non
  | bl (b : Bool) : RT K mg ρ H (.bl b) (.bl b)
  | int (i : Int) : RT K mg ρ H (.int i) (.int i)
  | str (x : Str) : RT K mg ρ H (.str x) (.str x)
  | tup {xs : List T} {a : Addr} {vs : List V} : TupAt K H a vs → RTs K mg ρ H xs vs → RT K mg ρ H (.tup xs) (.ref a)
  | fz {xs : List T} {a : Addr} {vs : List V} : FzAt K H a vs → RTs K mg ρ H xs vs → RT K mg ρ H (.fz xs) (.ref a)
  | ref {n : Nat} {a : Addr} : ρ[n]? = some a → RT K mg ρ H (.ref n) (.ref a)
  | fn {f : String} {a : Addr} : mg (Str.ofString f) = some (.ref a) → RT K mg ρ H (.fn f) (.ref a)
inductive RTs (K : PySem.W.Frag) (mg : Str → Option Value) (ρ : List Addr) (H : Hp) : List T → List V → Prop
  | nil : RTs K mg ρ H [] []
  | cons {x : T} {v : V} {xs : List T} {vs : List V} : RT K mg ρ H x v → RTs K mg ρ H xs vs → RTs K mg ρ H (x :: xs) (v :: vs)
end
def RKV (K : PySem.W.Frag) (mg : Str → Option Value) (ρ : List Addr) (H : Hp) : List (KT × T) → List (Key × V) → Prop :=
  Paired fun p q => q.1 = p.1.key ∧ RT K mg ρ H p.2 q.2
/-- the class at C, named c, as isinstance needs it -/
structure InsOk (K : PySem.W.Frag) (c : String) (C : Addr) : Prop where
  cl : Cls K C
  ha : PySem.W.findIn K (.ref C) "__class__" = some (some (.builtin "object.__class__"))
  hn : PySem.W.specialIn K (.builtin "object.__class__") "__get__" = some (some (.builtin "getset_descriptor.__get__"))
  htk : PySem.W.takesIn K (.builtin "object.__class__") = some true
  hm : PySem.W.mroIn K C (.type "object") = some true
  nm : c ∉ ["NoneType", "bool", "int", "str", "tuple", "list", "dict"]
  kt : ∀ t ∈ ["int", "bool", "str", "list", "tuple", "dict"], PySem.W.kitOne K (.ref C) (.type t) = some false
inductive RO (K : PySem.W.Frag) (mg : Str → Option Value) (ρ : List Addr) (H : Hp) : O → Addr → Prop
  | lst {xs : List T} {vs : List V} {a : Addr} : H a = some (.lst vs) → RTs K mg ρ H xs vs → RO K mg ρ H (.lst xs) a
  | dK {kvs : List (KT × T)} {qs : List (Key × V)} {a : Addr} : H a = some (.dK qs) → RKV K mg ρ H kvs qs → RO K mg ρ H (.dK kvs) a
  | ins {c : String} {C dx : Addr} {fs : List (Str × V)} {a : Addr} : H a = some (.ins C dx fs) → InsOk K c C → RO K mg ρ H (.ins c) a
/-- the makers of lambdas: the code object, its table, the lambdas' name -/
class Mkr where
  t : List (Addr × Addr × Str)
abbrev Mkr.T (tt : Mkr) : List (Addr × Str) := tt.t.map fun p => (p.2.1, p.2.2)
variable [tt : Mkr]
/-- what a table and its code objects are -/
def tabO (o : HO) : Prop := (∃ ps, o = .tbl ps) ∨ ∃ c q, o = LamX.CodeO c q
theorem Tabs.keepO {T : List (Addr × Str)} {H H' : Hp} (t : LamX.Tabs T H) (k : ∀ b o, H b = some o → tabO o → H' b = some o) : LamX.Tabs T H' := fun p hp => by
  obtain ⟨ps, h1, h2, h3⟩ := t p hp
  refine ⟨ps, k _ _ h1 (.inl ⟨_, rfl⟩), h2, fun pos cv hc => ?_⟩
  obtain ⟨c, e1, e2⟩ := h3 pos cv hc
  exact ⟨c, e1, k _ _ e2 (.inr ⟨_, _, rfl⟩)⟩
structure G (K : PySem.W.Frag) (mg : Str → Option Value) (ρ : List Addr) (H : Hp) (h : Hh) : Prop where
  len : ρ.length = h.length
  nd : ρ.Nodup
  ob : ∀ (n : Nat) (a : Addr) (o : O), ρ[n]? = some a → h[n]? = some o → RO K mg ρ H o a
  tab : LamX.Tabs tt.T H
/-- nothing there, or a table -/
def NoT (H : Hp) (a : Addr) : Prop := ∀ o, H a = some o → ∃ ps, o = .tbl ps
theorem NoT.none {H : Hp} {a : Addr} (h : H a = none) : NoT H a := fun o e => by rw [h] at e; cases e
theorem NoT.no {H : Hp} {a : Addr} {o : HO} {P : Prop} (h : NoT H a) (e : H a = some o) (n : ∀ ps, o ≠ .tbl ps) : P := by
  obtain ⟨ps, z⟩ := h o e
  exact absurd z (n ps)
structure Ext (ρ : List Addr) (H : Hp) (ρ' : List Addr) (H' : Hp) : Prop where
  pre : ρ <+: ρ'
  new : ∀ a ∈ ρ', a ∈ ρ ∨ NoT H a
  keep : ∀ a o, H a = some o → a ∉ ρ → (∀ ps, o ≠ .tbl ps) → H' a = some o
  tup : ∀ a xs, H a = some (.tup xs) → H' a = some (.tup xs)
  frz : ∀ a o u, H a = some (.frz o u) → H' a = some (.frz o u)

section
variable {K : PySem.W.Frag} {mg : Str → Option Value} {ρ ρ' ρ1 ρ2 : List Addr} {H H' H1 H2 : Hp} {h h' : Hh}
theorem Ext.refl : Ext ρ H ρ H := ⟨List.prefix_refl _, fun a ha => .inl ha, fun _ _ e _ _ => e, fun _ _ e => e, fun _ _ _ e => e⟩
theorem Ext.get (e : Ext ρ H ρ' H') {n : Nat} {a : Addr} (q : ρ[n]? = some a) : ρ'[n]? = some a := by
  obtain ⟨t, rfl⟩ := e.pre
  have hn := (List.getElem?_eq_some_iff.mp q).1
  rw [List.getElem?_append_left hn]
  exact q
theorem Ext.trans (e : Ext ρ H ρ1 H1) (f : Ext ρ1 H1 ρ2 H2) : Ext ρ H ρ2 H2 where
  pre := e.pre.trans f.pre
  new := fun a ha => by
    rcases f.new a ha with q | q
    · exact e.new a q
    · by_cases hm : a ∈ ρ
      · exact .inl hm
      · refine .inr fun o z => ?_
        by_cases y : ∃ ps, o = .tbl ps
        · exact y
        · exact q o (e.keep a o z hm fun ps w => y ⟨ps, w⟩)
  keep := fun a o q hn nt => by
    refine f.keep a o (e.keep a o q hn nt) (fun hm => ?_) nt
    rcases e.new a hm with z | z
    · exact hn z
    · exact z.no q nt
  tup := fun a xs q => f.tup a xs (e.tup a xs q)
  frz := fun a o u q => f.frz a o u (e.frz a o u q)
/-- what values lean on -/
structure Wk (ρ : List Addr) (H : Hp) (ρ' : List Addr) (H' : Hp) : Prop where
  get : ∀ (n : Nat) (a : Addr), ρ[n]? = some a → ρ'[n]? = some a
  tup : ∀ a xs, H a = some (.tup xs) → H' a = some (.tup xs)
  frz : ∀ a o u, H a = some (.frz o u) → H' a = some (.frz o u)
theorem Ext.wk (e : Ext ρ H ρ' H') : Wk ρ H ρ' H' := ⟨fun _ _ q => e.get q, e.tup, e.frz⟩
theorem Wk.add {p : Addr} : Wk ρ H (ρ ++ [p]) H := ⟨fun n a q => by
  rw [List.getElem?_append_left (List.getElem?_eq_some_iff.mp q).1]
  exact q, fun _ _ z => z, fun _ _ _ z => z⟩
theorem TupAt.wk (e : Wk ρ H ρ' H') {a : Addr} {xs : List V} (t : TupAt K H a xs) : TupAt K H' a xs := t.imp (e.tup a xs) id
theorem FzAt.wk (e : Wk ρ H ρ' H') {a : Addr} {xs : List V} (t : FzAt K H a xs) : FzAt K H' a xs := t.imp (fun ⟨o, q⟩ => ⟨o, e.frz a o _ q⟩) id
mutual
theorem RT.wk (e : Wk ρ H ρ' H') : ∀ {t : T} {v : V}, RT K mg ρ H t v → RT K mg ρ' H' t v
  | _, _, .non => .non
  | _, _, .bl b => .bl b
  | _, _, .int i => .int i
  | _, _, .str x => .str x
  | _, _, .tup a b => .tup (a.wk e) (RTs.wk e b)
  | _, _, .fz a b => .fz (a.wk e) (RTs.wk e b)
  | _, _, .ref q => .ref (e.get _ _ q)
  | _, _, .fn q => .fn q
theorem RTs.wk (e : Wk ρ H ρ' H') : ∀ {t : List T} {v : List V}, RTs K mg ρ H t v → RTs K mg ρ' H' t v
  | _, _, .nil => .nil
  | _, _, .cons a b => .cons (RT.wk e a) (RTs.wk e b)
end
theorem RKV.wk (e : Wk ρ H ρ' H') {ps : List (KT × T)} {qs : List (Key × V)} (r : RKV K mg ρ H ps qs) : RKV K mg ρ' H' ps qs :=
  Paired.mapP r fun _ _ z => ⟨z.1, z.2.wk e⟩
theorem RO.wk {a : Addr} {o : O} (e : Wk ρ H ρ' H') (k : H' a = H a) (r : RO K mg ρ H o a) : RO K mg ρ' H' o a := by
  cases r with
  | lst q r => exact .lst (k.trans q) (r.wk e)
  | dK q r => exact .dK (k.trans q) (r.wk e)
  | ins q r => exact .ins (k.trans q) r
theorem TupAt.ext (e : Ext ρ H ρ' H') {a : Addr} {xs : List V} (t : TupAt K H a xs) : TupAt K H' a xs := t.imp (e.tup a xs) id
theorem FzAt.ext (e : Ext ρ H ρ' H') {a : Addr} {xs : List V} (t : FzAt K H a xs) : FzAt K H' a xs := t.imp (fun ⟨o, q⟩ => ⟨o, e.frz a o _ q⟩) id
theorem RT.ext (e : Ext ρ H ρ' H') {t : T} {v : V} (r : RT K mg ρ H t v) : RT K mg ρ' H' t v := r.wk e.wk
theorem RTs.ext (e : Ext ρ H ρ' H') {t : List T} {v : List V} (r : RTs K mg ρ H t v) : RTs K mg ρ' H' t v := r.wk e.wk
theorem RTs.length : ∀ {xs : List T} {vs : List V}, RTs K mg ρ H xs vs → xs.length = vs.length
  | _, _, .nil => rfl
  | _, _, .cons _ b => congrArg (· + 1) b.length
theorem RTs.get : ∀ {xs : List T} {vs : List V} {i : Nat} {x : T}, RTs K mg ρ H xs vs → xs[i]? = some x → ∃ v, vs[i]? = some v ∧ RT K mg ρ H x v
  | _, _, _, _, .nil, e => by simp at e
  | _, _, 0, _, .cons r _, e => by
    simp at e
    subst e
    exact ⟨_, rfl, r⟩
  | _, _, i + 1, x, .cons _ t, e => by
    obtain ⟨u, h1, h2⟩ := RTs.get (i := i) (x := x) t (by simpa using e)
    exact ⟨u, by simpa using h1, h2⟩
theorem RTs.append : ∀ {xs ys : List T} {us ws : List V}, RTs K mg ρ H xs us → RTs K mg ρ H ys ws → RTs K mg ρ H (xs ++ ys) (us ++ ws)
  | _, _, _, _, .nil, s => s
  | _, _, _, _, .cons r t, s => .cons r (RTs.append t s)
theorem RTs.take : ∀ {xs : List T} {us : List V} (n : Nat), RTs K mg ρ H xs us → RTs K mg ρ H (xs.take n) (us.take n)
  | _, _, 0, _ => .nil
  | _, _, _ + 1, .nil => .nil
  | _, _, n + 1, .cons r t => .cons r (RTs.take n t)
theorem RTs.drop : ∀ {xs : List T} {us : List V} (n : Nat), RTs K mg ρ H xs us → RTs K mg ρ H (xs.drop n) (us.drop n)
  | _, _, 0, r => r
  | _, _, _ + 1, .nil => .nil
  | _, _, n + 1, .cons _ t => RTs.drop n t
theorem RTs.set {x : T} {v : V} (r : RT K mg ρ H x v) : ∀ {xs : List T} {us : List V} (i : Nat), RTs K mg ρ H xs us → RTs K mg ρ H (xs.set i x) (us.set i v)
  | _, _, _, .nil => .nil
  | _, _, 0, .cons _ t => .cons r t
  | _, _, i + 1, .cons q t => .cons q (RTs.set r i t)
theorem RTs.reverse : ∀ {xs : List T} {us : List V}, RTs K mg ρ H xs us → RTs K mg ρ H xs.reverse us.reverse
  | _, _, .nil => .nil
  | _, _, .cons r t => by
    rw [List.reverse_cons, List.reverse_cons]
    exact (RTs.reverse t).append (.cons r .nil)
theorem RTs.eraseIdx : ∀ {xs : List T} {us : List V} (i : Nat), RTs K mg ρ H xs us → RTs K mg ρ H (xs.eraseIdx i) (us.eraseIdx i)
  | _, _, _, .nil => .nil
  | _, _, 0, .cons _ t => t
  | _, _, i + 1, .cons q t => .cons q (RTs.eraseIdx i t)
theorem RTs.dropLast {xs : List T} {us : List V} (r : RTs K mg ρ H xs us) : RTs K mg ρ H xs.dropLast us.dropLast := by
  rw [List.dropLast_eq_take, List.dropLast_eq_take, ← r.length]
  exact r.take _
theorem RTs.rep {xs : List T} {us : List V} (r : RTs K mg ρ H xs us) : ∀ n : Nat, RTs K mg ρ H (List.replicate n xs).flatten (List.replicate n us).flatten
  | 0 => .nil
  | n + 1 => by
    rw [List.replicate_succ, List.replicate_succ, List.flatten_cons, List.flatten_cons]
    exact r.append (r.rep n)
theorem RTs.cut {xs : List T} {us : List V} (r : RTs K mg ρ H xs us) (lo hi : Option Int) : RTs K mg ρ H (cutT xs lo hi) (cutV us lo hi) := by
  unfold cutT cutV
  rw [r.length]
  exact (r.drop _).take _
theorem RTs.at {xs : List T} {us : List V} {k : Int} {x : T} (r : RTs K mg ρ H xs us) (e : atI xs k = some x) : ∃ v, atI us k = some v ∧ RT K mg ρ H x v := by
  unfold atI at e ⊢
  rw [← r.length]
  cases q : ixN xs.length k with
  | none =>
    rw [q] at e
    cases e
  | some j =>
    rw [q] at e
    exact r.get e
theorem RTs.none_of {xs : List T} {us : List V} {i : Nat} (r : RTs K mg ρ H xs us) (e : xs[i]? = none) : us[i]? = none := by
  have h1 := r.length
  have h2 := List.getElem?_eq_none_iff.mp e
  exact List.getElem?_eq_none_iff.mpr (by omega)
theorem RTs.of_ints : ∀ {ts : List T} {ns : List Int} {vs : List V}, intsT ts = some ns → RTs K mg ρ H ts vs → vs = ns.map V.int
  | [], ns, _, e, .nil => by
    cases e
    rfl
  | .int i :: r, ns, _, e, .cons (.int _) b => by
    unfold intsT at e
    cases q : intsT r with
    | none =>
      rw [q] at e
      cases e
    | some ms =>
      rw [q] at e
      cases e
      rw [RTs.of_ints q b]
      rfl
theorem RTs.of_bools : ∀ {ts : List T} {ns : List Bool} {vs : List V}, boolsT ts = some ns → RTs K mg ρ H ts vs → vs = ns.map V.bl
  | [], ns, _, e, .nil => by
    cases e
    rfl
  | .bl i :: r, ns, _, e, .cons (.bl _) b => by
    unfold boolsT at e
    cases q : boolsT r with
    | none =>
      rw [q] at e
      cases e
    | some ms =>
      rw [q] at e
      cases e
      rw [RTs.of_bools q b]
      rfl

/-! ### steps of the heap -/
theorem G.mem_no (g : G K mg ρ H h) {a : Addr} (ha : a ∈ ρ) : ∀ o, H a = some o → ¬ tabO o := by
  obtain ⟨n, hn, e⟩ := List.mem_iff_getElem.mp ha
  have e1 : ρ[n]? = some a := by rw [List.getElem?_eq_getElem hn, e]
  have hn2 : n < h.length := by rw [← g.len]; exact hn
  obtain ⟨o, e2⟩ : ∃ o, h[n]? = some o := ⟨_, List.getElem?_eq_getElem hn2⟩
  have fin : ∀ {u : HO}, H a = some u → (∀ ps, u ≠ .tbl ps) → (∀ φ, u ≠ .ext φ) → ∀ o, H a = some o → ¬ tabO o := fun {u} q h1 h2 o y z => by
    rw [q] at y
    cases y
    rcases z with ⟨ps, z⟩ | ⟨c, q, z⟩
    · exact h1 ps z
    · exact h2 _ z
  cases g.ob n a o e1 e2 with
  | lst q _ => exact fin q (by intro xs z; cases z) (by intro q z; cases z)
  | dK q _ => exact fin q (by intro xs z; cases z) (by intro q z; cases z)
  | ins q _ => exact fin q (by intro xs z; cases z) (by intro q z; cases z)
theorem G.mem_some (g : G K mg ρ H h) {a : Addr} (ha : a ∈ ρ) : ∃ o, H a = some o ∧ (∀ xs, o ≠ .tup xs) ∧ ∀ q u, o ≠ .frz q u := by
  obtain ⟨n, hn, e⟩ := List.mem_iff_getElem.mp ha
  have e1 : ρ[n]? = some a := by rw [List.getElem?_eq_getElem hn, e]
  have hn2 : n < h.length := by rw [← g.len]; exact hn
  obtain ⟨o, e2⟩ : ∃ o, h[n]? = some o := ⟨_, List.getElem?_eq_getElem hn2⟩
  cases g.ob n a o e1 e2 with
  | lst q _ => exact ⟨_, q, (by intro xs z; cases z), (by intro q u z; cases z)⟩
  | dK q _ => exact ⟨_, q, (by intro xs z; cases z), (by intro q u z; cases z)⟩
  | ins q _ => exact ⟨_, q, (by intro xs z; cases z), (by intro q u z; cases z)⟩
theorem G.not_mem (g : G K mg ρ H h) {a : Addr} (e : H a = none) : a ∉ ρ := fun ha => by
  obtain ⟨o, q, _⟩ := g.mem_some ha
  rw [e] at q
  cases q
theorem RKV.ext (e : Ext ρ H ρ' H') {ps : List (KT × T)} {qs : List (Key × V)} (r : RKV K mg ρ H ps qs) : RKV K mg ρ' H' ps qs :=
  Paired.mapP r fun _ _ z => ⟨z.1, z.2.ext e⟩
/-- a fresh thing that is not of our heap -/
theorem Ext.fresh {p : Addr} {o : HO} (hp : H p = none) : Ext ρ H ρ (upd H p o) where
  pre := List.prefix_refl _
  new := fun a ha => .inl ha
  keep := fun a q e _ _ => by
    rw [upd_ne (ne_of_none e hp)]
    exact e
  tup := fun a xs e => by
    rw [upd_ne (ne_of_none e hp)]
    exact e
  frz := fun a q u e => by
    rw [upd_ne (ne_of_none e hp)]
    exact e
theorem G.step (g : G K mg ρ H h) (e : Ext ρ H ρ H') (k : ∀ a ∈ ρ, H' a = H a) (kt : LamX.Tabs tt.T H') : G K mg ρ H' h where
  len := g.len
  nd := g.nd
  tab := kt
  ob := fun n a o e1 e2 => by
    have hk := k a (List.mem_of_getElem? e1)
    cases g.ob n a o e1 e2 with
    | lst q r => exact .lst (hk.trans q) (r.ext e)
    | dK q r => exact .dK (hk.trans q) (r.ext e)
    | ins q r => exact .ins (hk.trans q) r
theorem G.fresh {p : Addr} {o : HO} (g : G K mg ρ H h) (hp : H p = none) : G K mg ρ (upd H p o) h :=
  g.step (Ext.fresh hp) (fun a ha => upd_ne fun z => g.not_mem hp (z ▸ ha)) (Tabs.keepO g.tab fun b o e _ => by rw [upd_ne (ne_of_none e hp)]; exact e)
theorem Ext.alloc {p : Addr} {o : HO} (hp : H p = none) : Ext ρ H (ρ ++ [p]) (upd H p o) where
  pre := List.prefix_append _ _
  new := fun a ha => by
    rcases List.mem_append.mp ha with q | q
    · exact .inl q
    · rw [List.mem_singleton.mp q]
      exact .inr (NoT.none hp)
  keep := (Ext.fresh (ρ := ρ) (o := o) hp).keep
  tup := (Ext.fresh (ρ := ρ) (o := o) hp).tup
  frz := (Ext.fresh (ρ := ρ) (o := o) hp).frz
/-- a tracked thing comes into our heap -/
theorem G.add {p : Addr} {o : O} (g : G K mg ρ H h) (hn : p ∉ ρ) (r : RO K mg ρ H o p) : G K mg (ρ ++ [p]) H (h ++ [o]) where
  len := by rw [List.length_append, List.length_append, g.len]; rfl
  nd := List.nodup_append.mpr ⟨g.nd, by simp, fun a ha b hb z => hn (by rw [List.mem_singleton.mp hb] at z; exact z ▸ ha)⟩
  tab := g.tab
  ob := fun n a q e1 e2 => by
    by_cases hlt : n < ρ.length
    · rw [List.getElem?_append_left hlt] at e1
      rw [List.getElem?_append_left (by rw [← g.len]; exact hlt)] at e2
      exact (g.ob n a q e1 e2).wk Wk.add rfl
    · have hn2 := (List.getElem?_eq_some_iff.mp e1).1
      rw [List.length_append, List.length_singleton] at hn2
      have hn3 : n = ρ.length := by omega
      subst hn3
      rw [List.getElem?_append_right (Nat.le_refl _), Nat.sub_self] at e1
      rw [g.len, List.getElem?_append_right (Nat.le_refl _), Nat.sub_self] at e2
      cases e1
      cases e2
      exact r.wk Wk.add rfl
theorem RT.last {p : Addr} (g : G K mg ρ H h) : RT K mg (ρ ++ [p]) H' (.ref h.length) (.ref p) := by
  refine .ref ?_
  rw [← g.len, List.getElem?_append_right (Nat.le_refl _), Nat.sub_self]
  rfl
/-- a new list, a new dict -/
theorem G.newL {p : Addr} {xs : List T} {vs : List V} (g : G K mg ρ H h) (hp : H p = none) (r : RTs K mg ρ H xs vs) : G K mg (ρ ++ [p]) (upd H p (.lst vs)) (h ++ [.lst xs]) :=
  (g.fresh hp).add (g.not_mem hp) (.lst upd_same (r.ext (Ext.fresh hp)))
theorem G.newD {p : Addr} {xs : List (KT × T)} {vs : List (Key × V)} (g : G K mg ρ H h) (hp : H p = none) (r : RKV K mg ρ H xs vs) : G K mg (ρ ++ [p]) (upd H p (.dK vs)) (h ++ [.dK xs]) :=
  (g.fresh hp).add (g.not_mem hp) (.dK upd_same (r.ext (Ext.fresh hp)))
/-- a store into our heap -/
theorem Ext.write {a : Addr} {o : HO} {n : Nat} (g : G K mg ρ H h) (e : ρ[n]? = some a) : Ext ρ H ρ (upd H a o) where
  pre := List.prefix_refl _
  new := fun a ha => .inl ha
  keep := fun b q eb hb _ => by
    rw [upd_ne fun z => hb (by rw [z]; exact List.mem_of_getElem? e)]
    exact eb
  tup := fun b xs eb => by
    obtain ⟨q, h1, h2, _⟩ := g.mem_some (List.mem_of_getElem? e)
    rw [upd_ne fun z => by rw [z, h1] at eb; exact h2 xs (Option.some.inj eb)]
    exact eb
  frz := fun b q u eb => by
    obtain ⟨q', h1, _, h2⟩ := g.mem_some (List.mem_of_getElem? e)
    rw [upd_ne fun z => by rw [z, h1] at eb; exact h2 q u (Option.some.inj eb)]
    exact eb
theorem G.write {a : Addr} {u : HO} {n : Nat} {o : O} (g : G K mg ρ H h) (e : ρ[n]? = some a) (r : RO K mg ρ (upd H a u) o a) : G K mg ρ (upd H a u) (h.set n o) where
  len := by rw [List.length_set]; exact g.len
  nd := g.nd
  tab := Tabs.keepO g.tab fun b o eb z => by
    rw [upd_ne fun y => g.mem_no (List.mem_of_getElem? e) o (by rw [← y]; exact eb) z]
    exact eb
  ob := fun m b q e1 e2 => by
    by_cases hm : n = m
    · subst hm
      rw [e] at e1
      cases e1
      have hn := (List.getElem?_eq_some_iff.mp e).1
      rw [List.getElem?_set_self (by rw [← g.len]; exact hn)] at e2
      cases e2
      exact r
    · rw [List.getElem?_set_ne hm] at e2
      have hb : b ≠ a := fun z => by
        subst z
        obtain ⟨h1, e1'⟩ := List.getElem?_eq_some_iff.mp e
        obtain ⟨h2, e2'⟩ := List.getElem?_eq_some_iff.mp e1
        exact hm ((List.getElem_inj g.nd).mp (e1'.trans e2'.symm))
      exact (g.ob m b q e1 e2).wk (Ext.write g e).wk (upd_ne hb)
theorem G.writeL {a : Addr} {n : Nat} {xs : List T} {vs : List V} (g : G K mg ρ H h) (e : ρ[n]? = some a) (r : RTs K mg ρ H xs vs) : G K mg ρ (upd H a (.lst vs)) (h.set n (.lst xs)) :=
  g.write e (.lst upd_same (r.ext (Ext.write g e)))
theorem G.writeD {a : Addr} {n : Nat} {xs : List (KT × T)} {vs : List (Key × V)} (g : G K mg ρ H h) (e : ρ[n]? = some a) (r : RKV K mg ρ H xs vs) : G K mg ρ (upd H a (.dK vs)) (h.set n (.dK xs)) :=
  g.write e (.dK upd_same (r.ext (Ext.write g e)))
/-- a list that may be changed -/
theorem G.mutL {n : Nat} {a : Addr} {xs : List T} (g : G K mg ρ H h) (e : ρ[n]? = some a) (q : mutL h n = some xs) : ∃ vs, H a = some (.lst vs) ∧ RTs K mg ρ H xs vs := by
  unfold MP.mutL at q
  split at q
  · rename_i ys eq
    cases q
    cases g.ob n a _ e eq with
    | lst h1 h2 => exact ⟨_, h1, h2⟩
  · cases q
theorem G.dK {n : Nat} {a : Addr} {kvs : List (KT × T)} (g : G K mg ρ H h) (e : ρ[n]? = some a) (q : h[n]? = some (.dK kvs)) : ∃ qs, H a = some (.dK qs) ∧ RKV K mg ρ H kvs qs := by
  cases g.ob n a _ e q with
  | dK h1 h2 => exact ⟨_, h1, h2⟩
theorem G.lsT {x : T} {v : V} {xs : List T} (g : G K mg ρ H h) (r : RT K mg ρ H x v) (q : lsT h x = some xs) : ∃ a vs, v = .ref a ∧ SqL K H a vs ∧ RTs K mg ρ H xs vs := by
  cases r with
  | ref e =>
    obtain ⟨vs, h1, h2⟩ := g.mutL e q
    exact ⟨_, vs, rfl, SqL.of h1, h2⟩
  | fz f r =>
    cases q
    exact ⟨_, _, rfl, f.sq, r⟩
  | _ => cases q
theorem RT.tupAt {xs : List T} {v : V} (r : RT K mg ρ H (.tup xs) v) : ∃ a vs, v = .ref a ∧ SqT K H a vs ∧ RTs K mg ρ H xs vs := by
  cases r with
  | tup t r => exact ⟨_, _, rfl, t.sq, r⟩
theorem G.seqOf {x : T} {v : V} {xs : List T} (g : G K mg ρ H h) (r : RT K mg ρ H x v) (q : seqOf h x = some xs) : ∃ a vs, v = .ref a ∧ (SqL K H a vs ∨ SqT K H a vs) ∧ RTs K mg ρ H xs vs := by
  cases r with
  | tup t r =>
    cases q
    exact ⟨_, _, rfl, .inr t.sq, r⟩
  | ref e =>
    obtain ⟨a, vs, h1, h2, h3⟩ := g.lsT (.ref e) q
    exact ⟨a, vs, h1, .inl h2, h3⟩
  | fz f r =>
    cases q
    exact ⟨_, _, rfl, .inl f.sq, r⟩
  | _ => cases q

/-! ### data -/
mutual
theorem dp_of {f : Nat → Option PyData} (hf : ∀ (n : Nat) (a : Addr) (d : PyData), ρ[n]? = some a → f n = some d → Dp K H (.ref a) d) : ∀ (t : T) (v : V) (d : PyData), RT K mg ρ H t v → T.dat f t = some d → Dp K H v d
  | .non, _, d, .non, e => by cases e; exact .non
  | .bl b, _, d, .bl _, e => by cases e; exact .bl b
  | .int b, _, d, .int _, e => by cases e; exact .int b
  | .str b, _, d, .str _, e => by cases e; exact .str b
  | .tup xs, _, d, .tup t r, e => by
    unfold T.dat at e
    cases q : T.dats f xs with
    | none => rw [q] at e; cases e
    | some ds =>
      rw [q] at e
      cases e
      exact .tup t.sq (dps_of hf xs _ ds r q)
  | .fz xs, _, d, .fz t r, e => by
    unfold T.dat at e
    cases q : T.dats f xs with
    | none => rw [q] at e; cases e
    | some ds =>
      rw [q] at e
      cases e
      exact .lst t.sq (dps_of hf xs _ ds r q)
  | .ref n, _, d, .ref q, e => hf n _ d q e
  | .fn x, _, d, .fn q, e => by cases e
theorem dps_of {f : Nat → Option PyData} (hf : ∀ (n : Nat) (a : Addr) (d : PyData), ρ[n]? = some a → f n = some d → Dp K H (.ref a) d) : ∀ (ts : List T) (vs : List V) (ds : List PyData), RTs K mg ρ H ts vs → T.dats f ts = some ds → DpAll K H vs ds
  | [], _, ds, .nil, e => by cases e; exact .nil
  | t :: ts, _, ds, .cons r rs, e => by
    unfold T.dats at e
    cases q : T.dat f t with
    | none => rw [q] at e; cases e
    | some d =>
      rw [q] at e
      cases q2 : T.dats f ts with
      | none => rw [q2] at e; cases e
      | some ds2 =>
        rw [q2] at e
        cases e
        exact .cons (dp_of hf t _ d r q) (dps_of hf ts _ ds2 rs q2)
end
theorem refD_ok (g : G K mg ρ H h) : ∀ (k n : Nat) (a : Addr) (d : PyData), ρ[n]? = some a → refD k h n = some d → Dp K H (.ref a) d
  | 0, _, _, _, _, e => by cases e
  | k + 1, n, a, d, e1, e => by
    unfold refD at e
    split at e
    · rename_i xs q
      cases g.ob n a _ e1 q with
      | lst h1 h2 =>
        cases q2 : T.dats (refD k h) xs with
        | none => rw [q2] at e; cases e
        | some ds =>
          rw [q2] at e
          cases e
          exact .lst (SqL.of h1) (dps_of (refD_ok g k) xs _ ds h2 q2)
    · cases e
theorem G.dat (g : G K mg ρ H h) {t : T} {v : V} {d : PyData} (r : RT K mg ρ H t v) (e : dat h t = some d) : Dp K H v d := dp_of (refD_ok g 12) t v d r e
theorem G.dats (g : G K mg ρ H h) {t : List T} {v : List V} {d : List PyData} (r : RTs K mg ρ H t v) (e : dats h t = some d) : DpAll K H v d := dps_of (refD_ok g 12) t v d r e

/-! ### keys -/
theorem KT.key_inj {a b : KT} (e : a.key = b.key) : a = b := by
  cases a <;> cases b <;> simp [KT.key] at e <;> rw [e]
theorem T.kt_ok {t : T} {k : KT} {v : V} (e : t.kt = some k) (r : RT K mg ρ H t v) : v = kV k.key := by
  cases r <;> simp [T.kt] at e <;> subst e <;> rfl
theorem RKV.look : ∀ {ps : List (KT × T)} {qs : List (Key × V)} (k : KT), RKV K mg ρ H ps qs → (∀ x, lookK ps k = some x → ∃ v, valV qs k.key = some v ∧ RT K mg ρ H x v) ∧ (lookK ps k = none → valV qs k.key = none)
  | _, _, k, .nil => ⟨fun x e => by simp [lookK] at e, fun _ => rfl⟩
  | _, _, k, @Paired.cons _ _ _ p q ps qs r t => by
    obtain ⟨ih1, ih2⟩ := RKV.look k t
    by_cases e : p.1 = k
    · have e2 : q.1 = k.key := by rw [r.1, e]
      rw [valV_pos e2]
      have e3 : lookK (p :: ps) k = some p.2 := by simp [lookK, List.find?_cons, e]
      rw [e3]
      exact ⟨fun x z => ⟨_, rfl, by cases z; exact r.2⟩, fun z => by cases z⟩
    · have e2 : ¬ q.1 = k.key := fun z => e (KT.key_inj (by rw [← r.1, z]))
      rw [valV_neg e2]
      have e3 : lookK (p :: ps) k = lookK ps k := by simp [lookK, List.find?_cons, e]
      rw [e3]
      exact ⟨ih1, ih2⟩
theorem RKV.length {ps : List (KT × T)} {qs : List (Key × V)} (r : RKV K mg ρ H ps qs) : ps.length = qs.length := Paired.length r
theorem RKV.any (k : KT) {ps : List (KT × T)} {qs : List (Key × V)} (r : RKV K mg ρ H ps qs) : (ps.any fun kv => decide (kv.1 = k)) = (qs.any fun kv => decide (kv.1 = k.key)) := by
  induction r with
  | nil => rfl
  | @cons p q ps qs r t ih =>
    rw [List.any_cons, List.any_cons, ih]
    congr 1
    by_cases e : p.1 = k
    · rw [decide_eq_true e, decide_eq_true (by rw [r.1, e])]
    · rw [decide_eq_false e, decide_eq_false fun z => e (KT.key_inj (by rw [← r.1, z]))]
theorem RKV.put1 (k : KT) {x : T} {v : V} (rx : RT K mg ρ H x v) {ps : List (KT × T)} {qs : List (Key × V)} (r : RKV K mg ρ H ps qs) :
    RKV K mg ρ H (ps.map fun kv => if kv.1 = k then (kv.1, x) else kv) (qs.map fun kv => if kv.1 = k.key then (kv.1, v) else kv) := by
  induction r with
  | nil => exact .nil
  | @cons p q ps qs r t ih =>
    rw [List.map_cons, List.map_cons]
    refine .cons ?_ ih
    by_cases e : p.1 = k
    · rw [if_pos e, if_pos (by rw [r.1, e])]
      exact ⟨r.1, rx⟩
    · rw [if_neg e, if_neg fun z => e (KT.key_inj (by rw [← r.1, z]))]
      exact r
theorem RKV.put2 (k : KT) {x : T} {v : V} (rx : RT K mg ρ H x v) {ps : List (KT × T)} {qs : List (Key × V)} (r : RKV K mg ρ H ps qs) : RKV K mg ρ H (ps ++ [(k, x)]) (qs ++ [(k.key, v)]) := by
  induction r with
  | nil => exact .cons ⟨rfl, rx⟩ .nil
  | cons r t ih => exact .cons r ih
theorem RKV.put (k : KT) {x : T} {v : V} (rx : RT K mg ρ H x v) {ps : List (KT × T)} {qs : List (Key × V)} (r : RKV K mg ρ H ps qs) : RKV K mg ρ H (putKT ps k x) (putK qs k.key v) := by
  unfold putKT putK
  rw [r.any k]
  split
  · exact r.put1 k rx
  · exact r.put2 k rx
end
end MP

set_option Elab.async false
set_option linter.all false
set_option maxRecDepth 100000
set_option maxHeartbeats 4000000
/-! MiniPy: (x,) * 1 -/
namespace MP
open PySem PySem.Spec PyProof.Rows L2
theorem tuple_mul1 (l : Addr) (items : Array Value) (n : Nat) (dd : Option Addr) (sl : Array (Option Value)) (u : Tok) (hi : (items.isEmpty || ((1 : Int) == 1)) = true) :
    Meets (Builtin.«tuple.__mul__» ⟨[.ref l, .int 1 u], []⟩) (fun _ R s => s.heap.get? l = some { cls := .type "tuple", dict := dd, data := .seq items n, slots := sl } ∧ R (.ok (.ret (Value.ref l))) s) :=
  .of_wp fun prog w A R s h => by
    obtain ⟨hp, g, d, tk, os⟩ := s
    obtain ⟨hl, h⟩ := h
    have f1 := AutoSeq1.idx_int
    have c0 : (decide ((1 : Int) < -(2 ^ 63)) || decide ((1 : Int) ≥ 2 ^ 63)) = false := by decide
    wp_walk using wpAny_loadPart' hl
    repeat (first
      | (refine wpAny_ite_false (decide_eq_false (by rw [c0]; exact Bool.false_ne_true)) ?_; wp_walk using wpAny_loadPart' hl)
      | (refine wpAny_ite_true (decide_eq_true hi) ?_; wp_walk using wpAny_loadPart' hl))
    exact ⟨_, rfl, h⟩
section
variable {X : Cx}
theorem op_rep1 : OpR X (binaryOp .Mult) (fun x y H Q => ∃ l xs, x = .ref l ∧ y = .int 1 ∧ SqT X.K H l xs ∧ Q (.ref l) H) := by
  intro pins s σ H x y v u Q I rx ry h
  obtain ⟨l, xs, rfl, rfl, hT, q⟩ := h
  cases rx
  obtain ⟨t, rfl⟩ := ry
  obtain ⟨its, r, ⟨⟨cls, dd, data, sl⟩, ho, hc, n, hd⟩, hs⟩ := I.tuple hT
  simp only at hc hd
  subst hc hd
  refine wpAny_binaryOp_repeat_ref (T := "tuple") (U := "int") (by decide) ⟨_, ho, rfl⟩ (fun s' => typeIs_int s' 1 t) noFill_tuple_mul F.fills_int_mul F.slot_int_rmul repeat_tuple F.slot_int_index.lookup
    (call_meets F.slot_int_rmul (typeIs_int s 1 t) F.entry_int_rmul (F.args_int_rmul_2 _ _) (int_rmul_tuple 1 t l its.toArray n dd sl)
      ⟨ho, rfl, ⟨_, ho, rfl⟩, call_meets F.slot_tuple_mul ⟨_, ho, rfl⟩ F.entry_tuple_mul (F.args_tuple_mul_2 _ _) (tuple_mul1 l its.toArray n dd sl t (by simp)) ⟨ho, ?_⟩⟩)
  exact ⟨.ref l, H, I, rfl, q⟩
end
end MP

set_option Elab.async false
set_option linter.all false
set_option maxRecDepth 100000
/-! MiniPy, part C: the operators by values -/
namespace MP
open PySem PySem.Spec PyProof.Rows L2
variable [tt : Mkr]

def Kn (K : PySem.W.Frag) (mg : Str → Option Value) (ρ : List Addr) (H : Hp) (h' : Hh) (t : T) (Q : VK) : Prop :=
  ∀ ρ' H' v, Ext ρ H ρ' H' → G K mg ρ' H' h' → RT K mg ρ' H' t v → Q v H'
section
variable {K : PySem.W.Frag} {mg : Str → Option Value} {ρ ρ' : List Addr} {H H' : Hp} {h h' : Hh} {t : T} {Q : VK}
theorem Kn.now (k : Kn K mg ρ H h t Q) (g : G K mg ρ H h) {v : V} (r : RT K mg ρ H t v) : Q v H := k ρ H v Ext.refl g r
theorem Kn.lst {xs : List T} {vs : List V} {p : Addr} (k : Kn K mg ρ H (h ++ [.lst xs]) (.ref h.length) Q) (g : G K mg ρ H h) (r : RTs K mg ρ H xs vs) (hp : H p = none) : Q (.ref p) (upd H p (.lst vs)) :=
  k _ _ _ (Ext.alloc hp) (g.newL hp r) (RT.last g)
theorem Kn.tup {xs : List T} {vs : List V} {p : Addr} (k : Kn K mg ρ H h (.tup xs) Q) (g : G K mg ρ H h) (r : RTs K mg ρ H xs vs) (hp : H p = none) : Q (.ref p) (upd H p (.tup vs)) :=
  k _ _ _ (Ext.fresh hp) (g.fresh hp) (.tup (.inl upd_same) (r.ext (Ext.fresh hp)))
theorem Kn.setL {n : Nat} {a : Addr} {xs : List T} {vs : List V} {v : V} (k : Kn K mg ρ H (h.set n (.lst xs)) t Q) (g : G K mg ρ H h) (e : ρ[n]? = some a) (r : RTs K mg ρ H xs vs) (rv : RT K mg ρ H t v) : Q v (upd H a (.lst vs)) :=
  k _ _ _ (Ext.write g e) (g.writeL e r) (rv.ext (Ext.write g e))
theorem newL_ok {xs : List T} {t : T} (e : newL h xs = .ok t h') : xs.length ≤ 16777216 ∧ t = .ref h.length ∧ h' = h ++ [.lst xs] := by
  unfold newL at e
  split at e
  · rename_i hl
    cases e
    exact ⟨hl, rfl, rfl⟩
  · cases e
theorem newT_ok {xs : List T} {t : T} (e : newT h xs = .ok t h') : xs.length ≤ 16777216 ∧ t = .tup xs ∧ h' = h := by
  unfold newT at e
  split at e
  · rename_i hl
    cases e
    exact ⟨hl, rfl, rfl⟩
  · cases e
theorem line_le {n : Nat} (h : n ≤ 16777216) : n ≤ sizeLine := by rw [sizeLine_eq]; exact h
theorem line_lt {n : Nat} (h : n < 16777216) : n < sizeLine := by rw [sizeLine_eq]; exact h
end

def Bop.o : Bop → Operator
  | .add => .Add
  | .sub => .Sub
  | .mul => .Mult
  | .fdiv => .FloorDiv
  | .mod => .Mod
  | .pow => .Pow
  | .shl => .LShift
  | .shr => .RShift
  | .band => .BitAnd
  | .bor => .BitOr
  | .bxor => .BitXor
theorem CMulB_ok {i j : Int} (h : CMulB i j = true) : CMul i j ∨ CMulW i j := by
  unfold CMulB at h
  unfold CMul
  simp only [Bool.or_eq_true, Bool.and_eq_true, decide_eq_true_eq] at h
  rcases h with h | h
  · exact .inl h
  · exact .inr (wide_mul h.1 h.2 (by decide) (by decide) (by decide))
theorem CDivB_ok {i j : Int} (h : CDivB i j = true) : CDiv i j := by
  unfold CDivB at h
  unfold CDiv
  simp only [Bool.and_eq_true, decide_eq_true_eq] at h
  exact h
theorem CPowB_ok {i j : Int} (h : CPowB i j = true) : CPow i j := by
  unfold CPowB at h
  unfold CPow
  simp only [Bool.and_eq_true, decide_eq_true_eq] at h
  exact ⟨h.1.1, h.1.2, h.2⟩
section
variable {X : Cx}
/-- the reading of an operation by our values -/
def rOp (K : PySem.W.Frag) (mg : Str → Option Value) (f : T → T → Hh → R T) : R2 := fun x y H Q =>
  ∃ ρ h tx ty t h', G K mg ρ H h ∧ RT K mg ρ H tx x ∧ RT K mg ρ H ty y ∧ f tx ty h = .ok t h' ∧ Kn K mg ρ H h' t Q
theorem op_int (op : Bop) : OpR X (binaryOp op.o) (fun x y H Q => ∃ i j k, x = .int i ∧ y = .int j ∧ intOp op i j = some k ∧ Q (.int k) H) := by
  intro pins s σ H x y v u Q I rx ry hq
  obtain ⟨i, j, k, rfl, rfl, e, q⟩ := hq
  cases op with
  | add => cases e; exact op_add pins s σ H _ _ v u Q I rx ry ⟨i, j, rfl, rfl, q⟩
  | sub => cases e; exact op_sub pins s σ H _ _ v u Q I rx ry ⟨i, j, rfl, rfl, q⟩
  | band => cases e; exact op_and pins s σ H _ _ v u Q I rx ry ⟨i, j, rfl, rfl, q⟩
  | bor => cases e; exact op_or pins s σ H _ _ v u Q I rx ry ⟨i, j, rfl, rfl, q⟩
  | bxor => cases e; exact op_xor pins s σ H _ _ v u Q I rx ry ⟨i, j, rfl, rfl, q⟩
  | mul =>
    dsimp only [intOp] at e
    split at e
    · rename_i hc
      cases e
      rcases CMulB_ok hc with hc | hc
      · exact op_mul pins s σ H _ _ v u Q I rx ry ⟨i, j, rfl, rfl, hc, q⟩
      · exact op_mulW pins s σ H _ _ v u Q I rx ry ⟨i, j, rfl, rfl, hc, q⟩
    · cases e
  | fdiv =>
    dsimp only [intOp] at e
    split at e
    · rename_i hc; cases e; exact op_fdiv pins s σ H _ _ v u Q I rx ry ⟨i, j, rfl, rfl, CDivB_ok hc, q⟩
    · cases e
  | mod =>
    dsimp only [intOp] at e
    split at e
    · rename_i hc; cases e; exact op_mod pins s σ H _ _ v u Q I rx ry ⟨i, j, rfl, rfl, hc, q⟩
    · cases e
  | pow =>
    dsimp only [intOp] at e
    split at e
    · rename_i hc; cases e; exact op_pow pins s σ H _ _ v u Q I rx ry ⟨i, j, rfl, rfl, CPowB_ok hc, q⟩
    · cases e
  | shl =>
    dsimp only [intOp] at e
    split at e
    · rename_i hc; cases e; exact op_shl pins s σ H _ _ v u Q I rx ry ⟨i, j, rfl, rfl, CPowB_ok hc, q⟩
    · cases e
  | shr =>
    dsimp only [intOp] at e
    split at e
    · rename_i hc; cases e; exact op_shr pins s σ H _ _ v u Q I rx ry ⟨i, j, rfl, rfl, hc, q⟩
    · cases e
theorem rep_len {α : Type} (xs : List α) : ∀ n : Nat, (List.replicate n xs).flatten.length = xs.length * n
  | 0 => rfl
  | n + 1 => by
    rw [List.replicate_succ, List.flatten_cons, List.length_append, rep_len xs n, Nat.mul_succ, Nat.add_comm]
theorem op_bin (op : Bop) : OpR X (binaryOp op.o) (rOp X.K X.mg (binT op)) := by
  intro pins s σ H x y v u Q I rx ry hq
  obtain ⟨ρ, h, tx, ty, t, h', g, r1, r2, e, k⟩ := hq
  unfold binT at e
  split at e
  · -- ints
    rename_i i j
    split at e
    · rename_i m em
      cases e
      cases r1
      cases r2
      exact op_int op pins s σ H _ _ v u Q I rx ry ⟨i, j, m, rfl, rfl, em, k.now g (.int _)⟩
    · cases e
  · -- a bool and an int
    rename_i a j
    cases r1
    cases r2
    cases op <;> dsimp only at e <;> first
      | (cases e; exact op_addBI pins s σ H _ _ v u Q I rx ry ⟨a, j, rfl, rfl, k.now g (.int _)⟩)
      | (cases e; exact op_subBI pins s σ H _ _ v u Q I rx ry ⟨a, j, rfl, rfl, k.now g (.int _)⟩)
      | cases e
  · -- texts
    rename_i a b
    cases op <;> dsimp only at e <;> try cases e
    split at e
    · rename_i hl
      cases e
      cases r1
      cases r2
      exact op_add_str pins s σ H _ _ v u Q I rx ry ⟨a, b, rfl, rfl, line_le hl, k.now g (.str _)⟩
    · cases e
  · -- tuples
    rename_i xs ys
    cases op <;> dsimp only at e <;> try cases e
    obtain ⟨hl, rfl, rfl⟩ := newT_ok e
    obtain ⟨a, vs, rfl, s1, q1⟩ := r1.tupAt
    obtain ⟨b, ws, rfl, s2, q2⟩ := r2.tupAt
    rw [List.length_append] at hl
    refine op_catA pins s σ H _ _ v u Q I rx ry ⟨a, b, vs, ws, rfl, rfl, s1, s2, line_le (by rw [← q1.length, ← q2.length]; exact hl), fun ev => ?_, fun _ ew => ?_, fun _ _ p hp => k.tup g (q1.append q2) hp⟩
    · subst ev
      cases q1
      exact k.now g r2
    · subst ew
      cases q2
      rw [List.append_nil] at k
      exact k.now g r1
  · -- lists
    rename_i a b
    split at e
    · rename_i xs ys e1 e2
      obtain ⟨hl, rfl, rfl⟩ := newL_ok e
      cases r1 with
      | ref p1 =>
        cases r2 with
        | ref p2 =>
          obtain ⟨vs, m1, q1⟩ := g.mutL p1 e1
          obtain ⟨ws, m2, q2⟩ := g.mutL p2 e2
          rw [List.length_append] at hl
          exact op_cat pins s σ H _ _ v u Q I rx ry ⟨_, _, vs, ws, rfl, rfl, m1, m2, line_le (by rw [← q1.length, ← q2.length]; exact hl), fun p hp => k.lst g (q1.append q2) hp⟩
    · cases e
  · -- a list so often
    rename_i a m
    split at e
    · rename_i xs e1
      split at e
      · rename_i hb
        obtain ⟨hl, rfl, rfl⟩ := newL_ok e
        cases r1 with
        | ref p1 =>
          cases r2
          obtain ⟨vs, m1, q1⟩ := g.mutL p1 e1
          rw [rep_len] at hl
          exact op_rep pins s σ H _ _ v u Q I rx ry ⟨_, _, vs, rfl, rfl, m1, by omega, by omega, line_le (by rw [← q1.length]; exact hl), fun p hp => k.lst g (q1.rep _) hp⟩
      · cases e
    · cases e
  · -- a tuple so often
    rename_i xs m
    split at e
    · rename_i x r
      split at e
      · rename_i hb
        cases e
        by_cases h1 : m = 1
        · subst h1
          obtain ⟨a, vs, ea, s1, q1⟩ := r1.tupAt
          subst ea
          cases r2
          have ef : (List.replicate (1 : Int).toNat (x :: r)).flatten = x :: r := by simp
          rw [ef] at k
          exact op_rep1 pins s σ H _ _ v u Q I rx ry ⟨_, vs, rfl, rfl, s1, k.now g r1⟩
        · obtain ⟨a, vs, rfl, s1, q1⟩ := r1.tupAt
          cases r2
          refine op_repT pins s σ H _ _ v u Q I rx ry ⟨_, _, vs, rfl, rfl, s1, fun ev => ?_, by omega, hb.2.1, by rw [← q1.length]; exact hb.2.2, fun p hp => k.tup g (q1.rep _) hp⟩
          rw [ev] at q1
          cases q1
      · cases e
    · cases e
  · cases e

/-! ### comparisons -/
def Cop.o : Cop → CmpOp
  | .eq => .Eq
  | .ne => .NotEq
  | .lt => .Lt
  | .le => .LtE
  | .gt => .Gt
  | .ge => .GtE
  | .inn => .In
  | .nin => .NotIn
  | .is => .Is
  | .isnt => .IsNot
theorem T.flat_ok {K : PySem.W.Frag} {mg : Str → Option Value} {ρ : List Addr} {H : Hp} {t : T} {v : V} (e : t.flat = true) (r : RT K mg ρ H t v) : flatV v = true := by
  cases r <;> first | rfl | cases e
theorem flats_ok {K : PySem.W.Frag} {mg : Str → Option Value} {ρ : List Addr} {H : Hp} : ∀ {ts : List T} {vs : List V}, ts.all T.flat = true → RTs K mg ρ H ts vs → vs.all flatV = true
  | _, _, _, .nil => rfl
  | _, _, e, .cons a b => by
    rw [List.all_cons, Bool.and_eq_true] at e
    rw [List.all_cons, T.flat_ok e.1 a, flats_ok e.2 b]
    rfl
theorem eqv_flat {K : PySem.W.Frag} {H : Hp} {x y : V} {d e : PyData} (a : Dp K H x d) (b : Dp K H y e) (fx : flatV x = true) (fy : flatV y = true) : PyData.eqv d e = eqV x y := by
  cases a <;> cases b <;> first | rfl | (cases fx; done) | (cases fy; done)
theorem any_flat {K : PySem.W.Frag} {H : Hp} {x : V} {d : PyData} (a : Dp K H x d) (fx : flatV x = true) : ∀ {ys : List V} {ds : List PyData}, DpAll K H ys ds → ys.all flatV = true → (ds.any fun z => PyData.eqv z d) = inV x ys
  | _, _, .nil, _ => rfl
  | _, _, .cons b r, f => by
    rw [List.all_cons, Bool.and_eq_true] at f
    unfold inV
    rw [List.any_cons, List.any_cons, any_flat a fx r f.2, eqv_flat b a f.1 fx]
    rfl
/-- x among y: the list's way, the tuple's, the dict's -/
theorem in_road {neg : Bool} (hu : X.A.units + 65 < cLine) : OpR X (compareOp (if neg = true then .NotIn else .In)) (fun x y H Q => ∃ ρ h tx ty b, G X.K X.mg ρ H h ∧ RT X.K X.mg ρ H tx x ∧ RT X.K X.mg ρ H ty y ∧ inO tx ty h = some b ∧ Q (.bl (if neg = true then !b else b)) H) := by
  intro pins s σ H x y v u Q I rx ry hq
  obtain ⟨ρ, h, tx, ty, b, g, r1, r2, e, q⟩ := hq
  have lists : ∀ {ys : List T} {a : Addr} {vs : List V}, y = .ref a → SqL X.K H a vs → RTs X.K X.mg ρ H ys vs → inT h tx ys = some b → wpAny (model X.prog X.w) X.A (compareOp (if neg = true then .NotIn else .In) v u) (EP X pins σ Q) X.xe s := by
    rintro ys a vs rfl hs rs e
    unfold inT at e
    split at e
    · rename_i d ds e1 e2
      split at e
      · rename_i hc
        rw [Bool.and_eq_true] at hc
        cases e
        have D1 := g.dat r1 e1
        have D2 := Dp.lst hs (g.dats rs e2)
        cases neg with
        | false => exact op_inD hu pins s σ H _ _ v u Q I rx ry ⟨d, ds, D1, D2, hc.1, hc.2, q⟩
        | true => exact op_notInD hu pins s σ H _ _ v u Q I rx ry ⟨d, ds, D1, D2, hc.1, hc.2, q⟩
      · cases e
    · cases e
  unfold inO at e
  split at e
  · rename_i ys
    obtain ⟨a, vs, ev, hs, rs⟩ := g.lsT r2 rfl
    exact lists ev hs rs e
  · rename_i n
    cases r2 with
    | ref p2 =>
      split at e
      · rename_i ys e3
        obtain ⟨vs, m, rs⟩ := g.mutL p2 (xs := ys) (by unfold mutL; rw [e3])
        exact lists rfl (SqL.of m) rs e
      · rename_i kvs e3
        split at e
        · rename_i kk ek
          cases e
          obtain ⟨qs, m, rk⟩ := g.dK p2 e3
          have ev := T.kt_ok ek r1
          subst ev
          have gt : DGet H _ (kV kk.key) (valV qs kk.key) := DGet.k m
          have es : (lookK kvs kk).isSome = (valV qs kk.key).isSome := by
            obtain ⟨h1, h2⟩ := rk.look kk
            cases z : lookK kvs kk with
            | none => rw [h2 z]; rfl
            | some x0 =>
              obtain ⟨v0, z2, _⟩ := h1 x0 z
              rw [z2]
              rfl
          rw [es] at q
          cases ry
          cases neg with
          | false => exact d_in (by omega) I gt rx fun s' I' => ⟨.bl _, H, I', rfl, q⟩
          | true => exact d_notIn (by omega) I gt rx fun s' I' => ⟨.bl _, H, I', rfl, q⟩
        · cases e
      · cases e
  · rename_i ys
    split at e
    · rename_i hf
      rw [Bool.and_eq_true] at hf
      obtain ⟨a, vs, rfl, hs, rs⟩ := r2.tupAt
      unfold inT at e
      split at e
      · rename_i d ds e1 e2
        split at e
        · cases e
          have D1 := g.dat r1 e1
          have D2 := g.dats rs e2
          have f1 := T.flat_ok hf.1 r1
          have f2 := flats_ok hf.2 rs
          rw [any_flat D1 f1 D2 f2] at q
          cases neg with
          | false => exact op_in_seq pins s σ H _ _ v u Q I rx ry ⟨a, vs, rfl, .inr hs, f1, f2, q⟩
          | true => exact op_notIn_seq pins s σ H _ _ v u Q I rx ry ⟨a, vs, rfl, .inr hs, f1, f2, q⟩
        · cases e
      · cases e
    · cases e
  · cases e
theorem op_cmp (op : Cop) (hu : X.A.units + 65 < cLine) : OpR X (compareOp op.o) (rOp X.K X.mg (cmpT op)) := by
  intro pins s σ H x y v u Q I rx ry hq
  obtain ⟨ρ, h, tx, ty, t, h', g, r1, r2, e, k⟩ := hq
  have eqs : ∀ {b : Bool}, eqD h tx ty = some b → ∃ d e, Dp X.K H x d ∧ Dp X.K H y e ∧ SeqAt.shaped d = true ∧ SeqAt.shaped e = true ∧ PyData.eqv d e = b := fun {b} eb => by
    unfold eqD at eb
    split at eb
    · rename_i d1 d2 e1 e2
      split at eb
      · rename_i hc
        rw [Bool.and_eq_true] at hc
        cases eb
        exact ⟨d1, d2, g.dat r1 e1, g.dat r2 e2, hc.1, hc.2, rfl⟩
      · cases eb
    · cases eb
  have ems : ∀ {b : Bool}, emT h tx ty = some b → ∃ a c xs ys, x = V.ref a ∧ y = V.ref c ∧ ((SqT X.K H a xs ∧ SqT X.K H c ys) ∨ (SqL X.K H a xs ∧ SqL X.K H c ys)) ∧ (xs = [] ∨ ys = []) ∧ decide (xs.length = ys.length) = b := fun {b} eb => by
    have emp : ∀ {xs ys : List T} {vs ws : List V}, RTs X.K X.mg ρ H xs vs → RTs X.K X.mg ρ H ys ws → (xs.isEmpty || ys.isEmpty) = true → vs = [] ∨ ws = [] := fun {xs ys vs ws} q1 q2 he => by
      rw [Bool.or_eq_true, List.isEmpty_iff, List.isEmpty_iff] at he
      rcases he with rfl | rfl
      · exact .inl (by cases q1; rfl)
      · exact .inr (by cases q2; rfl)
    unfold emT at eb
    split at eb
    · rename_i xs ys
      split at eb
      · rename_i he
        cases eb
        obtain ⟨a, vs, rfl, s1, q1⟩ := r1.tupAt
        obtain ⟨c, ws, rfl, s2, q2⟩ := r2.tupAt
        exact ⟨a, c, vs, ws, rfl, rfl, .inl ⟨s1, s2⟩, emp q1 q2 he, by rw [q1.length, q2.length]⟩
      · cases eb
    · rename_i a c
      split at eb
      · rename_i xs ys e1 e2
        split at eb
        · rename_i he
          cases eb
          cases r1 with
          | ref p1 =>
            cases r2 with
            | ref p2 =>
              obtain ⟨vs, m1, q1⟩ := g.mutL p1 e1
              obtain ⟨ws, m2, q2⟩ := g.mutL p2 e2
              exact ⟨_, _, vs, ws, rfl, rfl, .inr ⟨SqL.of m1, SqL.of m2⟩, emp q1 q2 he, by rw [q1.length, q2.length]⟩
        · cases eb
      · cases eb
    · cases eb
  have eqq : ∀ {neg b : Bool}, eqT h tx ty = some b → Q (.bl (if neg = true then !b else b)) H → wpAny (model X.prog X.w) X.A (compareOp (if neg = true then .NotEq else .Eq) v u) (EP X pins σ Q) X.xe s := fun {neg b} eb q => by
    unfold eqT at eb
    split at eb
    · rename_i b' e0
      cases eb
      unfold strQ at e0
      split at e0
      · cases e0
        cases r1
        cases r2
        cases neg with
        | false => exact op_eq pins s σ H _ _ v u Q I rx ry ⟨rfl, by simpa using q⟩
        | true => exact op_ne pins s σ H _ _ v u Q I rx ry ⟨rfl, by simpa using q⟩
      · cases e0
    split at eb
    · rename_i b' e1
      cases eb
      obtain ⟨a, c, xs, ys, rfl, rfl, hs, hn, rfl⟩ := ems e1
      rcases hs with hs | hs
      · exact op_eqNil (neg := neg) (by omega) pins s σ H _ _ v u Q I rx ry ⟨a, c, xs, ys, rfl, rfl, hs.1, hs.2, hn, q⟩
      · exact op_eqNilL (neg := neg) (by omega) pins s σ H _ _ v u Q I rx ry ⟨a, c, xs, ys, rfl, rfl, hs.1, hs.2, hn, q⟩
    · obtain ⟨d1, d2, D1, D2, s1, s2, eb⟩ := eqs eb
      subst eb
      cases neg with
      | false => exact op_eqD (by omega) pins s σ H _ _ v u Q I rx ry ⟨d1, d2, D1, D2, s1, s2, q⟩
      | true => exact op_neD (by omega) pins s σ H _ _ v u Q I rx ry ⟨d1, d2, D1, D2, s1, s2, q⟩
  have nums : numC op tx ty h = R.ok t h' → (∃ i j b, x = .int i ∧ y = .int j ∧ intC op i j = some b ∧ Q (.bl b) H) ∨ (op = .gt ∧ ∃ (a b : Addr) (ns ms : List Int), x = .ref a ∧ y = .ref b ∧ SqT X.K H a (ns.map V.int) ∧ SqT X.K H b (ms.map V.int) ∧ Q (.bl (gtI ns ms)) H) := fun en => by
    unfold numC at en
    split at en
    · rename_i i j
      cases r1
      cases r2
      split at en
      · rename_i b eb
        cases en
        exact .inl ⟨i, j, b, rfl, rfl, eb, k.now g (.bl b)⟩
      · cases en
    · rename_i xs ys
      split at en
      · rename_i ns ms e1 e2
        cases en
        obtain ⟨a, vs, rfl, s1, q1⟩ := r1.tupAt
        obtain ⟨c, ws, rfl, s2, q2⟩ := r2.tupAt
        rw [q1.of_ints e1] at s1
        rw [q2.of_ints e2] at s2
        exact .inr ⟨rfl, a, c, ns, ms, rfl, rfl, s1, s2, k.now g (.bl _)⟩
      · cases en
    · cases en
  cases op with
  | eq =>
    dsimp only [cmpT] at e
    split at e
    · rename_i b eb
      cases e
      exact eqq (neg := false) eb (k.now g (.bl _))
    · cases e
  | ne =>
    dsimp only [cmpT] at e
    split at e
    · rename_i b eb
      cases e
      exact eqq (neg := true) eb (k.now g (.bl _))
    · cases e
  | inn =>
    dsimp only [cmpT] at e
    split at e
    · rename_i b eb
      cases e
      exact in_road (neg := false) hu pins s σ H _ _ v u Q I rx ry ⟨ρ, h, tx, ty, b, g, r1, r2, eb, k.now g (.bl _)⟩
    · cases e
  | nin =>
    dsimp only [cmpT] at e
    split at e
    · rename_i b eb
      cases e
      exact in_road (neg := true) hu pins s σ H _ _ v u Q I rx ry ⟨ρ, h, tx, ty, b, g, r1, r2, eb, k.now g (.bl _)⟩
    · cases e
  | is =>
    dsimp only [cmpT] at e
    split at e
    · rename_i a b
      cases e
      cases r1
      cases r2
      exact op_isBl pins s σ H _ _ v u Q I rx ry ⟨a, b, rfl, rfl, k.now g (.bl _)⟩
    · cases e
  | isnt =>
    dsimp only [cmpT] at e
    split at e
    · rename_i a b
      cases e
      cases r1
      cases r2
      exact op_notBl pins s σ H _ _ v u Q I rx ry ⟨a, b, rfl, rfl, k.now g (.bl _)⟩
    · cases e
  | lt =>
    rcases nums e with ⟨i, j, b, rfl, rfl, eb, q⟩ | ⟨z, _⟩
    rotate_left
    · cases z
    cases eb
    exact op_lt pins s σ H _ _ v u Q I rx ry ⟨i, j, rfl, rfl, q⟩
  | le =>
    rcases nums e with ⟨i, j, b, rfl, rfl, eb, q⟩ | ⟨z, _⟩
    rotate_left
    · cases z
    cases eb
    exact op_le pins s σ H _ _ v u Q I rx ry ⟨i, j, rfl, rfl, q⟩
  | gt =>
    rcases nums e with ⟨i, j, b, rfl, rfl, eb, q⟩ | ⟨_, z⟩
    rotate_left
    · exact op_gtT (by omega) pins s σ H _ _ v u Q I rx ry z
    cases eb
    exact op_gt pins s σ H _ _ v u Q I rx ry ⟨i, j, rfl, rfl, q⟩
  | ge =>
    rcases nums e with ⟨i, j, b, rfl, rfl, eb, q⟩ | ⟨z, _⟩
    rotate_left
    · cases z
    cases eb
    exact op_ge pins s σ H _ _ v u Q I rx ry ⟨i, j, rfl, rfl, q⟩

/-! ### items, slices -/
theorem sl_all : SlR X (fun x lo hi H Q => ∃ ρ h tx t h', G X.K X.mg ρ H h ∧ RT X.K X.mg ρ H tx x ∧ slcT tx lo hi h = .ok t h' ∧ Kn X.K X.mg ρ H h' t Q) := by
  intro pins s σ H x v vl vu lo hi sl Q I rx hs pl pu hq
  obtain ⟨ρ, h, tx, t, h', g, r1, e, k⟩ := hq
  unfold slcT at e
  split at e
  · rename_i xs
    cases e
    obtain ⟨a, vs, rfl, s1, q1⟩ := r1.tupAt
    refine sl_tupA pins s σ H _ v vl vu lo hi sl Q I rx hs pl pu ⟨a, vs, rfl, s1, fun hw => ?_, fun _ p hp => k.tup g (q1.cut lo hi) hp⟩
    refine k.now g ?_
    have ec : cutT xs lo hi = xs := by
      unfold cutT
      rw [q1.length, hw.1, hw.2, List.drop_zero, Nat.sub_zero, ← q1.length]
      exact List.take_length
    rw [ec]
    exact r1
  · split at e
    · rename_i xs ex
      obtain ⟨hl, rfl, rfl⟩ := newL_ok e
      obtain ⟨a, vs, rfl, s1, q1⟩ := g.lsT r1 ex
      exact sl_list pins s σ H _ v vl vu lo hi sl Q I rx hs pl pu ⟨a, vs, rfl, s1, fun p hp => k.lst g (q1.cut lo hi) hp⟩
    · cases e

/-! ### stores -/
theorem set_all (hu : X.A.units + 1 < cLine) : PSet X (fun o i v H Q => ∃ ρ h to' ti tv h', G X.K X.mg ρ H h ∧ RT X.K X.mg ρ H to' o ∧ RT X.K X.mg ρ H ti i ∧ RT X.K X.mg ρ H tv v ∧ setT to' ti tv h = .ok () h' ∧
    ∀ ρ' H', Ext ρ H ρ' H' → G X.K X.mg ρ' H' h' → Q H') := by
  intro pins s σ H o i v ov iv u Q I ro ri rv hq
  obtain ⟨ρ, h, to', ti, tv, h', g, r1, r2, r3, e, k⟩ := hq
  unfold setT at e
  split at e
  · rename_i n
    cases r1 with
    | ref p1 =>
      split at e
      · rename_i xs j e1
        split at e
        · rename_i m em
          cases e
          obtain ⟨vs, m1, q1⟩ := g.mutL p1 (xs := xs) (by unfold mutL; rw [e1])
          cases r2
          exact set_list pins s σ H _ _ _ ov iv u Q I ro ri rv ⟨_, vs, _, m, rfl, rfl, m1, by rw [← q1.length]; exact em, k _ _ (Ext.write g p1) (g.writeL p1 (q1.set r3 m))⟩
        · cases e
      · rename_i kvs e1
        split at e
        · rename_i kk ek
          split at e
          · rename_i hl
            cases e
            obtain ⟨qs, m1, q1⟩ := g.dK p1 e1
            have ev := T.kt_ok ek r2
            subst ev
            exact set_dict hu pins s σ H _ _ _ ov iv u Q I ro ri rv ⟨_, _, rfl, DPut.k m1 (line_lt (by rw [← q1.length]; exact hl)), k _ _ (Ext.write g p1) (g.writeD p1 (q1.put kk r3))⟩
          · cases e
        · cases e
      · cases e
  · cases e

/-! ### sorted -/
theorem pl_obj {h : Heap} {a : Addr} {xs : Array Value} (p : PlainL h a xs) : ∃ o n, h.get? a = some o ∧ o.cls = .type "list" ∧ o.data = .seq xs n := by
  obtain ⟨o, n, h1, h2, _, h3⟩ := p
  exact ⟨o, n, h1, h2, h3⟩
theorem sorted_seq {prog : Program} {w : World} {A : Around} {E : Value → Shared → Prop} {s : Shared} {β : Type} {R : Value → β → Prop} {enc : β → PyData} {vs : List Value} {bs : List β} {a : Addr} {o : Obj} {n : Nat} {ty : String} {Q : Value → Shared → Prop}
    (hT : ty = "list" ∨ ty = "tuple") (ho : s.heap.get? a = some o) (hc : o.cls = .type ty) (hd : o.data = .seq vs.toArray n)
    (er : W.EachIs (fun v b => R v b ∧ ∃ as, Reads s.heap v (enc b) as) vs bs) (hal : W.AllAlike (bs.map enc)) (hk : W.Sortable (bs.map enc)) (hL : bs.length ≤ sizeLine)
    (hu : ∀ b, b ∈ bs → A.units + 2 + (enc b).depth < cLine)
    (hq : ∀ (h1 : Heap) (out : List Value) (h' : Heap) (ep : Nat), (∀ b u, s.heap.get? b = some u → h1.get? b = some u) → out.length = bs.length → W.EachIs R out (bs.mergeSort (W.dataLe false enc)) → (∀ b u, h1.get? b = some u → h'.get? b = some u) →
      h'.get? h1.objs.size = some { cls := .type "list", data := .seq out.toArray ep } → Q (.ref h1.objs.size) { s with heap := h' }) :
    wpAny (model prog w) A (call (.builtin "sorted") [.ref a]) Q E s := by
  have e1 : W.EachIs R vs bs := er.mono fun _ _ z => z.1
  have hz : vs.length ≤ sizeLine := by rw [e1.length]; exact hL
  refine call_function_entry_kw kind_sorted plain_sorted entry_sorted (args_sorted1 _) ?_
  unfold Builtin.«sorted»
  refine wpAny_bind (m := checkCount "sorted" 1 1 _) (wpAny_pure (wpAny_bind (wpAny_collect_seq a hT ho hc hd (fun h1 k1 => ?_) (by rw [List.size_toArray]; exact hz))))
  refine wpAny_bind (PySem.wpAny_newList ?_ hz)
  have at1 : (h1.push { cls := .type "list", data := .seq vs.toArray }).get? h1.objs.size = some (seqObj "list" vs.toArray 0) := Heap.get?_push_size _ rfl
  have k2 : ∀ b u, h1.get? b = some u → (h1.push { cls := .type "list", data := .seq vs.toArray }).get? b = some u := fun b u z => Heap.get?_push_of_some _ z
  -- the sort itself
  refine wpAny_bind (wpAny_holding (wpAny_call_entry_kw slot_list_sort ⟨_, at1, rfl⟩ entry_list_sort ?body (args_list_sort _)))
  have k3 : ∀ b u, h1.get? b = some u → (W.sortingHeap (h1.push { cls := .type "list", data := .seq vs.toArray }) h1.objs.size vs).get? b = some u := fun b u z => W.sortingHeap_old (Nat.ne_of_lt (Heap.lt_size z)) (k2 b u z)
  have er' : W.EachIs (fun v b => ∃ as, Reads (W.sortingHeap (h1.push { cls := .type "list", data := .seq vs.toArray }) h1.objs.size vs) v (enc b) as) vs bs :=
    er.mono fun _ _ ⟨_, as, r⟩ => ⟨as, PyProof.Rows.Reads.keeps (fun b u z => k3 b u (k1 b u z)) r⟩
  refine wpAny_mono (W.list_sort_vals (P := fun f s' => f = .done (.ret .none) ∧ s' = { s with heap := sortedHeap (h1.push { cls := .type "list", data := .seq vs.toArray }) h1.objs.size vs (W.sortVals (W.dataKind (W.sortingHeap (h1.push { cls := .type "list", data := .seq vs.toArray }) h1.objs.size vs) (bs.map enc)) false vs vs).toArray })
    at1 (W.SortsAt.data (s := { s with heap := W.sortingHeap (h1.push { cls := .type "list", data := .seq vs.toArray }) h1.objs.size vs }) (W.each_map (R := fun v d => ∃ as, Reads (W.sortingHeap (h1.push { cls := .type "list", data := .seq vs.toArray }) h1.objs.size vs) v d as) enc er') hal hk (W.bound_map hu)) hz ⟨rfl, rfl⟩) (fun f s' hf => ?_) fun _ _ z => z
  obtain ⟨rfl, rfl⟩ := hf
  refine ⟨_, rfl, wpAny_pure ⟨_, rfl, ?_⟩⟩
  obtain ⟨ep, he⟩ := sortedHeap_at (out := (W.sortVals (W.dataKind (W.sortingHeap (h1.push { cls := .type "list", data := .seq vs.toArray }) h1.objs.size vs) (bs.map enc)) false vs vs).toArray) at1
  refine hq h1 _ _ ep k1 ?_ (W.sortVals_data false e1 er' hal) (fun b u z => ?_) he
  · rw [W.sortVals_length false rfl]
    exact e1.length
  · rw [sortedHeap_old (Nat.ne_of_lt (Heap.lt_size z)) (Heap.lt_size (k2 b u z))]
    exact k2 b u z
end
end MP

set_option Elab.async false
set_option linter.all false
set_option maxRecDepth 100000
/-! MiniPy, repr of data with dicts in it -/
namespace MP
open PySem PySem.Spec PyProof.Rows L2
def kD : Key → PyData
  | .inl i => .int i
  | .inr x => .str x
mutual
/-- v reads as d, dicts too -/
inductive Dr (K : PySem.W.Frag) (H : Hp) : V → PyData → Prop
  | non : Dr K H .non .none
  | bl (b : Bool) : Dr K H (.bl b) (.bool b)
  | int (i : Int) : Dr K H (.int i) (.int i)
  | str (x : Str) : Dr K H (.str x) (.str x)
  | lst {a : Addr} {vs : List V} {es : List PyData} : SqL K H a vs → Drs K H vs es → Dr K H (.ref a) (.list es)
  | tup {a : Addr} {vs : List V} {es : List PyData} : SqT K H a vs → Drs K H vs es → Dr K H (.ref a) (.tuple es)
  | dk {a : Addr} {qs : List (Key × V)} {es : List PyData} : H a = some (.dK qs) → Drs K H (qs.map (·.2)) es → Dr K H (.ref a) (.dict ((qs.map fun q => kD q.1).zip es))
inductive Drs (K : PySem.W.Frag) (H : Hp) : List V → List PyData → Prop
  | nil : Drs K H [] []
  | cons {v : V} {vs : List V} {e : PyData} {es : List PyData} : Dr K H v e → Drs K H vs es → Drs K H (v :: vs) (e :: es)
end
theorem Drs.len {K : PySem.W.Frag} {H : Hp} : ∀ {vs : List V} {es : List PyData}, Drs K H vs es → es.length = vs.length
  | _, _, .nil => rfl
  | _, _, .cons _ b => by rw [List.length_cons, List.length_cons, b.len]
/-- read and shown -/
def RSh (P : Program) (w : World) (g : Heap) (u : Value) (d : PyData) : Prop := ∃ as bs, Reads g u d as ∧ ReadAtMost g d.depth bs ∧ ReprK P w bs g d.depth u d.shown
def RShs (P : Program) (w : World) (g : Heap) (us : List Value) (ds : List PyData) : Prop := ∃ as bs, ReadsAll g us ds as ∧ ReadAtMost g (PyData.depthAll ds) bs ∧ ReprAllK P w bs g (PyData.depthAll ds) us (PyData.shownAll ds)
section
variable {P : Program} {w : World} {g : Heap}
theorem keys_sh : ∀ (es : List DictEntry) (kvs : List (Key × Value)), Pairs (mixKind P w) es kvs → (∀ q ∈ kvs, (kD q.1).showable = true ∧ (kD q.1).shown.length ≤ sizeLine) →
    ∃ as, ReadsAll g (es.map (·.key)) (kvs.map fun q => kD q.1) as ∧ ReprAllK P w [] g 0 (es.map (·.key)) (PyData.shownAll (kvs.map fun q => kD q.1)) ∧ es.map (·.val) = kvs.map (·.2)
  | _, _, .nil, _ => ⟨_, .nil, by simp only [List.map_nil, PyData.shownAll]; exact .nil, rfl⟩
  | _, _, .cons (e := e) (kv := kv) (es := es) (kvs := kvs) h1 h2 r, hs => by
    obtain ⟨as, q1, q2, q3⟩ := keys_sh es kvs r fun q hq => hs q (List.mem_cons_of_mem _ hq)
    obtain ⟨s1, s2⟩ := hs kv List.mem_cons_self
    obtain ⟨k, v⟩ := kv
    have one : ∃ bs, Reads g e.key (kD k) bs ∧ ReprK P w [] g 0 e.key (kD k).shown := by
      rcases keyIs_shape (show keyIs k e.key = true from h1) with ⟨i, t, rfl, ek⟩ | ⟨x, t, rfl, ek⟩
      · rw [ek]
        refine ⟨_, .int i t, ?_⟩
        simp only [kD, PyData.shown]
        exact .of_is (ReprIs.int t (by simpa [kD, PyData.showable] using s1)) _ _ _
      · rw [ek]
        refine ⟨_, .str x t, ?_⟩
        simp only [kD, PyData.shown]
        exact .of_is (ReprIs.str x t (by simpa only [kD, PyData.shown] using s2)) _ _ _
    obtain ⟨bs, o1, o2⟩ := one
    refine ⟨_, .cons o1 q1, ?_, ?_⟩
    · simp only [List.map_cons, PyData.shownAll]
      exact .cons o2 q2
    · rw [List.map_cons, List.map_cons, q3]
      show e.val :: _ = v :: _
      rw [show e.val = v from h2]
theorem kv_vals {qs : List (Key × V)} {kvs : List (Key × Value)} (r : KV qs kvs) : Vals (qs.map (·.2)) (kvs.map (·.2)) ∧ qs.map (fun q => kD q.1) = kvs.map fun q => kD q.1 := by
  induction r with
  | nil => exact ⟨.nil, rfl⟩
  | cons h t ih => exact ⟨.cons h.2 ih.1, by rw [List.map_cons, List.map_cons, ih.2, h.1]⟩
end
theorem zipD_fst {α β : Type} : ∀ {xs : List α} {ys : List β}, ys.length = xs.length → (xs.zip ys).map (·.1) = xs
  | [], _, _ => rfl
  | x :: xs, [], h => by simp at h
  | x :: xs, y :: ys, h => by rw [List.zip_cons_cons, List.map_cons, zipD_fst (by simpa using h)]
theorem zipD_snd {α β : Type} : ∀ {xs : List α} {ys : List β}, ys.length = xs.length → (xs.zip ys).map (·.2) = ys
  | [], [], _ => rfl
  | [], y :: ys, h => by simp at h
  | x :: xs, [], h => by simp at h
  | x :: xs, y :: ys, h => by rw [List.zip_cons_cons, List.map_cons, zipD_snd (by simpa using h)]
section
variable {X : Cx} {pins : List (Addr × Obj)} {σ : L2.St} {H : Hp} {s : Shared}
theorem depth_keys (qs : List (Key × V)) : PyData.depthAll (qs.map fun q => kD q.1) = 0 := by
  induction qs with
  | nil => simp only [List.map_nil, PyData.depthAll]
  | cons q qs ih =>
    simp only [List.map_cons, PyData.depthAll, ih]
    obtain ⟨k, v⟩ := q
    cases k <;> simp only [kD, PyData.depth, Nat.max_self]
theorem shows_all : ∀ {ds : List PyData} {d : PyData}, PyData.showableAll ds = true → d ∈ ds → d.showable = true
  | [], _, _, h => by cases h
  | e :: ds, d, a, h => by
    simp only [PyData.showableAll, Bool.and_eq_true] at a
    rcases List.mem_cons.mp h with z | z
    · rw [z]; exact a.1
    · exact shows_all a.2 z
theorem shown_mem : ∀ {ds : List PyData} {d : PyData}, d ∈ ds → d.shown ∈ PyData.shownAll ds
  | [], _, h => by cases h
  | e :: ds, d, h => by
    simp only [PyData.shownAll]
    rcases List.mem_cons.mp h with z | z
    · rw [z]; exact List.mem_cons_self
    · exact List.mem_cons_of_mem _ (shown_mem z)
/-- a dict's parts: the entries and their texts -/
theorem dict_sh {a : Addr} {qs : List (Key × V)} {es : List PyData} (I : Inv X pins σ H s) (ha : H a = some (.dK qs)) (hl : es.length = qs.length) (hs : PyData.showable (.dict ((qs.map fun q => kD q.1).zip es)) = true) (hz : (PyData.shown (.dict ((qs.map fun q => kD q.1).zip es))).length ≤ sizeLine)
    (hv : ∀ us, Vals (qs.map (·.2)) us → PyData.showableAll es = true → (∀ t ∈ PyData.shownAll es, t.length ≤ sizeLine) → RShs X.prog X.w s.heap us es) :
    ∃ (as cs bs : List Addr) (o : Obj) (en : Array DictEntry) (n : Nat), s.heap.get? a = some o ∧ o.cls = .type "dict" ∧ o.data = .dict en n ∧ (a == sysModules) = false ∧ a ∉ bs ∧ Reads s.heap (.ref a) (.dict ((qs.map fun q => kD q.1).zip es)) (a :: as ++ cs) ∧
      ReadAtMost s.heap (PyData.depthKv ((qs.map fun q => kD q.1).zip es)) bs ∧ ReprEntriesK X.prog X.w bs s.heap (PyData.depthKv ((qs.map fun q => kD q.1).zip es)) en.toList (PyData.shownKv ((qs.map fun q => kD q.1).zip es)) := by
  obtain ⟨_, hsys, kvs, rel, o, en, n, ho, hx, hd, _, pr, _⟩ := dk_of I.hok ha
  obtain ⟨rv, ek⟩ := kv_vals rel
  have hle : es.length = (qs.map fun q => kD q.1).length := by rw [List.length_map, hl]
  have hs2 := PyData.showableKv_split _ (show PyData.showableKv ((qs.map fun q => kD q.1).zip es) = true by simpa [PyData.showable] using hs)
  rw [zipD_fst hle, zipD_snd hle] at hs2
  have hz2 : (dictText (PyData.shownKv ((qs.map fun q => kD q.1).zip es))).length ≤ sizeLine := by simpa only [PyData.shown] using hz
  have key1 : ∀ t ∈ PyData.shownAll (qs.map fun q => kD q.1), t.length ≤ sizeLine := fun t ht => by
    rw [← zipD_fst hle] at ht
    obtain ⟨p, hp, hq⟩ := PyData.shownKv_key_le _ t ht
    exact Nat.le_trans hq (Nat.le_trans (dictText_mem_le hp) hz2)
  have val1 : ∀ t ∈ PyData.shownAll es, t.length ≤ sizeLine := fun t ht => by
    rw [← zipD_snd hle] at ht
    obtain ⟨p, hp, hq⟩ := PyData.shownKv_val_le _ t ht
    exact Nat.le_trans hq (Nat.le_trans (dictText_mem_le hp) hz2)
  obtain ⟨as, k1, k2, k3⟩ := keys_sh (P := X.prog) (w := X.w) (g := s.heap) en.toList kvs pr fun q hq => by
    have m : kD q.1 ∈ qs.map fun q => kD q.1 := by
      rw [ek]
      exact List.mem_map.mpr ⟨q, hq, rfl⟩
    exact ⟨shows_all hs2.1 m, key1 _ (shown_mem m)⟩
  obtain ⟨cs, bs, v1, v2, v3⟩ := hv (kvs.map (·.2)) rv hs2.2 val1
  rw [← ek] at k1 k2
  rw [← k3] at v1 v3
  have rd : Reads s.heap (.ref a) (.dict ((qs.map fun q => kD q.1).zip es)) (a :: as ++ cs) := .dict ho hx.1 hd (by rw [zipD_fst hle]; exact k1) (by rw [zipD_snd hle]; exact v1)
  have dv := PyData.depthAll_vals_le ((qs.map fun q => kD q.1).zip es)
  rw [zipD_snd hle] at dv
  have am := v2.mono dv
  refine ⟨as, cs, bs, o, en, n, ho, hx.1, hd, hsys, not_mem_of_deeper rd (by simp only [PyData.depth]; omega) am, rd, am, ?_⟩
  rw [PyData.shownKv_eq, zipD_fst hle, zipD_snd hle]
  exact .of_two en.toList _ _ (k2.more_le (fun b hb => by cases hb) (Nat.zero_le _)) (v3.more_le (fun _ hb => hb) dv)
mutual
theorem Dr.sh (I : Inv X pins σ H s) : ∀ (d : PyData) (v : V) (u : Value), Dr X.K H v d → RelV v u → d.showable = true → d.shown.length ≤ sizeLine → RSh X.prog X.w s.heap u d
  | .none, _, _, .non, r, _, _ => by
    cases r
    exact ⟨_, [], .none, (fun _ z => nomatch z), by simp only [PyData.shown]; exact .of_is .none _ _ _⟩
  | .bool b, _, _, .bl _, r, _, _ => by
    cases r
    exact ⟨_, [], .bool b, (fun _ z => nomatch z), by simp only [PyData.shown]; exact .of_is (.bool b) _ _ _⟩
  | .int i, _, _, .int _, r, hs, _ => by
    obtain ⟨t, rfl⟩ := r
    exact ⟨_, [], .int i t, (fun _ z => nomatch z), by simp only [PyData.shown]; exact .of_is (.int t (by simpa [PyData.showable] using hs)) _ _ _⟩
  | .str x, _, _, .str _, r, _, hz => by
    obtain ⟨t, rfl⟩ := r
    exact ⟨_, [], .str x t, (fun _ z => nomatch z), by simp only [PyData.shown]; exact .of_is (.str x t (by simpa only [PyData.shown] using hz)) _ _ _⟩
  | .list es, _, _, .lst (a := a) q ds, r, hs, hz => by
    cases r
    obtain ⟨its, rv, ⟨o, n, ho, hc, _, hd⟩, _⟩ := I.list q
    have hz2 : (listText (PyData.shownAll es)).length ≤ sizeLine := by simpa only [PyData.shown] using hz
    obtain ⟨as, bs, c1, c2, c3⟩ := Drs.sh I es _ its ds rv (by simpa [PyData.showable] using hs) fun t ht => Nat.le_trans (listText_mem_le ht) hz2
    have rd := Reads.list ho hc hd c1
    have na : a ∉ bs := not_mem_of_deeper rd (by simp only [PyData.depth]; omega) c2
    refine ⟨_, a :: bs, rd, ReadAtMost.cons rd (by simp only [PyData.depth]; omega) c2, ?_⟩
    simp only [PyData.depth, PyData.shown]
    cases its with
    | nil =>
      have e0 : es = [] := by
        cases c1
        rfl
      subst e0
      simp only [PyData.shownAll]
      rw [listText_nil]
      exact .listEmpty ho hc hd
    | cons x l => exact .list ho hc hd na (by rw [c3.length_eq]; simp) fun i y e => c3.item i y (by simpa using e)
  | .tuple es, _, _, .tup (a := a) q ds, r, hs, hz => by
    cases r
    obtain ⟨its, rv, ⟨o, ho, hc, n, hd⟩, _⟩ := I.tuple q
    have hz2 : (tupleText (PyData.shownAll es)).length ≤ sizeLine := by simpa only [PyData.shown] using hz
    obtain ⟨as, bs, c1, c2, c3⟩ := Drs.sh I es _ its ds rv (by simpa [PyData.showable] using hs) fun t ht => Nat.le_trans (tupleText_mem_le ht) hz2
    have rd := Reads.tuple ho hc hd c1
    have na : a ∉ bs := not_mem_of_deeper rd (by simp only [PyData.depth]; omega) c2
    refine ⟨_, a :: bs, rd, ReadAtMost.cons rd (by simp only [PyData.depth]; omega) c2, ?_⟩
    simp only [PyData.depth, PyData.shown]
    exact .tuple ho hc hd na c3
  | .dict _, _, _, .dk (a := a) (qs := qs) (es := es) q ds, r, hs, hz => by
    cases r
    obtain ⟨as, cs, bs, o, en, n, ho, hc, hd, hsys, na, rd, am, re⟩ := dict_sh I q (by rw [ds.len, List.length_map]) hs hz fun us rv h1 h2 => Drs.sh I es _ us ds rv h1 h2
    refine ⟨_, a :: bs, rd, ReadAtMost.cons rd (by simp only [PyData.depth]; omega) am, ?_⟩
    simp only [PyData.depth, PyData.shown]
    exact .dict ho hc hd hsys na re
theorem Drs.sh (I : Inv X pins σ H s) : ∀ (es : List PyData) (vs : List V) (us : List Value), Drs X.K H vs es → Vals vs us → PyData.showableAll es = true → (∀ t ∈ PyData.shownAll es, t.length ≤ sizeLine) → RShs X.prog X.w s.heap us es
  | [], _, _, .nil, r, _, _ => by
    cases r
    exact ⟨_, [], .nil, (fun _ z => nomatch z), by simp only [PyData.shownAll]; exact .nil⟩
  | e :: es, _, _, .cons a b, r, hs, hz => by
    cases r with
    | cons r1 r2 =>
      simp only [PyData.showableAll, Bool.and_eq_true] at hs
      simp only [PyData.shownAll] at hz
      obtain ⟨as, bs, c1, c2, c3⟩ := Dr.sh I e _ _ a r1 hs.1 (hz _ List.mem_cons_self)
      obtain ⟨as2, bs2, d1, d2, d3⟩ := Drs.sh I es _ _ b r2 hs.2 fun t ht => hz t (List.mem_cons_of_mem _ ht)
      have m1 : e.depth ≤ max e.depth (PyData.depthAll es) := Nat.le_max_left _ _
      have m2 : PyData.depthAll es ≤ max e.depth (PyData.depthAll es) := Nat.le_max_right _ _
      refine ⟨_, bs ++ bs2, .cons c1 d1, ?_, ?_⟩
      · simp only [PyData.depthAll]
        exact (c2.mono m1).append (d2.mono m2)
      · simp only [PyData.depthAll, PyData.shownAll]
        exact .cons ((c3.more fun b hb => List.mem_append_left _ hb).level_le m1) (d3.more_le (fun b hb => List.mem_append_right _ hb) m2)
end
theorem cr_reprD (hu : X.A.units + 100 < cLine) (hg : X.A.guards = some []) {Q : VK} {v : V} {us : List Value} {d : PyData} (I : Inv X pins σ H s) (r : Vals [v] us) (D : Dr X.K H v d)
    (h1 : d.shown.length ≤ sizeLine) (h2 : d.showable = true) (h3 : d.depth ≤ 60) (q : Q (.str d.shown) H) : wpAny (model X.prog X.w) X.A (call (.builtin "repr") us) (EP X pins σ Q) X.xe s := by
  cases r with
  | cons r rr =>
    cases rr
    have fin : ∀ h' u tk, (∀ b o, s.heap.get? b = some o → h'.get? b = some o) → ∃ x t, Value.str d.shown u = .str x t ∧ EP X pins σ Q (.str d.shown u) { s with heap := h', toks := tk } := fun h' u tk k => ⟨_, _, rfl, .str _, H, I.kept k, ⟨_, rfl⟩, q⟩
    cases D with
    | non =>
      cases r
      exact PySem.P.repr_of_none ⟨.str _, H, I.tok _, ⟨_, rfl⟩, q⟩
    | bl b =>
      cases r
      exact PySem.P.repr_of_bool ⟨.str _, H, I.tok _, ⟨_, rfl⟩, q⟩
    | int i =>
      obtain ⟨t, rfl⟩ := r
      exact PySem.P.repr_of_int (by simpa [PyData.showable] using h2) ⟨.str _, H, I.tok _, ⟨_, rfl⟩, q⟩
    | str x =>
      obtain ⟨t, rfl⟩ := r
      exact PySem.P.repr_of_str (hsz := h1) ⟨.str _, H, I.tok _, ⟨_, rfl⟩, q⟩
    | lst qa ds =>
      rename_i a vs es
      cases r
      obtain ⟨its, rv, ⟨o, n, ho, hc, _, hd⟩, _⟩ := I.list qa
      have hz2 : (listText (PyData.shownAll es)).length ≤ sizeLine := by simpa only [PyData.shown] using h1
      obtain ⟨as, bs, c1, c2, c3⟩ := Drs.sh I es _ its ds rv (by simpa [PyData.showable] using h2) fun t ht => Nat.le_trans (listText_mem_le ht) hz2
      have na : a ∉ bs := not_mem_of_deeper (Reads.list ho hc hd c1) (by simp only [PyData.depth]; omega) c2
      simp only [PyData.depth] at h3
      simp only [PyData.shown] at fin
      refine call_repr_slot (by omega) ⟨o, ho, hc⟩ F.slot_list_repr.toG ?_
      cases its with
      | nil =>
        have e0 : es = [] := by
          cases c1
          rfl
        subst e0
        simp only [PyData.shownAll] at fin
        rw [listText_nil] at fin
        exact call_list_repr_empty ⟨o, ho, hc⟩ ho hd (fin s.heap _ _ fun _ _ e => e)
      | cons x l => exact call_list_reprK ho hc hd na (by rw [c3.length_eq]; simp) (fun i y e => c3.item i y (by simpa using e)) (show X.A.in1.guards = some [] from hg) (fun b _ => Clear.nil b) (by show X.A.units + 1 + _ < cLine; omega) (fun _ _ e => e) fin hz2
    | tup qa ds =>
      rename_i a vs es
      cases r
      obtain ⟨its, rv, ⟨o, ho, hc, n, hd⟩, _⟩ := I.tuple qa
      have hz2 : (tupleText (PyData.shownAll es)).length ≤ sizeLine := by simpa only [PyData.shown] using h1
      obtain ⟨as, bs, c1, c2, c3⟩ := Drs.sh I es _ its ds rv (by simpa [PyData.showable] using h2) fun t ht => Nat.le_trans (tupleText_mem_le ht) hz2
      have na : a ∉ bs := not_mem_of_deeper (Reads.tuple ho hc hd c1) (by simp only [PyData.depth]; omega) c2
      simp only [PyData.depth] at h3
      simp only [PyData.shown] at fin
      refine call_repr_slot (by omega) ⟨o, ho, hc⟩ F.slot_tuple_repr ?_
      exact call_tuple_reprK ho hc hd na c3 (show X.A.in1.guards = some [] from hg) (fun b _ => Clear.nil b) (by show X.A.units + 1 + _ < cLine; omega) (fun _ _ e => e) fin hz2
    | dk qa ds =>
      rename_i a qs es
      cases r
      obtain ⟨as, cs, bs, o, en, n, ho, hc, hd, hsys, na, rd, am, re⟩ := dict_sh I qa (by rw [ds.len, List.length_map]) h2 h1 fun us rv h1 h2 => Drs.sh I es _ us ds rv h1 h2
      simp only [PyData.depth] at h3
      simp only [PyData.shown] at fin h1
      refine call_repr_slot (by omega) ⟨o, ho, hc⟩ F.slot_dict_repr ?_
      exact call_dict_reprK ho hc hd hsys na re (show X.A.in1.guards = some [] from hg) (fun b _ => Clear.nil b) (by show X.A.units + 1 + _ < cLine; omega) (fun _ _ e => e) fin h1
end
section
variable [tt : Mkr] {K : PySem.W.Frag} {mg : Str → Option Value} {ρ : List Addr} {H : Hp} {h : Hh}
mutual
theorem dr_of {f : Nat → Option PyData} (hf : ∀ (n : Nat) (a : Addr) (d : PyData), ρ[n]? = some a → f n = some d → Dr K H (.ref a) d) : ∀ (t : T) (v : V) (d : PyData), RT K mg ρ H t v → T.dat f t = some d → Dr K H v d
  | .non, _, d, .non, e => by cases e; exact .non
  | .bl b, _, d, .bl _, e => by cases e; exact .bl b
  | .int b, _, d, .int _, e => by cases e; exact .int b
  | .str b, _, d, .str _, e => by cases e; exact .str b
  | .tup xs, _, d, .tup t r, e => by
    unfold T.dat at e
    cases q : T.dats f xs with
    | none => rw [q] at e; cases e
    | some ds =>
      rw [q] at e
      cases e
      exact .tup t.sq (drs_of hf xs _ ds r q)
  | .fz xs, _, d, .fz t r, e => by
    unfold T.dat at e
    cases q : T.dats f xs with
    | none => rw [q] at e; cases e
    | some ds =>
      rw [q] at e
      cases e
      exact .lst t.sq (drs_of hf xs _ ds r q)
  | .ref n, _, d, .ref q, e => hf n _ d q e
  | .fn x, _, d, .fn q, e => by cases e
theorem drs_of {f : Nat → Option PyData} (hf : ∀ (n : Nat) (a : Addr) (d : PyData), ρ[n]? = some a → f n = some d → Dr K H (.ref a) d) : ∀ (ts : List T) (vs : List V) (ds : List PyData), RTs K mg ρ H ts vs → T.dats f ts = some ds → Drs K H vs ds
  | [], _, ds, .nil, e => by cases e; exact .nil
  | t :: ts, _, ds, .cons r rs, e => by
    unfold T.dats at e
    cases q : T.dat f t with
    | none => rw [q] at e; cases e
    | some d =>
      rw [q] at e
      cases q2 : T.dats f ts with
      | none => rw [q2] at e; cases e
      | some ds2 =>
        rw [q2] at e
        cases e
        exact .cons (dr_of hf t _ d r q) (drs_of hf ts _ ds2 rs q2)
end
theorem kD_key (k : KT) : kD k.key = k.d := by cases k <;> rfl
theorem rkv_two {kvs : List (KT × T)} {qs : List (Key × V)} (r : RKV K mg ρ H kvs qs) : RTs K mg ρ H (kvs.map (·.2)) (qs.map (·.2)) ∧ (kvs.map fun p => p.1.d) = qs.map fun q => kD q.1 := by
  induction r with
  | nil => exact ⟨.nil, rfl⟩
  | cons h t ih => exact ⟨.cons h.2 ih.1, by rw [List.map_cons, List.map_cons, ih.2, h.1, kD_key]⟩
theorem refR_ok (g : G K mg ρ H h) : ∀ (k n : Nat) (a : Addr) (d : PyData), ρ[n]? = some a → refR k h n = some d → Dr K H (.ref a) d
  | 0, _, _, _, _, e => by cases e
  | k + 1, n, a, d, e1, e => by
    unfold refR at e
    split at e
    · rename_i xs q
      cases g.ob n a _ e1 q with
      | lst h1 h2 =>
        cases q2 : T.dats (refR k h) xs with
        | none => rw [q2] at e; cases e
        | some ds =>
          rw [q2] at e
          cases e
          exact .lst (SqL.of h1) (drs_of (refR_ok g k) xs _ ds h2 q2)
    · rename_i kvs q
      cases g.ob n a _ e1 q with
      | dK h1 h2 =>
        obtain ⟨r2, ek⟩ := rkv_two h2
        cases q2 : T.dats (refR k h) (kvs.map (·.2)) with
        | none => rw [q2] at e; cases e
        | some ds =>
          rw [q2] at e
          cases e
          rw [ek]
          exact .dk h1 (drs_of (refR_ok g k) _ _ ds r2 q2)
    · cases e
theorem G.datR (g : G K mg ρ H h) {t : T} {v : V} {d : PyData} (r : RT K mg ρ H t v) (e : MP.datR h t = some d) : Dr K H v d := dr_of (refR_ok g 12) t v d r e
end
end MP

set_option Elab.async false
set_option linter.all false
set_option maxRecDepth 100000
/-! MiniPy: enumerate(a tuple) -/
namespace MP
open PySem PySem.Spec PyProof.Rows L2
open AutoSeq1 (wpAny_loadPart')
theorem enumT_new (l : Addr) (items : Array Value) (n : Nat) (dct : Option Addr) (sl : Array (Option Value)) :
    Meets (Builtin.«enumerate.__new__» ⟨[.type "enumerate", .ref l], []⟩) (fun _ R s => s.heap.get? l = some { cls := .type "tuple", dict := dct, data := .seq items n, slots := sl } ∧
      R (.ok (.ret (.ref (s.heap.push { cls := .type "tuple_iterator", data := .fields #[.ref l, .int 0 0] }).objs.size)))
        { s with heap := (s.heap.push { cls := .type "tuple_iterator", data := .fields #[.ref l, .int 0 0] }).push { cls := .type "enumerate", data := .fields #[.none, .bool false, .ref s.heap.objs.size, rawInt 0, .none, .none] } }) :=
  .of_wp fun prog w A R s h => by
    obtain ⟨hp, g, d, tk, os⟩ := s
    obtain ⟨hl, h⟩ := h
    have hsub := sub_enumerate
    have hT : Heap.IsTuple (Shared.heap ⟨hp, g, d, tk, os⟩) l items := ⟨_, hl, rfl, n, rfl⟩
    wp_walk using wpAny_loadPart' hl
    refine wpAny_stack_any fun st => wpAny_pure ?_
    split
    · rename_i c _ _ _ _ _
      cases (c == Value.type "enumerate") <;> (wp_walk using wpAny_loadPart' hl, wpAny_pyIter_tuple hT; exact ⟨_, rfl, h⟩)
    · wp_walk using wpAny_loadPart' hl, wpAny_pyIter_tuple hT
      exact ⟨_, rfl, h⟩
section
variable {prog : Program} {w : World} {A : Around} {E : Value → Shared → Prop} {s : Shared}
theorem call_enumT {l : Addr} {items : Array Value} {Q : Value → Shared → Prop} (hL : s.heap.IsTuple l items)
    (h : ∀ h', IsEnum h' (s.heap.objs.size + 1) s.heap.objs.size 0 .none → h'.IsTupleIter s.heap.objs.size l 0 → (∀ b o, s.heap.get? b = some o → h'.get? b = some o) → Q (.ref (s.heap.objs.size + 1)) { s with heap := h' }) :
    wpAny (model prog w) A (call (.type "enumerate") [.ref l]) Q E s := by
  obtain ⟨⟨c, dct, dt, sl⟩, hl, hc, n, hd⟩ := hL
  dsimp only at hc hd
  subst hc hd
  refine callType_new F.called_enumerate (by decide) (F.typeCall_enumerate_1 _) (F.newCall_enumerate_1 _) (fun obj => F.args_object_init_2 obj _) F.entry_enumerate_new (enumT_new l items n dct sl) ⟨hl, ?_⟩
  have hz : (s.heap.push { cls := .type "tuple_iterator", data := .fields #[.ref l, .int 0 0] }).objs.size = s.heap.objs.size + 1 := Heap.size_push ..
  show _ ∧ _
  rw [hz]
  have he : IsEnum ((s.heap.push { cls := .type "tuple_iterator", data := .fields #[.ref l, .int 0 0] }).push { cls := .type "enumerate", data := .fields #[.none, .bool false, .ref s.heap.objs.size, rawInt 0, .none, .none] }) (s.heap.objs.size + 1) s.heap.objs.size 0 .none := by
    have q := Heap.get?_push_size (s.heap.push { cls := .type "tuple_iterator", data := .fields #[.ref l, .int 0 0] }) (o := { cls := .type "enumerate", data := .fields #[.none, .bool false, .ref s.heap.objs.size, rawInt 0, .none, .none] }) rfl
    rwa [hz] at q
  exact ⟨⟨_, he, rfl⟩, h _ he ⟨_, Heap.get?_push_of_some _ (Heap.get?_push_size _ rfl), rfl, rfl⟩ fun b o x => Heap.get?_push_of_some _ (Heap.get?_push_of_some _ x)⟩
end
/-- the tuple at a as it stands at each turn, each item in a new pair -/
def IteT (K : PySem.W.Frag) (a : Addr) : It :=
  ⟨fun i H => ∃ (xs : List V) (x : V), SqT K H a xs ∧ xs[i]? = some x, fun i H v H' => ∃ T x, v = .ref T ∧ H T = none ∧ H' = upd H T (.tup [.int (i : Nat), x]) ∧ ∀ xs, SqT K H a xs → xs[i]? = some x, fun i H => ∃ xs : List V, SqT K H a xs ∧ xs.length ≤ i⟩
theorem turn_enumT {P : Program} {w : World} {K : PySem.W.Frag} {elts : List Expr} {kk : Nat} {tpos : Pos} (a e it : Addr) (hat : a ≠ it) (hae : a ≠ e) :
    Turn P w K (.Tuple elts kk tpos) (IteT K a) [e, it] e (fun i h => (∃ old, IsEnum h e it ((i : Nat) : Int) old) ∧ h.IsTupleIter it a i ∧ e ≠ it) where
  mem := by simp
  obj := fun i h st b hb => by
    obtain ⟨⟨old, he⟩, ⟨o, ho, hc, hd⟩, _⟩ := st
    rcases (show b = e ∨ b = it by simpa using hb) with z | z
    · rw [z]; exact ⟨_, he, fun v q => nomatch q⟩
    · rw [z]; exact ⟨o, ho, fun v q => by rw [hd] at q; cases q⟩
  keep := fun i h h' st k => by
    obtain ⟨⟨old, he⟩, hi, hne⟩ := st
    exact ⟨⟨old, k e (by simp) _ he⟩, hi.at fun o q => k it (by simp) o q, hne⟩
  item := by
    intro X hP hw hK hc i pins s σ H E I hf st hg
    subst hP hw hK
    obtain ⟨⟨old, he⟩, hit, hne⟩ := st
    obtain ⟨xs, x, hq, hx⟩ := hg
    obtain ⟨its, rv, p, hz⟩ := I.tuple hq
    obtain ⟨u, hu, ru⟩ := rv.get hx
    have hel : e < s.heap.objs.size := Heap.lt_size he
    have hil : it < s.heap.objs.size := by
      obtain ⟨_, q, _⟩ := hit
      exact Heap.lt_size q
    have hlt : i < its.toArray.size := by
      have := (List.getElem?_eq_some_iff.mp hu).1
      simpa using this
    refine wpAny_pyNext_enum_itemD (Draws.tuple (show X.A.in1.handled = none from I.ok.hd hc) it a hat its.toArray) he ⟨hit, p⟩ hlt hne (by simp; exact ⟨hne, fun z => hae z.symm⟩) fun y h' tk hP ho hit' hT hsz hk => ?_
    have ey : y = u := by
      have e2 : its[i]? = some y := by simpa using hP
      rw [hu] at e2
      exact (Option.some.inj e2).symm
    subst ey
    refine ⟨_, rfl, wpAny_letOwnedTupleGo_enum (s := { s with heap := h', toks := tk + 1 }) ho fun h'' he' sb => ?_⟩
    have hT2 : h''.get? s.heap.objs.size = some { cls := .type "tuple", data := .seq #[.int i tk, y] } := (sb.2 _ (Nat.ne_of_gt hel)).trans hT
    have new : ObjOk X.prog X.w (upd H s.heap.objs.size (.tup [.int (i : Nat), x])) h'' s.heap.objs.size (.tup [.int (i : Nat), x]) :=
      ⟨by show 2 ≤ sizeLine; decide, [.int i tk, y], .cons ⟨_, rfl⟩ (.cons ru .nil), ⟨_, hT2, rfl, _, rfl⟩⟩
    have I1 : Inv X pins σ (upd H s.heap.objs.size (.tup [.int (i : Nat), x])) { s with heap := h'', toks := tk + 1 } :=
      I.turnedNew (ch := [e, it]) (fun b ob hb q => (sb.2 b (fun z => hb (by simp [z]))).trans (hk b ob (fun z => hb (by simp [z])) (fun z => hb (by simp [z])) q)) hf (Nat.le_refl _) new
    refine ⟨.ref s.heap.objs.size, _, I1, rfl, ⟨_, x, rfl, I.hok.fresh (Nat.le_refl _), rfl, fun ys hy => by rw [I.tuple_inj hy hq]; exact hx⟩, ⟨⟨y, ?_⟩, hit'.1.at fun o q => (sb.2 it (Ne.symm hne)).trans q, hne⟩, fun b hb => ?_⟩
    · rw [show ((i + 1 : Nat) : Int) = (i : Int) + 1 by omega]
      exact he'
    · have hb' : b < s.heap.objs.size := by
        rcases (show b = e ∨ b = it by simpa using hb) with z | z
        · rw [z]; exact hel
        · rw [z]; exact hil
      rw [upd_ne (Nat.ne_of_lt hb')]
      exact (hf b hb).1
  done := by
    intro X hP hw hK hc i pins s σ H E I hf st hg
    subst hP hw hK
    obtain ⟨⟨old, he⟩, hit, hne⟩ := st
    obtain ⟨xs, hq, hx⟩ := hg
    obtain ⟨its, rv, p, hz⟩ := I.tuple hq
    obtain ⟨f0, f1, f2, f3, f4, f5⟩ := hf it (by simp)
    have hl : xs.length = its.length := rv.length
    obtain ⟨ot, hot, hct, nt, hdt⟩ := id p
    have D0 := Draws.tuple (prog := X.prog) (w := X.w) (show X.A.in1.handled = none from I.ok.hd hc) it a hat its.toArray
    -- beyond the end the iterator answers as at the end
    have D1 : Draws X.prog X.w X.A.in1 it [it, a] i (fun j v => its.toArray[j]? = some v ∧ False) (fun j h => j = i ∧ h.IsTupleIter it a i ∧ h.IsTuple a its.toArray) :=
      { live := fun _ _ st => let ⟨o, ho, _⟩ := st.2.1; ⟨o, ho⟩
        frame := fun _ _ _ st hk => ⟨st.1, st.2.1.at fun o e => hk it (by simp) o e, st.2.2.at fun o e => hk a (by simp) o e⟩
        item := fun j s Q E hj st _ => by omega
        done := fun s Q E st hE => RZ.nextOf_tuple_end (show X.A.in1.handled = none from I.ok.hd hc) st.2.1 st.2.2 (by
          rw [List.getElem?_toArray]
          exact List.getElem?_eq_none (by rw [← hl, st.1]; exact hx)) hE }
    exact wpAny_pyNext_enum_endD D1 he ⟨rfl, hit, p⟩ fun h' eb => ⟨rfl, I.turned (t' := s.toks) (fun b o hb q => eb b o hb q) f0 f1 f3 f4 f5⟩
  self := fun A i s Q E st h => by
    obtain ⟨⟨_, he⟩, _⟩ := st
    exact wpAny_pyIter_enum he h
/-- enumerate of a list or of a tuple -/
def iEnumA (K : PySem.W.Frag) (ta : TA) : TI := fun σ H R => ta σ H fun vs H1 => ∃ a xs, vs = [.ref a] ∧ ((SqL K H1 a xs ∧ R (Ite K a) H1) ∨ (SqT K H1 a xs ∧ R (IteT K a) H1))
theorem pi_enumA {X : Cx} {e : Expr} {ta : TA} {p pos tpos : Pos} {elts : List Expr} {kk : Nat} (hg : Gl X "enumerate") (hm : X.mg "enumerate" = none) (ha : PA X [e] ta) (hs : starEach [e] X.env = [(false, eval e X.env)]) :
    PI X (.Tuple elts kk tpos) (.Call (.Name "enumerate" p) [e] [] pos) (iEnumA X.K ta) := by
  refine ⟨fun pins s σ H R I h => ?_⟩
  refine Call_ (ld_blt I hg hm boot_enumerate (PyProof.Rows.callWith_type1 (thn (ha.run pos pins s σ H _ I h) fun us s1 ⟨vs, H1, I1, r1, q1⟩ => ?_) hs rfl))
  obtain ⟨a, xs, ex, q⟩ := q1
  subst ex
  cases r1 with
  | cons r rr =>
    cases rr
    cases r
    have fp : ∀ {h' : Heap} {H2 : Hp}, (∀ b ∈ [s1.heap.objs.size + 1, s1.heap.objs.size], s1.heap.objs.size ≤ b) := fun {h' H2} b hb => by
      rcases (show b = s1.heap.objs.size + 1 ∨ b = s1.heap.objs.size by simpa using hb) with z | z <;> omega
    rcases q with ⟨hq, q⟩ | ⟨hq, q⟩
    · obtain ⟨its, rv, p', hz⟩ := I1.list hq
      refine call_enumerate_list p'.isList fun h' he hit hsz hk => wpAny_pyIter_enum he ?_
      have I2 : Inv X pins σ H1 { s1 with heap := h' } := I1.kept (t' := s1.toks) hk
      exact ⟨s1.heap.objs.size + 1, [s1.heap.objs.size + 1, s1.heap.objs.size], _, _, H1, rfl, I2, turn_enum a (s1.heap.objs.size + 1) s1.heap.objs.size, ⟨⟨.none, he⟩, hit, Nat.succ_ne_self _⟩, fun b hb => I1.fpOk (fp (h' := h') (H2 := H1) b hb) (I1.hok.fresh (fp (h' := h') (H2 := H1) b hb)), q⟩
    · obtain ⟨its, rv, p', hz⟩ := I1.tuple hq
      have hal : a < s1.heap.objs.size := by
        obtain ⟨o, ho, _⟩ := p'
        exact Heap.lt_size ho
      refine call_enumT p' fun h' he hit hk => wpAny_pyIter_enum he ?_
      have I2 : Inv X pins σ H1 { s1 with heap := h' } := I1.kept (t' := s1.toks) hk
      exact ⟨s1.heap.objs.size + 1, [s1.heap.objs.size + 1, s1.heap.objs.size], _, _, H1, rfl, I2, turn_enumT a (s1.heap.objs.size + 1) s1.heap.objs.size (Nat.ne_of_lt hal) (Nat.ne_of_lt (Nat.lt_succ_of_lt hal)), ⟨⟨.none, he⟩, hit, Nat.succ_ne_self _⟩, fun b hb => I1.fpOk (fp (h' := h') (H2 := H1) b hb) (I1.hok.fresh (fp (h' := h') (H2 := H1) b hb)), q⟩
end MP

set_option Elab.async false
set_option linter.all false
set_option maxRecDepth 100000
/-! MiniPy, part D: built-ins and methods by values -/
namespace MP
open PySem PySem.Spec PyProof.Rows L2
variable [tt : Mkr]
section
variable {X : Cx}
theorem RTs.one {K : PySem.W.Frag} {mg : Str → Option Value} {ρ : List Addr} {H : Hp} {x : T} {vs : List V} (r : RTs K mg ρ H [x] vs) : ∃ v, vs = [v] ∧ RT K mg ρ H x v := by
  cases r with
  | cons a b =>
    cases b
    exact ⟨_, rfl, a⟩
theorem RTs.two {K : PySem.W.Frag} {mg : Str → Option Value} {ρ : List Addr} {H : Hp} {x y : T} {vs : List V} (r : RTs K mg ρ H [x, y] vs) : ∃ v w, vs = [v, w] ∧ RT K mg ρ H x v ∧ RT K mg ρ H y w := by
  cases r with
  | cons a b =>
    obtain ⟨w, rfl, q⟩ := b.one
    exact ⟨_, w, rfl, a, q⟩
def Blt.f : Blt → Value
  | .len => .builtin "len"
  | .list => .type "list"
  | .tuple => .type "tuple"
  | .sorted => .builtin "sorted"
  | .all => .builtin "all"
  | .any => .builtin "any"
  | .sum => .builtin "sum"
  | .max => .builtin "max"
  | .min => .builtin "min"
  | .int => .type "int"
  | .repr => .builtin "repr"
  | .str => .type "str"
  | .abs => .builtin "abs"
  | .bool => .type "bool"
theorem foldl_max (r : List Int) : ∀ a : Int, a ≤ r.foldl max a ∧ (∀ y ∈ r, y ≤ r.foldl max a) ∧ (r.foldl max a = a ∨ r.foldl max a ∈ r) := by
  induction r with
  | nil => exact fun a => ⟨Int.le_refl a, by simp, .inl rfl⟩
  | cons x r ih =>
    intro a
    obtain ⟨h1, h2, h3⟩ := ih (max a x)
    refine ⟨Int.le_trans (Int.le_max_left a x) h1, fun y hy => ?_, ?_⟩
    · rcases List.mem_cons.mp hy with rfl | hy
      · exact Int.le_trans (Int.le_max_right a y) h1
      · exact h2 y hy
    · rcases h3 with h3 | h3
      · show (r.foldl max (max a x) = a ∨ r.foldl max (max a x) ∈ x :: r)
        rw [h3]
        rcases Int.le_total a x with q | q
        · rw [Int.max_eq_right q]
          exact .inr List.mem_cons_self
        · rw [Int.max_eq_left q]
          exact .inl rfl
      · exact .inr (List.mem_cons_of_mem _ h3)
theorem foldl_min (r : List Int) : ∀ a : Int, r.foldl min a ≤ a ∧ (∀ y ∈ r, r.foldl min a ≤ y) ∧ (r.foldl min a = a ∨ r.foldl min a ∈ r) := by
  induction r with
  | nil => exact fun a => ⟨Int.le_refl a, by simp, .inl rfl⟩
  | cons x r ih =>
    intro a
    obtain ⟨h1, h2, h3⟩ := ih (min a x)
    refine ⟨Int.le_trans h1 (Int.min_le_left a x), fun y hy => ?_, ?_⟩
    · rcases List.mem_cons.mp hy with rfl | hy
      · exact Int.le_trans h1 (Int.min_le_right a y)
      · exact h2 y hy
    · rcases h3 with h3 | h3
      · show (r.foldl min (min a x) = a ∨ r.foldl min (min a x) ∈ x :: r)
        rw [h3]
        rcases Int.le_total a x with q | q
        · rw [Int.min_eq_left q]
          exact .inl rfl
        · rw [Int.min_eq_right q]
          exact .inr List.mem_cons_self
      · exact .inr (List.mem_cons_of_mem _ h3)
theorem maxI_ok {ns : List Int} {m : Int} (e : maxI ns = some m) : 0 < ns.length ∧ ∀ k, k ∈ ns → (∀ y, y ∈ ns → y ≤ k) → k = m := by
  cases ns with
  | nil => cases e
  | cons x r =>
    cases e
    obtain ⟨h1, h2, h3⟩ := foldl_max r x
    refine ⟨Nat.succ_pos _, fun k hk hy => ?_⟩
    have a1 : k ≤ r.foldl max x := by
      rcases List.mem_cons.mp hk with rfl | hk
      · exact h1
      · exact h2 k hk
    have a2 : r.foldl max x ≤ k := by
      rcases h3 with h3 | h3
      · rw [h3]
        exact hy x List.mem_cons_self
      · exact hy _ (List.mem_cons_of_mem _ h3)
    omega
theorem minI_ok {ns : List Int} {m : Int} (e : minI ns = some m) : 0 < ns.length ∧ ∀ k, k ∈ ns → (∀ y, y ∈ ns → k ≤ y) → k = m := by
  cases ns with
  | nil => cases e
  | cons x r =>
    cases e
    obtain ⟨h1, h2, h3⟩ := foldl_min r x
    refine ⟨Nat.succ_pos _, fun k hk hy => ?_⟩
    have a1 : r.foldl min x ≤ k := by
      rcases List.mem_cons.mp hk with rfl | hk
      · exact h1
      · exact h2 k hk
    have a2 : k ≤ r.foldl min x := by
      rcases h3 with h3 | h3
      · rw [h3]
        exact hy x List.mem_cons_self
      · exact hy _ (List.mem_cons_of_mem _ h3)
    omega
theorem ref1 {v : V} {a : Addr} {us : List Value} (r : Vals [v] us) (e : v = .ref a) : us = [.ref a] := by
  subst e
  cases r with
  | cons p q =>
    cases q
    rw [show _ = Value.ref a from p]
/-! ### sorted -/
theorem sortable_ok {ds : List PyData} (h : sortable ds = true) : W.AllAlike ds ∧ W.Sortable ds ∧ ∀ d ∈ ds, d.depth ≤ 60 := by
  unfold sortable at h
  rw [Bool.and_eq_true, Bool.and_eq_true, Bool.or_eq_true] at h
  obtain ⟨⟨h1, h2⟩, h3⟩ := h
  refine ⟨fun d hd e he => ?_, ?_, fun d hd => of_decide_eq_true (List.all_eq_true.mp h3 d hd)⟩
  · exact List.all_eq_true.mp (List.all_eq_true.mp h1 d hd) e he
  · rcases h2 with h2 | h2
    · refine .inl fun d hd => ?_
      have q := List.all_eq_true.mp h2 d hd
      split at q
      · exact ⟨_, _, rfl⟩
      · cases q
    · refine .inr fun d hd => ?_
      have q := List.all_eq_true.mp h2 d hd
      split at q
      · cases q
      · cases q
      · rename_i g1 g2
        exact ⟨g1, g2⟩
/-- the items as values, read off -/
theorem each_of {pins : List (Addr × Obj)} {σ : L2.St} {H : Hp} {s : Shared} {mg : Str → Option Value} {ρ : List Addr} (I : Inv X pins σ H s) : ∀ {xs : List T} {vs : List V} {us : List Value} {ds : List PyData}, RTs X.K mg ρ H xs vs → DpAll X.K H vs ds → Vals vs us →
    W.EachIs (fun u (p : T × PyData) => (∃ v, RelV v u ∧ RT X.K mg ρ H p.1 v) ∧ ∃ as, Reads s.heap u p.2 as) us (xs.zip ds)
  | _, _, _, _, .nil, .nil, .nil => .nil
  | _, _, _, _, .cons r rs, .cons d ds, .cons v vs => .cons ⟨⟨_, v, r⟩, Dp.reads I _ _ _ d v⟩ (each_of I rs ds vs)
theorem each_back {H : Hp} {K : PySem.W.Frag} {mg : Str → Option Value} {ρ : List Addr} : ∀ {us : List Value} {ps : List (T × PyData)}, W.EachIs (fun u (p : T × PyData) => ∃ v, RelV v u ∧ RT K mg ρ H p.1 v) us ps → ∃ vs, Vals vs us ∧ RTs K mg ρ H (ps.map (·.1)) vs
  | _, _, .nil => ⟨[], .nil, .nil⟩
  | _, _, .cons ⟨v, r, q⟩ t => by
    obtain ⟨vs, a, b⟩ := each_back t
    exact ⟨v :: vs, .cons r a, .cons q b⟩
theorem DpAll.length {K : PySem.W.Frag} {H : Hp} : ∀ {vs : List V} {ds : List PyData}, DpAll K H vs ds → vs.length = ds.length
  | _, _, .nil => rfl
  | _, _, .cons _ r => congrArg (· + 1) (DpAll.length r)
theorem zip_snd {α β : Type} : ∀ {xs : List α} {ys : List β}, xs.length = ys.length → (xs.zip ys).map (·.2) = ys
  | [], [], _ => rfl
  | x :: xs, y :: ys, h => by
    rw [List.zip_cons_cons, List.map_cons, zip_snd (by simpa using h)]
theorem cr_sortedT (hu : X.A.units + 100 < cLine) {pins : List (Addr × Obj)} {s : Shared} {σ : L2.St} {H : Hp} {Q : VK} {ρ : List Addr} {h h' : Hh} {x t : T} {v : V} {us : List Value} {xs ys : List T} (I : Inv X pins σ H s) (r : Vals [v] us) (g : G X.K X.mg ρ H h) (rx : RT X.K X.mg ρ H x v)
    (e1 : seqOf h x = some xs) (e2 : sortT h xs = some ys) (e3 : newL h ys = .ok t h') (k : Kn X.K X.mg ρ H h' t Q) : wpAny (model X.prog X.w) X.A (call (.builtin "sorted") us) (EP X pins σ Q) X.xe s := by
  obtain ⟨a, vs, rfl, hs, rs⟩ := g.seqOf rx e1
  unfold sortT at e2
  split at e2
  · rename_i ds ed
    split at e2
    · rename_i hc
      cases e2
      obtain ⟨hl, rfl, rfl⟩ := newL_ok e3
      obtain ⟨al, so, dep⟩ := sortable_ok hc.1
      have D := g.dats rs ed
      have hlen : xs.length = ds.length := rs.length.trans (DpAll.length D)
      have hzip : (xs.zip ds).map (·.2) = ds := zip_snd hlen
      rw [ref1 r rfl]
      -- the object itself
      obtain ⟨o, n, its, ty, hT, ho, hcl, hdt, rv⟩ : ∃ o n its ty, (ty = "list" ∨ ty = "tuple") ∧ s.heap.get? a = some o ∧ o.cls = .type ty ∧ o.data = .seq its.toArray n ∧ Vals vs its := by
        rcases hs with hs | hs
        · obtain ⟨its, rv, pl, _⟩ := I.list hs
          obtain ⟨o, n, h1, h2, h3⟩ := pl_obj pl
          exact ⟨o, n, its, "list", .inl rfl, h1, h2, h3, rv⟩
        · obtain ⟨its, rv, ⟨o, h1, h2, n, h3⟩, _⟩ := I.tuple hs
          exact ⟨o, n, its, "tuple", .inr rfl, h1, h2, h3, rv⟩
      refine sorted_seq (R := fun u (p : T × PyData) => ∃ v, RelV v u ∧ RT X.K X.mg ρ H p.1 v) (enc := fun p : T × PyData => p.2) hT ho hcl hdt (each_of I rs D rv) (by rw [hzip]; exact al) (by rw [hzip]; exact so) ?_ ?_ ?_
      · rw [List.length_zip, ← hlen, Nat.min_self]
        exact line_le hc.2
      · intro b hb
        have := dep b.2 (by rw [← hzip]; exact List.mem_map_of_mem hb)
        omega
      · intro h1 out h2 ep k1 ho2 eo k2 he
        obtain ⟨ws, rw', rt⟩ := each_back eo
        have I1 : Inv X pins σ H { s with heap := h1 } := I.kept (t' := s.toks) k1
        have hf : H h1.objs.size = none := I1.hok.fresh (Nat.le_refl _)
        refine ⟨.ref h1.objs.size, upd H h1.objs.size (.lst ws), I1.laid (t' := s.toks) k2 (Nat.le_refl _) ⟨?_, out, ep, rw', he⟩, rfl, k.lst g rt hf⟩
        rw [rw'.length, ho2, List.length_zip, ← hlen, Nat.min_self]
        exact line_le hc.2
    · cases e2
  · cases e2

/-! ### all built-ins -/
def rC (K : PySem.W.Frag) (mg : Str → Option Value) (f : List T → Hh → R T) : List V → Hp → VK → Prop := fun vs H Q =>
  ∃ ρ h ts t h', G K mg ρ H h ∧ RTs K mg ρ H ts vs ∧ f ts h = .ok t h' ∧ Kn K mg ρ H h' t Q
theorem bind_some {α β : Type} {o : Option α} {f : α → Option β} {b : β} (e : o.bind f = some b) : ∃ a, o = some a ∧ f a = some b := by
  cases o with
  | none => cases e
  | some a => exact ⟨a, rfl, e⟩
theorem cr_blt (b : Blt) (hc : X.calm = true) (hu : X.A.units + 100 < cLine) (hg : b = .repr → X.A.guards = some []) : CallR X b.f (rC X.K X.mg (bltT b)) := by
  intro pins s σ H vs us Q I r hq
  obtain ⟨ρ, h, ts, t, h', g, rs, e, k⟩ := hq
  unfold bltT at e
  split at e
  · -- len
    rename_i x
    obtain ⟨v, rfl, rx⟩ := rs.one
    split at e
    · cases e
      obtain ⟨a, ws, rfl, s1, q1⟩ := rx.tupAt
      exact call_len_seq pins s σ H _ us Q I r ⟨a, ws, rfl, .inr s1, by rw [← q1.length]; exact k.now g (.int _)⟩
    · cases e
      obtain ⟨a, ws, rfl, s1, q1⟩ := g.lsT rx rfl
      exact call_len_seq pins s σ H _ us Q I r ⟨a, ws, rfl, .inl s1, by rw [← q1.length]; exact k.now g (.int _)⟩
    · split at e
      · rename_i hl
        cases e
        cases rx
        exact call_len_str pins s σ H _ us Q I r ⟨_, rfl, line_le hl, k.now g (.int _)⟩
      · cases e
    · rename_i n
      cases rx with
      | ref p1 =>
        split at e
        · rename_i xs e1
          cases e
          obtain ⟨ws, m1, q1⟩ := g.mutL p1 (xs := xs) (by unfold mutL; rw [e1])
          exact call_len_seq pins s σ H _ us Q I r ⟨_, ws, rfl, .inl (SqL.of m1), by rw [← q1.length]; exact k.now g (.int _)⟩
        · rename_i kvs e1
          cases e
          obtain ⟨qs, m1, q1⟩ := g.dK p1 e1
          rw [ref1 r rfl]
          refine d_len I (Rd.of m1) fun tk s' I' => ⟨.int _, H, I', ⟨tk, rfl⟩, ?_⟩
          rw [← q1.length]
          exact k.now g (.int _)
        · cases e
    · cases e
  · -- list
    rename_i x
    obtain ⟨v, rfl, rx⟩ := rs.one
    split at e
    · rename_i xs ex
      obtain ⟨hl, rfl, rfl⟩ := newL_ok e
      obtain ⟨a, ws, rfl, s1, q1⟩ := g.seqOf rx ex
      exact call_list_of pins s σ H _ us Q I r ⟨a, ws, rfl, s1, fun p hp => k.lst g q1 hp⟩
    · cases e
  · -- tuple
    rename_i x
    obtain ⟨v, rfl, rx⟩ := rs.one
    split at e
    · cases e
      obtain ⟨a, ws, rfl, s1, q1⟩ := rx.tupAt
      exact call_tuple_of pins s σ H _ us Q I r ⟨a, ws, rfl, .inr ⟨s1, k.now g rx⟩⟩
    · split at e
      · rename_i xs ex
        cases e
        obtain ⟨a, ws, rfl, s1, q1⟩ := g.lsT rx ex
        exact call_tuple_of pins s σ H _ us Q I r ⟨a, ws, rfl, .inl ⟨s1, fun p hp => k.tup g q1 hp⟩⟩
      · cases e
  · -- sorted
    rename_i x
    obtain ⟨v, rfl, rx⟩ := rs.one
    split at e
    · rename_i xs e1
      split at e
      · rename_i ys e2
        exact cr_sortedT hu I r g rx e1 e2 e k
      · cases e
    · cases e
  · -- all
    rename_i x
    obtain ⟨v, rfl, rx⟩ := rs.one
    split at e
    · rename_i bs e1
      cases e
      obtain ⟨xs, e2, e3⟩ := bind_some e1
      obtain ⟨a, ws, rfl, s1, q1⟩ := g.lsT rx e2
      rw [q1.of_bools e3] at s1
      exact cr_all hc pins s σ H _ us Q I r ⟨a, bs, rfl, s1, k.now g (.bl _)⟩
    · cases e
  · -- any
    rename_i x
    obtain ⟨v, rfl, rx⟩ := rs.one
    split at e
    · rename_i bs e1
      cases e
      obtain ⟨xs, e2, e3⟩ := bind_some e1
      obtain ⟨a, ws, rfl, s1, q1⟩ := g.lsT rx e2
      rw [q1.of_bools e3] at s1
      exact cr_any hc pins s σ H _ us Q I r ⟨a, bs, rfl, s1, k.now g (.bl _)⟩
    · cases e
  · -- sum
    rename_i x
    obtain ⟨v, rfl, rx⟩ := rs.one
    split at e
    · rename_i ns e1
      cases e
      obtain ⟨xs, e2, e3⟩ := bind_some e1
      obtain ⟨a, ws, rfl, s1, q1⟩ := g.lsT rx e2
      rw [q1.of_ints e3] at s1
      exact cr_sum hc pins s σ H _ us Q I r ⟨a, ns, rfl, s1, k.now g (.int _)⟩
    · cases e
  · -- max
    rename_i x
    obtain ⟨v, rfl, rx⟩ := rs.one
    split at e
    · rename_i m e0
      cases e
      obtain ⟨ns, e1, e4⟩ := bind_some e0
      obtain ⟨xs, e2, e3⟩ := bind_some e1
      obtain ⟨a, ws, rfl, s1, q1⟩ := g.lsT rx e2
      rw [q1.of_ints e3] at s1
      obtain ⟨hp, hm⟩ := maxI_ok e4
      exact cr_max hc pins s σ H _ us Q I r ⟨a, ns, rfl, s1, hp, fun m' hm' hy => by rw [hm m' hm' hy]; exact k.now g (.int _)⟩
    · cases e
  · -- min
    rename_i x
    obtain ⟨v, rfl, rx⟩ := rs.one
    split at e
    · rename_i m e0
      cases e
      obtain ⟨ns, e1, e4⟩ := bind_some e0
      obtain ⟨xs, e2, e3⟩ := bind_some e1
      obtain ⟨a, ws, rfl, s1, q1⟩ := g.lsT rx e2
      rw [q1.of_ints e3] at s1
      obtain ⟨hp, hm⟩ := minI_ok e4
      exact cr_min hc pins s σ H _ us Q I r ⟨a, ns, rfl, s1, hp, fun m' hm' hy => by rw [hm m' hm' hy]; exact k.now g (.int _)⟩
    · cases e
  · cases e
    obtain ⟨v, w, rfl, rx, ry⟩ := rs.two
    cases rx
    cases ry
    exact call_max2 hc pins s σ H _ us Q I r ⟨_, _, rfl, k.now g (.int _)⟩
  · cases e
    obtain ⟨v, w, rfl, rx, ry⟩ := rs.two
    cases rx
    cases ry
    exact call_min2 hc pins s σ H _ us Q I r ⟨_, _, rfl, k.now g (.int _)⟩
  · cases e
    obtain ⟨v, rfl, rx⟩ := rs.one
    cases rx
    exact call_int1 pins s σ H _ us Q I r (.inl ⟨_, rfl, k.now g (.int _)⟩)
  · cases e
    obtain ⟨v, rfl, rx⟩ := rs.one
    cases rx
    exact call_int1 pins s σ H _ us Q I r (.inr ⟨_, rfl, k.now g (.int _)⟩)
  · -- repr
    rename_i x
    obtain ⟨v, rfl, rx⟩ := rs.one
    split at e
    · rename_i d ed
      split at e
      · rename_i hz
        cases e
        rw [Bool.and_eq_true, Bool.and_eq_true, decide_eq_true_eq, decide_eq_true_eq] at hz
        exact cr_reprD hu (hg rfl) I r (g.datR rx ed) (line_le hz.1.1) hz.1.2 hz.2 (k.now g (.str _))
      · cases e
    · cases e
  · -- str
    obtain ⟨v, rfl, rx⟩ := rs.one
    cases rx
    split at e
    · rename_i hl
      cases e
      exact call_str_int pins s σ H _ us Q I r ⟨_, rfl, hl, k.now g (.str _)⟩
    · cases e
  · cases e
    obtain ⟨v, rfl, rx⟩ := rs.one
    cases rx
    exact call_str_bl pins s σ H _ us Q I r ⟨_, rfl, k.now g (.str _)⟩
  · cases e
    obtain ⟨v, rfl, rx⟩ := rs.one
    cases rx
    exact call_abs pins s σ H _ us Q I r ⟨_, rfl, k.now g (.int _)⟩
  · cases e
end
end MP

set_option Elab.async false
set_option linter.all false
set_option maxRecDepth 100000
set_option maxHeartbeats 2000000
/-! MiniPy, exceptions, part A: try with any handlers, each with a name or without -/
namespace MP
open PySem PySem.Spec PyProof.Rows L2
abbrev SuT := Addr → Value → Option Addr → TS
/-- behind a suite that names its exception the name is gone -/
def endAs (i : Nat) (D : Ends) : Ends := { nx := fun σ H => D.nx (σ.set i none) H, rt := D.rt, bk := fun σ H => D.bk (σ.set i none) H, ct := fun σ H => D.ct (σ.set i none) H }
def wAll (K : PySem.W.Frag) (Wo : WX) (D : Ends) : List (Value × Option Nat × SuT) → WX
  | [] => Wo
  | (c, none, ts) :: r => fun cls d σ H => ∃ b, PySem.W.exmOne K cls c = some b ∧ (b = true → ∀ a, H a = none → ts a cls d D σ H) ∧ (b = false → wAll K Wo D r cls d σ H)
  | (c, some i, ts) :: r => fun cls d σ H => ∃ b, PySem.W.exmOne K cls c = some b ∧ (b = true → ∀ a, H a = none → i < σ.length → ts a cls d (endAs i D) (σ.set i (some (.ref a))) H) ∧ (b = false → wAll K Wo D r cls d σ H)
def SuOk (X : Cx) (ss : List Stmt) (ts : SuT) : Prop := ∀ (a : Addr) (oe : Obj) (cls : Value) (d : Option Addr) (pn : List (Addr × Obj)), Zc cls d oe → (∃ vs, oe.data = .fields vs) → PSs (X.suite a ((a, oe) :: pn)) ss (ts a cls d)
inductive HdA (X : Cx) : List ExceptHandler → List (Value × Option Nat × SuT) → Prop
  | nil : HdA X [] []
  | bare {x : Str} {c : Value} {ts : SuT} {b : Stmt} {ss : List Stmt} {p q : Pos} {hs : List ExceptHandler} {l : List (Value × Option Nat × SuT)} (hc : Names X x c) (su : SuOk X (b :: ss) ts) (r : HdA X hs l) : HdA X (.ExceptHandler (some (.Name x p)) none (b :: ss) q :: hs) ((c, none, ts) :: l)
  | named {x n : Str} {i : Nat} {c : Value} {ts : SuT} {b : Stmt} {ss : List Stmt} {p q : Pos} {hs : List ExceptHandler} {l : List (Value × Option Nat × SuT)} (hc : Names X x c) (hi : X.N[i]? = some n) (hn : X.env.kindOf n = some .local) (su : SuOk X (b :: ss) ts) (r : HdA X hs l) :
      HdA X (.ExceptHandler (some (.Name x p)) (some n) (b :: ss) q :: hs) ((c, some i, ts) :: l)
section
variable {X : Cx} {body : List Stmt} {h0 : ExceptHandler} {hds : List ExceptHandler} {l : List (Value × Option Nat × SuT)} {pos : Pos} {tb : WX → TS} {Wo : WX}
theorem ps_try_all (st : X.stack = X.env :: X.outer) (fr : X.env.frame = some X.env.locals) (nd : X.N.Nodup) (tk : Takes X Wo)
    (hb : ∀ (W : WX) (pn : List (Addr × Obj)) (xe : Value → Shared → Prop), Takes (X.tr pn xe) W → PassesOwn (model X.prog X.w) X.A X.env xe → PSs (X.tr pn xe) body (tb W))
    (hh : HdA X (h0 :: hds) l) : PS X (.Try body (h0 :: hds) [] [] pos) (fun D σ H => tb (wAll X.K Wo D l) D σ H) := by
  constructor
  intro pins s σ H D I q0
  have ok := I.ok
  have frames : X.A.frames = some (X.env :: X.outer) := by rw [ok.frames, st]
  apply wpAny_Try_except
  let xe : Value → Shared → Prop := fun e s₁ => wpAny (model X.prog X.w) X.A (noteFrame e X.env) (fun _ s₂ => wpAny (model X.prog X.w) X.A (setFlight e none) (fun _ s₃ => wpAny (model X.prog X.w) X.A (handleBy e X.env (h0 :: hds)) (SP X pins D) X.xe s₃) X.xe s₂) X.xe s₁
  have tkb : Takes (X.tr (X.pn ++ pins) xe) (wAll X.K Wo D l) := by
    intro u s1 air
    obtain ⟨a, B, sI, pins', σ', H', cls, d, rfl, J', nb, up, sky, na, os, ag, want⟩ := air
    have J : Inv X pins σ' H' sI := J'.ofTry ok
    have sky2 : Sky B (X.env :: X.outer) a (Zc cls d) X.env.locals s1.heap := by
      rw [← st]
      exact sky
    show wpAny (model X.prog X.w) X.A (noteFrame (.ref a) X.env) _ _ _
    refine Sky.land Zc.steady frames fr sky2 fun g fl up2 => ?_
    have J2 : Inv X pins σ' H' { s1 with heap := g } := J.landed nb fl.1 (up.trans up2) os ag
    obtain ⟨oe, ovs, oget, oz, od⟩ := fl.there
    have notin : a ∉ frs (X.env :: X.outer) := fun hm => by
      obtain ⟨_, o2, e2, nf⟩ := fl.2.2.1.mem hm
      rw [oget] at e2
      cases e2
      exact nf _ od
    have nloc : a ≠ X.env.locals := fun z => notin (List.mem_filterMap.mpr ⟨X.env, List.mem_cons_self, by rw [fr, z]⟩)
    have nfs : a ∉ X.fs := fun hm => by
      obtain ⟨e, m1, m2⟩ := List.mem_filterMap.mp hm
      exact notin (List.mem_filterMap.mpr ⟨e, List.mem_cons_of_mem _ m1, m2⟩)
    have S2 := J2.suite oget od na nloc nfs
    have go : ∀ {hs : List ExceptHandler} {m : List (Value × Option Nat × SuT)}, HdA X hs m → wAll X.K Wo D m cls d σ' H' → wpAny (model X.prog X.w) X.A (handleBy (.ref a) X.env hs) (SP X pins D) X.xe { s1 with heap := g } := by
      intro hs m hk
      have tyl : PySem.W.Looks (model X.prog X.w) g (typeOf (.ref a)) cls := fun A Q E z keep q => wpAny_typeOf_ref (keep _ _ oget) (by rw [oz.1]; exact q)
      have nam : ∀ {x : Str} {c : Value} {p : Pos} {Q : Value → Shared → Prop} {E : Value → Shared → Prop}, Names X x c → Q c { s1 with heap := g } → wpAny (model X.prog X.w) (X.A.mark (some (.ref a))) (eval (.Name x p) X.env) Q E { s1 with heap := g } := fun {x c p Q E} hc q => by
        obtain ⟨hg, hdb, hm | ⟨hm, hv, hnn⟩⟩ := hc
        · exact ld_glob (X := X.suite a ((a, oe) :: (X.pn ++ pins))) S2 hg hm q hdb
        · exact ld_blt (X := X.suite a ((a, oe) :: (X.pn ++ pins))) S2 hg hm hv q hnn hdb
      induction hk with
      | nil =>
        intro want
        refine wpAny_handleBy_nil ?_
        obtain ⟨_, _, _, oe2, vs2, T2, _, _, get2, _, dat2, f1, _⟩ := id fl
        unfold PySem.passOn
        refine wpAny_bind (wpAny_field get2 dat2 f1 ?_)
        rw [if_neg (show ¬ ((Value.ref T2 == Value.none) = true) by simp)]
        have last : wpAny (model X.prog X.w) X.A (setFlight (.ref a) X.env.frame) (fun _ z => wpAny (model X.prog X.w) X.A (throw (.ref a) : Sem Flow) (SP X pins D) X.xe z) X.xe { s1 with heap := g } := by
          rw [fr]
          refine HandSPX.setFlight_upZ fl fun g2 held up3 => wpAny_throw (tk _ _ ?_)
          refine ⟨a, B, sI, pins, σ', H', cls, d, rfl, J, nb, (up.trans up2).trans up3, .inr (.inr ?_), na, os, ag, want⟩
          rw [st]
          exact held
        first
          | exact wpAny_bind last
          | exact wpAny_bind (wpAny_pure (wpAny_bind last))
      | @bare x c ts b ss p q hs2 l2 hc su r ih =>
        intro want
        obtain ⟨yes, hyes, w1, w2⟩ := want
        refine wpAny_handleBy_cons (codeAny_handlers_test ?_) (by intro z; cases z)
        refine nam hc ((PySem.W.exm_one (M := model X.prog X.w) J2.kIn tyl hyes).here ?_)
        cases yes with
        | false =>
          show wpAny _ X.A (handleBy (.ref a) X.env hs2) _ _ _
          exact ih (w2 rfl)
        | true =>
          refine codeAny_handlers_suite ?_
          refine HandSPX.lands_againZ fl fun g2 fl2 up3 => ?_
          have J3 : Inv X pins σ' H' { s1 with heap := g2 } := J.landed nb fl2.1 ((up.trans up2).trans up3) os ag
          obtain ⟨oe2, ovs2, oget2, oz2, od2⟩ := fl2.there
          have S3 := J3.suite oget2 od2 na nloc nfs
          refine wpAny_mono ((su a oe2 cls d (X.pn ++ pins) oz2 ⟨_, od2⟩).run [] _ _ H' _ S3 (w1 rfl a na)) (fun f z hz => ?_) (fun _ _ z => z.elim)
          match f, hz with
          | .next, ⟨_, _, S4, q4⟩ => exact ⟨_, _, S4.unsuite ok, q4⟩
          | .brk, ⟨_, _, S4, q4⟩ => exact ⟨_, _, S4.unsuite ok, q4⟩
          | .cont, ⟨_, _, S4, q4⟩ => exact ⟨_, _, S4.unsuite ok, q4⟩
          | .ret u, ⟨_, _, _, S4, r4, q4⟩ => exact ⟨_, _, _, S4.unsuite ok, r4, q4⟩
      | @named x n i c ts b ss p q hs2 l2 hc hi hn su r ih =>
        intro want
        obtain ⟨yes, hyes, w1, w2⟩ := want
        refine wpAny_handleBy_cons (codeAny_handlers_test ?_) (by intro z; cases z)
        refine nam hc ((PySem.W.exm_one (M := model X.prog X.w) J2.kIn tyl hyes).here ?_)
        cases yes with
        | false =>
          show wpAny _ X.A (handleBy (.ref a) X.env hs2) _ _ _
          exact ih (w2 rfl)
        | true =>
          refine codeAny_handlers_suite_as ?_
          refine HandSPX.lands_againZ fl fun g2 fl2 up3 => ?_
          have J3 : Inv X pins σ' H' { s1 with heap := g2 } := J.landed nb fl2.1 ((up.trans up2).trans up3) os ag
          obtain ⟨oe2, ovs2, oget2, oz2, od2⟩ := fl2.there
          have S3 := J3.suite oget2 od2 na nloc nfs
          have loc : Loc X.env.scope n := .inl hn
          refine store_ok (X := X.suite a ((a, oe2) :: (X.pn ++ pins))) (v := .ref a) S3 nd hi loc rfl (fun z4 S4 => ?_) (.inr hn)
          refine wpAny_mono ((su a oe2 cls d (X.pn ++ pins) oz2 ⟨_, od2⟩).run [] z4 _ H' _ S4 (w1 rfl a na (by rw [J.len]; exact (List.getElem?_eq_some_iff.mp hi).1))) (fun f z hz => ?_) (fun _ _ z => z.elim)
          have away : ∀ {σ5 : L2.St} {H5 : Hp} {Q : Shared → Prop}, Inv (X.suite a ((a, oe2) :: (X.pn ++ pins))) [] σ5 H5 z → (∀ y, Inv X pins (σ5.set i none) H5 y → Q y) → wpAny (model X.prog X.w) X.A (do bindName X.env n .none; unbindBehindTheSuite X.env n q) (fun _ y => Q y) X.xe z :=
            fun S5 hq => gone_ok (S5.unsuite ok) nd hi hn hq
          match f, hz with
          | .next, ⟨_, _, S5, q5⟩ => exact away S5 fun y K5 => ⟨_, _, K5, q5⟩
          | .brk, ⟨_, _, S5, q5⟩ => exact away S5 fun y K5 => ⟨_, _, K5, q5⟩
          | .cont, ⟨_, _, S5, q5⟩ => exact away S5 fun y K5 => ⟨_, _, K5, q5⟩
          | .ret u, ⟨_, _, _, S5, r5, q5⟩ => exact away S5 fun y K5 => ⟨_, _, _, K5, r5, q5⟩
    exact go hh want
  refine wpAny_mono ((hb _ (X.pn ++ pins) xe tkb PassesOwn.looking).run [] s σ H D (I.toTry _) q0) (fun f z hz => ?_) (fun e z he => he)
  match f, hz with
  | .next, ⟨_, _, J, q⟩ => exact wpAny_execs_nil ⟨_, _, J.ofTry ok, q⟩
  | .brk, ⟨_, _, J, q⟩ => exact ⟨_, _, J.ofTry ok, q⟩
  | .cont, ⟨_, _, J, q⟩ => exact ⟨_, _, J.ofTry ok, q⟩
  | .ret u, ⟨_, _, _, J, r, q⟩ => exact ⟨_, _, _, J.ofTry ok, r, q⟩
end
end MP

set_option Elab.async false
set_option linter.all false
set_option maxRecDepth 100000
set_option maxHeartbeats 2000000
/-! MiniPy, exceptions, part B: a class of the program's own with one field, as gen_q.py printed it (turned from the guide's block for an own error) -/
namespace PySem
namespace OwnX
open PySem.W PySem.Calls PyProof.Rows PySem.HandSPX Builtin Builtin.ObjectAttr
theorem one_fits (v : Value) : [v].length ≤ sizeLine := by
  rw [sizeLine_eq]
  exact (by decide : 1 ≤ 16777216)
theorem loc_ld {M : Model} {s : Shared} {name : Str} {scope : Scope} {L a : Addr} {cd : Value} {m : Str → Option Value} {x : Str} {pos : Pos} {v : Value} {Q : Value → Shared → Prop} {A : Around} {E : Value → Shared → Prop} (hn : s.heap.Ns L m) (hv : m x = some v) (q : Q v s)
    (k1 : scope.kind = .function := by rfl) (k2 : (envOfC name scope L a cd).kindOf x = some .local := by rfl) (k3 : (x == ("__debug__" : Str)) = false := by decide) :
    wpAny M A (eval (.Name x pos) (envOfC name scope L a cd)) Q E s := wpAny_Name (wpAny_loadName_local k1 k2 hn hv q) k3
theorem ex_has {G : Addr} (X : String) : (Value.ref G :: ESX.exTail).contains (.type X) = ESX.exTail.contains (.type X) := by
  rw [List.contains_cons]
  have : (Value.type X == Value.ref G) = false := rfl
  rw [this, Bool.false_or]
section
variable {prog : Program} {w : World} {A : Around} {R : Result → Shared → Prop} {hp : Heap} {gs : Array GenState} {dr : Drawn} {t : Nat} {os : OsState}
theorem osa_two {K : Frag} {name : Str} {tk : Tok} {v : Value} {x C G : Addr} {fv : Array Value} {cd : ClassData}
    (X : K.In hp) (hx : hp.get? x = some { cls := .ref C, data := .fields fv }) (cin : clsIn K C = some cd) (hm : cd.mro = .ref C :: .ref G :: ESX.exTail) (hh : cd.hasDict = true) (no : findIn K (.ref C) name = some none)
    (hq : ∀ h' tk' dx, (∀ b o, b ≠ x → hp.get? b = some o → h'.get? b = some o) → hp.objs.size ≤ dx → dx ≠ x → h'.get? x = some { cls := .ref C, dict := some dx, data := .fields fv } →
      h'.Ns1 dx (fun y => if y = name then some v else none) → R (.ok (.ret .none)) ⟨h', gs, dr, tk', os⟩) :
    codeAny (model prog w) A (.call (.builtin "object.__setattr__") ⟨[.ref x, .str name tk, v], []⟩) R ⟨hp, gs, dr, t, os⟩ := by
  have I : InstAt hp x { cls := .ref C, data := .fields fv } C none := ⟨hx, rfl, rfl, trivial⟩
  have SF := F.store_object
  have nx : x ≠ hp.objs.size := Nat.ne_of_lt (Heap.lt_size hx)
  have hob : cd.mro.contains (.type "object") = true := by
    rw [hm, List.contains_cons, ex_has]
    have : ESX.exTail.contains (.type "object") = true := by decide +kernel
    rw [this, Bool.or_true]
  have ins : Looks (model prog w) hp (isInstance (.ref x) (.type "object")) true := by
    refine I.type.andThen (looks_mroIn X ?_)
    unfold mroIn
    rw [cin, Option.bind_some, if_neg (by rw [hm]; exact Bool.false_ne_true), hob]
  refine codeAny_call_builtin SF.slot.plain SF.entry (@check_slot (model prog w) _ _ ⟨hp, gs, dr, t, os⟩ "object.__setattr__" "object" "__setattr__" (.ref x) [.str name tk, v] [] _ SF.kind SF.split ins (SF.args (.ref x) (.str name tk) v) ?_)
  have mr : Looks (model prog w) hp (mroOf (.ref C)) cd.mro := (looks_clsIn X cin).andThen .now
  have none3 : Looks (model prog w) hp (storeTaker? none) none := .now
  have cl : Looks (model prog w) hp (classData C) cd := looks_clsIn X cin
  rw [osa_eq, refuse_eq]
  refine wpAny_bind (wpAny_bind (I.type.at (wpAny_bind (mr.at ?_))))
  have pass : refuseLoop (.ref x) "__setattr__" cd.mro = pure () := by
    rw [hm, refuseLoop_ref, refuseLoop_ref]
    exact F.store_Exception.passes _
  rw [pass]
  refine wpAny_pure (wpAny_bind (I.type.at (wpAny_bind ((looks_findIn X no).at (wpAny_bind (none3.at ?_))))))
  show wpAny _ _ (storeInOwnDict (.ref x) (.ref C) (.str name tk) name v false) _ _ _
  obtain ⟨nm, bs, mro, ns, qn, hd, sn, sb, ab, col, del⟩ := cd
  dsimp only at hh
  subst hh
  unfold storeInOwnDict ownDictForStores
  repeat (first | with_reducible refine HandSPX.store_in_new ?_ ?_ | with_reducible refine wpAny_loadPart_at hx ?_ | with_reducible refine cl.at ?_ | wp_step)
  · refine ⟨_, #[], _, (Heap.get?_update_ne _ _ _ _ nx.symm).trans (Heap.get?_push_at rfl rfl), rfl, ?_, fun _ => rfl⟩
    intro e he
    simp at he
  · intro h' tk' ns' same
    have hx2 : (hp.push { cls := .type "dict", data := .dict #[] }).get? x = some { cls := .ref C, data := .fields fv } := Heap.get?_push_of_some _ hx
    refine hq h' tk' hp.objs.size (fun b o hb ho => ?_) (Nat.le_refl _) nx.symm ?_ ns'
    · have lt := Nat.ne_of_lt (Heap.lt_size ho)
      exact (same.2 b lt).trans ((Heap.get?_update_ne _ _ _ _ hb).trans (Heap.get?_push_of_some _ ho))
    · exact (same.2 x nx).trans (Heap.get?_update_self _ hx2 rfl)
end
/-- what the written part says of the class at C and of its __init__ at fI, its field aside -/
structure ClsTxt (K : Frag) (mg : Str → Option Value) (cn : Str) (C : Addr) : Prop where
  gC : mg cn = some (.ref C)
  kC : keepIn K (.ref C) = true
  exC : subIn K (.ref C) (.type "BaseException") = some true
  tyC : typeIn K (.ref C) = some (.type "type")
end OwnX
end PySem
namespace PySem
namespace OwnX
open PySem.W PySem.Calls PyProof.Rows PySem.HandSPX
section
def args_thing (p1 p2 : Pos) : Arguments := { posonlyargs := [], args := [{ arg := "self", annotation := none, pos := p1 }, { arg := "thing", annotation := none, pos := p2 }], vararg := none, kwonlyargs := [], kw_defaults := [], kwarg := none, defaults := [] }
def body_thing (q1 q2 q3 q4 : Pos) : List Stmt := [.Assign [.Attribute (.Name "self" q1) "thing" q2] (.Name "thing" q3) q4]
def scope_thing : Scope := { kind := .function, names := [(PySem.Str.ofString "self", .local), (PySem.Str.ofString "thing", .local)], isGenerator := false, isCoroutine := false, more := [] }
structure Txt_thing (K : Frag) (mg : Str → Option Value) (cn qi : Str) (C fI : Addr) : Prop extends ClsTxt K mg cn C where
  cls : ∃ nm q N bs bm sn sub ab col dd k0 k1 k2 k3 k5, K.lookup C = some (excClassObj nm q C N bs bm true sn sub ab col dd k0 k1 k2 k3 k5 "Exception.__new__") ∧ ∃ G, bm = .ref G :: ESX.exTail
  sa : findIn K (.ref C) "__setattr__" = some (some (.builtin "object.__setattr__"))
  ga : findIn K (.ref C) "__getattribute__" = some (some (.builtin "BaseException.__getattribute__"))
  gg : findIn K (.ref C) "__getattr__" = some none
  noN : findIn K (.ref C) "thing" = some none
  iC : findIn K (.ref C) "__init__" = some (some (.ref fI))
  tC : typeIn K (.ref fI) = some (.type "function")
  hdC : hasDictIn K C = true
  fn : ∃ (oc : Value) (od : Option Addr) (doc pm : Value) (an : Option Addr) (cdv ct : Value) (osl : Array (Option Value)) (p1 p2 q1 q2 q3 q4 : Pos),
    K.lookup fI = some ⟨oc, od, .func (fnOf "__init__" qi (args_thing p1 p2) (body_thing q1 q2 q3 q4) scope_thing .none .none doc pm an cdv ct), osl⟩ ∧ codeIn K cdv qi = true
structure Filled_thing (h h' : Heap) (x C dx t1 : Addr) (v : Value) : Prop where
  keep : ∀ b o, b ≠ x → h.get? b = some o → h'.get? b = some o
  obj : h'.get? x = some { cls := .ref C, dict := some dx, data := .fields #[.ref t1, .none, .none, .none, .bool false, .none] }
  dbig : h.objs.size ≤ dx
  dne : dx ≠ x
  ns : h'.Ns1 dx (fun y => if y = "thing" then some v else none)
structure Made_thing (h h' : Heap) (e C d : Addr) (v : Value) : Prop where
  keep : ∀ b o, h.get? b = some o → h'.get? b = some o
  new : h.objs.size ≤ e
  obj : ∃ oe vs, h'.get? e = some oe ∧ oe.cls = .ref C ∧ oe.dict = some d ∧ oe.data = .fields vs ∧ vs[1]? = some .none ∧ vs[2]? = some .none
  dbig : h.objs.size ≤ d
  dne : d ≠ e
  ns : h'.Ns1 d (fun y => if y = "thing" then some v else none)
variable {prog : Program} {w : World} {A : Around} {E : Value → Shared → Prop} {R : Result → Shared → Prop} {s : Shared} {K : Frag} {mg : Str → Option Value} {cn qi : Str} {C fI : Addr}
theorem fill_thing (T : Txt_thing K mg cn qi C fI) {x t0 : Addr} {v : Value} (X : K.In s.heap) (lim : s.heap.NoLimit) (hx : s.heap.get? x = some (excO C t0)) (room : A.depth < recursionLimit)
    (hq : ∀ h' tk dx, Filled_thing s.heap h' x C dx t0 v → R (.ok (.ret .none)) { s with heap := h', toks := tk }) :
    codeAny (model prog w) A (.call (.ref fI) ⟨[.ref x, v], []⟩) R s := by
  obtain ⟨oc, od, doc, pm, an, cdv, ct, osl, p1, p2, q1, q2, q3, q4, ho, hcd⟩ := T.fn
  obtain ⟨nm, q, N, bs, bm, sn, sub, ab, col, dd, k0, k1, k2, k3, k5, hC, G, hbm⟩ := T.cls
  have cin : clsIn K C = some { name := nm, bases := bs, mro := .ref C :: bm, ns := N, qualname := q, hasDict := true, slotNames := sn, subclasses := sub, abstract := ab, collection := col, hasDel := false } := by
    unfold clsIn
    rw [hC] <;> rfl
  refine Att.call_fn (binds := [("self", .ref x), ("thing", v)]) X lim ho hcd room (BindsTo.of_eq (by first | rfl | with_unfolding_all rfl)) (by first | rfl | decide | with_unfolding_all rfl) (fun z IC => ?_) rfl rfl rfl
  obtain ⟨g, tk, rfl⟩ := IC.toInCall.same
  have keep : ∀ b o, s.heap.get? b = some o → g.get? b = some o := IC.toInCall.keep
  have ns := IC.toInCall.ns
  have Xg : K.In g := X.keeps keep
  have hx2 := keep _ _ hx
  show wpAny _ _ (execs _ _) _ _ _
  refine wpAny_execs_cons (plainObj_wpAny_Assign_Attribute ?_)
  refine loc_ld (v := v) ns (by first | rfl | with_unfolding_all rfl | kernel_rfl) (loc_ld (v := .ref x) ns (by first | rfl | with_unfolding_all rfl | kernel_rfl) ?_)
  refine set_plain Xg (ox := excO C t0) (od := none) ⟨hx2, rfl, rfl, trivial⟩ T.sa ?_
  refine osa_two (G := G) Xg hx2 cin (show Value.ref C :: bm = _ by rw [hbm]) rfl T.noN (fun g2 tk2 dx keep2 dn dne hx3 ns3 => ?_)
  show wpAny _ _ (execs _ _) _ _ _
  have lt : s.heap.objs.size < g.objs.size := ns.lt
  exact wpAny_execs_nil (hq g2 tk2 dx ⟨fun b o hb e => keep2 b o hb (keep b o e), hx3, Nat.le_of_lt (Nat.lt_of_lt_of_le lt dn), dne, ns3⟩)
theorem made_thing (T : Txt_thing K mg cn qi C fI) {v : Value} (X : K.In s.heap) (lim : s.heap.NoLimit) (room : A.depth + 1 < recursionLimit)
    (hq : ∀ h' tk e d, Made_thing s.heap h' e C d v → R (.ok (.ret (.ref e))) { s with heap := h', toks := tk }) :
    codeAny (model prog w) A (.call (.ref C) ⟨[v], []⟩) R s := by
  obtain ⟨nm, q, N, bs, bm, sn, sub, ab, col, dd, k0, k1, k2, k3, k5, hC, G, hbm⟩ := T.cls
  obtain ⟨hp, gs, dr, tk, os⟩ := s
  have keep : ∀ b o, hp.get? b = some o → ((hp.push (kdv_tup [v])).push (excO C hp.objs.size)).get? b = some o := fun b o e => Heap.get?_push_of_some _ (Heap.get?_push_of_some _ e)
  have at1 : ((hp.push (kdv_tup [v])).push (excO C hp.objs.size)).get? (hp.objs.size + 1) = some (excO C hp.objs.size) := by heap_get
  refine call_own F.excBase_Exception (fun X => by rw [hbm]; exact ex_has X) (X _ _ hC) (looks_findIn X T.iC) (fun self => bind_fn X self T.tC) (one_fits v) ?_
  refine fill_thing (s := ⟨(hp.push (kdv_tup [v])).push (excO C hp.objs.size), gs, dr, tk, os⟩) T (X.keeps keep) (lim.keeps keep) at1 (show A.depth + 1 < recursionLimit from room) fun h' tk' dx ⟨k', hx, dn, dne, hns⟩ => ?_
  have old : ∀ b o, hp.get? b = some o → h'.get? b = some o := fun b o e => k' b o (Nat.ne_of_lt (Nat.lt_succ_of_lt (Heap.lt_size e))) (keep b o e)
  have big : hp.objs.size + 1 + 1 ≤ dx := by
    first
      | exact dn
      | (simpa only [Heap.size_push] using dn)
      | (have y := dn; rw [Heap.size_push, Heap.size_push] at y; exact y)
  exact ⟨rfl, hq h' tk' (hp.objs.size + 1) dx ⟨old, Nat.le_succ _, ⟨_, _, hx, rfl, rfl, rfl, rfl, rfl⟩, Nat.le_trans (Nat.le_trans (Nat.le_succ _) (Nat.le_succ _)) big, dne, hns⟩⟩
end
end OwnX
end PySem
namespace MP
open PySem PySem.Spec PyProof.Rows L2
theorem rel_thing {v : V} {v' : Value} (r : RelV v v') (f : Str) : RelO (List.lookup f [(("thing" : Str), v)]) (if f = "thing" then some v' else none) := by
  by_cases hw : f = "thing"
  · subst hw
    rw [if_pos rfl]
    have q : List.lookup ("thing" : Str) [(("thing" : Str), v)] = some v := by simp [List.lookup]
    rw [q]
    exact r
  · rw [if_neg hw]
    have q1 : (f == ("thing" : Str)) = false := by simpa using hw
    have q2 : List.lookup f [(("thing" : Str), v)] = none := by simp [List.lookup, q1]
    rw [q2]
    trivial
section
variable {X : Cx} {cn qi : Str} {C fI : Addr}
def tMk_thing (C : Addr) (ta : TA) : L2.St → Hp → XK → Prop := fun σ H Q => ta σ H fun vs H1 => ∃ v, vs = [v] ∧ ∀ d, H1 d = none → Q (.ref C) (some d) (upd H1 d (.xd [(("thing" : Str), v)]))
theorem pmk_thing {a : Expr} {ta : TA} {p pos : Pos} {k : Nat} (T : PySem.OwnX.Txt_thing X.K X.mg cn qi C fI) (hr : Room k X.A) (ha : PA X [a] ta) (hg : Gl X cn) (hd : (cn == ("__debug__" : Str)) = false)
    (he : starEach (a :: []) X.env = (false, eval a X.env) :: starEach [] X.env) (hpl : (backTo pos (starEach [] X.env)).any (·.1) = false := by rfl) :
    PMk X (.Call (.Name cn p) [a] [] pos) (tMk_thing C ta) := by
  intro pins s σ H Q I q0
  refine wpAny_Call_Name_kw (ld_glob I hg T.gC ?_ hd)
  refine PySem.W.callWith_K (h₀ := X.base) I.ok.mod.kin T.kC (thn (ha.run pos pins s σ H _ I q0) fun us s1 hh => ?_) he hpl
  obtain ⟨vs, H1, I1, r1, v, rfl, q1⟩ := hh
  refine ⟨I1.kIn, ?_⟩
  cases r1 with
  | @cons _ v' _ us' rv rn =>
    cases rn
    show wpAny _ _ (call (.ref C) [v']) _ _ _
    have lim := I1.nolimit
    obtain ⟨hp, gs, dr, tk, os⟩ := s1
    refine wpAny_call (PySem.OwnX.made_thing T I1.kIn lim (by have := hr.dp; omega) fun h' tk' e d M => ?_)
    show MkP X pins σ Q (.ref e) ⟨h', gs, dr, tk', os⟩
    obtain ⟨oe, fv, hoe, hc, hdd, hdat, f1, f2⟩ := M.obj
    have hns := M.ns
    obtain ⟨G', g1, g2⟩ := restrict h' fun b => decide (b ≠ e)
    have gk : ∀ b, b ≠ e → G'.get? b = h'.get? b := fun b hb => g1 b (decide_eq_true hb)
    have ge : G'.get? e = none := g2 e (by simp)
    have old : ∀ b o, hp.get? b = some o → G'.get? b = some o := fun b o q => by
      have ne := Nat.ne_of_lt (Nat.lt_of_lt_of_le (Heap.lt_size q) M.new)
      exact (gk b ne).trans (M.keep b o q)
    have ob : ObjOk X.prog X.w (upd H1 d (.xd [(("thing" : Str), v)])) G' d (.xd [(("thing" : Str), v)]) := ⟨_, hns.at (fun o q => (gk d M.dne).trans q), fun f => rel_thing rv f⟩
    have J : Inv X pins σ (upd H1 d (.xd [(("thing" : Str), v)])) ⟨G', gs, dr, tk', os⟩ := I1.laid (t' := tk') old M.dbig ob
    refine ⟨e, oe, fv, ⟨G', gs, dr, tk', os⟩, _, .ref C, some d, rfl, J, fun b o q => ?_, ge, hoe, ⟨hc, hdd⟩, hdat, f1, ?_, rfl, I1.bare, raises_own T.exC T.tyC, q1 d (I1.hok.fresh M.dbig)⟩
    · by_cases hb : b = e
      · have z : G'.get? b = some o := q
        rw [hb, ge] at z
        cases z
      · exact (gk b hb).symm.trans q
    · rw [upd_ne (Ne.symm M.dne)]
      exact I1.hok.fresh M.new
/-- the caught one's field -/
def tFld_thing (C a : Addr) (cls : Value) (d : Option Addr) (te : TE) : TE := fun σ H Q => te σ H fun x H1 => x = .ref a ∧ cls = .ref C ∧ ∃ (dd : Addr) (v : V), d = some dd ∧ H1 dd = some (.xd [(("thing" : Str), v)]) ∧ Q v H1
theorem pe_fld_thing {a : Addr} {oe : Obj} {cls : Value} {d : Option Addr} {pn : List (Addr × Obj)} {e : Expr} {te : TE} {pos : Pos} (T : PySem.OwnX.Txt_thing X.K X.mg cn qi C fI) (hz : Zc cls d oe) (hf : ∃ vs, oe.data = .fields vs) (he : PE (X.suite a ((a, oe) :: pn)) e te)
    (hb : attributeBase e "thing" X.env (eval e X.env) = eval e X.env) : PE (X.suite a ((a, oe) :: pn)) (.Attribute e "thing" pos) (tFld_thing C a cls d te) := by
  constructor
  intro pins s σ H Q I q0
  refine attr_of hb (thn (he.run pins s σ H _ I q0) fun u s1 hh => ?_)
  obtain ⟨x, H1, I1, rx, rfl, rfl, dd, v, rfl, ea, q⟩ := hh
  obtain rfl : u = Value.ref a := rx
  obtain ⟨at1, _⟩ := I1.pin (a, oe) (List.mem_append_left _ List.mem_cons_self)
  obtain ⟨vs, hd⟩ := hf
  have hx : ObjOk X.prog X.w H1 s1.heap dd (.xd [(("thing" : Str), v)]) := I1.hok dd _ ea
  obtain ⟨mA, hns, hr⟩ := hx
  obtain ⟨od, ho, hl⟩ := lookIn_ns hns
  have l : List.lookup ("thing" : Str) [(("thing" : Str), v)] = some v := by simp [List.lookup]
  obtain ⟨u, hu, ru⟩ := RelO.some_of (v := v) (o := mA "thing") (by rw [← l]; exact hr "thing")
  have J : PySem.W.InstAt s1.heap a oe C (some od) := ⟨at1, hz.1, by unfold PySem.W.notCls; rw [hd] <;> rfl, by rw [hz.2]; exact ho⟩
  exact HandSPX.exc_get I1.kIn J T.ga T.gg T.exC (PySem.W.findObj_own T.hdC T.noN rfl (by rw [hl, hu])) (handed_of ru) ⟨v, H1, I1.tok _, ru, q⟩
end
end MP
namespace PySem
namespace OwnX
open PySem.W PySem.Calls PyProof.Rows PySem.HandSPX
section
def args_most (p1 p2 : Pos) : Arguments := { posonlyargs := [], args := [{ arg := "self", annotation := none, pos := p1 }, { arg := "most", annotation := none, pos := p2 }], vararg := none, kwonlyargs := [], kw_defaults := [], kwarg := none, defaults := [] }
def body_most (q1 q2 q3 q4 : Pos) : List Stmt := [.Assign [.Attribute (.Name "self" q1) "most" q2] (.Name "most" q3) q4]
def scope_most : Scope := { kind := .function, names := [(PySem.Str.ofString "self", .local), (PySem.Str.ofString "most", .local)], isGenerator := false, isCoroutine := false, more := [] }
structure Txt_most (K : Frag) (mg : Str → Option Value) (cn qi : Str) (C fI : Addr) : Prop extends ClsTxt K mg cn C where
  cls : ∃ nm q N bs bm sn sub ab col dd k0 k1 k2 k3 k5, K.lookup C = some (excClassObj nm q C N bs bm true sn sub ab col dd k0 k1 k2 k3 k5 "Exception.__new__") ∧ ∃ G, bm = .ref G :: ESX.exTail
  sa : findIn K (.ref C) "__setattr__" = some (some (.builtin "object.__setattr__"))
  ga : findIn K (.ref C) "__getattribute__" = some (some (.builtin "BaseException.__getattribute__"))
  gg : findIn K (.ref C) "__getattr__" = some none
  noN : findIn K (.ref C) "most" = some none
  iC : findIn K (.ref C) "__init__" = some (some (.ref fI))
  tC : typeIn K (.ref fI) = some (.type "function")
  hdC : hasDictIn K C = true
  fn : ∃ (oc : Value) (od : Option Addr) (doc pm : Value) (an : Option Addr) (cdv ct : Value) (osl : Array (Option Value)) (p1 p2 q1 q2 q3 q4 : Pos),
    K.lookup fI = some ⟨oc, od, .func (fnOf "__init__" qi (args_most p1 p2) (body_most q1 q2 q3 q4) scope_most .none .none doc pm an cdv ct), osl⟩ ∧ codeIn K cdv qi = true
structure Filled_most (h h' : Heap) (x C dx t1 : Addr) (v : Value) : Prop where
  keep : ∀ b o, b ≠ x → h.get? b = some o → h'.get? b = some o
  obj : h'.get? x = some { cls := .ref C, dict := some dx, data := .fields #[.ref t1, .none, .none, .none, .bool false, .none] }
  dbig : h.objs.size ≤ dx
  dne : dx ≠ x
  ns : h'.Ns1 dx (fun y => if y = "most" then some v else none)
structure Made_most (h h' : Heap) (e C d : Addr) (v : Value) : Prop where
  keep : ∀ b o, h.get? b = some o → h'.get? b = some o
  new : h.objs.size ≤ e
  obj : ∃ oe vs, h'.get? e = some oe ∧ oe.cls = .ref C ∧ oe.dict = some d ∧ oe.data = .fields vs ∧ vs[1]? = some .none ∧ vs[2]? = some .none
  dbig : h.objs.size ≤ d
  dne : d ≠ e
  ns : h'.Ns1 d (fun y => if y = "most" then some v else none)
variable {prog : Program} {w : World} {A : Around} {E : Value → Shared → Prop} {R : Result → Shared → Prop} {s : Shared} {K : Frag} {mg : Str → Option Value} {cn qi : Str} {C fI : Addr}
theorem fill_most (T : Txt_most K mg cn qi C fI) {x t0 : Addr} {v : Value} (X : K.In s.heap) (lim : s.heap.NoLimit) (hx : s.heap.get? x = some (excO C t0)) (room : A.depth < recursionLimit)
    (hq : ∀ h' tk dx, Filled_most s.heap h' x C dx t0 v → R (.ok (.ret .none)) { s with heap := h', toks := tk }) :
    codeAny (model prog w) A (.call (.ref fI) ⟨[.ref x, v], []⟩) R s := by
  obtain ⟨oc, od, doc, pm, an, cdv, ct, osl, p1, p2, q1, q2, q3, q4, ho, hcd⟩ := T.fn
  obtain ⟨nm, q, N, bs, bm, sn, sub, ab, col, dd, k0, k1, k2, k3, k5, hC, G, hbm⟩ := T.cls
  have cin : clsIn K C = some { name := nm, bases := bs, mro := .ref C :: bm, ns := N, qualname := q, hasDict := true, slotNames := sn, subclasses := sub, abstract := ab, collection := col, hasDel := false } := by
    unfold clsIn
    rw [hC] <;> rfl
  refine Att.call_fn (binds := [("self", .ref x), ("most", v)]) X lim ho hcd room (BindsTo.of_eq (by first | rfl | with_unfolding_all rfl)) (by first | rfl | decide | with_unfolding_all rfl) (fun z IC => ?_) rfl rfl rfl
  obtain ⟨g, tk, rfl⟩ := IC.toInCall.same
  have keep : ∀ b o, s.heap.get? b = some o → g.get? b = some o := IC.toInCall.keep
  have ns := IC.toInCall.ns
  have Xg : K.In g := X.keeps keep
  have hx2 := keep _ _ hx
  show wpAny _ _ (execs _ _) _ _ _
  refine wpAny_execs_cons (plainObj_wpAny_Assign_Attribute ?_)
  refine loc_ld (v := v) ns (by first | rfl | with_unfolding_all rfl | kernel_rfl) (loc_ld (v := .ref x) ns (by first | rfl | with_unfolding_all rfl | kernel_rfl) ?_)
  refine set_plain Xg (ox := excO C t0) (od := none) ⟨hx2, rfl, rfl, trivial⟩ T.sa ?_
  refine osa_two (G := G) Xg hx2 cin (show Value.ref C :: bm = _ by rw [hbm]) rfl T.noN (fun g2 tk2 dx keep2 dn dne hx3 ns3 => ?_)
  show wpAny _ _ (execs _ _) _ _ _
  have lt : s.heap.objs.size < g.objs.size := ns.lt
  exact wpAny_execs_nil (hq g2 tk2 dx ⟨fun b o hb e => keep2 b o hb (keep b o e), hx3, Nat.le_of_lt (Nat.lt_of_lt_of_le lt dn), dne, ns3⟩)
theorem made_most (T : Txt_most K mg cn qi C fI) {v : Value} (X : K.In s.heap) (lim : s.heap.NoLimit) (room : A.depth + 1 < recursionLimit)
    (hq : ∀ h' tk e d, Made_most s.heap h' e C d v → R (.ok (.ret (.ref e))) { s with heap := h', toks := tk }) :
    codeAny (model prog w) A (.call (.ref C) ⟨[v], []⟩) R s := by
  obtain ⟨nm, q, N, bs, bm, sn, sub, ab, col, dd, k0, k1, k2, k3, k5, hC, G, hbm⟩ := T.cls
  obtain ⟨hp, gs, dr, tk, os⟩ := s
  have keep : ∀ b o, hp.get? b = some o → ((hp.push (kdv_tup [v])).push (excO C hp.objs.size)).get? b = some o := fun b o e => Heap.get?_push_of_some _ (Heap.get?_push_of_some _ e)
  have at1 : ((hp.push (kdv_tup [v])).push (excO C hp.objs.size)).get? (hp.objs.size + 1) = some (excO C hp.objs.size) := by heap_get
  refine call_own F.excBase_Exception (fun X => by rw [hbm]; exact ex_has X) (X _ _ hC) (looks_findIn X T.iC) (fun self => bind_fn X self T.tC) (one_fits v) ?_
  refine fill_most (s := ⟨(hp.push (kdv_tup [v])).push (excO C hp.objs.size), gs, dr, tk, os⟩) T (X.keeps keep) (lim.keeps keep) at1 (show A.depth + 1 < recursionLimit from room) fun h' tk' dx ⟨k', hx, dn, dne, hns⟩ => ?_
  have old : ∀ b o, hp.get? b = some o → h'.get? b = some o := fun b o e => k' b o (Nat.ne_of_lt (Nat.lt_succ_of_lt (Heap.lt_size e))) (keep b o e)
  have big : hp.objs.size + 1 + 1 ≤ dx := by
    first
      | exact dn
      | (simpa only [Heap.size_push] using dn)
      | (have y := dn; rw [Heap.size_push, Heap.size_push] at y; exact y)
  exact ⟨rfl, hq h' tk' (hp.objs.size + 1) dx ⟨old, Nat.le_succ _, ⟨_, _, hx, rfl, rfl, rfl, rfl, rfl⟩, Nat.le_trans (Nat.le_trans (Nat.le_succ _) (Nat.le_succ _)) big, dne, hns⟩⟩
end
end OwnX
end PySem
namespace MP
open PySem PySem.Spec PyProof.Rows L2
theorem rel_most {v : V} {v' : Value} (r : RelV v v') (f : Str) : RelO (List.lookup f [(("most" : Str), v)]) (if f = "most" then some v' else none) := by
  by_cases hw : f = "most"
  · subst hw
    rw [if_pos rfl]
    have q : List.lookup ("most" : Str) [(("most" : Str), v)] = some v := by simp [List.lookup]
    rw [q]
    exact r
  · rw [if_neg hw]
    have q1 : (f == ("most" : Str)) = false := by simpa using hw
    have q2 : List.lookup f [(("most" : Str), v)] = none := by simp [List.lookup, q1]
    rw [q2]
    trivial
section
variable {X : Cx} {cn qi : Str} {C fI : Addr}
def tMk_most (C : Addr) (ta : TA) : L2.St → Hp → XK → Prop := fun σ H Q => ta σ H fun vs H1 => ∃ v, vs = [v] ∧ ∀ d, H1 d = none → Q (.ref C) (some d) (upd H1 d (.xd [(("most" : Str), v)]))
theorem pmk_most {a : Expr} {ta : TA} {p pos : Pos} {k : Nat} (T : PySem.OwnX.Txt_most X.K X.mg cn qi C fI) (hr : Room k X.A) (ha : PA X [a] ta) (hg : Gl X cn) (hd : (cn == ("__debug__" : Str)) = false)
    (he : starEach (a :: []) X.env = (false, eval a X.env) :: starEach [] X.env) (hpl : (backTo pos (starEach [] X.env)).any (·.1) = false := by rfl) :
    PMk X (.Call (.Name cn p) [a] [] pos) (tMk_most C ta) := by
  intro pins s σ H Q I q0
  refine wpAny_Call_Name_kw (ld_glob I hg T.gC ?_ hd)
  refine PySem.W.callWith_K (h₀ := X.base) I.ok.mod.kin T.kC (thn (ha.run pos pins s σ H _ I q0) fun us s1 hh => ?_) he hpl
  obtain ⟨vs, H1, I1, r1, v, rfl, q1⟩ := hh
  refine ⟨I1.kIn, ?_⟩
  cases r1 with
  | @cons _ v' _ us' rv rn =>
    cases rn
    show wpAny _ _ (call (.ref C) [v']) _ _ _
    have lim := I1.nolimit
    obtain ⟨hp, gs, dr, tk, os⟩ := s1
    refine wpAny_call (PySem.OwnX.made_most T I1.kIn lim (by have := hr.dp; omega) fun h' tk' e d M => ?_)
    show MkP X pins σ Q (.ref e) ⟨h', gs, dr, tk', os⟩
    obtain ⟨oe, fv, hoe, hc, hdd, hdat, f1, f2⟩ := M.obj
    have hns := M.ns
    obtain ⟨G', g1, g2⟩ := restrict h' fun b => decide (b ≠ e)
    have gk : ∀ b, b ≠ e → G'.get? b = h'.get? b := fun b hb => g1 b (decide_eq_true hb)
    have ge : G'.get? e = none := g2 e (by simp)
    have old : ∀ b o, hp.get? b = some o → G'.get? b = some o := fun b o q => by
      have ne := Nat.ne_of_lt (Nat.lt_of_lt_of_le (Heap.lt_size q) M.new)
      exact (gk b ne).trans (M.keep b o q)
    have ob : ObjOk X.prog X.w (upd H1 d (.xd [(("most" : Str), v)])) G' d (.xd [(("most" : Str), v)]) := ⟨_, hns.at (fun o q => (gk d M.dne).trans q), fun f => rel_most rv f⟩
    have J : Inv X pins σ (upd H1 d (.xd [(("most" : Str), v)])) ⟨G', gs, dr, tk', os⟩ := I1.laid (t' := tk') old M.dbig ob
    refine ⟨e, oe, fv, ⟨G', gs, dr, tk', os⟩, _, .ref C, some d, rfl, J, fun b o q => ?_, ge, hoe, ⟨hc, hdd⟩, hdat, f1, ?_, rfl, I1.bare, raises_own T.exC T.tyC, q1 d (I1.hok.fresh M.dbig)⟩
    · by_cases hb : b = e
      · have z : G'.get? b = some o := q
        rw [hb, ge] at z
        cases z
      · exact (gk b hb).symm.trans q
    · rw [upd_ne (Ne.symm M.dne)]
      exact I1.hok.fresh M.new
/-- the caught one's field -/
def tFld_most (C a : Addr) (cls : Value) (d : Option Addr) (te : TE) : TE := fun σ H Q => te σ H fun x H1 => x = .ref a ∧ cls = .ref C ∧ ∃ (dd : Addr) (v : V), d = some dd ∧ H1 dd = some (.xd [(("most" : Str), v)]) ∧ Q v H1
theorem pe_fld_most {a : Addr} {oe : Obj} {cls : Value} {d : Option Addr} {pn : List (Addr × Obj)} {e : Expr} {te : TE} {pos : Pos} (T : PySem.OwnX.Txt_most X.K X.mg cn qi C fI) (hz : Zc cls d oe) (hf : ∃ vs, oe.data = .fields vs) (he : PE (X.suite a ((a, oe) :: pn)) e te)
    (hb : attributeBase e "most" X.env (eval e X.env) = eval e X.env) : PE (X.suite a ((a, oe) :: pn)) (.Attribute e "most" pos) (tFld_most C a cls d te) := by
  constructor
  intro pins s σ H Q I q0
  refine attr_of hb (thn (he.run pins s σ H _ I q0) fun u s1 hh => ?_)
  obtain ⟨x, H1, I1, rx, rfl, rfl, dd, v, rfl, ea, q⟩ := hh
  obtain rfl : u = Value.ref a := rx
  obtain ⟨at1, _⟩ := I1.pin (a, oe) (List.mem_append_left _ List.mem_cons_self)
  obtain ⟨vs, hd⟩ := hf
  have hx : ObjOk X.prog X.w H1 s1.heap dd (.xd [(("most" : Str), v)]) := I1.hok dd _ ea
  obtain ⟨mA, hns, hr⟩ := hx
  obtain ⟨od, ho, hl⟩ := lookIn_ns hns
  have l : List.lookup ("most" : Str) [(("most" : Str), v)] = some v := by simp [List.lookup]
  obtain ⟨u, hu, ru⟩ := RelO.some_of (v := v) (o := mA "most") (by rw [← l]; exact hr "most")
  have J : PySem.W.InstAt s1.heap a oe C (some od) := ⟨at1, hz.1, by unfold PySem.W.notCls; rw [hd] <;> rfl, by rw [hz.2]; exact ho⟩
  exact HandSPX.exc_get I1.kIn J T.ga T.gg T.exC (PySem.W.findObj_own T.hdC T.noN rfl (by rw [hl, hu])) (handed_of ru) ⟨v, H1, I1.tok _, ru, q⟩
end
end MP
namespace PySem
namespace OwnX
open PySem.W PySem.Calls PyProof.Rows PySem.HandSPX
section
def args_at (p1 p2 : Pos) : Arguments := { posonlyargs := [], args := [{ arg := "self", annotation := none, pos := p1 }, { arg := "at", annotation := none, pos := p2 }], vararg := none, kwonlyargs := [], kw_defaults := [], kwarg := none, defaults := [] }
def body_at (q1 q2 q3 q4 : Pos) : List Stmt := [.Assign [.Attribute (.Name "self" q1) "at" q2] (.Name "at" q3) q4]
def scope_at : Scope := { kind := .function, names := [(PySem.Str.ofString "self", .local), (PySem.Str.ofString "at", .local)], isGenerator := false, isCoroutine := false, more := [] }
structure Txt_at (K : Frag) (mg : Str → Option Value) (cn qi : Str) (C fI : Addr) : Prop extends ClsTxt K mg cn C where
  cls : ∃ nm q N bs bm sn sub ab col dd k0 k1 k2 k3 k5, K.lookup C = some (excClassObj nm q C N bs bm true sn sub ab col dd k0 k1 k2 k3 k5 "Exception.__new__") ∧ ∃ G, bm = .ref G :: ESX.exTail
  sa : findIn K (.ref C) "__setattr__" = some (some (.builtin "object.__setattr__"))
  ga : findIn K (.ref C) "__getattribute__" = some (some (.builtin "BaseException.__getattribute__"))
  gg : findIn K (.ref C) "__getattr__" = some none
  noN : findIn K (.ref C) "at" = some none
  iC : findIn K (.ref C) "__init__" = some (some (.ref fI))
  tC : typeIn K (.ref fI) = some (.type "function")
  hdC : hasDictIn K C = true
  fn : ∃ (oc : Value) (od : Option Addr) (doc pm : Value) (an : Option Addr) (cdv ct : Value) (osl : Array (Option Value)) (p1 p2 q1 q2 q3 q4 : Pos),
    K.lookup fI = some ⟨oc, od, .func (fnOf "__init__" qi (args_at p1 p2) (body_at q1 q2 q3 q4) scope_at .none .none doc pm an cdv ct), osl⟩ ∧ codeIn K cdv qi = true
structure Filled_at (h h' : Heap) (x C dx t1 : Addr) (v : Value) : Prop where
  keep : ∀ b o, b ≠ x → h.get? b = some o → h'.get? b = some o
  obj : h'.get? x = some { cls := .ref C, dict := some dx, data := .fields #[.ref t1, .none, .none, .none, .bool false, .none] }
  dbig : h.objs.size ≤ dx
  dne : dx ≠ x
  ns : h'.Ns1 dx (fun y => if y = "at" then some v else none)
structure Made_at (h h' : Heap) (e C d : Addr) (v : Value) : Prop where
  keep : ∀ b o, h.get? b = some o → h'.get? b = some o
  new : h.objs.size ≤ e
  obj : ∃ oe vs, h'.get? e = some oe ∧ oe.cls = .ref C ∧ oe.dict = some d ∧ oe.data = .fields vs ∧ vs[1]? = some .none ∧ vs[2]? = some .none
  dbig : h.objs.size ≤ d
  dne : d ≠ e
  ns : h'.Ns1 d (fun y => if y = "at" then some v else none)
variable {prog : Program} {w : World} {A : Around} {E : Value → Shared → Prop} {R : Result → Shared → Prop} {s : Shared} {K : Frag} {mg : Str → Option Value} {cn qi : Str} {C fI : Addr}
theorem fill_at (T : Txt_at K mg cn qi C fI) {x t0 : Addr} {v : Value} (X : K.In s.heap) (lim : s.heap.NoLimit) (hx : s.heap.get? x = some (excO C t0)) (room : A.depth < recursionLimit)
    (hq : ∀ h' tk dx, Filled_at s.heap h' x C dx t0 v → R (.ok (.ret .none)) { s with heap := h', toks := tk }) :
    codeAny (model prog w) A (.call (.ref fI) ⟨[.ref x, v], []⟩) R s := by
  obtain ⟨oc, od, doc, pm, an, cdv, ct, osl, p1, p2, q1, q2, q3, q4, ho, hcd⟩ := T.fn
  obtain ⟨nm, q, N, bs, bm, sn, sub, ab, col, dd, k0, k1, k2, k3, k5, hC, G, hbm⟩ := T.cls
  have cin : clsIn K C = some { name := nm, bases := bs, mro := .ref C :: bm, ns := N, qualname := q, hasDict := true, slotNames := sn, subclasses := sub, abstract := ab, collection := col, hasDel := false } := by
    unfold clsIn
    rw [hC] <;> rfl
  refine Att.call_fn (binds := [("self", .ref x), ("at", v)]) X lim ho hcd room (BindsTo.of_eq (by first | rfl | with_unfolding_all rfl)) (by first | rfl | decide | with_unfolding_all rfl) (fun z IC => ?_) rfl rfl rfl
  obtain ⟨g, tk, rfl⟩ := IC.toInCall.same
  have keep : ∀ b o, s.heap.get? b = some o → g.get? b = some o := IC.toInCall.keep
  have ns := IC.toInCall.ns
  have Xg : K.In g := X.keeps keep
  have hx2 := keep _ _ hx
  show wpAny _ _ (execs _ _) _ _ _
  refine wpAny_execs_cons (plainObj_wpAny_Assign_Attribute ?_)
  refine loc_ld (v := v) ns (by first | rfl | with_unfolding_all rfl | kernel_rfl) (loc_ld (v := .ref x) ns (by first | rfl | with_unfolding_all rfl | kernel_rfl) ?_)
  refine set_plain Xg (ox := excO C t0) (od := none) ⟨hx2, rfl, rfl, trivial⟩ T.sa ?_
  refine osa_two (G := G) Xg hx2 cin (show Value.ref C :: bm = _ by rw [hbm]) rfl T.noN (fun g2 tk2 dx keep2 dn dne hx3 ns3 => ?_)
  show wpAny _ _ (execs _ _) _ _ _
  have lt : s.heap.objs.size < g.objs.size := ns.lt
  exact wpAny_execs_nil (hq g2 tk2 dx ⟨fun b o hb e => keep2 b o hb (keep b o e), hx3, Nat.le_of_lt (Nat.lt_of_lt_of_le lt dn), dne, ns3⟩)
theorem made_at (T : Txt_at K mg cn qi C fI) {v : Value} (X : K.In s.heap) (lim : s.heap.NoLimit) (room : A.depth + 1 < recursionLimit)
    (hq : ∀ h' tk e d, Made_at s.heap h' e C d v → R (.ok (.ret (.ref e))) { s with heap := h', toks := tk }) :
    codeAny (model prog w) A (.call (.ref C) ⟨[v], []⟩) R s := by
  obtain ⟨nm, q, N, bs, bm, sn, sub, ab, col, dd, k0, k1, k2, k3, k5, hC, G, hbm⟩ := T.cls
  obtain ⟨hp, gs, dr, tk, os⟩ := s
  have keep : ∀ b o, hp.get? b = some o → ((hp.push (kdv_tup [v])).push (excO C hp.objs.size)).get? b = some o := fun b o e => Heap.get?_push_of_some _ (Heap.get?_push_of_some _ e)
  have at1 : ((hp.push (kdv_tup [v])).push (excO C hp.objs.size)).get? (hp.objs.size + 1) = some (excO C hp.objs.size) := by heap_get
  refine call_own F.excBase_Exception (fun X => by rw [hbm]; exact ex_has X) (X _ _ hC) (looks_findIn X T.iC) (fun self => bind_fn X self T.tC) (one_fits v) ?_
  refine fill_at (s := ⟨(hp.push (kdv_tup [v])).push (excO C hp.objs.size), gs, dr, tk, os⟩) T (X.keeps keep) (lim.keeps keep) at1 (show A.depth + 1 < recursionLimit from room) fun h' tk' dx ⟨k', hx, dn, dne, hns⟩ => ?_
  have old : ∀ b o, hp.get? b = some o → h'.get? b = some o := fun b o e => k' b o (Nat.ne_of_lt (Nat.lt_succ_of_lt (Heap.lt_size e))) (keep b o e)
  have big : hp.objs.size + 1 + 1 ≤ dx := by
    first
      | exact dn
      | (simpa only [Heap.size_push] using dn)
      | (have y := dn; rw [Heap.size_push, Heap.size_push] at y; exact y)
  exact ⟨rfl, hq h' tk' (hp.objs.size + 1) dx ⟨old, Nat.le_succ _, ⟨_, _, hx, rfl, rfl, rfl, rfl, rfl⟩, Nat.le_trans (Nat.le_trans (Nat.le_succ _) (Nat.le_succ _)) big, dne, hns⟩⟩
end
end OwnX
end PySem
namespace MP
open PySem PySem.Spec PyProof.Rows L2
theorem rel_at {v : V} {v' : Value} (r : RelV v v') (f : Str) : RelO (List.lookup f [(("at" : Str), v)]) (if f = "at" then some v' else none) := by
  by_cases hw : f = "at"
  · subst hw
    rw [if_pos rfl]
    have q : List.lookup ("at" : Str) [(("at" : Str), v)] = some v := by simp [List.lookup]
    rw [q]
    exact r
  · rw [if_neg hw]
    have q1 : (f == ("at" : Str)) = false := by simpa using hw
    have q2 : List.lookup f [(("at" : Str), v)] = none := by simp [List.lookup, q1]
    rw [q2]
    trivial
section
variable {X : Cx} {cn qi : Str} {C fI : Addr}
def tMk_at (C : Addr) (ta : TA) : L2.St → Hp → XK → Prop := fun σ H Q => ta σ H fun vs H1 => ∃ v, vs = [v] ∧ ∀ d, H1 d = none → Q (.ref C) (some d) (upd H1 d (.xd [(("at" : Str), v)]))
theorem pmk_at {a : Expr} {ta : TA} {p pos : Pos} {k : Nat} (T : PySem.OwnX.Txt_at X.K X.mg cn qi C fI) (hr : Room k X.A) (ha : PA X [a] ta) (hg : Gl X cn) (hd : (cn == ("__debug__" : Str)) = false)
    (he : starEach (a :: []) X.env = (false, eval a X.env) :: starEach [] X.env) (hpl : (backTo pos (starEach [] X.env)).any (·.1) = false := by rfl) :
    PMk X (.Call (.Name cn p) [a] [] pos) (tMk_at C ta) := by
  intro pins s σ H Q I q0
  refine wpAny_Call_Name_kw (ld_glob I hg T.gC ?_ hd)
  refine PySem.W.callWith_K (h₀ := X.base) I.ok.mod.kin T.kC (thn (ha.run pos pins s σ H _ I q0) fun us s1 hh => ?_) he hpl
  obtain ⟨vs, H1, I1, r1, v, rfl, q1⟩ := hh
  refine ⟨I1.kIn, ?_⟩
  cases r1 with
  | @cons _ v' _ us' rv rn =>
    cases rn
    show wpAny _ _ (call (.ref C) [v']) _ _ _
    have lim := I1.nolimit
    obtain ⟨hp, gs, dr, tk, os⟩ := s1
    refine wpAny_call (PySem.OwnX.made_at T I1.kIn lim (by have := hr.dp; omega) fun h' tk' e d M => ?_)
    show MkP X pins σ Q (.ref e) ⟨h', gs, dr, tk', os⟩
    obtain ⟨oe, fv, hoe, hc, hdd, hdat, f1, f2⟩ := M.obj
    have hns := M.ns
    obtain ⟨G', g1, g2⟩ := restrict h' fun b => decide (b ≠ e)
    have gk : ∀ b, b ≠ e → G'.get? b = h'.get? b := fun b hb => g1 b (decide_eq_true hb)
    have ge : G'.get? e = none := g2 e (by simp)
    have old : ∀ b o, hp.get? b = some o → G'.get? b = some o := fun b o q => by
      have ne := Nat.ne_of_lt (Nat.lt_of_lt_of_le (Heap.lt_size q) M.new)
      exact (gk b ne).trans (M.keep b o q)
    have ob : ObjOk X.prog X.w (upd H1 d (.xd [(("at" : Str), v)])) G' d (.xd [(("at" : Str), v)]) := ⟨_, hns.at (fun o q => (gk d M.dne).trans q), fun f => rel_at rv f⟩
    have J : Inv X pins σ (upd H1 d (.xd [(("at" : Str), v)])) ⟨G', gs, dr, tk', os⟩ := I1.laid (t' := tk') old M.dbig ob
    refine ⟨e, oe, fv, ⟨G', gs, dr, tk', os⟩, _, .ref C, some d, rfl, J, fun b o q => ?_, ge, hoe, ⟨hc, hdd⟩, hdat, f1, ?_, rfl, I1.bare, raises_own T.exC T.tyC, q1 d (I1.hok.fresh M.dbig)⟩
    · by_cases hb : b = e
      · have z : G'.get? b = some o := q
        rw [hb, ge] at z
        cases z
      · exact (gk b hb).symm.trans q
    · rw [upd_ne (Ne.symm M.dne)]
      exact I1.hok.fresh M.new
/-- the caught one's field -/
def tFld_at (C a : Addr) (cls : Value) (d : Option Addr) (te : TE) : TE := fun σ H Q => te σ H fun x H1 => x = .ref a ∧ cls = .ref C ∧ ∃ (dd : Addr) (v : V), d = some dd ∧ H1 dd = some (.xd [(("at" : Str), v)]) ∧ Q v H1
theorem pe_fld_at {a : Addr} {oe : Obj} {cls : Value} {d : Option Addr} {pn : List (Addr × Obj)} {e : Expr} {te : TE} {pos : Pos} (T : PySem.OwnX.Txt_at X.K X.mg cn qi C fI) (hz : Zc cls d oe) (hf : ∃ vs, oe.data = .fields vs) (he : PE (X.suite a ((a, oe) :: pn)) e te)
    (hb : attributeBase e "at" X.env (eval e X.env) = eval e X.env) : PE (X.suite a ((a, oe) :: pn)) (.Attribute e "at" pos) (tFld_at C a cls d te) := by
  constructor
  intro pins s σ H Q I q0
  refine attr_of hb (thn (he.run pins s σ H _ I q0) fun u s1 hh => ?_)
  obtain ⟨x, H1, I1, rx, rfl, rfl, dd, v, rfl, ea, q⟩ := hh
  obtain rfl : u = Value.ref a := rx
  obtain ⟨at1, _⟩ := I1.pin (a, oe) (List.mem_append_left _ List.mem_cons_self)
  obtain ⟨vs, hd⟩ := hf
  have hx : ObjOk X.prog X.w H1 s1.heap dd (.xd [(("at" : Str), v)]) := I1.hok dd _ ea
  obtain ⟨mA, hns, hr⟩ := hx
  obtain ⟨od, ho, hl⟩ := lookIn_ns hns
  have l : List.lookup ("at" : Str) [(("at" : Str), v)] = some v := by simp [List.lookup]
  obtain ⟨u, hu, ru⟩ := RelO.some_of (v := v) (o := mA "at") (by rw [← l]; exact hr "at")
  have J : PySem.W.InstAt s1.heap a oe C (some od) := ⟨at1, hz.1, by unfold PySem.W.notCls; rw [hd] <;> rfl, by rw [hz.2]; exact ho⟩
  exact HandSPX.exc_get I1.kIn J T.ga T.gg T.exC (PySem.W.findObj_own T.hdC T.noN rfl (by rw [hl, hu])) (handed_of ru) ⟨v, H1, I1.tok _, ru, q⟩
end
end MP
namespace PySem
namespace OwnX
open PySem.W PySem.Calls PyProof.Rows PySem.HandSPX
section
def args_c (p1 p2 : Pos) : Arguments := { posonlyargs := [], args := [{ arg := "self", annotation := none, pos := p1 }, { arg := "c", annotation := none, pos := p2 }], vararg := none, kwonlyargs := [], kw_defaults := [], kwarg := none, defaults := [] }
def body_c (q1 q2 q3 q4 : Pos) : List Stmt := [.Assign [.Attribute (.Name "self" q1) "c" q2] (.Name "c" q3) q4]
def scope_c : Scope := { kind := .function, names := [(PySem.Str.ofString "self", .local), (PySem.Str.ofString "c", .local)], isGenerator := false, isCoroutine := false, more := [] }
structure Txt_c (K : Frag) (mg : Str → Option Value) (cn qi : Str) (C fI : Addr) : Prop extends ClsTxt K mg cn C where
  cls : ∃ nm q N bs bm sn sub ab col dd k0 k1 k2 k3 k5, K.lookup C = some (excClassObj nm q C N bs bm true sn sub ab col dd k0 k1 k2 k3 k5 "Exception.__new__") ∧ ∃ G, bm = .ref G :: ESX.exTail
  sa : findIn K (.ref C) "__setattr__" = some (some (.builtin "object.__setattr__"))
  ga : findIn K (.ref C) "__getattribute__" = some (some (.builtin "BaseException.__getattribute__"))
  gg : findIn K (.ref C) "__getattr__" = some none
  noN : findIn K (.ref C) "c" = some none
  iC : findIn K (.ref C) "__init__" = some (some (.ref fI))
  tC : typeIn K (.ref fI) = some (.type "function")
  hdC : hasDictIn K C = true
  fn : ∃ (oc : Value) (od : Option Addr) (doc pm : Value) (an : Option Addr) (cdv ct : Value) (osl : Array (Option Value)) (p1 p2 q1 q2 q3 q4 : Pos),
    K.lookup fI = some ⟨oc, od, .func (fnOf "__init__" qi (args_c p1 p2) (body_c q1 q2 q3 q4) scope_c .none .none doc pm an cdv ct), osl⟩ ∧ codeIn K cdv qi = true
structure Filled_c (h h' : Heap) (x C dx t1 : Addr) (v : Value) : Prop where
  keep : ∀ b o, b ≠ x → h.get? b = some o → h'.get? b = some o
  obj : h'.get? x = some { cls := .ref C, dict := some dx, data := .fields #[.ref t1, .none, .none, .none, .bool false, .none] }
  dbig : h.objs.size ≤ dx
  dne : dx ≠ x
  ns : h'.Ns1 dx (fun y => if y = "c" then some v else none)
structure Made_c (h h' : Heap) (e C d : Addr) (v : Value) : Prop where
  keep : ∀ b o, h.get? b = some o → h'.get? b = some o
  new : h.objs.size ≤ e
  obj : ∃ oe vs, h'.get? e = some oe ∧ oe.cls = .ref C ∧ oe.dict = some d ∧ oe.data = .fields vs ∧ vs[1]? = some .none ∧ vs[2]? = some .none
  dbig : h.objs.size ≤ d
  dne : d ≠ e
  ns : h'.Ns1 d (fun y => if y = "c" then some v else none)
variable {prog : Program} {w : World} {A : Around} {E : Value → Shared → Prop} {R : Result → Shared → Prop} {s : Shared} {K : Frag} {mg : Str → Option Value} {cn qi : Str} {C fI : Addr}
theorem fill_c (T : Txt_c K mg cn qi C fI) {x t0 : Addr} {v : Value} (X : K.In s.heap) (lim : s.heap.NoLimit) (hx : s.heap.get? x = some (excO C t0)) (room : A.depth < recursionLimit)
    (hq : ∀ h' tk dx, Filled_c s.heap h' x C dx t0 v → R (.ok (.ret .none)) { s with heap := h', toks := tk }) :
    codeAny (model prog w) A (.call (.ref fI) ⟨[.ref x, v], []⟩) R s := by
  obtain ⟨oc, od, doc, pm, an, cdv, ct, osl, p1, p2, q1, q2, q3, q4, ho, hcd⟩ := T.fn
  obtain ⟨nm, q, N, bs, bm, sn, sub, ab, col, dd, k0, k1, k2, k3, k5, hC, G, hbm⟩ := T.cls
  have cin : clsIn K C = some { name := nm, bases := bs, mro := .ref C :: bm, ns := N, qualname := q, hasDict := true, slotNames := sn, subclasses := sub, abstract := ab, collection := col, hasDel := false } := by
    unfold clsIn
    rw [hC] <;> rfl
  refine Att.call_fn (binds := [("self", .ref x), ("c", v)]) X lim ho hcd room (BindsTo.of_eq (by first | rfl | with_unfolding_all rfl)) (by first | rfl | decide | with_unfolding_all rfl) (fun z IC => ?_) rfl rfl rfl
  obtain ⟨g, tk, rfl⟩ := IC.toInCall.same
  have keep : ∀ b o, s.heap.get? b = some o → g.get? b = some o := IC.toInCall.keep
  have ns := IC.toInCall.ns
  have Xg : K.In g := X.keeps keep
  have hx2 := keep _ _ hx
  show wpAny _ _ (execs _ _) _ _ _
  refine wpAny_execs_cons (plainObj_wpAny_Assign_Attribute ?_)
  refine loc_ld (v := v) ns (by first | rfl | with_unfolding_all rfl | kernel_rfl) (loc_ld (v := .ref x) ns (by first | rfl | with_unfolding_all rfl | kernel_rfl) ?_)
  refine set_plain Xg (ox := excO C t0) (od := none) ⟨hx2, rfl, rfl, trivial⟩ T.sa ?_
  refine osa_two (G := G) Xg hx2 cin (show Value.ref C :: bm = _ by rw [hbm]) rfl T.noN (fun g2 tk2 dx keep2 dn dne hx3 ns3 => ?_)
  show wpAny _ _ (execs _ _) _ _ _
  have lt : s.heap.objs.size < g.objs.size := ns.lt
  exact wpAny_execs_nil (hq g2 tk2 dx ⟨fun b o hb e => keep2 b o hb (keep b o e), hx3, Nat.le_of_lt (Nat.lt_of_lt_of_le lt dn), dne, ns3⟩)
theorem made_c (T : Txt_c K mg cn qi C fI) {v : Value} (X : K.In s.heap) (lim : s.heap.NoLimit) (room : A.depth + 1 < recursionLimit)
    (hq : ∀ h' tk e d, Made_c s.heap h' e C d v → R (.ok (.ret (.ref e))) { s with heap := h', toks := tk }) :
    codeAny (model prog w) A (.call (.ref C) ⟨[v], []⟩) R s := by
  obtain ⟨nm, q, N, bs, bm, sn, sub, ab, col, dd, k0, k1, k2, k3, k5, hC, G, hbm⟩ := T.cls
  obtain ⟨hp, gs, dr, tk, os⟩ := s
  have keep : ∀ b o, hp.get? b = some o → ((hp.push (kdv_tup [v])).push (excO C hp.objs.size)).get? b = some o := fun b o e => Heap.get?_push_of_some _ (Heap.get?_push_of_some _ e)
  have at1 : ((hp.push (kdv_tup [v])).push (excO C hp.objs.size)).get? (hp.objs.size + 1) = some (excO C hp.objs.size) := by heap_get
  refine call_own F.excBase_Exception (fun X => by rw [hbm]; exact ex_has X) (X _ _ hC) (looks_findIn X T.iC) (fun self => bind_fn X self T.tC) (one_fits v) ?_
  refine fill_c (s := ⟨(hp.push (kdv_tup [v])).push (excO C hp.objs.size), gs, dr, tk, os⟩) T (X.keeps keep) (lim.keeps keep) at1 (show A.depth + 1 < recursionLimit from room) fun h' tk' dx ⟨k', hx, dn, dne, hns⟩ => ?_
  have old : ∀ b o, hp.get? b = some o → h'.get? b = some o := fun b o e => k' b o (Nat.ne_of_lt (Nat.lt_succ_of_lt (Heap.lt_size e))) (keep b o e)
  have big : hp.objs.size + 1 + 1 ≤ dx := by
    first
      | exact dn
      | (simpa only [Heap.size_push] using dn)
      | (have y := dn; rw [Heap.size_push, Heap.size_push] at y; exact y)
  exact ⟨rfl, hq h' tk' (hp.objs.size + 1) dx ⟨old, Nat.le_succ _, ⟨_, _, hx, rfl, rfl, rfl, rfl, rfl⟩, Nat.le_trans (Nat.le_trans (Nat.le_succ _) (Nat.le_succ _)) big, dne, hns⟩⟩
end
end OwnX
end PySem
namespace MP
open PySem PySem.Spec PyProof.Rows L2
theorem rel_c {v : V} {v' : Value} (r : RelV v v') (f : Str) : RelO (List.lookup f [(("c" : Str), v)]) (if f = "c" then some v' else none) := by
  by_cases hw : f = "c"
  · subst hw
    rw [if_pos rfl]
    have q : List.lookup ("c" : Str) [(("c" : Str), v)] = some v := by simp [List.lookup]
    rw [q]
    exact r
  · rw [if_neg hw]
    have q1 : (f == ("c" : Str)) = false := by simpa using hw
    have q2 : List.lookup f [(("c" : Str), v)] = none := by simp [List.lookup, q1]
    rw [q2]
    trivial
section
variable {X : Cx} {cn qi : Str} {C fI : Addr}
def tMk_c (C : Addr) (ta : TA) : L2.St → Hp → XK → Prop := fun σ H Q => ta σ H fun vs H1 => ∃ v, vs = [v] ∧ ∀ d, H1 d = none → Q (.ref C) (some d) (upd H1 d (.xd [(("c" : Str), v)]))
theorem pmk_c {a : Expr} {ta : TA} {p pos : Pos} {k : Nat} (T : PySem.OwnX.Txt_c X.K X.mg cn qi C fI) (hr : Room k X.A) (ha : PA X [a] ta) (hg : Gl X cn) (hd : (cn == ("__debug__" : Str)) = false)
    (he : starEach (a :: []) X.env = (false, eval a X.env) :: starEach [] X.env) (hpl : (backTo pos (starEach [] X.env)).any (·.1) = false := by rfl) :
    PMk X (.Call (.Name cn p) [a] [] pos) (tMk_c C ta) := by
  intro pins s σ H Q I q0
  refine wpAny_Call_Name_kw (ld_glob I hg T.gC ?_ hd)
  refine PySem.W.callWith_K (h₀ := X.base) I.ok.mod.kin T.kC (thn (ha.run pos pins s σ H _ I q0) fun us s1 hh => ?_) he hpl
  obtain ⟨vs, H1, I1, r1, v, rfl, q1⟩ := hh
  refine ⟨I1.kIn, ?_⟩
  cases r1 with
  | @cons _ v' _ us' rv rn =>
    cases rn
    show wpAny _ _ (call (.ref C) [v']) _ _ _
    have lim := I1.nolimit
    obtain ⟨hp, gs, dr, tk, os⟩ := s1
    refine wpAny_call (PySem.OwnX.made_c T I1.kIn lim (by have := hr.dp; omega) fun h' tk' e d M => ?_)
    show MkP X pins σ Q (.ref e) ⟨h', gs, dr, tk', os⟩
    obtain ⟨oe, fv, hoe, hc, hdd, hdat, f1, f2⟩ := M.obj
    have hns := M.ns
    obtain ⟨G', g1, g2⟩ := restrict h' fun b => decide (b ≠ e)
    have gk : ∀ b, b ≠ e → G'.get? b = h'.get? b := fun b hb => g1 b (decide_eq_true hb)
    have ge : G'.get? e = none := g2 e (by simp)
    have old : ∀ b o, hp.get? b = some o → G'.get? b = some o := fun b o q => by
      have ne := Nat.ne_of_lt (Nat.lt_of_lt_of_le (Heap.lt_size q) M.new)
      exact (gk b ne).trans (M.keep b o q)
    have ob : ObjOk X.prog X.w (upd H1 d (.xd [(("c" : Str), v)])) G' d (.xd [(("c" : Str), v)]) := ⟨_, hns.at (fun o q => (gk d M.dne).trans q), fun f => rel_c rv f⟩
    have J : Inv X pins σ (upd H1 d (.xd [(("c" : Str), v)])) ⟨G', gs, dr, tk', os⟩ := I1.laid (t' := tk') old M.dbig ob
    refine ⟨e, oe, fv, ⟨G', gs, dr, tk', os⟩, _, .ref C, some d, rfl, J, fun b o q => ?_, ge, hoe, ⟨hc, hdd⟩, hdat, f1, ?_, rfl, I1.bare, raises_own T.exC T.tyC, q1 d (I1.hok.fresh M.dbig)⟩
    · by_cases hb : b = e
      · have z : G'.get? b = some o := q
        rw [hb, ge] at z
        cases z
      · exact (gk b hb).symm.trans q
    · rw [upd_ne (Ne.symm M.dne)]
      exact I1.hok.fresh M.new
/-- the caught one's field -/
def tFld_c (C a : Addr) (cls : Value) (d : Option Addr) (te : TE) : TE := fun σ H Q => te σ H fun x H1 => x = .ref a ∧ cls = .ref C ∧ ∃ (dd : Addr) (v : V), d = some dd ∧ H1 dd = some (.xd [(("c" : Str), v)]) ∧ Q v H1
theorem pe_fld_c {a : Addr} {oe : Obj} {cls : Value} {d : Option Addr} {pn : List (Addr × Obj)} {e : Expr} {te : TE} {pos : Pos} (T : PySem.OwnX.Txt_c X.K X.mg cn qi C fI) (hz : Zc cls d oe) (hf : ∃ vs, oe.data = .fields vs) (he : PE (X.suite a ((a, oe) :: pn)) e te)
    (hb : attributeBase e "c" X.env (eval e X.env) = eval e X.env) : PE (X.suite a ((a, oe) :: pn)) (.Attribute e "c" pos) (tFld_c C a cls d te) := by
  constructor
  intro pins s σ H Q I q0
  refine attr_of hb (thn (he.run pins s σ H _ I q0) fun u s1 hh => ?_)
  obtain ⟨x, H1, I1, rx, rfl, rfl, dd, v, rfl, ea, q⟩ := hh
  obtain rfl : u = Value.ref a := rx
  obtain ⟨at1, _⟩ := I1.pin (a, oe) (List.mem_append_left _ List.mem_cons_self)
  obtain ⟨vs, hd⟩ := hf
  have hx : ObjOk X.prog X.w H1 s1.heap dd (.xd [(("c" : Str), v)]) := I1.hok dd _ ea
  obtain ⟨mA, hns, hr⟩ := hx
  obtain ⟨od, ho, hl⟩ := lookIn_ns hns
  have l : List.lookup ("c" : Str) [(("c" : Str), v)] = some v := by simp [List.lookup]
  obtain ⟨u, hu, ru⟩ := RelO.some_of (v := v) (o := mA "c") (by rw [← l]; exact hr "c")
  have J : PySem.W.InstAt s1.heap a oe C (some od) := ⟨at1, hz.1, by unfold PySem.W.notCls; rw [hd] <;> rfl, by rw [hz.2]; exact ho⟩
  exact HandSPX.exc_get I1.kIn J T.ga T.gg T.exC (PySem.W.findObj_own T.hdC T.noN rfl (by rw [hl, hu])) (handed_of ru) ⟨v, H1, I1.tok _, ru, q⟩
end
end MP

set_option Elab.async false
set_option linter.all false
set_option maxRecDepth 100000
set_option maxHeartbeats 2000000
/-! MiniPy, exceptions, part C: any field; what a told makes of a lambda -/
namespace MP
open PySem PySem.Spec PyProof.Rows L2
def visB (sc : Scope) (x : Str) : Bool := match sc.names.lookup x with
  | some .local => true
  | some .cell => true
  | some .free => true
  | _ => false
def gloB (sc : Scope) (x : Str) : Bool := match sc.names.lookup x with
  | some .globalImplicit => true
  | _ => false
def locB (sc : Scope) (x : Str) : Bool := match sc.names.lookup x with
  | some .local => true
  | _ => false
def celB (sc : Scope) (x : Str) : Bool := match sc.names.lookup x with
  | some .cell => true
  | _ => false
def okName (x : Str) : Bool := !decide (x = "__debug__") && !decide (x = "__classdict__") && !decide (x = "__name__")
theorem visB_ok {sc : Scope} {x : Str} (h : visB sc x = true) : Vis sc x := by
  unfold visB at h
  split at h
  · rename_i e; exact .inl e
  · rename_i e; exact .inr (.inl e)
  · rename_i e; exact .inr (.inr e)
  · cases h
theorem gloB_ok {sc : Scope} {x : Str} (h : gloB sc x = true) : sc.names.lookup x = some .globalImplicit := by
  unfold gloB at h
  split at h
  · rename_i e; exact e
  · cases h
theorem locB_ok {sc : Scope} {x : Str} (h : locB sc x = true) : sc.names.lookup x = some .local := by
  unfold locB at h
  split at h
  · rename_i e; exact e
  · cases h
theorem celB_ok {sc : Scope} {x : Str} (h : celB sc x = true) : sc.names.lookup x = some .cell := by
  unfold celB at h
  split at h
  · rename_i e; exact e
  · cases h
theorem okName_ok {x : Str} (h : okName x = true) : (x == ("__debug__" : Str)) = false ∧ (x == ("__classdict__" : Str)) = false ∧ x ≠ "__name__" := by
  unfold okName at h
  simp only [Bool.and_eq_true, Bool.not_eq_true', decide_eq_false_iff_not] at h
  exact ⟨beq_eq_false_iff_ne.mpr h.1.1, beq_eq_false_iff_ne.mpr h.1.2, h.2⟩


section
variable {X : Cx}
theorem _root_.L2.PE.imp {e : Expr} {t t' : TE} (h : PE X e t) (f : ∀ σ H Q, t' σ H Q → t σ H Q) : PE X e t' := ⟨fun pins s σ H Q I q => h.run pins s σ H Q I (f σ H Q q)⟩
theorem _root_.L2.PT.imp {e : Expr} {t t' : TT} (h : PT X e t) (f : ∀ σ H Q, t' σ H Q → t σ H Q) : PT X e t' := ⟨fun pins s σ H Q I q => h.run pins s σ H Q I (f σ H Q q)⟩
theorem _root_.L2.PW.imp {e : Expr} {t t' : TT} (h : PW X e t) (f : ∀ σ H Q, t' σ H Q → t σ H Q) : PW X e t' := ⟨fun w pins s σ H Q I q => h.run w pins s σ H Q I (f σ H Q q)⟩
theorem _root_.L2.PA.imp {e : List Expr} {t t' : TA} (h : PA X e t) (f : ∀ σ H Q, t' σ H Q → t σ H Q) : PA X e t' := ⟨fun p pins s σ H Q I q => h.run p pins s σ H Q I (f σ H Q q)⟩
theorem _root_.L2.PO.imp {e : Option Expr} {t t' : TO} (h : PO X e t) (f : ∀ σ H Q, t' σ H Q → t σ H Q) : PO X e t' := ⟨fun pins s σ H Q I q => h.run pins s σ H Q I (f σ H Q q)⟩
theorem _root_.L2.PS.imp {e : Stmt} {t t' : TS} (h : PS X e t) (f : ∀ D σ H, t' D σ H → t D σ H) : PS X e t' := ⟨fun pins s σ H D I q => h.run pins s σ H D I (f D σ H q)⟩
theorem _root_.L2.PSs.imp {e : List Stmt} {t t' : TS} (h : PSs X e t) (f : ∀ D σ H, t' D σ H → t D σ H) : PSs X e t' := ⟨fun pins s σ H D I q => h.run pins s σ H D I (f D σ H q)⟩
theorem _root_.L2.PG.imp {e : Expr} {t t' : TG} (h : PG X e t) (f : ∀ v σ H Q, t' v σ H Q → t v σ H Q) : PG X e t' := ⟨fun pins s σ H v u Q I r q => h.run pins s σ H v u Q I r (f v σ H Q q)⟩
theorem _root_.L2.PGs.imp {e : List Expr} {t t' : TGs} (h : PGs X e t) (f : ∀ v σ H Q, t' v σ H Q → t v σ H Q) : PGs X e t' := ⟨fun pins s σ H v u Q I r q => h.run pins s σ H v u Q I r (f v σ H Q q)⟩
theorem _root_.L2.PI.imp {tg e : Expr} {t t' : TI} (h : PI X tg e t) (f : ∀ σ H Q, t' σ H Q → t σ H Q) : PI X tg e t' := ⟨fun pins s σ H Q I q => h.run pins s σ H Q I (f σ H Q q)⟩
end
/-- a class of exceptions with one field -/
inductive ExcAt (K : PySem.W.Frag) (mg : Str → Option Value) (c : String) : String → Prop
  | thing (qi : Str) (C fI : Addr) : PySem.OwnX.Txt_thing K mg (Str.ofString c) qi C fI → ExcAt K mg c "thing"
  | most (qi : Str) (C fI : Addr) : PySem.OwnX.Txt_most K mg (Str.ofString c) qi C fI → ExcAt K mg c "most"
  | atF (qi : Str) (C fI : Addr) : PySem.OwnX.Txt_at K mg (Str.ofString c) qi C fI → ExcAt K mg c "at"
  | c (qi : Str) (C fI : Addr) : PySem.OwnX.Txt_c K mg (Str.ofString c) qi C fI → ExcAt K mg c "c"
section
variable {X : Cx} {c fld : String}
def tMkX (C : Addr) (fld : Str) (ta : TA) : L2.St → Hp → XK → Prop := fun σ H Q => ta σ H fun vs H1 => ∃ v, vs = [v] ∧ ∀ d, H1 d = none → Q (.ref C) (some d) (upd H1 d (.xd [(fld, v)]))
def tFldX (C a : Addr) (fld : Str) (cls : Value) (d : Option Addr) (te : TE) : TE := fun σ H Q => te σ H fun x H1 => x = .ref a ∧ cls = .ref C ∧ ∃ (dd : Addr) (v : V), d = some dd ∧ H1 dd = some (.xd [(fld, v)]) ∧ Q v H1
theorem pmkX {a : Expr} {ta : TA} {p pos : Pos} {k : Nat} (E : ExcAt X.K X.mg c fld) (hr : Room k X.A) (ha : PA X [a] ta) (hg : Gl X (Str.ofString c)) (hd : (Str.ofString c == ("__debug__" : Str)) = false) (hs : starEach [a] X.env = (false, eval a X.env) :: starEach [] X.env) :
    ∃ C, X.mg (Str.ofString c) = some (.ref C) ∧ PMk X (.Call (.Name (Str.ofString c) p) [a] [] pos) (tMkX C (Str.ofString fld) ta) := by
  cases E with
  | thing qi C fI t => exact ⟨C, t.gC, pmk_thing t hr ha hg hd hs⟩
  | most qi C fI t => exact ⟨C, t.gC, pmk_most t hr ha hg hd hs⟩
  | atF qi C fI t => exact ⟨C, t.gC, pmk_at t hr ha hg hd hs⟩
  | c qi C fI t => exact ⟨C, t.gC, pmk_c t hr ha hg hd hs⟩
theorem pe_fldX {a : Addr} {oe : Obj} {cls : Value} {d : Option Addr} {pn : List (Addr × Obj)} {e : Expr} {te : TE} {pos : Pos} (E : ExcAt X.K X.mg c fld) (hz : Zc cls d oe) (hf : ∃ vs, oe.data = .fields vs) (he : PE (X.suite a ((a, oe) :: pn)) e te)
    (hb : ∀ m, attributeBase e m X.env (eval e X.env) = eval e X.env) : ∃ C, X.mg (Str.ofString c) = some (.ref C) ∧ PE (X.suite a ((a, oe) :: pn)) (.Attribute e (Str.ofString fld) pos) (tFldX C a (Str.ofString fld) cls d te) := by
  cases E with
  | thing qi C fI t => exact ⟨C, t.gC, pe_fld_thing t hz hf he (hb _)⟩
  | most qi C fI t => exact ⟨C, t.gC, pe_fld_most t hz hf he (hb _)⟩
  | atF qi C fI t => exact ⟨C, t.gC, pe_fld_at t hz hf he (hb _)⟩
  | c qi C fI t => exact ⟨C, t.gC, pe_fld_c t hz hf he (hb _)⟩
theorem ExcAt.exm {K : PySem.W.Frag} {mg : Str → Option Value} {C : Addr} {cls : Value} {b : Bool} (E : ExcAt K mg c fld) (hm : mg (Str.ofString c) = some (.ref C)) (h : PySem.W.subIn K cls (.ref C) = some b) : PySem.W.exmOne K cls (.ref C) = some b := by
  have z : PySem.W.subIn K (.ref C) (.type "BaseException") = some true ∧ PySem.W.typeIn K (.ref C) = some (.type "type") ∧ (PySem.W.clsIn K C).isSome = true := by
    cases E with
    | thing qi C2 fI t =>
      have e := t.gC
      rw [hm] at e
      cases e
      obtain ⟨nm, q, N, bs, bm, sn, sub, ab, col, dd, k0, k1, k2, k3, k5, hC, _⟩ := t.cls
      exact ⟨t.exC, t.tyC, by unfold PySem.W.clsIn; rw [hC] <;> rfl⟩
    | most qi C2 fI t =>
      have e := t.gC
      rw [hm] at e
      cases e
      obtain ⟨nm, q, N, bs, bm, sn, sub, ab, col, dd, k0, k1, k2, k3, k5, hC, _⟩ := t.cls
      exact ⟨t.exC, t.tyC, by unfold PySem.W.clsIn; rw [hC] <;> rfl⟩
    | atF qi C2 fI t =>
      have e := t.gC
      rw [hm] at e
      cases e
      obtain ⟨nm, q, N, bs, bm, sn, sub, ab, col, dd, k0, k1, k2, k3, k5, hC, _⟩ := t.cls
      exact ⟨t.exC, t.tyC, by unfold PySem.W.clsIn; rw [hC] <;> rfl⟩
    | c qi C2 fI t =>
      have e := t.gC
      rw [hm] at e
      cases e
      obtain ⟨nm, q, N, bs, bm, sn, sub, ab, col, dd, k0, k1, k2, k3, k5, hC, _⟩ := t.cls
      exact ⟨t.exC, t.tyC, by unfold PySem.W.clsIn; rw [hC] <;> rfl⟩
  unfold PySem.W.exmOne
  rw [if_pos (by rw [z.1]; rfl)]
  unfold PySem.W.kitCls
  dsimp only
  rw [if_pos (by rw [z.2.1, z.2.2]; rfl)]
  exact h
end
/-- the handlers of a told: except C as e: return (word, e.field); the last: except GardenError: return (word,) -/
def hdlB (sc : Scope) (e : Str) : List (String × String × String) → List ExceptHandler → Bool
  | [], hs => match hs with
    | [.ExceptHandler (some (.Name x _)) none [.Return (some (.Tuple [.Constant (.str _) _ _] _ _)) _] _] => decide (x = "GardenError") && gloB sc x
    | _ => false
  | p :: r, hs => match hs with
    | .ExceptHandler (some (.Name x _)) (some n) [.Return (some (.Tuple [.Constant (.str y) _ _, .Attribute (.Name m _) g _] _ _)) _] _ :: hs =>
      decide (x = Str.ofString p.1) && decide (n = e) && decide (m = e) && decide (y = Str.ofString p.2.1) && decide (g = Str.ofString p.2.2) && gloB sc x && okName x && hdlB sc e r hs
    | _ => false
/-- told(a): try: return ("told", a()), and the handlers -/
def toldB (a e : Str) (hs : List (String × String × String)) (sc : Scope) (body : List Stmt) : Bool := match body with
  | [.Try [.Return (some (.Tuple [.Constant (.str y) _ _, .Call (.Name a' _) [] [] _] _ _)) _] (h0 :: hds) [] [] _] => decide (y = "told") && decide (a' = a) && hdlB sc e hs (h0 :: hds) && visB sc a && locB sc e && okName a && okName e
  | _ => false
inductive SubsAt (K : PySem.W.Frag) (mg : Str → Option Value) : List (String × String × String) → Prop
  | nil : SubsAt K mg []
  | cons {p : String × String × String} {r : List (String × String × String)} (C : Addr) : ExcAt K mg p.1 p.2.2 → mg (Str.ofString p.1) = some (.ref C) → PySem.W.subIn K (.ref C) (.ref C) = some true →
    (∀ q ∈ r, ∃ C', mg (Str.ofString q.1) = some (.ref C') ∧ PySem.W.subIn K (.ref C') (.ref C) = some false) → SubsAt K mg r → SubsAt K mg (p :: r)
section
variable {K : PySem.W.Frag} {mg : Str → Option Value}
/-- what comes of an exception -/
def exTold (mg : Str → Option Value) (hf : List (String × String × String)) (Q : VK) : XK := fun cls d H =>
  ∃ p ∈ hf, ∃ C dd v, mg (Str.ofString p.1) = some (.ref C) ∧ cls = .ref C ∧ d = some dd ∧ H dd = some (.xd [(Str.ofString p.2.2, v)]) ∧ ∀ t, H t = none → Q (.ref t) (upd H t (.tup [.str (Str.ofString p.2.1), v]))
def TTell (mg : Str → Option Value) (hf : List (String × String × String)) : (XK → Hp → VK → Prop) → Hp → VK → Prop := fun tl H Q =>
  tl (exTold mg hf Q) H fun v H1 => 2 ≤ sizeLine ∧ ∀ t, H1 t = none → Q (.ref t) (upd H1 t (.tup [.str (Str.ofString "told"), v]))
def suT (mg : Str → Option Value) (p : String × String × String) : SuT := fun a cls d D σ H => σ[1]? = some (some (.ref a)) ∧ ∃ C dd v, mg (Str.ofString p.1) = some (.ref C) ∧ cls = .ref C ∧ d = some dd ∧ H dd = some (.xd [(Str.ofString p.2.2, v)]) ∧
  ∀ t, H t = none → D.rt (.ref t) (upd H t (.tup [.str (Str.ofString p.2.1), v]))
def lstT (mg : Str → Option Value) (g : Value) : List (String × String × String) → List (Value × Option Nat × SuT)
  | [] => [(g, none, fun _ _ _ _ _ _ => False)]
  | p :: r => ((mg (Str.ofString p.1)).getD .none, some 1, suT mg p) :: lstT mg g r
theorem wAll_told {D : Ends} {Q : VK} {g : Value} {cls : Value} {d : Option Addr} {σ : L2.St} {H : Hp} (hD : D.rt = Q) : ∀ {hf : List (String × String × String)}, SubsAt K mg hf → exTold mg hf Q cls d H → wAll K (fun _ _ _ _ => False) D (lstT mg g hf) cls d σ H
  | _, .nil, ⟨p, hp, _⟩ => by cases hp
  | _, .cons (p := p) (r := r) C ea hm hs hq rest, ⟨q, hp, C', dd, v, h1, h2, h3, h4, h5⟩ => by
    have gd : (mg (Str.ofString p.1)).getD .none = .ref C := by rw [hm]; rfl
    show ∃ b, PySem.W.exmOne K cls ((mg (Str.ofString p.1)).getD .none) = some b ∧ _ ∧ _
    rw [gd]
    rcases List.mem_cons.mp hp with e | e
    · subst e
      rw [hm] at h1
      cases h1
      subst h2
      refine ⟨true, ea.exm hm hs, fun _ a _ hl => ⟨List.getElem?_set_self hl, C, dd, v, hm, rfl, h3, h4, ?_⟩, fun z => by cases z⟩
      rw [← hD] at h5
      exact h5
    · obtain ⟨C2, g1, g2⟩ := hq q e
      rw [h1] at g1
      cases g1
      subst h2
      exact ⟨false, ea.exm hm g2, (fun z => by cases z), fun _ => wAll_told hD rest ⟨q, e, C', dd, v, h1, rfl, h3, h4, h5⟩⟩
theorem isName_vis {sc : Scope} {x : Str} (h : locB sc x = true) : Vis sc x := .inl (locB_ok h)
section
variable {X : Cx}
/-- the handlers' suites -/
theorem hdA_told {e : Str} {g : Value} (hk : ∀ x, gloB X.env.scope x = true → Gl X x) (hge : X.mg "GardenError" = some g) (hN : X.N[1]? = some e) (hl : locB X.env.scope e = true) (hke : okName e = true) : ∀ (hf : List (String × String × String)) (hs : List ExceptHandler), SubsAt X.K X.mg hf → hdlB X.env.scope e hf hs = true → HdA X hs (lstT X.mg g hf)
  | [], hs, _, h => by
    unfold hdlB at h
    split at h
    · rename_i x p0 w p1 p2 p3 p4 p5 p6
      rw [Bool.and_eq_true, decide_eq_true_eq] at h
      obtain ⟨rfl, h2⟩ := h
      refine .bare ⟨hk _ h2, by decide +kernel, .inl hge⟩ (fun a oe cls d pn _ _ => ?_) .nil
      exact (pss_one (ps_ret (pe_tup (pa_cons pe_str pa_nil)))).imp fun _ _ _ z => z.elim
    · cases h
  | p :: r, hs, .cons C ea hm hsub hq rest, h => by
    unfold hdlB at h
    split at h
    · rename_i x p0 n y k0 p1 m p2 gg p3 k4 p4 p5 p6 hs2
      simp only [Bool.and_eq_true, decide_eq_true_eq] at h
      obtain ⟨⟨⟨⟨⟨⟨⟨rfl, rfl⟩, rfl⟩, rfl⟩, rfl⟩, h6⟩, h7⟩, h8⟩ := h
      have gd : (X.mg (Str.ofString p.1)).getD .none = .ref C := by rw [hm]; rfl
      refine .named ⟨hk _ h6, (okName_ok h7).1, .inl (by rw [gd]; exact hm)⟩ hN (locB_ok hl) (fun a oe cls d pn hz hfv => ?_) (hdA_told hk hge hN hl hke r hs2 rest h8)
      obtain ⟨C2, hm2, pf⟩ := pe_fldX (X := X) (a := a) (oe := oe) (cls := cls) (d := d) (pn := pn) (pos := p3) ea hz hfv (pe_var (X := X.suite a ((a, oe) :: pn)) (pos := p2) hN (isName_vis hl) (okName_ok hke).1 (okName_ok hke).2.1) (fun _ => rfl)
      rw [hm] at hm2
      cases hm2
      refine (pss_one (ps_ret (pe_tup (pa_cons pe_str (pa_cons pf pa_nil))))).imp fun D σ H ⟨h1, C2, dd, v, e1, e2, e3, e4, k⟩ => ?_
      rw [hm] at e1
      cases e1
      exact ⟨.ref a, h1, rfl, e2, dd, v, e3, e4, (by show 2 ≤ sizeLine; decide), k⟩
    · cases h
end
theorem told_go {a e x q : Str} {sg : Scope} {gA : Addr} {cdg gv : Value} {body : List Stmt} {hf : List (String × String × String)} (S : SubsAt X.K X.mg hf) (hb : toldB a e hf sg body = true) (hge : X.mg "GardenError" = some gv) (Sg : FnScope [a, e] [a] sg) :
    LamX.GivesTo X [a, e] x sg gA cdg body a q (TTell X.mg hf) := by
  intro f c' s H Q tl act hc h
  unfold toldB at hb
  split at hb
  · rename_i y k0 p0 a' p1 p2 k3 p3 p4 h0 hds p5
    simp only [Bool.and_eq_true, decide_eq_true_eq] at hb
    obtain ⟨⟨⟨⟨⟨⟨rfl, rfl⟩, h3⟩, h4⟩, h5⟩, h6⟩, h7⟩ := hb
    refine ⟨_, pss_one (ps_try_all (X := (cxOf C8.CX0 X.prog X.w X.K X.mg X.base [a', e] x sg gA cdg X.A X.stack s H C8.E0).nox) (l := lstT X.mg gv hf)
      (tb := fun W D σ H => ∃ Ech : XK, (∀ cls d σ' H', Ech cls d H' → W cls d σ' H') ∧ σ[0]? = some (some (.ref f)) ∧ H c' = some (LamX.CodeO c' q) ∧ tl Ech H fun v H1 => 2 ≤ sizeLine ∧ ∀ t, H1 t = none → D.rt (.ref t) (upd H1 t (.tup [.str (Str.ofString "told"), v])))
      rfl rfl Sg.nd LamX.takes0 (fun W pn xe tk _ => ?_) (hdA_told (X := (cxOf C8.CX0 X.prog X.w X.K X.mg X.base [a', e] x sg gA cdg X.A X.stack s H C8.E0).nox) (e := e) (fun x hx => gloB_ok hx) hge rfl h5 h7 hf (h0 :: hds) S h3)), ?_⟩
    · refine ⟨fun pins s' σ H' D I h' => ?_⟩
      obtain ⟨Ech, hW, g1, g2, g3⟩ := h'
      have hp := act W pn xe Ech p1 p2 tk hW
      have hq := pss_one (ps_ret (pos := p4) (pe_tup (x1 := k3) (pos := p3) (pa_cons (pe_str (x := "told") (j := k0) (pos := p0)) (pa_cons hp pa_nil))))
      exact hq.run pins s' σ H' D I ⟨g1, g2, g3⟩
    · exact ⟨exTold X.mg hf Q, fun cls d σ' H' z => wAll_told rfl S z, rfl, hc, h⟩
  · cases hb
end
end MP

set_option Elab.async false
set_option linter.all false
set_option maxRecDepth 100000
/-! MiniPy, part E: readings, calls -/
namespace MP
open PySem PySem.Spec PyProof.Rows L2
variable [tt : Mkr]

structure RS (K : PySem.W.Frag) (mg : Str → Option Value) (ρ : List Addr) (H : Hp) (ls : Ls) (σ : L2.St) : Prop where
  len : ls.length = σ.length
  get : ∀ (i : Nat) (t : T), ls[i]? = some (some t) → ∃ v, σ[i]? = some (some v) ∧ RT K mg ρ H t v
section
variable {K : PySem.W.Frag} {mg : Str → Option Value} {ρ ρ' : List Addr} {H H' : Hp} {h h' : Hh} {ls : Ls} {σ : L2.St}
theorem RS.ext (e : Ext ρ H ρ' H') (r : RS K mg ρ H ls σ) : RS K mg ρ' H' ls σ := ⟨r.len, fun i t z => by
  obtain ⟨v, h1, h2⟩ := r.get i t z
  exact ⟨v, h1, h2.ext e⟩⟩
theorem RS.set (r : RS K mg ρ H ls σ) {i : Nat} {t : T} {v : V} (hi : i < ls.length) (rv : RT K mg ρ H t v) : RS K mg ρ H (ls.set i (some t)) (σ.set i (some v)) := ⟨by rw [List.length_set, List.length_set, r.len], fun j u z => by
  by_cases hj : i = j
  · subst hj
    rw [List.getElem?_set_self hi] at z
    cases z
    exact ⟨v, List.getElem?_set_self (by rw [← r.len]; exact hi), rv⟩
  · rw [List.getElem?_set_ne hj] at z
    rw [List.getElem?_set_ne hj]
    exact r.get j u z⟩
theorem RS.wipe (r : RS K mg ρ H ls σ) : ∀ vs : List Nat, RS K mg ρ H (wipeL ls vs) (wipe σ vs)
  | [] => r
  | v :: vs => by
    have ih := r.wipe vs
    refine ⟨?_, fun j u z => ?_⟩
    · show ((wipeL ls vs).set v none).length = ((L2.wipe σ vs).set v none).length
      rw [List.length_set, List.length_set, ih.len]
    · have z' : ((wipeL ls vs).set v none)[j]? = some (some u) := z
      show ∃ w, ((L2.wipe σ vs).set v none)[j]? = some (some w) ∧ _
      by_cases hj : v = j
      · subst hj
        by_cases hv : v < (wipeL ls vs).length
        · rw [List.getElem?_set_self hv] at z'
          cases z'
        · rw [List.getElem?_eq_none (by simpa using hv)] at z'
          cases z'
      · rw [List.getElem?_set_ne hj] at z'
        rw [List.getElem?_set_ne hj]
        exact ih.get j u z'
end

/-- the reading of an expression by the evaluator -/
def rd (K : PySem.W.Frag) (mg : Str → Option Value) (m : Ls → Hh → R T) : TE := fun σ H Q =>
  ∃ ρ ls h t h', G K mg ρ H h ∧ RS K mg ρ H ls σ ∧ m ls h = .ok t h' ∧ Kn K mg ρ H h' t Q
def rdT (K : PySem.W.Frag) (mg : Str → Option Value) (m : Ls → Hh → R T) : TT := fun σ H Q =>
  ∃ ρ ls h b h', G K mg ρ H h ∧ RS K mg ρ H ls σ ∧ m ls h = .ok (.bl b) h' ∧ ∀ ρ' H', Ext ρ H ρ' H' → G K mg ρ' H' h' → Q b H'
def rdA (K : PySem.W.Frag) (mg : Str → Option Value) (m : Ls → Hh → R (List T)) : TA := fun σ H Q =>
  ∃ ρ ls h ts h', G K mg ρ H h ∧ RS K mg ρ H ls σ ∧ m ls h = .ok ts h' ∧ ∀ ρ' H' vs, Ext ρ H ρ' H' → G K mg ρ' H' h' → RTs K mg ρ' H' ts vs → Q vs H'
def rdO (K : PySem.W.Frag) (mg : Str → Option Value) (m : Ls → Hh → R (Option Int)) : TO := fun σ H Q =>
  ∃ ρ ls h o h', G K mg ρ H h ∧ RS K mg ρ H ls σ ∧ m ls h = .ok o h' ∧ ∀ ρ' H', Ext ρ H ρ' H' → G K mg ρ' H' h' → Q o H'
/-- nothing but these slots changed -/
def Only1 (vars : List Nat) (σ σ' : L2.St) : Prop := ∀ vs : List Nat, (∀ i ∈ vars, i ∈ vs) → wipe σ' vs = wipe σ vs
def rdG (K : PySem.W.Frag) (mg : Str → Option Value) (vars : List Nat) (m : T → Ls → Hh → R Ls) : TG := fun v σ H Q =>
  ∃ ρ ls h t l' h', G K mg ρ H h ∧ RS K mg ρ H ls σ ∧ RT K mg ρ H t v ∧ m t ls h = .ok l' h' ∧ ∀ ρ' H' σ', Ext ρ H ρ' H' → G K mg ρ' H' h' → RS K mg ρ' H' l' σ' → Only1 vars σ σ' → Q σ' H'
def rdGs (K : PySem.W.Frag) (mg : Str → Option Value) (vars : List Nat) (m : List T → Ls → Hh → R Ls) : TGs := fun vs σ H Q =>
  ∃ ρ ls h ts l' h', G K mg ρ H h ∧ RS K mg ρ H ls σ ∧ RTs K mg ρ H ts vs ∧ m ts ls h = .ok l' h' ∧ ∀ ρ' H' σ', Ext ρ H ρ' H' → G K mg ρ' H' h' → RS K mg ρ' H' l' σ' → Only1 vars σ σ' → Q σ' H'
/-- an exception that comes out: its class is c, its one field the one of fs -/
def XTo (K : PySem.W.Frag) (mg : Str → Option Value) (es : List (String × String)) (ρ : List Addr) (H : Hp) (c : String) (fs : List T) (W : XK) : Prop :=
  ∀ (C : Addr) (fld : String) (t : T) (d : Addr) (v : V), mg (Str.ofString c) = some (.ref C) → (c, fld) ∈ es → fs = [t] → H d = some (.xd [(Str.ofString fld, v)]) → RT K mg ρ H t v → W (.ref C) (some d) H
def endX (K : PySem.W.Frag) (mg : Str → Option Value) (es : List (String × String)) (ρ : List Addr) (H : Hp) (h' : Hh) (Q : VK) (W : XK) : Fl → Prop
  | .rt t => Kn K mg ρ H h' t Q
  | .xc c fs => ∀ ρ' H', Ext ρ H ρ' H' → G K mg ρ' H' h' → XTo K mg es ρ' H' c fs W
  | _ => False
/-- the reading of a call that may raise -/
def rdX (K : PySem.W.Frag) (mg : Str → Option Value) (es : List (String × String)) (W : XK) (m : Ls → Hh → R Fl) : TE := fun σ H Q =>
  ∃ ρ ls h fl h', G K mg ρ H h ∧ RS K mg ρ H ls σ ∧ m ls h = .ok fl h' ∧ endX K mg es ρ H h' Q W fl
def endF (K : PySem.W.Frag) (mg : Str → Option Value) (es : List (String × String)) (W : XK) (ρ : List Addr) (H : Hp) (D : Ends) (l : Ls) : Fl → Prop
  | .nx => ∀ σ, RS K mg ρ H l σ → D.nx σ H
  | .bk => ∀ σ, RS K mg ρ H l σ → D.bk σ H
  | .ct => ∀ σ, RS K mg ρ H l σ → D.ct σ H
  | .rt t => ∀ v, RT K mg ρ H t v → D.rt v H
  | .xc c fs => XTo K mg es ρ H c fs W
def rdS (K : PySem.W.Frag) (mg : Str → Option Value) (es : List (String × String)) (W : XK) (m : Ls → Hh → R (Fl × Ls)) : TS := fun D σ H =>
  ∃ ρ ls h f l' h', G K mg ρ H h ∧ RS K mg ρ H ls σ ∧ m ls h = .ok (f, l') h' ∧ ∀ ρ' H', Ext ρ H ρ' H' → G K mg ρ' H' h' → endF K mg es W ρ' H' D l' f
theorem wipe_len (σ : L2.St) : ∀ vs : List Nat, (wipe σ vs).length = σ.length := wipe_length σ
theorem wipe_get {σ : L2.St} {i : Nat} : ∀ vs : List Nat, (wipe σ vs)[i]? = if i ∈ vs then (if i < σ.length then some none else none) else σ[i]?
  | [] => by simp [wipe]
  | v :: vs => by
    have ih := wipe_get (σ := σ) (i := i) vs
    unfold wipe
    by_cases hv : v = i
    · subst hv
      rw [if_pos List.mem_cons_self]
      by_cases hl : v < σ.length
      · rw [List.getElem?_set_self (by rw [wipe_length]; exact hl), if_pos hl]
      · rw [List.getElem?_eq_none (by rw [List.length_set, wipe_length]; omega), if_neg hl]
    · rw [List.getElem?_set_ne hv, ih]
      by_cases hm : i ∈ vs
      · rw [if_pos hm, if_pos (List.mem_cons_of_mem _ hm)]
      · rw [if_neg hm, if_neg fun z => (List.mem_cons.mp z).elim (fun e => hv e.symm) hm]
theorem wipe_ext {σ σ' : L2.St} {vs : List Nat} (h : ∀ i : Nat, (wipe σ' vs)[i]? = (wipe σ vs)[i]?) : wipe σ' vs = wipe σ vs := List.ext_getElem? h
theorem wipe_set {σ : L2.St} {vs : List Nat} {i : Nat} {x : Option V} (h : i ∈ vs) : wipe (σ.set i x) vs = wipe σ vs := wipe_ext fun j => by
  rw [wipe_get, wipe_get, List.length_set]
  by_cases hj : j ∈ vs
  · rw [if_pos hj, if_pos hj]
  · rw [if_neg hj, if_neg hj, List.getElem?_set_ne fun e : i = j => hj (by rw [← e]; exact h)]
theorem wipe_wipe (σ : L2.St) (vs : List Nat) : wipe (wipe σ vs) vs = wipe σ vs := wipe_ext fun j => by
  rw [wipe_get, wipe_get, wipe_length]
  by_cases hj : j ∈ vs
  · rw [if_pos hj, if_pos hj]
  · rw [if_neg hj, if_neg hj]
theorem Only1.refl {vars : List Nat} {σ : L2.St} : Only1 vars σ σ := fun _ _ => rfl
section
variable {X : Cx}

/-! ### calls of the text's own defs, no exception under way in a repr -/
structure FnG (P : Program) (w : World) (K : PySem.W.Frag) (mg : Str → Option Value) (base : Heap) (b : Bool) (k : Nat) (f : Addr) (fd : FuncData) (ps : List Str) (sp : Sp) : Prop where
  len : ∀ vs H Q E, sp vs H Q E → vs.length = ps.length
  run : ∀ (A : Around) (fr : List Env) (s : Shared) (H : Hp) (args : Args) (us : List Value) (vs : List V) (Q : VK) (E : XK), (b = true → A.guards = some []) → Room k A → Env0 P w K mg base A fr s H → BindsTo s fd args (ps.zip us) → Vals vs us → sp vs H Q E →
    codeAny (model P w) A (.call (.ref f) args) (CR (L2.CX P w) fr P w H s Q E) s
theorem cx_no {P : Program} {w : World} {l : List Env} {H : Hp} {s s' : Shared} {u : Value} (h : L2.CX P w l H s E0 u s') : False := by
  obtain ⟨_, _, _, _, _, _, _, _, _, _, _, _, z⟩ := h
  exact z
theorem run_g {b : Bool} {k : Nat} {f : Addr} {fd : FuncData} {ps : List Str} {sp : Sp} {pins : List (Addr × Obj)} {σ : L2.St} {H : Hp} {s : Shared} {Q : VK} {us ws : List Value} {vs : List V} {kw : List (Str × Value)} (F : FnG X.prog X.w X.K X.mg X.base b k f fd ps sp)
    (hg : b = true → X.A.guards = some []) (hr : Room k X.A) (I : Inv X pins σ H s) (hb : BindsTo s fd ⟨us, kw⟩ (ps.zip ws)) (r : Vals vs ws) (q : sp vs H Q E0) : wpAny (model X.prog X.w) X.A (call (.ref f) us kw) (EP X pins σ Q) X.xe s := by
  have F1 := F.run X.A X.stack s H ⟨us, kw⟩ ws vs Q E0 hg hr I.env0 hb r q
  refine wpAny_call (codeAny_mono F1 fun z s1 hz => ?_)
  match z, hz with
  | .ok (.ret _), hz => exact I.after hz
  | .ok .next, hz => exact hz.elim
  | .ok .brk, hz => exact hz.elim
  | .ok .cont, hz => exact hz.elim
  | .error _, hz => exact (cx_no hz).elim
/-- the same, where what comes out is taken -/
theorem run_x {b : Bool} {k : Nat} {f : Addr} {fd : FuncData} {ps : List Str} {sp : Sp} {pins : List (Addr × Obj)} {σ : L2.St} {H : Hp} {s : Shared} {Q : VK} {W : XK} {us ws : List Value} {vs : List V} {kw : List (Str × Value)} (F : FnG X.prog X.w X.K X.mg X.base b k f fd ps sp) (tk : Takes X (fun c d _ H => W c d H))
    (hg : b = true → X.A.guards = some []) (hr : Room k X.A) (I : Inv X pins σ H s) (hb : BindsTo s fd ⟨us, kw⟩ (ps.zip ws)) (r : Vals vs ws) (q : sp vs H Q W) : wpAny (model X.prog X.w) X.A (call (.ref f) us kw) (EP X pins σ Q) X.xe s := by
  have F1 := F.run X.A X.stack s H ⟨us, kw⟩ ws vs Q W hg hr I.env0 hb r q
  refine wpAny_call (codeAny_mono F1 fun z s1 hz => ?_)
  match z, hz with
  | .ok (.ret _), hz => exact I.after hz
  | .ok .next, hz => exact hz.elim
  | .ok .brk, hz => exact hz.elim
  | .ok .cont, hz => exact hz.elim
  | .error e, hz => exact passes_call tk (fun _ _ _ _ h => h) pins σ H s e s1 I hz
/-- a def's promise by the evaluator -/
def spf (K : PySem.W.Frag) (mg : Str → Option Value) (es : List (String × String)) (np : Nat) (m : List T → Hh → R T) : Sp := fun vs H Q E =>
  vs.length = np ∧ ∃ ρ h ts fl h', G K mg ρ H h ∧ RTs K mg ρ H ts vs ∧ flX (m ts h) = .ok fl h' ∧ endX K mg es ρ H h' Q E fl
theorem flX_ok {r : R T} {t : T} {h : Hh} (e : r = .ok t h) : flX r = .ok (.rt t) h := by rw [e]; rfl
/-- the promise of an __init__ that calls a def on its one argument and keeps it -/
def spIni (K : PySem.W.Frag) (mg : Str → Option Value) (C : Addr) (m : List T → Hh → R T) : Sp := fun vs H Q _ =>
  ∃ p dx v ρ h t u h' H0, vs = [V.ref p, v] ∧ H0 p = none ∧ H0 dx = none ∧ dx ≠ p ∧ H = upd (upd H0 dx (.own p)) p (.ins C dx []) ∧ G K mg ρ H0 h ∧ RT K mg ρ H0 t v ∧ m [t] h = .ok u h' ∧
    ∀ ρ' H' fs, Ext ρ H0 ρ' H' → G K mg ρ' H' h' → p ∉ ρ' → H' p = some (.ins C dx fs) → Q .non H'
theorem FnG.mono {P : Program} {w : World} {K : PySem.W.Frag} {mg : Str → Option Value} {base : Heap} {b : Bool} {k j : Nat} {f : Addr} {fd : FuncData} {ps : List Str} {sp : Sp} (F : FnG P w K mg base b k f fd ps sp) (h : k ≤ j) : FnG P w K mg base b j f fd ps sp :=
  ⟨F.len, fun A fr s H args us vs Q E hg hr => F.run A fr s H args us vs Q E hg (hr.mono h)⟩
theorem run_makeG {b : Bool} {k : Nat} {C f : Addr} {fd : FuncData} {ps : List Str} {sp : Sp} {pins : List (Addr × Obj)} {σ : L2.St} {H : Hp} {s : Shared} {Q : VK} {us : List Value} {vs : List V} (M : Mk X.K C f) (F : FnG X.prog X.w X.K X.mg X.base b k f fd ps sp)
    (hg : b = true → X.A.guards = some []) (hr : Room (k + 1) X.A) (hb : Binds X.K fd ps []) (I : Inv X pins σ H s) (r : Vals vs us)
    (h : ∀ x dx, H x = none → H dx = none → dx ≠ x → sp (.ref x :: vs) (upd (upd H dx (.own x)) x (.ins C dx [])) (fun v H2 => v = .non ∧ Q (.ref x) H2) E0) :
    wpAny (model X.prog X.w) X.A (call (.ref C) us) (EP X pins σ Q) X.xe s := by
  have hq := h (s.heap.objs.size + 1) s.heap.objs.size (I.hok.fresh (Nat.le_succ _)) (I.hok.fresh (Nat.le_refl _)) (Nat.ne_of_lt (Nat.lt_succ_self _))
  have I2 := Inv.made (C := C) I
  have r2 : Vals (V.ref (s.heap.objs.size + 1) :: vs) (Value.ref (s.heap.objs.size + 1) :: us) := .cons rfl r
  have hl : (Value.ref (s.heap.objs.size + 1) :: us ++ []).length = ps.length := by
    have e := r2.length
    rw [F.len _ _ _ _ hq] at e
    rw [List.append_nil]
    exact e.symm
  have bb := hb _ (Value.ref (s.heap.objs.size + 1) :: us) I2.kIn hl
  rw [List.append_nil] at bb
  refine wpAny_call (make_map (f := f) I.kIn M.makes M.init (beq_iff_eq.mp M.fn) (codeAny_mono (F.run _ X.stack _ _ ⟨Value.ref (s.heap.objs.size + 1) :: us, []⟩ (Value.ref (s.heap.objs.size + 1) :: us) _ _ E0 hg (hr.make C us [])
    (I2.env0.make C us []) bb r2 hq) fun r s' hq' => ?_))
  cases r with
  | error e => exact (cx_no hq').elim
  | ok fl =>
    cases fl with
    | ret u =>
      obtain ⟨v, H', I3, rv, ev, q3⟩ := I2.after hq'
      subst ev
      exact ⟨rv, ⟨V.ref (s.heap.objs.size + 1), H', I3, rfl, q3⟩⟩
    | next => exact False.elim hq'
    | brk => exact False.elim hq'
    | cont => exact False.elim hq'
/-- how keywords come to the parameters -/
def KBd (K : PySem.W.Frag) (fd : FuncData) (ps : List String) (n : Nat) (ks : List String) : Prop :=
  ∀ (s : Shared) (us ws zs : List Value), K.In s.heap → ordK ps n us ks ws = some zs → BindsTo s fd ⟨us, (ks.map Str.ofString).zip ws⟩ ((ps.map Str.ofString).zip zs)
structure ToldAt (K : PySem.W.Frag) (mg : Str → Option Value) (es : List (String × String)) (g : String) (hs : List (String × String)) : Prop where
  ex : ∃ (st : Stmt) (ga : Addr) (fdata : FuncData) (a e : Str) (hf : List (String × String × String)) (gv : Value), Fun K (Str.ofString g) (Str.ofString g) st ga fdata ∧ mg (Str.ofString g) = some (.ref ga) ∧ FnScope [a, e] [a] (defScope st) ∧ Binds K fdata [a] [] ∧
    toldB a e hf (defScope st) (defBody st) = true ∧ hs = hf.map (fun p => (p.1, p.2.1)) ∧ (∀ p ∈ hf, (p.1, p.2.2) ∈ es) ∧ SubsAt K mg hf ∧ mg "GardenError" = some gv ∧ (hf.map (·.1)).Nodup
/-- raw: the scope as it is written; sc: the scope that runs -/
structure XO (D : Tbl) (n : Nat) (X : Cx) (raw sc : Scope) (N : List Str) : Prop where
  esc : X.env.scope = sc
  eN : X.N = N
  nd : N.Nodup
  calm : X.calm = true
  room : Room (3 * n + 2) X.A
  gd : ("<repr>" : Str) ∈ N → X.A.guards = some []
  kd : sc.kind = .function
  rw_ : ∀ x k, k ≠ NameKind.free → raw.names.lookup x = some k → sc.names.lookup x = some k
  fn : ∀ x, raw.names.lookup x = some .cell → X.fn x = true
  pas : PassesOwn (model X.prog X.w) X.A X.env X.xe
  fns : ∀ f fd, D.fn f = some fd → ∃ fa fdata, FnG X.prog X.w X.K X.mg X.base (grd fd) (3 * n) fa fdata (fd.ps.map Str.ofString) (spf X.K X.mg D.xs fd.ps.length (callN D n f)) ∧ X.mg (Str.ofString f) = some (.ref fa) ∧ PySem.W.keepIn X.K (.ref fa) = true ∧
    Binds X.K fdata (fd.ps.map Str.ofString) [] ∧ ∀ m ks, (f, m, ks) ∈ D.kw → KBd X.K fdata fd.ps m ks
  nws : ∀ c g, (c, g) ∈ D.nw → ∃ C fi fdata, X.mg (Str.ofString c) = some (.ref C) ∧ Mk X.K C fi ∧ InsOk X.K c C ∧ Binds X.K fdata ["self", "garden"] [] ∧ FnG X.prog X.w X.K X.mg X.base false (3 * n + 1) fi fdata ["self", "garden"] (spIni X.K X.mg C (callN D n g))
  gls : ∀ x t, D.gl x = some t → ∃ u v, X.mg (Str.ofString x) = some u ∧ RelV v u ∧ ∀ ρ H, RT X.K X.mg ρ H t v
  lam : ("<lambda>" : Str) ∈ N → ∃ c P, X.env.code = .ref c ∧ LamX.TabB X.base X.mg c P ∧ (P, X.env.qual ++ "<lambda>") ∈ tt.T ∧ ∀ p ∈ tt.T, p.1 = P → p.2 = X.env.qual ++ "<lambda>"
  tds : ∀ g hs, D.td g = some hs → ToldAt X.K X.mg D.xs g hs
  xcs : ∀ c fld, (c, fld) ∈ D.xs → ExcAt X.K X.mg c fld
  xnd : (D.xs.map (·.1)).Nodup
  blt : ∀ x, x ∈ ["len", "list", "tuple", "sorted", "all", "any", "sum", "max", "min", "int", "repr", "str", "abs", "bool", "isinstance", "range", "enumerate", "zip", "set", "reversed", "dict"] → X.mg (Str.ofString x) = none
theorem XO.hu {D : Tbl} {n : Nat} {raw sc : Scope} {N : List Str} (o : XO D n X raw sc N) : X.A.units + 100 < cLine := by
  have := o.room.un
  omega
end
end MP

set_option Elab.async false
set_option linter.all false
set_option maxRecDepth 100000
/-! MiniPy, part F: the check that a compact text is the written one -/
namespace MP
open PySem PySem.Spec PyProof.Rows L2

def noStar : Expr → Bool
  | .Starred .. => false
  | _ => true
def noSet : Expr → Bool
  | .Set .. => false
  | _ => true
def noSlice : Expr → Bool
  | .Slice .. => false
  | _ => true
def noComp : Expr → Bool
  | .ListComp .. => false
  | .SetComp .. => false
  | .DictComp .. => false
  | _ => true
def noCall0 : Expr → Bool
  | .Call _ [] [] _ => false
  | _ => true
def isListE : Expr → Bool
  | .List .. => true
  | _ => false
def isTupE : Expr → Bool
  | .Tuple .. => true
  | _ => false
theorem star_cons {e : Expr} {es : List Expr} {env : Env} (h : noStar e = true) : starEach (e :: es) env = (false, eval e env) :: starEach es env := by
  cases e <;> first | rfl | cases h
theorem star_any (pos : Pos) (env : Env) : ∀ es : List Expr, es.all noStar = true → (backTo pos (starEach es env)).any (·.1) = false
  | [], _ => rfl
  | e :: es, h => by
    rw [List.all_cons, Bool.and_eq_true] at h
    rw [star_cons h.1]
    show (false || (backTo pos (starEach es env)).any (·.1)) = false
    rw [star_any pos env es h.2]
    rfl
theorem star_all (pos : Pos) (env : Env) : ∀ es : List Expr, es.all noStar = true → (backTo pos (starEach es env)).all (fun x => !x.1) = true
  | [], _ => rfl
  | e :: es, h => by
    rw [List.all_cons, Bool.and_eq_true] at h
    rw [star_cons h.1]
    show (!false && (backTo pos (starEach es env)).all (fun x => !x.1)) = true
    rw [star_all pos env es h.2]
    rfl
theorem few_of {pos : Pos} {env : Env} {es : List Expr} (h : es.all noStar = true) (hl : es.length < 20) :
    ((backTo pos (starEach es env)).all (fun x => !x.1) && (backToKw pos (keywordEach [] env)).all (fun x => x.1.isSome) && decide (es.length + ([] : List Keyword).length + (if ([] : List Keyword).isEmpty then 0 else 1) < 30)) = true := by
  rw [star_all pos env es h]
  have : decide (es.length + ([] : List Keyword).length + (if ([] : List Keyword).isEmpty then 0 else 1) < 30) = true := decide_eq_true (by simp; omega)
  rw [this]
  rfl
theorem base_of {o : Expr} {m : Str} {env : Env} (h : noCall0 o = true) : attributeBase o m env (eval o env) = eval o env := by
  unfold attributeBase
  split
  · rename_i id p pos
    cases h
  · rfl
theorem set_of {e : Expr} {env : Env} (h : noSet e = true) : ∀ x, foldedSetIterable e env x = pure x := by
  intro x
  cases e <;> first | rfl | cases h
theorem beh_of {op : CmpOp} {e : Expr} (h : noSet e = true) : behindInMarks op e = false := by
  cases e <;> first | rfl | cases h
theorem swap_of {e : Expr} {t : Option Expr} {l : Nat} {env : Env} (h : noComp e = true) : swapsWith e t l env = pure false := by
  cases e <;> first | rfl | cases h
theorem plain_of {e : Expr} (h : noSlice e = true) : PlainIx e := by
  intro o i
  cases e <;> first | rfl | cases h

def Blt.x : Blt → String
  | .len => "len"
  | .list => "list"
  | .tuple => "tuple"
  | .sorted => "sorted"
  | .all => "all"
  | .any => "any"
  | .sum => "sum"
  | .max => "max"
  | .min => "min"
  | .int => "int"
  | .repr => "repr"
  | .str => "str"
  | .abs => "abs"
  | .bool => "bool"
def Mth.x : Mth → String
  | .append => "append"
  | .extend => "extend"
  | .pop => "pop"
  | .get => "get"
  | .index => "index"
/-- the types that isinstance asks for here -/
def tyNames : List String := ["int", "bool", "str", "list", "tuple", "dict"]
/-- what can be a test -/
def CE.tst : CE → Bool
  | .ite .. => false
  | _ => true
def isNameE (s : String) (sc : Scope) : Expr → Bool
  | .Name x _ => decide (x = Str.ofString s) && gloB sc x && okName x
  | _ => false

/-- a def that may be called here -/
def callB (D : Tbl) (N : List Str) (f : String) : Bool := match D.fn f with
  | some fd => !grd fd || decide (("<repr>" : Str) ∈ N)
  | none => false
/-- a def that uses no repr -/
def nogB (D : Tbl) (f : String) : Bool := match D.fn f with
  | some fd => !grd fd
  | none => false
theorem callB_ok {D : Tbl} {N : List Str} {f : String} {P : Prop} (h : callB D N f = true) (g : ("<repr>" : Str) ∈ N → P) : ∀ fd, D.fn f = some fd → grd fd = true → P := fun fd e z => by
  unfold callB at h
  rw [e] at h
  dsimp only at h
  rw [z, Bool.not_true, Bool.false_or, decide_eq_true_eq] at h
  exact g h
theorem nogB_ok {D : Tbl} {f : String} (h : nogB D f = true) : ∃ fd, D.fn f = some fd ∧ grd fd = false := by
  unfold nogB at h
  split at h
  · rename_i fd e
    exact ⟨fd, e, by simpa using h⟩
  · cases h
/-- names of slots as arguments -/
def varsB (N : List Str) (sc : Scope) : List Nat → List Expr → Bool
  | [], es => es.isEmpty
  | i :: is, es => match es with
    | .Name x _ :: es => decide (N[i]? = some x) && visB sc x && okName x && varsB N sc is es
    | _ => false
def kwsB (N : List Str) (sc : Scope) : List String → List Nat → List Keyword → Bool
  | [], js, kws => js.isEmpty && kws.isEmpty
  | k :: ks, js, kws => match js, kws with
    | j :: js, ⟨nm, .Name x _, _⟩ :: kws => decide (nm = some (Str.ofString k)) && decide (N[j]? = some x) && visB sc x && okName x && kwsB N sc ks js kws
    | _, _ => false
mutual
def chkE (D : Tbl) (N : List Str) : CE → (raw sc : Scope) → Expr → Bool
  | .var i, raw, sc, e => match e with
    | .Name x _ => decide (N[i]? = some x) && visB sc x && okName x
    | _ => false
  | .int i, raw, sc, e => match e with
    | .Constant (.int j) _ _ => decide (i = j)
    | _ => false
  | .bl b, raw, sc, e => match e with
    | .Constant (.bool c) _ _ => decide (b = c)
    | _ => false
  | .non, raw, sc, e => match e with
    | .Constant .none _ _ => true
    | _ => false
  | .str x, raw, sc, e => match e with
    | .Constant (.str y) _ _ => decide (Str.ofString x = y)
    | _ => false
  | .glob x, raw, sc, e => match e with
    | .Name y _ => decide (Str.ofString x = y) && gloB sc y && okName y && (D.gl x).isSome
    | _ => false
  | .bin op a b, raw, sc, e => match e with
    | .BinOp a' o b' _ => decide (op.o = o) && chkE D N a raw sc a' && chkE D N b raw sc b'
    | _ => false
  | .neg a, raw, sc, e => match e with
    | .UnaryOp .USub a' _ => chkE D N a raw sc a'
    | _ => false
  | .inv a, raw, sc, e => match e with
    | .UnaryOp .Invert a' _ => chkE D N a raw sc a'
    | _ => false
  | .not a, raw, sc, e => match e with
    | .UnaryOp .Not a' _ => a.tst && chkE D N a raw sc a'
    | _ => false
  | .cmp op a b, raw, sc, e => match e with
    | .Compare a' [o] [b'] _ => decide (op.o = o) && noSet b' && chkE D N a raw sc a' && chkE D N b raw sc b'
    | _ => false
  | .chn op op2 a b c, raw, sc, e => match e with
    | .Compare a' [o, o2] [b', c'] _ => decide (op.o = o) && decide (op2.o = o2) && noSet c' && chkE D N a raw sc a' && chkE D N b raw sc b' && chkE D N c raw sc c'
    | _ => false
  | .isN a, raw, sc, e => match e with
    | .Compare a' [.Is] [.Constant .none _ _] _ => chkE D N a raw sc a'
    | _ => false
  | .isnN a, raw, sc, e => match e with
    | .Compare a' [.IsNot] [.Constant .none _ _] _ => chkE D N a raw sc a'
    | _ => false
  | .and es, raw, sc, e => match e with
    | .BoolOp .And es' _ => chkT D N es raw sc es'
    | _ => false
  | .or es, raw, sc, e => match e with
    | .BoolOp .Or es' _ => chkT D N es raw sc es'
    | _ => false
  | .ite c a b, raw, sc, e => match e with
    | .IfExp c' a' b' _ => c.tst && chkE D N c raw sc c' && chkE D N a raw sc a' && chkE D N b raw sc b'
    | _ => false
  | .tup es, raw, sc, e => match e with
    | .Tuple es' _ _ => chkEs D N es raw sc es'
    | _ => false
  | .lst es, raw, sc, e => match e with
    | .List es' _ => chkEs D N es raw sc es'
    | _ => false
  | .dic ps, raw, sc, e => match e with
    | .Dict ks vs _ => chkKV D N ps raw sc ks vs && decide (ks.length ≤ 15)
    | _ => false
  | .idx a i, raw, sc, e => match e with
    | .Subscript a' i' _ => noSlice i' && chkE D N a raw sc a' && chkE D N i raw sc i'
    | _ => false
  | .slc a lo hi, raw, sc, e => match e with
    | .Subscript a' (.Slice l h none _) _ => chkE D N a raw sc a' && chkO D N lo raw sc l && chkO D N hi raw sc h
    | _ => false
  | .rev a, raw, sc, e => match e with
    | .Subscript a' (.Slice none none (some (.UnaryOp .USub (.Constant (.int 1) _ _) _)) _) _ => chkE D N a raw sc a'
    | _ => false
  | .call f as, raw, sc, e => match e with
    | .Call (.Name x _) es [] _ => decide (x = Str.ofString f) && gloB sc x && okName x && callB D N f && chkEs D N as raw sc es
    | _ => false
  | .new c g a, raw, sc, e => match e with
    | .Call (.Name x _) [a'] [] _ => decide (x = Str.ofString c) && gloB sc x && okName x && noStar a' && decide ((c, g) ∈ D.nw) && chkE D N a raw sc a'
    | _ => false
  | .callK f as ks vs, raw, sc, e => match e with
    | .Call (.Name x _) es kws _ => decide (x = Str.ofString f) && gloB sc x && okName x && callB D N f && decide ((f, es.length, ks) ∈ D.kw) && chkEs D N as raw sc es && chkKW D N vs raw sc ks kws
    | _ => false
  | .blt b as, raw, sc, e => match e with
    | .Call (.Name x _) (a' :: es) [] _ => decide (x = Str.ofString b.x) && gloB sc x && okName x && (!decide (b = .repr) || decide (("<repr>" : Str) ∈ N)) && chkEs D N as raw sc (a' :: es)
    | _ => false
  | .sset a, raw, sc, e => match e with
    | .Call (.Name x _) [.Call (.Name y _) [a'] [] _] [] _ => decide (x = "sorted") && gloB sc x && okName x && decide (y = "set") && gloB sc y && okName y && noStar a' && chkE D N a raw sc a'
    | _ => false
  | .lset a, raw, sc, e => match e with
    | .Call (.Name x _) [.Call (.Name y _) [a'] [] _] [] _ => decide (x = "len") && gloB sc x && okName x && decide (y = "set") && gloB sc y && okName y && noStar a' && chkE D N a raw sc a'
    | _ => false
  | .isiT a ts, raw, sc, e => match e with
    | .Call (.Name x _) [a', t'] [] _ => decide (x = "isinstance") && gloB sc x && okName x && (noStar a' && decide (ts.length ≤ 100)) && ts.all (tyNames.contains ·) && chkE D N a raw sc a' &&
      (match ts, t' with
        | [t], .Name y _ => decide (y = Str.ofString t) && gloB sc y && okName y
        | ts, .Tuple es _ _ => decide (2 ≤ ts.length) && decide (ts.length = es.length) && (ts.zip es).all fun p => isNameE p.1 sc p.2
        | _, _ => false)
    | _ => false
  | .mth m o as, raw, sc, e => match e with
    | .Call (.Attribute o' x ap) es [] cp => decide (x = Str.ofString m.x) && noCall0 o' && (ap.endLine == cp.line) && decide (es.length < 20) && chkE D N o raw sc o' && chkEs D N as raw sc es
    | _ => false
  | .told g f is ks js, raw, sc, e => match e with
    | .Call (.Name x _) [.Lambda ⟨[], [], none, [], [], none, []⟩ (.Call (.Name y _) es kws _) scope _] [] _ => decide (x = Str.ofString g) && gloB sc x && okName x && (D.td g).isSome && decide (("<lambda>" : Str) ∈ N) && LamX.lamSB sc scope &&
      decide (y = Str.ofString f) && gloB scope y && okName y && nogB D f && varsB N scope is es && (if ks.isEmpty then kws.isEmpty && js.isEmpty else decide ((f, es.length, ks) ∈ D.kw) && kwsB N scope ks js kws)
    | _ => false
  | .rngL it, raw, sc, e => match e with
    | .Call (.Name x _) [r] [] _ => decide (x = "list") && gloB sc x && okName x && noStar r && chkR D N it raw sc r
    | _ => false
  | .rngT it, raw, sc, e => match e with
    | .Call (.Name x _) [r] [] _ => decide (x = "tuple") && gloB sc x && okName x && noStar r && chkR D N it raw sc r
    | _ => false
  | .comp own tg it c elt, raw, sc, e => match e with
    | .ListComp elt' [⟨tg', it', ifs, 0⟩] scope _ => blkC N sc scope (own.map fun i => (N.getD i "", i)) && own.all (fun i => decide (i < N.length)) && tg.vars.all (own.contains ·) && noSet it' && chkI D N it raw sc it' (isTupE tg') && chkG D N tg scope (relS scope sc) tg' && chkC D N c scope (relS scope sc) ifs &&
        chkE D N elt scope (relS scope sc) elt'
    | _ => false
def chkEs (D : Tbl) (N : List Str) : CEs → (raw sc : Scope) → List Expr → Bool
  | .nil, raw, sc, es => match es with
    | [] => true
    | _ => false
  | .cons c cs, raw, sc, es => match es with
    | e :: r => noStar e && chkE D N c raw sc e && chkEs D N cs raw sc r
    | [] => false
/-- operands of and, or -/
def chkT (D : Tbl) (N : List Str) : CEs → (raw sc : Scope) → List Expr → Bool
  | .nil, raw, sc, es => false
  | .cons c cs, raw, sc, es => match cs, es with
    | .nil, [e] => c.tst && chkE D N c raw sc e
    | cs, e :: e2 :: r => c.tst && chkE D N c raw sc e && chkT D N cs raw sc (e2 :: r)
    | _, _ => false
def chkKV (D : Tbl) (N : List Str) : CKs → (raw sc : Scope) → List (Option Expr) → List Expr → Bool
  | .nil, raw, sc, ks, vs => match ks, vs with
    | [], [] => true
    | _, _ => false
  | .cons k v r, raw, sc, ks, vs => match ks, vs with
    | some k' :: ks, v' :: vs => chkE D N k raw sc k' && chkE D N v raw sc v' && chkKV D N r raw sc ks vs
    | _, _ => false
def chkKW (D : Tbl) (N : List Str) : CEs → (raw sc : Scope) → List String → List Keyword → Bool
  | .nil, raw, sc, ks, kws => match ks, kws with
    | [], [] => true
    | _, _ => false
  | .cons c cs, raw, sc, ks, kws => match ks, kws with
    | k :: ks, ⟨nm, v, _⟩ :: kws => decide (nm = some (Str.ofString k)) && chkE D N c raw sc v && chkKW D N cs raw sc ks kws
    | _, _ => false
def chkO (D : Tbl) (N : List Str) : CO → (raw sc : Scope) → Option Expr → Bool
  | .no, raw, sc, o => match o with
    | none => true
    | _ => false
  | .so c, raw, sc, o => match o with
    | some e => chkE D N c raw sc e
    | _ => false
def chkC (D : Tbl) (N : List Str) : CO → (raw sc : Scope) → List Expr → Bool
  | .no, raw, sc, o => match o with
    | [] => true
    | _ => false
  | .so c, raw, sc, o => match o with
    | [e] => c.tst && chkE D N c raw sc e
    | _ => false
/-- a range's call -/
def chkR (D : Tbl) (N : List Str) : CI → (raw sc : Scope) → Expr → Bool
  | .rng1 a, raw, sc, e => match e with
    | .Call (.Name x _) [a'] [] _ => decide (x = "range") && gloB sc x && okName x && noStar a' && chkE D N a raw sc a'
    | _ => false
  | .rng2 a b, raw, sc, e => match e with
    | .Call (.Name x _) [a', b'] [] _ => decide (x = "range") && gloB sc x && okName x && noStar a' && noStar b' && chkE D N a raw sc a' && chkE D N b raw sc b'
    | _ => false
  | _, _, _, _ => false
def chkI (D : Tbl) (N : List Str) : CI → (raw sc : Scope) → Expr → Bool → Bool
  | .val a, raw, sc, e, _ => chkE D N a raw sc e
  | .rng1 a, raw, sc, e, _ => match e with
    | .Call (.Name x _) [a'] [] _ => decide (x = "range") && gloB sc x && okName x && noStar a' && chkE D N a raw sc a'
    | _ => false
  | .rng2 a b, raw, sc, e, _ => match e with
    | .Call (.Name x _) [a', b'] [] _ => decide (x = "range") && gloB sc x && okName x && noStar a' && noStar b' && chkE D N a raw sc a' && chkE D N b raw sc b'
    | _ => false
  | .rng3 a b c, raw, sc, e, _ => match e with
    | .Call (.Name x _) [a', b', c'] [] _ => decide (x = "range") && gloB sc x && okName x && noStar a' && noStar b' && noStar c' && chkE D N a raw sc a' && chkE D N b raw sc b' && chkE D N c raw sc c'
    | _ => false
  | .enum a, raw, sc, e, tp => tp && match e with
    | .Call (.Name x _) [a'] [] _ => decide (x = "enumerate") && gloB sc x && okName x && noStar a' && chkE D N a raw sc a'
    | _ => false
  | .zip a b, raw, sc, e, tp => tp && match e with
    | .Call (.Name x _) [a', b'] [] _ => decide (x = "zip") && gloB sc x && okName x && noStar a' && noStar b' && chkE D N a raw sc a' && chkE D N b raw sc b'
    | _ => false
def chkG (D : Tbl) (N : List Str) : Tg → (raw sc : Scope) → Expr → Bool
  | .var i, raw, sc, e => match e with
    | .Name x _ => decide (N[i]? = some x) && (locB raw x || celB raw x) && okName x
    | _ => false
  | .tup ts, raw, sc, e => match e with
    | .Tuple es _ _ => chkGs D N ts raw sc es
    | _ => false
  | .sub o i, raw, sc, e => match e with
    | .Subscript o' i' _ => noSlice i' && chkE D N o raw sc o' && chkE D N i raw sc i'
    | _ => false
def chkGs (D : Tbl) (N : List Str) : Tgs → (raw sc : Scope) → List Expr → Bool
  | .nil, raw, sc, es => match es with
    | [] => true
    | _ => false
  | .cons t ts, raw, sc, es => match es with
    | e :: r => noStar e && chkG D N t raw sc e && chkGs D N ts raw sc r
    | _ => false
end
end MP

set_option Elab.async false
set_option linter.all false
set_option maxRecDepth 100000
/-! MiniPy, part G: each form of expression, its parts given -/
namespace MP
open PySem PySem.Spec PyProof.Rows L2
variable [tt : Mkr]
theorem Kn.mono {K : PySem.W.Frag} {mg : Str → Option Value} {ρ ρ1 : List Addr} {H H1 : Hp} {h' : Hh} {t : T} {Q : VK} (k : Kn K mg ρ H h' t Q) (e : Ext ρ H ρ1 H1) : Kn K mg ρ1 H1 h' t Q :=
  fun ρ' H' v E G r => k ρ' H' v (e.trans E) G r
theorem RT.isNon {K : PySem.W.Frag} {mg : Str → Option Value} {ρ : List Addr} {H : Hp} {t : T} {v : V} (r : RT K mg ρ H t v) : decide (v = .non) = t.isNone := by
  cases r <;> simp [T.isNone]
section
variable {D : Tbl} {n : Nat} {X : Cx} {raw sc : Scope} {N : List Str}
abbrev M1 (D : Tbl) (n : Nat) (X : Cx) (c : CE) : TE := rd X.K X.mg (evE D (callN D n) c)
abbrev M1T (D : Tbl) (n : Nat) (X : Cx) (c : CE) : TT := rdT X.K X.mg (evE D (callN D n) c)
theorem rdT_rd {K : PySem.W.Frag} {mg : Str → Option Value} {m : Ls → Hh → R T} {σ : L2.St} {H : Hp} {Q : Bool → Hp → Prop} (q : rdT K mg m σ H Q) : rd K mg m σ H (fun x H1 => ∃ c, x = .bl c ∧ Q c H1) := by
  obtain ⟨ρ, ls, h, b, h', g, rs, e, k⟩ := q
  exact ⟨ρ, ls, h, .bl b, h', g, rs, e, fun ρ' H' v E G r => by cases r; exact ⟨b, rfl, k ρ' H' E G⟩⟩
theorem pt_of {c : CE} {e : Expr} (p : PE X e (M1 D n X c)) (he : ∀ whole, isTrue e X.env whole = (do let v ← whole; standAt e.pos; holding [v] (truthy v))) : PT X e (M1T D n X c) :=
  (pt_val p he).imp fun σ H Q q => rdT_rd q
theorem px_var {i : Nat} {x : Str} {pos : Pos} (o : XO D n X raw sc N) (hi : N[i]? = some x) (hv : visB sc x = true) (hk : okName x = true) : PE X (.Name x pos) (M1 D n X (.var i)) := by
  have hN : X.N[i]? = some x := by rw [o.eN]; exact hi
  have hV : Vis X.env.scope x := by rw [o.esc]; exact visB_ok hv
  refine (pe_var hN hV (okName_ok hk).1 (okName_ok hk).2.1).imp fun σ H Q q => ?_
  obtain ⟨ρ, ls, h, t, h', g, rs, e, k⟩ := q
  unfold evE at e
  split at e
  · rename_i t' et
    cases e
    obtain ⟨v, h1, h2⟩ := rs.get i _ et
    exact ⟨v, h1, k.now g h2⟩
  · cases e
theorem px_int {i : Int} {j : Nat} {pos : Pos} : PE X (.Constant (.int i) j pos) (M1 D n X (.int i)) :=
  pe_int.imp fun σ H Q ⟨ρ, ls, h, t, h', g, rs, e, k⟩ => by cases e; exact k.now g (.int _)
theorem px_bl {i : Bool} {j : Nat} {pos : Pos} : PE X (.Constant (.bool i) j pos) (M1 D n X (.bl i)) :=
  pe_bl.imp fun σ H Q ⟨ρ, ls, h, t, h', g, rs, e, k⟩ => by cases e; exact k.now g (.bl _)
theorem px_non {j : Nat} {pos : Pos} : PE X (.Constant .none j pos) (M1 D n X .non) :=
  pe_non.imp fun σ H Q ⟨ρ, ls, h, t, h', g, rs, e, k⟩ => by cases e; exact k.now g .non
theorem px_str {x : String} {j : Nat} {pos : Pos} : PE X (.Constant (.str (Str.ofString x)) j pos) (M1 D n X (.str x)) :=
  pe_str.imp fun σ H Q ⟨ρ, ls, h, t, h', g, rs, e, k⟩ => by cases e; exact k.now g (.str _)
theorem px_glob {x : String} {pos : Pos} (o : XO D n X raw sc N) (hg : gloB sc (Str.ofString x) = true) (hk : okName (Str.ofString x) = true) : PE X (.Name (Str.ofString x) pos) (M1 D n X (.glob x)) := by
  cases et : D.gl x with
  | none =>
    refine ⟨fun pins s σ H Q I q => ?_⟩
    obtain ⟨ρ, ls, h, t, h', g, rs, e, k⟩ := q
    unfold evE at e
    rw [et] at e
    cases e
  | some t0 =>
    obtain ⟨u, v, hm, r, rt⟩ := o.gls x t0 et
    have hG : Gl X (Str.ofString x) := by show X.env.scope.names.lookup _ = _; rw [o.esc]; exact gloB_ok hg
    refine (pe_glob hG hm r (okName_ok hk).1).imp fun σ H Q q => ?_
    obtain ⟨ρ, ls, h, t, h', g, rs, e, k⟩ := q
    unfold evE at e
    rw [et] at e
    cases e
    exact k.now g (rt ρ H)
theorem px_bin {op : Bop} {a b : CE} {a' b' : Expr} {pos : Pos} (pa : PE X a' (M1 D n X a)) (pb : PE X b' (M1 D n X b)) : PE X (.BinOp a' op.o b' pos) (M1 D n X (.bin op a b)) :=
  (pe_op (op_bin op) pa pb).imp fun σ H Q ⟨ρ, ls, h, t, h', g, rs, e, k⟩ => by
    unfold evE at e
    obtain ⟨x, h1, e1, e⟩ := R.bd_eq_ok e
    obtain ⟨y, h2, e2, e⟩ := R.bd_eq_ok e
    exact ⟨ρ, ls, h, x, h1, g, rs, e1, fun ρ1 H1 v1 E1 G1 r1 => ⟨ρ1, ls, h1, y, h2, G1, rs.ext E1, e2, fun ρ2 H2 v2 E2 G2 r2 => ⟨ρ2, h2, x, y, t, h', G2, r1.ext E2, r2, e, k.mono (E1.trans E2)⟩⟩⟩
theorem cmp_rd {op : Cop} {a b : CE} {σ : L2.St} {H : Hp} {Q : VK} (q : M1 D n X (.cmp op a b) σ H Q) : tOp (rOp X.K X.mg (cmpT op)) (M1 D n X a) (M1 D n X b) σ H Q := by
  obtain ⟨ρ, ls, h, t, h', g, rs, e, k⟩ := q
  unfold evE at e
  obtain ⟨x, h1, e1, e⟩ := R.bd_eq_ok e
  obtain ⟨y, h2, e2, e⟩ := R.bd_eq_ok e
  exact ⟨ρ, ls, h, x, h1, g, rs, e1, fun ρ1 H1 v1 E1 G1 r1 => ⟨ρ1, ls, h1, y, h2, G1, rs.ext E1, e2, fun ρ2 H2 v2 E2 G2 r2 => ⟨ρ2, h2, x, y, t, h', G2, r1.ext E2, r2, e, k.mono (E1.trans E2)⟩⟩⟩
theorem px_cmp {op : Cop} {a b : CE} {a' b' : Expr} {pos : Pos} (o : XO D n X raw sc N) (hs : noSet b' = true) (pa : PE X a' (M1 D n X a)) (pb : PE X b' (M1 D n X b)) :
    PE X (.Compare a' [op.o] [b'] pos) (M1 D n X (.cmp op a b)) ∧ PT X (.Compare a' [op.o] [b'] pos) (M1T D n X (.cmp op a b)) := by
  have hu : X.A.units + 65 < cLine := by have := o.hu; omega
  exact ⟨(pe_cmpR (op_cmp op hu) pa pb (beh_of hs)).imp fun σ H Q q => cmp_rd q, (pt_cmpR (op_cmp op hu) pa pb (beh_of hs)).imp fun σ H Q q => cmp_rd (rdT_rd q)⟩
theorem chn_rd {op op' : Cop} {a b c : CE} {σ : L2.St} {H : Hp} {Q : VK} (q : M1 D n X (.chn op op' a b c) σ H Q) : tChain (rOp X.K X.mg (cmpT op)) (rOp X.K X.mg (cmpT op')) (M1 D n X a) (M1 D n X b) (M1 D n X c) σ H Q := by
  obtain ⟨ρ, ls, h, t, h', g, rs, e, k⟩ := q
  unfold evE at e
  obtain ⟨x, h1, e1, e⟩ := R.bd_eq_ok e
  obtain ⟨y, h2, e2, e⟩ := R.bd_eq_ok e
  obtain ⟨z, h3, e3, e⟩ := R.bd_eq_ok e
  refine ⟨ρ, ls, h, x, h1, g, rs, e1, fun ρ1 H1 v1 E1 G1 r1 => ⟨ρ1, ls, h1, y, h2, G1, rs.ext E1, e2, fun ρ2 H2 v2 E2 G2 r2 => ⟨ρ2, h2, x, y, z, h3, G2, r1.ext E2, r2, e3, fun ρ3 H3 v3 E3 G3 r3 => ?_⟩⟩⟩
  split at e
  · cases r3
    obtain ⟨u, h4, e4, e⟩ := R.bd_eq_ok e
    refine ⟨true, rfl, ?_⟩
    rw [if_pos rfl]
    exact ⟨ρ3, ls, h3, u, h4, G3, rs.ext (E1.trans (E2.trans E3)), e4, fun ρ4 H4 v4 E4 G4 r4 => ⟨ρ4, h4, y, u, t, h', G4, r2.ext (E3.trans E4), r4, e, k.mono (E1.trans (E2.trans (E3.trans E4)))⟩⟩
  · cases r3
    cases e
    refine ⟨false, rfl, ?_⟩
    rw [if_neg (by decide)]
    exact k _ _ _ (E1.trans (E2.trans E3)) G3 (.bl false)
  · cases e
theorem px_chn {op op' : Cop} {a b c : CE} {a' b' c' : Expr} {pos : Pos} (o : XO D n X raw sc N) (hs : noSet c' = true) (pa : PE X a' (M1 D n X a)) (pb : PE X b' (M1 D n X b)) (pc : PE X c' (M1 D n X c)) :
    PE X (.Compare a' [op.o, op'.o] [b', c'] pos) (M1 D n X (.chn op op' a b c)) ∧ PT X (.Compare a' [op.o, op'.o] [b', c'] pos) (M1T D n X (.chn op op' a b c)) := by
  have hu : X.A.units + 65 < cLine := by have := o.hu; omega
  exact ⟨(pe_chain (op_cmp op hu) (op_cmp op' hu) pa pb pc (beh_of hs)).imp fun σ H Q q => chn_rd q, (pt_chain (op_cmp op hu) (op_cmp op' hu) pa pb pc (beh_of hs)).imp fun σ H Q q => chn_rd (rdT_rd q)⟩
theorem isN_rd {a : CE} {σ : L2.St} {H : Hp} {Q : VK} (q : M1 D n X (.isN a) σ H Q) : tIsN (M1 D n X a) σ H Q := by
  obtain ⟨ρ, ls, h, t, h', g, rs, e, k⟩ := q
  unfold evE at e
  obtain ⟨x, h1, e1, e⟩ := R.bd_eq_ok e
  cases e
  refine ⟨ρ, ls, h, x, _, g, rs, e1, fun ρ1 H1 v1 E1 G1 r1 => ?_⟩
  show Q (.bl (decide (v1 = .non))) H1
  rw [r1.isNon]
  exact k _ _ _ E1 G1 (.bl _)
theorem isnN_rd {a : CE} {σ : L2.St} {H : Hp} {Q : VK} (q : M1 D n X (.isnN a) σ H Q) : tNotN (M1 D n X a) σ H Q := by
  obtain ⟨ρ, ls, h, t, h', g, rs, e, k⟩ := q
  unfold evE at e
  obtain ⟨x, h1, e1, e⟩ := R.bd_eq_ok e
  cases e
  refine ⟨ρ, ls, h, x, _, g, rs, e1, fun ρ1 H1 v1 E1 G1 r1 => ?_⟩
  show Q (.bl (!decide (v1 = .non))) H1
  rw [r1.isNon]
  exact k _ _ _ E1 G1 (.bl _)
theorem px_isN {a : CE} {a' : Expr} {j : Nat} {pos pos' : Pos} (pa : PE X a' (M1 D n X a)) : PE X (.Compare a' [.Is] [.Constant .none j pos'] pos) (M1 D n X (.isN a)) ∧ PT X (.Compare a' [.Is] [.Constant .none j pos'] pos) (M1T D n X (.isN a)) :=
  ⟨(pe_cmp (pc_isN pa) rfl).imp fun σ H Q q => isN_rd q, (pt_cmp (pc_isN pa) rfl).imp fun σ H Q q => isN_rd (rdT_rd q)⟩
theorem px_isnN {a : CE} {a' : Expr} {j : Nat} {pos pos' : Pos} (pa : PE X a' (M1 D n X a)) : PE X (.Compare a' [.IsNot] [.Constant .none j pos'] pos) (M1 D n X (.isnN a)) ∧ PT X (.Compare a' [.IsNot] [.Constant .none j pos'] pos) (M1T D n X (.isnN a)) :=
  ⟨(pe_cmp (pc_notN pa) rfl).imp fun σ H Q q => isnN_rd q, (pt_cmp (pc_notN pa) rfl).imp fun σ H Q q => isnN_rd (rdT_rd q)⟩
theorem px_neg {a : CE} {a' : Expr} {pos : Pos} (pa : PE X a' (M1 D n X a)) : PE X (.UnaryOp .USub a' pos) (M1 D n X (.neg a)) :=
  (pe_un un_negA pa).imp fun σ H Q ⟨ρ, ls, h, t, h', g, rs, e, k⟩ => by
    unfold evE at e
    obtain ⟨x, h1, e1, e⟩ := R.bd_eq_ok e
    split at e
    · cases e
      exact ⟨ρ, ls, h, _, _, g, rs, e1, fun ρ1 H1 v1 E1 G1 r1 => by cases r1; exact .inl ⟨_, rfl, k _ _ _ E1 G1 (.int _)⟩⟩
    · cases e
      exact ⟨ρ, ls, h, _, _, g, rs, e1, fun ρ1 H1 v1 E1 G1 r1 => by cases r1; exact .inr ⟨_, rfl, k _ _ _ E1 G1 (.int _)⟩⟩
    · cases e
theorem px_inv {a : CE} {a' : Expr} {pos : Pos} (pa : PE X a' (M1 D n X a)) : PE X (.UnaryOp .Invert a' pos) (M1 D n X (.inv a)) :=
  (pe_un un_inv pa).imp fun σ H Q ⟨ρ, ls, h, t, h', g, rs, e, k⟩ => by
    unfold evE at e
    obtain ⟨x, h1, e1, e⟩ := R.bd_eq_ok e
    split at e
    · cases e
      exact ⟨ρ, ls, h, _, _, g, rs, e1, fun ρ1 H1 v1 E1 G1 r1 => by cases r1; exact ⟨_, rfl, k _ _ _ E1 G1 (.int _)⟩⟩
    · cases e
theorem px_not {a : CE} {a' : Expr} {pos : Pos} (pa : PE X a' (M1 D n X a)) (ta : PT X a' (M1T D n X a)) : PE X (.UnaryOp .Not a' pos) (M1 D n X (.not a)) ∧ PT X (.UnaryOp .Not a' pos) (M1T D n X (.not a)) := by
  refine ⟨(pe_not pa).imp fun σ H Q ⟨ρ, ls, h, t, h', g, rs, e, k⟩ => ?_, (pt_not ta).imp fun σ H Q ⟨ρ, ls, h, b, h', g, rs, e, k⟩ => ?_⟩
  · unfold evE at e
    obtain ⟨x, h1, e1, e⟩ := R.bd_eq_ok e
    split at e
    · cases e
      exact ⟨ρ, ls, h, _, _, g, rs, e1, fun ρ1 H1 v1 E1 G1 r1 => by cases r1; exact ⟨_, rfl, k _ _ _ E1 G1 (.bl _)⟩⟩
    · cases e
  · unfold evE at e
    obtain ⟨x, h1, e1, e⟩ := R.bd_eq_ok e
    split at e
    · cases e
      exact ⟨ρ, ls, h, _, _, g, rs, e1, fun ρ1 H1 E1 G1 => k _ _ E1 G1⟩
    · cases e
theorem px_ite {c a b : CE} {c' a' b' : Expr} {pos : Pos} (tc : PT X c' (M1T D n X c)) (pa : PE X a' (M1 D n X a)) (pb : PE X b' (M1 D n X b)) : PE X (.IfExp c' a' b' pos) (M1 D n X (.ite c a b)) :=
  (pe_ifExp tc pa pb).imp fun σ H Q ⟨ρ, ls, h, t, h', g, rs, e, k⟩ => by
    unfold evE at e
    obtain ⟨x, h1, e1, e⟩ := R.bd_eq_ok e
    split at e
    · exact ⟨ρ, ls, h, true, h1, g, rs, e1, fun ρ1 H1 E1 G1 => iteT ⟨ρ1, ls, h1, t, h', G1, rs.ext E1, e, k.mono E1⟩⟩
    · exact ⟨ρ, ls, h, false, h1, g, rs, e1, fun ρ1 H1 E1 G1 => iteF ⟨ρ1, ls, h1, t, h', G1, rs.ext E1, e, k.mono E1⟩⟩
    · cases e
/-! ### argument lists -/
abbrev MA (D : Tbl) (n : Nat) (X : Cx) (cs : CEs) : TA := rdA X.K X.mg (evEs D (callN D n) cs)
theorem px_nil : PA X [] (MA D n X .nil) := pa_nil.imp fun σ H Q ⟨ρ, ls, h, t, h', g, rs, e, k⟩ => by
  unfold evEs at e
  cases e
  exact k _ _ _ Ext.refl g .nil
theorem px_cons {c : CE} {cs : CEs} {e : Expr} {es : List Expr} (hs : noStar e = true) (p : PE X e (M1 D n X c)) (q : PA X es (MA D n X cs)) : PA X (e :: es) (MA D n X (.cons c cs)) :=
  (pa_cons p q (star_cons hs)).imp fun σ H Q ⟨ρ, ls, h, t, h', g, rs, e, k⟩ => by
    unfold evEs at e
    obtain ⟨x, h1, e1, e⟩ := R.bd_eq_ok e
    obtain ⟨xs, h2, e2, e⟩ := R.bd_eq_ok e
    cases e
    exact ⟨ρ, ls, h, x, h1, g, rs, e1, fun ρ1 H1 v1 E1 G1 r1 => ⟨ρ1, ls, h1, xs, _, G1, rs.ext E1, e2, fun ρ2 H2 v2 E2 G2 r2 => k _ _ _ (E1.trans E2) G2 (.cons (r1.ext E2) r2)⟩⟩
theorem px_tup {cs : CEs} {es : List Expr} {j : Nat} {pos : Pos} (p : PA X es (MA D n X cs)) : PE X (.Tuple es j pos) (M1 D n X (.tup cs)) :=
  (pe_tup p).imp fun σ H Q ⟨ρ, ls, h, t, h', g, rs, e, k⟩ => by
    unfold evE at e
    obtain ⟨xs, h1, e1, e⟩ := R.bd_eq_ok e
    obtain ⟨hl, rfl, rfl⟩ := newT_ok e
    exact ⟨ρ, ls, h, xs, _, g, rs, e1, fun ρ1 H1 vs E1 G1 r1 => ⟨line_le (by rw [← r1.length]; exact hl), fun p hp => (k.mono E1).tup G1 r1 hp⟩⟩
theorem px_lst {cs : CEs} {es : List Expr} {pos : Pos} (p : PA X es (MA D n X cs)) : PE X (.List es pos) (M1 D n X (.lst cs)) :=
  (pe_lst p).imp fun σ H Q ⟨ρ, ls, h, t, h', g, rs, e, k⟩ => by
    unfold evE at e
    obtain ⟨xs, h1, e1, e⟩ := R.bd_eq_ok e
    obtain ⟨hl, rfl, rfl⟩ := newL_ok e
    exact ⟨ρ, ls, h, xs, _, g, rs, e1, fun ρ1 H1 vs E1 G1 r1 => ⟨line_le (by rw [← r1.length]; exact hl), fun p hp => (k.mono E1).lst G1 r1 hp⟩⟩
theorem ix_road {K : PySem.W.Frag} {mg : Str → Option Value} {ρ2 : List Addr} {H2 : Hp} {h2 h' : Hh} {x y t : T} {v1 v2 : V} {Q : VK} (G2 : G K mg ρ2 H2 h2) (r1' : RT K mg ρ2 H2 x v1) (r2 : RT K mg ρ2 H2 y v2) (e : idxT x y h2 = .ok t h') (k' : Kn K mg ρ2 H2 h' t Q)
    (hd : ¬ ∃ m kvs, x = .ref m ∧ h2[m]? = some (.dK kvs)) : rIx K v1 v2 H2 Q := by
    unfold idxT at e
    split at e
    · rename_i xs kk
      split at e
      · rename_i v ev
        cases e
        obtain ⟨a0, vs, rfl, s1, q1⟩ := r1'.tupAt
        cases r2
        obtain ⟨w, hw, rw'⟩ := q1.at ev
        exact .inr (.inl ⟨a0, vs, kk, w, rfl, rfl, s1, hw, k'.now G2 rw'⟩)
      · cases e
    · rename_i m y'
      split at e
      · rename_i xs kk em
        split at e
        · rename_i v ev
          cases e
          cases r1' with
          | ref p1 =>
            cases r2
            obtain ⟨vs, m1, q1⟩ := G2.mutL p1 (xs := xs) (by unfold mutL; rw [em])
            obtain ⟨w, hw, rw'⟩ := q1.at ev
            exact .inl ⟨_, vs, kk, w, rfl, rfl, SqL.of m1, hw, k'.now G2 rw'⟩
        · cases e
      · rename_i kvs em
        exact absurd ⟨_, _, rfl, em⟩ hd
      · cases e
    · rename_i xs kk
      split at e
      · rename_i v ev
        cases e
        obtain ⟨a0, vs, rfl, s1, q1⟩ := G2.lsT r1' rfl
        cases r2
        obtain ⟨w, hw, rw'⟩ := q1.at ev
        exact .inl ⟨a0, vs, kk, w, rfl, rfl, s1, hw, k'.now G2 rw'⟩
      · cases e
    · rename_i z kk
      split at e
      · rename_i c ec
        split at e
        · rename_i hl
          cases e
          cases r1'
          cases r2
          exact .inr (.inr ⟨z, kk, c, rfl, rfl, line_le hl, ec, k'.now G2 (.str _)⟩)
        · cases e
      · cases e
    · cases e
/-! ### items, slices -/
theorem px_idx {a i : CE} {a' i' : Expr} {pos : Pos} (o : XO D n X raw sc N) (hs : noSlice i' = true) (pa : PE X a' (M1 D n X a)) (pb : PE X i' (M1 D n X i)) : PE X (.Subscript a' i' pos) (M1 D n X (.idx a i)) := by
  refine ⟨fun pins s σ H Q I q => ?_⟩
  obtain ⟨ρ, ls, h, t, h', g, rs, e, k⟩ := q
  unfold evE at e
  obtain ⟨x, h1, e1, e⟩ := R.bd_eq_ok e
  obtain ⟨y, h2, e2, e⟩ := R.bd_eq_ok e
  have hu : X.A.units + 1 < cLine := by have := o.hu; omega
  by_cases hd : ∃ m kvs, x = .ref m ∧ h2[m]? = some (.dK kvs)
  · obtain ⟨m, kvs, rfl, em⟩ := hd
    refine (pe_dget (pos := pos) hu pa pb (plain_of hs)).run pins s σ H Q I ⟨ρ, ls, h, _, h1, g, rs, e1, fun ρ1 H1 v1 E1 G1 r1 => ⟨ρ1, ls, h1, y, h2, G1, rs.ext E1, e2, fun ρ2 H2 v2 E2 G2 r2 => ?_⟩⟩
    have r1' := r1.ext E2
    unfold idxT at e
    simp only [em] at e
    cases r1' with
    | ref p1 =>
      split at e
      · rename_i kk ek
        split at e
        · rename_i tv el
          cases e
          obtain ⟨qs, m1, rk⟩ := G2.dK p1 em
          have ev := T.kt_ok ek r2
          subst ev
          obtain ⟨w, hw, rw'⟩ := (rk.look kk).1 _ el
          exact ⟨_, w, rfl, hw ▸ DGet.k m1, k _ _ _ (E1.trans E2) G2 rw'⟩
        · cases e
      · cases e
  · refine (pe_ix (pos := pos) ix_seq pa pb (plain_of hs)).run pins s σ H Q I ⟨ρ, ls, h, _, h1, g, rs, e1, fun ρ1 H1 v1 E1 G1 r1 => ⟨ρ1, ls, h1, y, h2, G1, rs.ext E1, e2, fun ρ2 H2 v2 E2 G2 r2 => ?_⟩⟩
    exact ix_road G2 (r1.ext E2) r2 e (k.mono (E1.trans E2)) hd
theorem px_no : PO X none (rdO X.K X.mg (evO D (callN D n) .no)) := po_none.imp fun σ H Q ⟨ρ, ls, h, t, h', g, rs, e, k⟩ => by
  unfold evO at e
  cases e
  exact k _ _ Ext.refl g
theorem px_so {c : CE} {e : Expr} (p : PE X e (M1 D n X c)) : PO X (some e) (rdO X.K X.mg (evO D (callN D n) (.so c))) := (po_some p).imp fun σ H Q ⟨ρ, ls, h, t, h', g, rs, e, k⟩ => by
  unfold evO at e
  obtain ⟨x, h1, e1, e⟩ := R.bd_eq_ok e
  split at e
  · cases e
    exact ⟨ρ, ls, h, _, _, g, rs, e1, fun ρ1 H1 v1 E1 G1 r1 => by cases r1; exact ⟨_, rfl, k _ _ E1 G1⟩⟩
  · cases e
theorem px_slc {a : CE} {lo hi : CO} {a' : Expr} {l u : Option Expr} {pos p2 : Pos} (pa : PE X a' (M1 D n X a)) (pl : PO X l (rdO X.K X.mg (evO D (callN D n) lo))) (pu : PO X u (rdO X.K X.mg (evO D (callN D n) hi))) :
    PE X (.Subscript a' (.Slice l u none p2) pos) (M1 D n X (.slc a lo hi)) := (pe_slice sl_all pa pl pu).imp fun σ H Q ⟨ρ, ls, h, t, h', g, rs, e, k⟩ => by
  unfold evE at e
  obtain ⟨x, h1, e1, e⟩ := R.bd_eq_ok e
  obtain ⟨y, h2, e2, e⟩ := R.bd_eq_ok e
  obtain ⟨z, h3, e3, e⟩ := R.bd_eq_ok e
  exact ⟨ρ, ls, h, x, h1, g, rs, e1, fun ρ1 H1 v1 E1 G1 r1 => ⟨ρ1, ls, h1, y, h2, G1, rs.ext E1, e2, fun ρ2 H2 E2 G2 => ⟨ρ2, ls, h2, z, h3, G2, rs.ext (E1.trans E2), e3, fun ρ3 H3 E3 G3 =>
    ⟨ρ3, h3, x, t, h', G3, r1.ext (E2.trans E3), e, k.mono (E1.trans (E2.trans E3))⟩⟩⟩⟩
theorem px_rev {a : CE} {a' : Expr} {j : Nat} {p1 p2 p3 pos : Pos} (pa : PE X a' (M1 D n X a)) : PE X (.Subscript a' (.Slice none none (some (.UnaryOp .USub (.Constant (.int 1) j p1) p2)) p3) pos) (M1 D n X (.rev a)) :=
  (pe_revA pa).imp fun σ H Q ⟨ρ, ls, h, t, h', g, rs, e, k⟩ => by
    unfold evE at e
    obtain ⟨x, h1, e1, e⟩ := R.bd_eq_ok e
    unfold revT at e
    split at e
    · cases e
      refine ⟨ρ, ls, h, _, _, g, rs, e1, fun ρ1 H1 v1 E1 G1 r1 => ?_⟩
      obtain ⟨a0, vs, rfl, s1, q1⟩ := r1.tupAt
      exact .inr ⟨a0, vs, rfl, s1, fun p hp => (k.mono E1).tup G1 q1.reverse hp⟩
    · split at e
      · rename_i xs ex
        obtain ⟨hl, rfl, rfl⟩ := newL_ok e
        refine ⟨ρ, ls, h, x, _, g, rs, e1, fun ρ1 H1 v1 E1 G1 r1 => ?_⟩
        obtain ⟨a0, vs, rfl, s1, q1⟩ := G1.lsT r1 ex
        exact .inl ⟨a0, vs, rfl, s1, fun p hp => (k.mono E1).lst G1 q1.reverse hp⟩
      · cases e
end
end MP

set_option Elab.async false
set_option linter.all false
set_option maxRecDepth 100000
/-! MiniPy, part H: and, or, displays of dicts, calls, methods -/
namespace MP
open PySem PySem.Spec PyProof.Rows L2
variable [tt : Mkr]
section
variable {D : Tbl} {n : Nat} {X : Cx} {raw sc : Scope} {N : List Str}
/-! ### and, or -/
abbrev MAnd (D : Tbl) (n : Nat) (X : Cx) (cs : CEs) : TE := rd X.K X.mg (evAnd D (callN D n) cs)
abbrev MAndT (D : Tbl) (n : Nat) (X : Cx) (cs : CEs) : TT := rdT X.K X.mg (evAnd D (callN D n) cs)
abbrev MOr (D : Tbl) (n : Nat) (X : Cx) (cs : CEs) : TE := rd X.K X.mg (evOr D (callN D n) cs)
abbrev MOrT (D : Tbl) (n : Nat) (X : Cx) (cs : CEs) : TT := rdT X.K X.mg (evOr D (callN D n) cs)
theorem evAnd_one {C : String → List T → Hh → R T} {c : CE} {ls : Ls} {h : Hh} : evAnd D C (.cons c .nil) ls h = (evE D C c ls h).bd fun x h1 => .ok x h1 := by
  simp only [evAnd]
theorem evOr_one {C : String → List T → Hh → R T} {c : CE} {ls : Ls} {h : Hh} : evOr D C (.cons c .nil) ls h = (evE D C c ls h).bd fun x h1 => .ok x h1 := by
  simp only [evOr]
theorem evAnd_two {C : String → List T → Hh → R T} {c c2 : CE} {cs : CEs} {ls : Ls} {h : Hh} : evAnd D C (.cons c (.cons c2 cs)) ls h = (evE D C c ls h).bd fun x h1 => match x with
    | .bl true => evAnd D C (.cons c2 cs) ls h1
    | .bl false => .ok (.bl false) h1
    | _ => .bad := by
  rw [evAnd] <;> rfl
theorem evOr_two {C : String → List T → Hh → R T} {c c2 : CE} {cs : CEs} {ls : Ls} {h : Hh} : evOr D C (.cons c (.cons c2 cs)) ls h = (evE D C c ls h).bd fun x h1 => match x with
    | .bl false => evOr D C (.cons c2 cs) ls h1
    | .bl true => .ok (.bl true) h1
    | _ => .bad := by
  rw [evOr] <;> rfl
theorem one_rd {c : CE} {m : Ls → Hh → R T} (hm : ∀ ls h, m ls h = (evE D (callN D n) c ls h).bd fun x h1 => .ok x h1) {σ : L2.St} {H : Hp} : (∀ {Q : VK}, rd X.K X.mg m σ H Q → M1 D n X c σ H Q) ∧ ∀ {Q : Bool → Hp → Prop}, rdT X.K X.mg m σ H Q → M1T D n X c σ H Q := by
  refine ⟨fun {Q} ⟨ρ, ls, h, t, h', g, rs, e, k⟩ => ?_, fun {Q} ⟨ρ, ls, h, t, h', g, rs, e, k⟩ => ?_⟩
  · rw [hm] at e
    obtain ⟨x, h1, e1, e⟩ := R.bd_eq_ok e
    cases e
    exact ⟨ρ, ls, h, _, _, g, rs, e1, k⟩
  · rw [hm] at e
    obtain ⟨x, h1, e1, e⟩ := R.bd_eq_ok e
    cases e
    exact ⟨ρ, ls, h, _, _, g, rs, e1, k⟩
theorem px_and1 {c : CE} {e : Expr} {pos : Pos} (p : PE X e (M1 D n X c)) (t : PT X e (M1T D n X c)) : PE X (.BoolOp .And [e] pos) (MAnd D n X (.cons c .nil)) ∧ PW X (.BoolOp .And [e] pos) (MAndT D n X (.cons c .nil)) :=
  ⟨(pe_one p).imp fun σ H Q q => (one_rd fun _ _ => evAnd_one).1 q, (pw_and1 t).imp fun σ H Q q => (one_rd fun _ _ => evAnd_one).2 q⟩
theorem px_or1 {c : CE} {e : Expr} {pos : Pos} (p : PE X e (M1 D n X c)) (t : PT X e (M1T D n X c)) : PE X (.BoolOp .Or [e] pos) (MOr D n X (.cons c .nil)) ∧ PW X (.BoolOp .Or [e] pos) (MOrT D n X (.cons c .nil)) :=
  ⟨(pe_one p).imp fun σ H Q q => (one_rd fun _ _ => evOr_one).1 q, (pw_or1 t).imp fun σ H Q q => (one_rd fun _ _ => evOr_one).2 q⟩
theorem px_and {c c2 : CE} {cs : CEs} {e e2 : Expr} {es : List Expr} {pos : Pos} (p : PE X e (M1 D n X c)) (t : PT X e (M1T D n X c)) (pr : PE X (.BoolOp .And (e2 :: es) pos) (MAnd D n X (.cons c2 cs))) (tr : PW X (.BoolOp .And (e2 :: es) pos) (MAndT D n X (.cons c2 cs))) :
    PE X (.BoolOp .And (e :: e2 :: es) pos) (MAnd D n X (.cons c (.cons c2 cs))) ∧ PW X (.BoolOp .And (e :: e2 :: es) pos) (MAndT D n X (.cons c (.cons c2 cs))) := by
  refine ⟨(pe_and p pr).imp fun σ H Q ⟨ρ, ls, h, x, h', g, rs, e, k⟩ => ?_, (pw_and t tr).imp fun σ H Q ⟨ρ, ls, h, x, h', g, rs, e, k⟩ => ?_⟩
  · rw [evAnd_two] at e
    obtain ⟨x, h1, e1, e'⟩ := R.bd_eq_ok e
    clear e
    split at e'
    · exact ⟨ρ, ls, h, _, h1, g, rs, e1, fun ρ1 H1 v1 E1 G1 r1 => by cases r1; exact ⟨true, rfl, iteT ⟨ρ1, ls, h1, _, h', G1, rs.ext E1, e', k.mono E1⟩⟩⟩
    · cases e'
      exact ⟨ρ, ls, h, _, _, g, rs, e1, fun ρ1 H1 v1 E1 G1 r1 => by cases r1; exact ⟨false, rfl, iteF (k _ _ _ E1 G1 (.bl _))⟩⟩
    · cases e'
  · rw [evAnd_two] at e
    obtain ⟨x, h1, e1, e'⟩ := R.bd_eq_ok e
    clear e
    split at e'
    · exact ⟨ρ, ls, h, _, h1, g, rs, e1, fun ρ1 H1 E1 G1 => iteT ⟨ρ1, ls, h1, _, h', G1, rs.ext E1, e', fun ρ2 H2 E2 G2 => k _ _ (E1.trans E2) G2⟩⟩
    · cases e'
      exact ⟨ρ, ls, h, _, _, g, rs, e1, fun ρ1 H1 E1 G1 => iteF (k _ _ E1 G1)⟩
    · cases e'
theorem px_or {c c2 : CE} {cs : CEs} {e e2 : Expr} {es : List Expr} {pos : Pos} (p : PE X e (M1 D n X c)) (t : PT X e (M1T D n X c)) (pr : PE X (.BoolOp .Or (e2 :: es) pos) (MOr D n X (.cons c2 cs))) (tr : PW X (.BoolOp .Or (e2 :: es) pos) (MOrT D n X (.cons c2 cs))) :
    PE X (.BoolOp .Or (e :: e2 :: es) pos) (MOr D n X (.cons c (.cons c2 cs))) ∧ PW X (.BoolOp .Or (e :: e2 :: es) pos) (MOrT D n X (.cons c (.cons c2 cs))) := by
  refine ⟨(pe_or p pr).imp fun σ H Q ⟨ρ, ls, h, x, h', g, rs, e, k⟩ => ?_, (pw_or t tr).imp fun σ H Q ⟨ρ, ls, h, x, h', g, rs, e, k⟩ => ?_⟩
  · rw [evOr_two] at e
    obtain ⟨x, h1, e1, e'⟩ := R.bd_eq_ok e
    clear e
    split at e'
    · exact ⟨ρ, ls, h, _, h1, g, rs, e1, fun ρ1 H1 v1 E1 G1 r1 => by cases r1; exact ⟨false, rfl, iteF ⟨ρ1, ls, h1, _, h', G1, rs.ext E1, e', k.mono E1⟩⟩⟩
    · cases e'
      exact ⟨ρ, ls, h, _, _, g, rs, e1, fun ρ1 H1 v1 E1 G1 r1 => by cases r1; exact ⟨true, rfl, iteT (k _ _ _ E1 G1 (.bl _))⟩⟩
    · cases e'
  · rw [evOr_two] at e
    obtain ⟨x, h1, e1, e'⟩ := R.bd_eq_ok e
    clear e
    split at e'
    · exact ⟨ρ, ls, h, _, h1, g, rs, e1, fun ρ1 H1 E1 G1 => iteF ⟨ρ1, ls, h1, _, h', G1, rs.ext E1, e', fun ρ2 H2 E2 G2 => k _ _ (E1.trans E2) G2⟩⟩
    · cases e'
      exact ⟨ρ, ls, h, _, _, g, rs, e1, fun ρ1 H1 E1 G1 => iteT (k _ _ E1 G1)⟩
    · cases e'
/-! ### a thing that was laid and not yet ours -/
theorem Wk.poke {ρ : List Addr} {H : Hp} {p : Addr} {o u : HO} (hp : H p = some u) (h1 : ∀ xs, u ≠ .tup xs) (h2 : ∀ q w, u ≠ .frz q w) : Wk ρ H ρ (upd H p o) := ⟨fun _ _ q => q, fun a xs q => by
  rw [upd_ne fun z => by rw [z, hp] at q; exact h1 xs (Option.some.inj q)]
  exact q, fun a q w e => by
  rw [upd_ne fun z => by rw [z, hp] at e; exact h2 q w (Option.some.inj e)]
  exact e⟩
theorem no_tabO {u : HO} (h1 : ∀ ps, u ≠ .tbl ps) (h2 : ∀ φ, u ≠ .ext φ) : ¬ tabO u := by
  rintro (⟨ps, z⟩ | ⟨c, q, z⟩)
  · exact h1 ps z
  · exact h2 _ z
theorem G.poke {K : PySem.W.Frag} {mg : Str → Option Value} {ρ : List Addr} {H : Hp} {h : Hh} {p : Addr} {o u : HO} (g : G K mg ρ H h) (hn : p ∉ ρ) (hp : H p = some u) (h1 : ∀ xs, u ≠ .tup xs) (h2 : ∀ q w, u ≠ .frz q w) (h3 : ¬ tabO u) : G K mg ρ (upd H p o) h where
  len := g.len
  nd := g.nd
  tab := Tabs.keepO g.tab fun b q e z => by
    rw [upd_ne fun y => h3 (by rw [y, hp] at e; cases e; exact z)]
    exact e
  ob := fun m a q e1 e2 => (g.ob m a q e1 e2).wk (Wk.poke hp h1 h2) (upd_ne fun z => hn (z ▸ List.mem_of_getElem? e1))
/-- from the state in which p was free: others came, now p is ours -/
theorem Ext.into {ρ ρ2 : List Addr} {H H2 : Hp} {p : Addr} {o u w : HO} (hp : H p = none) (e : Ext ρ (upd H p u) ρ2 H2) (hn : p ∉ ρ2) : Ext ρ H (ρ2 ++ [p]) (upd H2 p o) where
  pre := e.pre.trans (List.prefix_append _ _)
  new := fun a ha => by
    rcases List.mem_append.mp ha with q | q
    · rcases e.new a q with z | z
      · exact .inl z
      · by_cases hne : a = p
        · exact .inr (NoT.none (by rw [hne]; exact hp))
        · exact .inr fun o y => z o (by rw [upd_ne hne]; exact y)
    · rw [List.mem_singleton.mp q]
      exact .inr (NoT.none hp)
  keep := fun a q ea hm nt => by
    have hne : a ≠ p := ne_of_none ea hp
    rw [upd_ne hne]
    exact e.keep a q (by rw [upd_ne hne]; exact ea) hm nt
  tup := fun a xs ea => by
    have hne : a ≠ p := ne_of_none ea hp
    rw [upd_ne hne]
    exact e.tup a xs (by rw [upd_ne hne]; exact ea)
  frz := fun a q z ea => by
    have hne : a ≠ p := ne_of_none ea hp
    rw [upd_ne hne]
    exact e.frz a q z (by rw [upd_ne hne]; exact ea)
theorem Ext.out {ρ ρ2 : List Addr} {H H2 : Hp} {p : Addr} {u : HO} (hp : H p = none) (hm : p ∉ ρ) (e : Ext ρ (upd H p u) ρ2 H2) (nt : ∀ ps, u ≠ .tbl ps) : p ∉ ρ2 ∧ H2 p = some u := by
  refine ⟨fun h => ?_, e.keep p u upd_same hm nt⟩
  rcases e.new p h with z | z
  · exact hm z
  · exact z.no upd_same nt
/-! ### displays of dicts -/
noncomputable def trsOf (D : Tbl) (n : Nat) (X : Cx) : CKs → List (TE × TE)
  | .nil => []
  | .cons k v r => (M1 D n X k, M1 D n X v) :: trsOf D n X r
theorem pairs_rd : ∀ (ps : CKs) {σ : L2.St} {ρ : List Addr} {H : Hp} {ls : Ls} {h h' : Hh} {xs ys : List T} {Q : List (V × V) → Hp → Prop}, G X.K X.mg ρ H h → RS X.K X.mg ρ H ls σ → evKV D (callN D n) ps ls h = .ok (xs, ys) h' →
    (∀ ρ' H' vs ws, Ext ρ H ρ' H' → G X.K X.mg ρ' H' h' → RTs X.K X.mg ρ' H' xs vs → RTs X.K X.mg ρ' H' ys ws → vs.length = ws.length → Q (vs.zip ws) H') → tPairs (trsOf D n X ps) σ H Q
  | .nil, σ, ρ, H, ls, h, h', xs, ys, Q, g, rs, e, k => by
    unfold evKV at e
    cases e
    exact k ρ H [] [] Ext.refl g .nil .nil rfl
  | .cons a b r, σ, ρ, H, ls, h, h', xs, ys, Q, g, rs, e, k => by
    unfold evKV at e
    obtain ⟨x, h1, e1, e⟩ := R.bd_eq_ok e
    obtain ⟨y, h2, e2, e⟩ := R.bd_eq_ok e
    obtain ⟨p, h3, e3, e⟩ := R.bd_eq_ok e
    cases e
    refine ⟨ρ, ls, h, x, h1, g, rs, e1, fun ρ1 H1 v1 E1 G1 r1 => ⟨ρ1, ls, h1, y, h2, G1, rs.ext E1, e2, fun ρ2 H2 v2 E2 G2 r2 => ?_⟩⟩
    exact pairs_rd r G2 (rs.ext (E1.trans E2)) (xs := p.1) (ys := p.2) e3 fun ρ3 H3 vs ws E3 G3 rv rw' hl => k ρ3 H3 (v1 :: vs) (v2 :: ws) (E1.trans (E2.trans E3)) G3 (.cons (r1.ext (E2.trans E3)) rv) (.cons (r2.ext E3) rw') (by simp [hl])
theorem keysT_ok {K : PySem.W.Frag} {mg : Str → Option Value} {ρ : List Addr} {H : Hp} : ∀ {xs : List T} {ks : List KT} {vs : List V}, keysT xs = some ks → RTs K mg ρ H xs vs → vs = ks.map fun k => kV k.key
  | [], ks, _, e, .nil => by cases e; rfl
  | x :: xs, ks, _, e, .cons a b => by
    unfold keysT at e
    split at e
    · rename_i k0 ek
      cases q : keysT xs with
      | none => rw [q] at e; cases e
      | some ks2 =>
        rw [q] at e
        cases e
        rw [T.kt_ok ek a, keysT_ok q b]
        rfl
    · cases e
theorem mergeKT_ok {K : PySem.W.Frag} {mg : Str → Option Value} {ρ : List Addr} {H : Hp} : ∀ {ks : List KT} {ys : List T} {ws : List V} {acc kvs : List (KT × T)} {qs : List (Key × V)}, mergeKT acc ks ys = some kvs → RTs K mg ρ H ys ws → RKV K mg ρ H acc qs →
    RKV K mg ρ H kvs (mergeK qs ((ks.map KT.key).zip ws)) ∧ ks.length = ws.length
  | [], [], _, acc, kvs, qs, e, .nil, r => by
    cases e
    exact ⟨r, rfl⟩
  | k :: ks, y :: ys, _, acc, kvs, qs, e, .cons (v := w) (vs := ws) a b, r => by
    obtain ⟨h1, h2⟩ := mergeKT_ok (ks := ks) (acc := putKT acc k y) (qs := putK qs k.key w) e b (r.put k a)
    exact ⟨h1, by simp [h2]⟩
theorem zip_keys : ∀ (ks : List KT) (ws : List V), ks.length = ws.length → (ks.map fun k => kV k.key).zip ws = ((ks.map KT.key).zip ws).map fun kv => (kV kv.1, kv.2)
  | [], [], _ => rfl
  | k :: ks, w :: ws, h => by
    rw [List.map_cons, List.map_cons, List.zip_cons_cons, List.zip_cons_cons, List.map_cons, zip_keys ks ws (by simpa using h)]
theorem px_dic0 {pos : Pos} : PE X (.Dict [] [] pos) (M1 D n X (.dic .nil)) := pe_dnewK.imp fun σ H Q ⟨ρ, ls, h, t, h', g, rs, e, k⟩ => by
  unfold evE evKV at e
  cases e
  exact fun p hp => k _ _ _ (Ext.alloc hp) (g.newD hp .nil) (RT.last g)
theorem px_dic {ps : CKs} {ks : List (Option Expr)} {vs : List Expr} {pos : Pos} (pp : PPs X pos ks vs (trsOf D n X ps)) (h1 : ks.all (·.isSome) = true) (h2 : ks.length = vs.length) (h3 : ks ≠ []) (h4 : ks.length ≤ 15) (hz : ∀ ls h p h', evKV D (callN D n) ps ls h = .ok p h' → p.1.length = ks.length) :
    PE X (.Dict ks vs pos) (M1 D n X (.dic ps)) := (pe_disp pp h1 h2 h3 h4).imp fun σ H Q ⟨ρ, ls, h, t, h', g, rs, e, k⟩ => by
  unfold evE at e
  obtain ⟨⟨xs, ys⟩, h5, e1, e⟩ := R.bd_eq_ok e
  split at e
  · rename_i kk ek
    split at e
    · rename_i kvs em
      cases e
      intro p hp
      have E0 : Ext ρ H ρ (upd H p (.dK [])) := Ext.fresh hp
      refine pairs_rd ps (g.fresh hp) (rs.ext E0) e1 fun ρ2 H2 us ws E2 G2 ru rw' hl => ?_
      obtain ⟨hn, hs⟩ := Ext.out hp (g.not_mem hp) E2 (by intro ps z; cases z)
      have eu := keysT_ok ek ru
      subst eu
      obtain ⟨rk, hk⟩ := mergeKT_ok em rw' (qs := []) .nil
      refine ⟨hs, (kk.map KT.key).zip ws, zip_keys kk ws hk, ?_, ?_⟩
      · rw [List.length_zip, List.length_map, hk, Nat.min_self]
        have z := hz _ _ _ _ e1
        have z2 := ru.length
        have z3 := rw'.length
        rw [List.length_map] at z2 hl
        have z' : xs.length = ks.length := z
        omega
      · have hw := Wk.poke (ρ := ρ2) (o := .dK (mergeK [] ((kk.map KT.key).zip ws))) hs (by intro xs z; cases z) (by intro q w z; cases z)
        have G3 : G X.K X.mg ρ2 (upd H2 p (.dK (mergeK [] ((kk.map KT.key).zip ws)))) h5 := G2.poke hn hs (by intro xs z; cases z) (by intro q w z; cases z) (no_tabO (by intro xs z; cases z) (by intro xs z; cases z))
        exact k _ _ _ (Ext.into (w := .dK []) hp E2 hn) (G3.add hn (.dK upd_same (rk.wk hw))) (RT.last G2)
    · cases e
  · cases e
end
end MP

set_option Elab.async false
set_option linter.all false
set_option maxRecDepth 100000
/-! MiniPy, part I: calls, built-ins, isinstance, methods, ranges as values -/
namespace MP
open PySem PySem.Spec PyProof.Rows L2
variable [tt : Mkr]
theorem RTs.paired {K : PySem.W.Frag} {mg : Str → Option Value} {ρ : List Addr} {H : Hp} : ∀ {xs : List T} {vs : List V}, RTs K mg ρ H xs vs → Paired (RT K mg ρ H) xs vs
  | _, _, .nil => .nil
  | _, _, .cons a b => .cons a b.paired
theorem RTs.of_paired {K : PySem.W.Frag} {mg : Str → Option Value} {ρ : List Addr} {H : Hp} : ∀ {xs : List T} {vs : List V}, Paired (RT K mg ρ H) xs vs → RTs K mg ρ H xs vs
  | _, _, .nil => .nil
  | _, _, .cons a b => .cons a (RTs.of_paired b)
theorem paired_app {α β : Type} {F : α → β → Prop} : ∀ {a c : List α} {b d : List β}, Paired F a b → Paired F c d → Paired F (a ++ c) (b ++ d)
  | _, _, _, _, .nil, s => s
  | _, _, _, _, .cons r t, s => .cons r (paired_app t s)
theorem look_paired {α β : Type} {F : α → β → Prop} (p : String) : ∀ (ks : List String) {a : List α} {b : List β} {x : α}, Paired F a b → (ks.zip a).lookup p = some x → ∃ y, (ks.zip b).lookup p = some y ∧ F x y
  | [], _, _, _, _, e => by simp at e
  | k :: ks, _, _, _, .nil, e => by simp at e
  | k :: ks, _, _, x, .cons (a := a0) (b := b0) r t, e => by
    rw [List.zip_cons_cons, List.lookup_cons] at e ⊢
    split at e
    · cases e
      exact ⟨_, rfl, r⟩
    · exact look_paired p ks t e
theorem mapM_paired {α β : Type} {F : α → β → Prop} (ks : List String) {a : List α} {b : List β} (r : Paired F a b) : ∀ (ps : List String) {zs : List α}, (ps.mapM fun p => (ks.zip a).lookup p) = some zs → ∃ ws, (ps.mapM fun p => (ks.zip b).lookup p) = some ws ∧ Paired F zs ws
  | [], zs, e => by
    cases e
    exact ⟨[], rfl, .nil⟩
  | p :: ps, zs, e => by
    rw [List.mapM_cons] at e ⊢
    cases q : (ks.zip a).lookup p with
    | none => rw [q] at e; cases e
    | some x =>
      rw [q] at e
      obtain ⟨y, hy, hf⟩ := look_paired p ks r q
      rw [hy]
      cases q2 : (ps.mapM fun p => (ks.zip a).lookup p) with
      | none => rw [q2] at e; cases e
      | some zs2 =>
        rw [q2] at e
        cases e
        obtain ⟨ws, hw, hp⟩ := mapM_paired ks r ps q2
        rw [hw]
        exact ⟨y :: ws, rfl, .cons hf hp⟩
theorem ordK_paired {α β : Type} {F : α → β → Prop} {ps : List String} {n : Nat} {a : List α} {b : List β} {ks : List String} {c : List α} {d : List β} {zs : List α} (r : Paired F a b) (r2 : Paired F c d) (e : ordK ps n a ks c = some zs) : ∃ ws, ordK ps n b ks d = some ws ∧ Paired F zs ws := by
  unfold ordK at e ⊢
  rw [← Paired.length r, ← Paired.length r2]
  split at e
  · rename_i hc
    rw [if_pos hc]
    cases q : ((ps.drop n).mapM fun p => (ks.zip c).lookup p) with
    | none => rw [q] at e; cases e
    | some xs =>
      rw [q] at e
      cases e
      obtain ⟨ws, hw, hp⟩ := mapM_paired ks r2 (ps.drop n) q
      rw [hw]
      exact ⟨_, rfl, paired_app r hp⟩
  · cases e
theorem vals_paired : ∀ {vs : List V} {us : List Value}, Vals vs us → Paired RelV vs us := fun h => h
section
variable {D : Tbl} {n : Nat} {X : Cx} {raw sc : Scope} {N : List Str}
theorem callN_len {f : String} {fd : FD} {xs : List T} {h h' : Hh} {t : T} (hf : D.fn f = some fd) (e : callN D n f xs h = .ok t h') : xs.length = fd.ps.length := by
  cases n with
  | zero => cases e
  | succ m =>
    unfold callN at e
    rw [hf] at e
    dsimp only at e
    split at e
    · rename_i hl
      exact hl
    · cases e
theorem XO.gl (o : XO D n X raw sc N) {x : Str} (h : gloB sc x = true) : Gl X x := by
  show X.env.scope.names.lookup x = _
  rw [o.esc]
  exact gloB_ok h
theorem px_call {f : String} {cs : CEs} {es : List Expr} {p pos : Pos} (o : XO D n X raw sc N) (hcg : callB D N f = true) (hg : gloB sc (Str.ofString f) = true) (hk : okName (Str.ofString f) = true) (hs : es.all noStar = true) (h0 : es = [] → cs = .nil) (pa : PA X es (MA D n X cs)) :
    PE X (.Call (.Name (Str.ofString f) p) es [] pos) (M1 D n X (.call f cs)) := by
  refine ⟨fun pins s σ H Q I q => ?_⟩
  obtain ⟨ρ, ls, h, t, h', g, rs, e, k⟩ := q
  unfold evE at e
  obtain ⟨xs, h1, e1, e2⟩ := R.bd_eq_ok e
  cases hf : D.fn f with
  | none =>
    cases n with
    | zero => cases e2
    | succ m =>
      unfold callN at e2
      rw [hf] at e2
      cases e2
  | some fd =>
    obtain ⟨fa, fdata, F, hm, kp, bd, _⟩ := o.fns f fd hf
    have hl := callN_len hf e2
    refine wpAny_Call_Name_kw (ld_glob I (o.gl hg) hm ?_ (okName_ok hk).1)
    cases es with
    | nil =>
      cases h0 rfl
      unfold evEs at e1
      cases e1
      refine PySem.W.callWith_K0 I.kIn kp (run_g (vs := []) (ws := []) F (callB_ok hcg o.gd fd hf) (o.room.mono (by omega)) I (bd s [] I.kIn (by rw [List.length_map, ← hl]; rfl)) .nil ⟨by rw [← hl]; rfl, ρ, h, [], .rt t, h', g, .nil, flX_ok e2, k⟩)
    | cons a r =>
      rw [List.all_cons, Bool.and_eq_true] at hs
      refine PySem.W.callWith_K (h₀ := X.base) I.ok.mod.kin kp (thn (pa.run pos pins s σ H (fun vs H1 => spf X.K X.mg D.xs fd.ps.length (callN D n f) vs H1 Q E0) I ⟨ρ, ls, h, xs, h1, g, rs, e1, fun ρ1 H1 vs E1 G1 r1 => ⟨by rw [← r1.length]; exact hl, ρ1, h1, xs, .rt t, h', G1, r1, flX_ok e2, Kn.mono k E1⟩⟩) fun us s1 ⟨vs, H1, I1, rv, q1⟩ => ⟨I1.kIn, ?_⟩) (star_cons hs.1) (star_any _ _ _ hs.2)
      have hlen : (us ++ []).length = (fd.ps.map Str.ofString).length := by rw [List.append_nil, List.length_map, ← rv.length]; exact q1.1
      have bb := bd s1 us I1.kIn hlen
      rw [List.append_nil] at bb
      exact run_g F (callB_ok hcg o.gd fd hf) (o.room.mono (by omega)) I1 bb rv q1
/-- C(e), its __init__ keeping e -/
theorem px_new {c gd : String} {a : CE} {a' : Expr} {p pos : Pos} (o : XO D n X raw sc N) (hg : gloB sc (Str.ofString c) = true) (hk : okName (Str.ofString c) = true) (hs : noStar a' = true) (hn : (c, gd) ∈ D.nw) (pa : PE X a' (M1 D n X a)) :
    PE X (.Call (.Name (Str.ofString c) p) [a'] [] pos) (M1 D n X (.new c gd a)) := by
  refine ⟨fun pins s σ H Q I q => ?_⟩
  obtain ⟨ρ, ls, h, t, h', g, rs, e, k⟩ := q
  unfold evE at e
  obtain ⟨x, h1, e1, e2⟩ := R.bd_eq_ok e
  obtain ⟨u, h2, e3, e4⟩ := R.bd_eq_ok e2
  cases e4
  obtain ⟨C, fi, fdata, hm, mk, io, bd, F⟩ := o.nws c gd hn
  refine wpAny_Call_Name_kw (ld_glob I (o.gl hg) hm ?_ (okName_ok hk).1)
  refine PySem.W.callWith_K (h₀ := X.base) I.ok.mod.kin mk.kp (thn ((pa_cons pa pa_nil (star_cons hs)).run pos pins s σ H
    (fun vs H1 => ∀ p dx, H1 p = none → H1 dx = none → dx ≠ p → spIni X.K X.mg C (callN D n gd) (.ref p :: vs) (upd (upd H1 dx (.own p)) p (.ins C dx [])) (fun v H2 => v = .non ∧ Q (.ref p) H2) E0) I
    ⟨ρ, ls, h, x, h1, g, rs, e1, fun ρ1 H1 v1 E1 G1 r1 => ?_⟩) fun us s1 ⟨vs, H1, I1, rv, q1⟩ => ⟨I1.kIn, ?_⟩) (star_cons hs) (star_any _ _ _ rfl)
  · intro p dx hp hdx hne
    refine ⟨p, dx, v1, ρ1, h1, x, u, h2, H1, rfl, hp, hdx, hne, rfl, G1, r1, e3, fun ρ2 H2 fs E2 G2 hn2 hpi => ⟨rfl, ?_⟩⟩
    refine k (ρ2 ++ [p]) H2 (.ref p) (E1.trans ⟨E2.pre.trans (List.prefix_append _ _), fun a ha => ?_, E2.keep, E2.tup, E2.frz⟩) (G2.add hn2 (.ins hpi io)) (RT.last G2)
    rcases List.mem_append.mp ha with z | z
    · exact E2.new a z
    · rw [List.mem_singleton.mp z]
      exact .inr (NoT.none hp)
  · exact run_makeG mk F (fun z => by cases z) o.room bd I1 rv q1
/-! keywords -/
theorem kw_all (pos : Pos) (env : Env) : ∀ (ks : List String) (kws : List Keyword), kws.map (·.arg) = ks.map (fun k => some (Str.ofString k)) → (backToKw pos (keywordEach kws env)).all (·.1.isSome) = true ∧ (backToKw pos (keywordEach kws env)).filterMap (·.1) = ks.map Str.ofString ∧ (backToKw pos (keywordEach kws env)).any (·.1.isNone) = false
  | [], [], _ => ⟨rfl, rfl, rfl⟩
  | [], _ :: _, h => by simp at h
  | k :: ks, [], h => by simp at h
  | k :: ks, ⟨nm, v, p⟩ :: kws, h => by
    rw [List.map_cons, List.map_cons, List.cons.injEq] at h
    obtain ⟨h1, h2⟩ := h
    dsimp only at h1
    subst h1
    obtain ⟨a, b, c⟩ := kw_all pos env ks kws h2
    unfold backToKw at a b c ⊢
    simp only [keywordEach, List.map_cons, List.all_cons, List.any_cons, List.filterMap_cons, Option.isSome_some, Option.isNone_some, Bool.true_and, Bool.false_or]
    exact ⟨a, by rw [b], c⟩
theorem px_callK {f : String} {cs vs : CEs} {ks : List String} {es : List Expr} {kws : List Keyword} {p pos : Pos} (o : XO D n X raw sc N) (hcg : callB D N f = true) (hg : gloB sc (Str.ofString f) = true) (hk : okName (Str.ofString f) = true) (hs : es.all noStar = true) (h0 : es = [] → cs = .nil)
    (hkw : (f, es.length, ks) ∈ D.kw) (hn : kws.map (·.arg) = ks.map fun k => some (Str.ofString k)) (hlen : ∀ ls h xs h', evEs D (callN D n) cs ls h = .ok xs h' → xs.length = es.length) (pa : PA X es (MA D n X cs)) (pk : PK X kws (MA D n X vs)) :
    PE X (.Call (.Name (Str.ofString f) p) es kws pos) (M1 D n X (.callK f cs ks vs)) := by
  refine ⟨fun pins s σ H Q I q => ?_⟩
  obtain ⟨ρ, ls, h, t, h', g, rs, e, k⟩ := q
  unfold evE at e
  obtain ⟨xs, h1, e1, e2⟩ := R.bd_eq_ok e
  obtain ⟨ys, h2, e3, e4⟩ := R.bd_eq_ok e2
  clear e e2
  split at e4
  · rename_i fd hf
    split at e4
    · rename_i zs ez
      obtain ⟨fa, fdata, F, hm, kp, bd, bk⟩ := o.fns f fd hf
      have hl := callN_len hf e4
      have hx := hlen _ _ _ _ e1
      rw [hx] at ez
      have kb := bk _ _ hkw
      refine wpAny_Call_Name_kw (ld_glob I (o.gl hg) hm ?_ (okName_ok hk).1)
      have fin : ∀ {ρ1 H1 s1 vs us}, Inv X pins σ H1 s1 → Ext ρ H ρ1 H1 → G X.K X.mg ρ1 H1 h1 → RTs X.K X.mg ρ1 H1 xs vs → Vals vs us → wpAny (model X.prog X.w) X.A (evalAll ((backToKw pos (keywordEach kws X.env)).map (·.2))) (fun ws s2 => X.K.In s2.heap ∧ wpAny (model X.prog X.w) X.A (call (.ref fa) ([] ++ us) (((backToKw pos (keywordEach kws X.env)).filterMap (·.1)).zip ws)) (EP X pins σ Q) X.xe s2) X.xe s1 := fun {ρ1 H1 s1 vs us} I1 E1 G1 r1 rv => by
        refine thn (pk.run pos pins s1 σ H1 (fun wv H2 => ∃ ρ2, Ext ρ1 H1 ρ2 H2 ∧ G X.K X.mg ρ2 H2 h2 ∧ RTs X.K X.mg ρ2 H2 ys wv) I1 ⟨ρ1, ls, h1, ys, h2, G1, rs.ext E1, e3, fun ρ2 H2 wv E2 G2 r2 => ⟨ρ2, E2, G2, r2⟩⟩) fun ws s2 ⟨wv, H2, I2, rw', ρ2, E2, G2, r2⟩ => ⟨I2.kIn, ?_⟩
        obtain ⟨zv, hz1, hz2⟩ := ordK_paired (r1.ext E2).paired r2.paired ez
        obtain ⟨zu, hz3, hz4⟩ := ordK_paired (vals_paired rv) (vals_paired rw') hz1
        rw [(kw_all pos X.env ks kws hn).2.1]
        have rz := RTs.of_paired hz2
        exact run_g F (callB_ok hcg o.gd fd hf) (o.room.mono (by omega)) I2 (kb s2 us ws zu I2.kIn hz3) hz4 ⟨by rw [← rz.length]; exact hl, ρ2, h2, zs, .rt t, h', G2, rz, flX_ok e4, Kn.mono k (E1.trans E2)⟩
      cases es with
      | nil =>
        cases h0 rfl
        unfold evEs at e1
        cases e1
        exact PySem.W.callWith_KW0 (h₀ := X.base) I.ok.mod.kin kp (kw_all pos X.env ks kws hn).1 (fin I Ext.refl g .nil .nil) (by rw [(kw_all pos X.env ks kws hn).2.2]; rfl)
      | cons a r =>
        have hs' := hs
        rw [List.all_cons, Bool.and_eq_true] at hs
        refine PySem.W.callWith_KW (h₀ := X.base) I.ok.mod.kin kp (kw_all pos X.env ks kws hn).1 (thn (pa.run pos pins s σ H (fun vs H1 => ∃ ρ1, Ext ρ H ρ1 H1 ∧ G X.K X.mg ρ1 H1 h1 ∧ RTs X.K X.mg ρ1 H1 xs vs) I ⟨ρ, ls, h, xs, h1, g, rs, e1, fun ρ1 H1 vs E1 G1 r1 => ⟨ρ1, E1, G1, r1⟩⟩) fun us s1 ⟨vs, H1, I1, rv, ρ1, E1, G1, r1⟩ => fin I1 E1 G1 r1 rv) (by rw [star_any _ _ _ hs', (kw_all pos X.env ks kws hn).2.2]; rfl) (star_cons hs.1)
    · cases e4
  · cases e4
/-! ### calls that may raise -/
theorem endX.mono {K : PySem.W.Frag} {mg : Str → Option Value} {es : List (String × String)} {ρ ρ1 : List Addr} {H H1 : Hp} {h' : Hh} {Q : VK} {W : XK} {fl : Fl} (k : endX K mg es ρ H h' Q W fl) (e : Ext ρ H ρ1 H1) : endX K mg es ρ1 H1 h' Q W fl := by
  cases fl with
  | rt t => exact Kn.mono k e
  | xc c fs => exact fun ρ2 H2 E2 G2 => k ρ2 H2 (e.trans E2) G2
  | _ => exact k
theorem callN_lenX {f : String} {fd : FD} {xs : List T} {h h' : Hh} {fl : Fl} (hf : D.fn f = some fd) (e : flX (callN D n f xs h) = .ok fl h') : xs.length = fd.ps.length := by
  cases n with
  | zero => cases e
  | succ m =>
    unfold callN at e
    rw [hf] at e
    dsimp only at e
    split at e
    · rename_i hl
      exact hl
    · cases e
theorem px_callX {f : String} {fd : FD} {fa : Addr} {fdata : FuncData} {m1 : Ls → Hh → R (List T)} {W : XK} {es : List Expr} {p pos : Pos} (F : FnG X.prog X.w X.K X.mg X.base (grd fd) (3 * n) fa fdata (fd.ps.map Str.ofString) (spf X.K X.mg D.xs fd.ps.length (callN D n f))) (hf : D.fn f = some fd) (hm : X.mg (Str.ofString f) = some (.ref fa))
    (kp : PySem.W.keepIn X.K (.ref fa) = true) (bd : Binds X.K fdata (fd.ps.map Str.ofString) []) (gd : grd fd = true → X.A.guards = some []) (room : Room (3 * n) X.A) (hg : Gl X (Str.ofString f)) (hk : okName (Str.ofString f) = true) (hs : es.all noStar = true) (h0 : es = [] → ∀ ls h, m1 ls h = .ok [] h)
    (tk : Takes X (fun c d _ H => W c d H)) (pa : PA X es (rdA X.K X.mg m1)) : PE X (.Call (.Name (Str.ofString f) p) es [] pos) (rdX X.K X.mg D.xs W fun ls h => (m1 ls h).bd fun xs h1 => flX (callN D n f xs h1)) := by
  refine ⟨fun pins s σ H Q I q => ?_⟩
  obtain ⟨ρ, ls, h, fl, h', g, rs, e, k⟩ := q
  obtain ⟨xs, h1, e1, e2⟩ := R.bd_eq_ok e
  have hl := callN_lenX hf e2
  refine wpAny_Call_Name_kw (ld_glob I hg hm ?_ (okName_ok hk).1)
  cases es with
  | nil =>
    have e3 := h0 rfl ls h
    rw [e3] at e1
    cases e1
    refine PySem.W.callWith_K0 I.kIn kp (run_x (vs := []) (ws := []) F tk gd room I (bd s [] I.kIn (by rw [List.length_map, ← hl]; rfl)) .nil ⟨by rw [← hl]; rfl, ρ, h, [], fl, h', g, .nil, e2, k⟩)
  | cons a r =>
    rw [List.all_cons, Bool.and_eq_true] at hs
    refine PySem.W.callWith_K (h₀ := X.base) I.ok.mod.kin kp (thn (pa.run pos pins s σ H (fun vs H1 => spf X.K X.mg D.xs fd.ps.length (callN D n f) vs H1 Q W) I ⟨ρ, ls, h, xs, h1, g, rs, e1, fun ρ1 H1 vs E1 G1 r1 => ⟨by rw [← r1.length]; exact hl, ρ1, h1, xs, fl, h', G1, r1, e2, k.mono E1⟩⟩) fun us s1 ⟨vs, H1, I1, rv, q1⟩ => ⟨I1.kIn, ?_⟩) (star_cons hs.1) (star_any _ _ _ hs.2)
    have hlen : (us ++ []).length = (fd.ps.map Str.ofString).length := by rw [List.append_nil, List.length_map, ← rv.length]; exact q1.1
    have bb := bd s1 us I1.kIn hlen
    rw [List.append_nil] at bb
    exact run_x F tk gd room I1 bb rv q1
theorem px_callXK {f : String} {fd : FD} {fa : Addr} {fdata : FuncData} {m1 m2 : Ls → Hh → R (List T)} {W : XK} {ks : List String} {es : List Expr} {kws : List Keyword} {p pos : Pos} (F : FnG X.prog X.w X.K X.mg X.base (grd fd) (3 * n) fa fdata (fd.ps.map Str.ofString) (spf X.K X.mg D.xs fd.ps.length (callN D n f))) (hf : D.fn f = some fd)
    (hm : X.mg (Str.ofString f) = some (.ref fa)) (kp : PySem.W.keepIn X.K (.ref fa) = true) (kb : KBd X.K fdata fd.ps es.length ks) (gd : grd fd = true → X.A.guards = some []) (room : Room (3 * n) X.A) (hg : Gl X (Str.ofString f)) (hk : okName (Str.ofString f) = true) (hs : es.all noStar = true) (h0 : es = [] → ∀ ls h, m1 ls h = .ok [] h)
    (hn : kws.map (·.arg) = ks.map fun k => some (Str.ofString k)) (hlen : ∀ ls h xs h', m1 ls h = .ok xs h' → xs.length = es.length) (tk : Takes X (fun c d _ H => W c d H)) (pa : PA X es (rdA X.K X.mg m1)) (pk : PK X kws (rdA X.K X.mg m2)) :
    PE X (.Call (.Name (Str.ofString f) p) es kws pos) (rdX X.K X.mg D.xs W fun ls h => (m1 ls h).bd fun xs h1 => (m2 ls h1).bd fun ys h2 => match ordK fd.ps xs.length xs ks ys with | some zs => flX (callN D n f zs h2) | none => .bad) := by
  refine ⟨fun pins s σ H Q I q => ?_⟩
  obtain ⟨ρ, ls, h, fl, h', g, rs, e, k⟩ := q
  obtain ⟨xs, h1, e1, e2⟩ := R.bd_eq_ok e
  obtain ⟨ys, h2, e3, e4⟩ := R.bd_eq_ok e2
  clear e e2
  split at e4
  · rename_i zs ez
    have hl := callN_lenX hf e4
    have hx := hlen _ _ _ _ e1
    rw [hx] at ez
    refine wpAny_Call_Name_kw (ld_glob I hg hm ?_ (okName_ok hk).1)
    have fin : ∀ {ρ1 H1 s1 vs us}, Inv X pins σ H1 s1 → Ext ρ H ρ1 H1 → G X.K X.mg ρ1 H1 h1 → RTs X.K X.mg ρ1 H1 xs vs → Vals vs us → wpAny (model X.prog X.w) X.A (evalAll ((backToKw pos (keywordEach kws X.env)).map (·.2))) (fun ws s2 => X.K.In s2.heap ∧ wpAny (model X.prog X.w) X.A (call (.ref fa) ([] ++ us) (((backToKw pos (keywordEach kws X.env)).filterMap (·.1)).zip ws)) (EP X pins σ Q) X.xe s2) X.xe s1 := fun {ρ1 H1 s1 vs us} I1 E1 G1 r1 rv => by
      refine thn (pk.run pos pins s1 σ H1 (fun wv H2 => ∃ ρ2, Ext ρ1 H1 ρ2 H2 ∧ G X.K X.mg ρ2 H2 h2 ∧ RTs X.K X.mg ρ2 H2 ys wv) I1 ⟨ρ1, ls, h1, ys, h2, G1, rs.ext E1, e3, fun ρ2 H2 wv E2 G2 r2 => ⟨ρ2, E2, G2, r2⟩⟩) fun ws s2 ⟨wv, H2, I2, rw', ρ2, E2, G2, r2⟩ => ⟨I2.kIn, ?_⟩
      obtain ⟨zv, hz1, hz2⟩ := ordK_paired (r1.ext E2).paired r2.paired ez
      obtain ⟨zu, hz3, hz4⟩ := ordK_paired (vals_paired rv) (vals_paired rw') hz1
      rw [(kw_all pos X.env ks kws hn).2.1]
      have rz := RTs.of_paired hz2
      exact run_x F tk gd room I2 (kb s2 us ws zu I2.kIn hz3) hz4 ⟨by rw [← rz.length]; exact hl, ρ2, h2, zs, fl, h', G2, rz, e4, k.mono (E1.trans E2)⟩
    cases es with
    | nil =>
      have e5 := h0 rfl ls h
      rw [e5] at e1
      cases e1
      exact PySem.W.callWith_KW0 (h₀ := X.base) I.ok.mod.kin kp (kw_all pos X.env ks kws hn).1 (fin I Ext.refl g .nil .nil) (by rw [(kw_all pos X.env ks kws hn).2.2]; rfl)
    | cons a r =>
      have hs' := hs
      rw [List.all_cons, Bool.and_eq_true] at hs
      refine PySem.W.callWith_KW (h₀ := X.base) I.ok.mod.kin kp (kw_all pos X.env ks kws hn).1 (thn (pa.run pos pins s σ H (fun vs H1 => ∃ ρ1, Ext ρ H ρ1 H1 ∧ G X.K X.mg ρ1 H1 h1 ∧ RTs X.K X.mg ρ1 H1 xs vs) I ⟨ρ, ls, h, xs, h1, g, rs, e1, fun ρ1 H1 vs E1 G1 r1 => ⟨ρ1, E1, G1, r1⟩⟩) fun us s1 ⟨vs, H1, I1, rv, ρ1, E1, G1, r1⟩ => fin I1 E1 G1 r1 rv) (by rw [star_any _ _ _ hs', (kw_all pos X.env ks kws hn).2.2]; rfl) (star_cons hs.1)
  · cases e4
end
end MP

set_option Elab.async false
set_option linter.all false
set_option maxRecDepth 100000
/-! MiniPy, part J: built-ins, isinstance, methods, what is walked -/
namespace MP
open PySem PySem.Spec PyProof.Rows L2
variable [tt : Mkr]
theorem boot_blt (b : Blt) : bootBuiltins (Str.ofString b.x) = some b.f := by cases b <;> decide +kernel
theorem ty_sub : ∀ t ∈ tyNames, t ∈ ["len", "list", "tuple", "sorted", "all", "any", "sum", "max", "min", "int", "repr", "str", "abs", "bool", "isinstance", "range", "enumerate", "zip", "set", "reversed", "dict"] := by decide
theorem boot_tys : ∀ t ∈ tyNames, bootBuiltins (Str.ofString t) = some (.type t) := by decide +kernel
theorem kit_all : ∀ nm ∈ ["NoneType", "bool", "int", "str", "tuple", "list", "dict"], ∀ t ∈ tyNames, kitB nm t = some (isiT1 nm t) := by decide +kernel
section
variable {D : Tbl} {n : Nat} {X : Cx} {raw sc : Scope} {N : List Str}
theorem px_blt {b : Blt} {cs : CEs} {a : Expr} {es : List Expr} {p pos : Pos} (o : XO D n X raw sc N) (hrp : (!decide (b = .repr) || decide (("<repr>" : Str) ∈ N)) = true) (hg : gloB sc (Str.ofString b.x) = true) (hk : okName (Str.ofString b.x) = true) (hs : (a :: es).all noStar = true) (pa : PA X (a :: es) (MA D n X cs)) :
    PE X (.Call (.Name (Str.ofString b.x) p) (a :: es) [] pos) (M1 D n X (.blt b cs)) := by
  have cr := cr_blt (X := X) b o.calm o.hu (fun z => o.gd (by rw [decide_eq_true z, Bool.not_true, Bool.false_or, decide_eq_true_eq] at hrp; exact hrp))
  have hb := boot_blt b
  have hm : X.mg (Str.ofString b.x) = none := o.blt b.x (by cases b <;> simp [Blt.x])
  rw [List.all_cons, Bool.and_eq_true] at hs
  have conv : ∀ σ H Q, M1 D n X (.blt b cs) σ H Q → tCB (rC X.K X.mg (bltT b)) (MA D n X cs) σ H Q := fun σ H Q ⟨ρ, ls, h, t, h', g, rs, e, k⟩ => by
    unfold evE at e
    obtain ⟨xs, h1, e1, e2⟩ := R.bd_eq_ok e
    exact ⟨ρ, ls, h, xs, h1, g, rs, e1, fun ρ1 H1 vs E1 G1 r1 => ⟨ρ1, h1, xs, t, h', G1, r1, e2, k.mono E1⟩⟩
  have e1 := star_cons (es := es) (env := X.env) hs.1
  have e2 := star_any pos X.env es hs.2
  cases b <;> first
    | exact (pe_callB cr (o.gl hg) hm hb pa (okName_ok hk).2.2 (okName_ok hk).1 e1 e2).imp conv
    | exact (pe_callTy cr (o.gl hg) hm hb pa (okName_ok hk).2.2 (okName_ok hk).1 e1 e2).imp conv
/-! ### isinstance -/
theorem typeN_ok {K : PySem.W.Frag} {mg : Str → Option Value} {ρ : List Addr} {H : Hp} {h : Hh} {x : T} {v : V} {nm : String} (g : G K mg ρ H h) (r : RT K mg ρ H x v) (e : typeN h x = some nm) : ∃ ty, TyX K H v ty ∧ ∀ t ∈ tyNames, PySem.W.kitOne K ty (.type t) = some (isiT1 nm t) := by
  suffices z : (TyX K H v (.type nm) ∧ nm ∈ ["NoneType", "bool", "int", "str", "tuple", "list", "dict"]) ∨ (∃ C, TyX K H v (.ref C) ∧ InsOk K nm C) by
    rcases z with ⟨z, hn⟩ | ⟨C, z, io⟩
    · exact ⟨_, z, fun t ht => kit_ty (kit_all nm hn t ht)⟩
    · refine ⟨_, z, fun t ht => ?_⟩
      rw [io.kt t ht]
      have hn := io.nm
      unfold isiT1
      have h1 : (nm == t) = false := beq_eq_false_iff_ne.mpr fun q => hn (by
        rw [q]
        simp [tyNames] at ht
        rcases ht with rfl | rfl | rfl | rfl | rfl | rfl <;> simp)
      have h2 : (nm == "bool") = false := beq_eq_false_iff_ne.mpr fun q => hn (by rw [q]; simp)
      rw [h1, h2]
      rfl
  cases r with
  | non => cases e; exact .inl ⟨.base .non, by simp⟩
  | bl b => cases e; exact .inl ⟨.base (.bl b), by simp⟩
  | int b => cases e; exact .inl ⟨.base (.int b), by simp⟩
  | str b => cases e; exact .inl ⟨.base (.str b), by simp⟩
  | tup t _ =>
    cases e
    rcases t with t | ⟨o, its, m, h1, h2, _⟩
    · exact .inl ⟨.base (.tup t), by simp⟩
    · exact .inl ⟨.kTuple h1 h2, by simp⟩
  | fz t _ =>
    cases e
    rcases t with ⟨o, t⟩ | ⟨o, its, m, h1, h2, _⟩
    · exact .inl ⟨.base (.frz t), by simp⟩
    · exact .inl ⟨.kList h1 h2, by simp⟩
  | ref q =>
    dsimp only [typeN] at e
    split at e
    · rename_i xs eq
      cases e
      obtain ⟨vs, m1, _⟩ := g.mutL q (xs := xs) (by unfold mutL; rw [eq])
      exact .inl ⟨.base (.lst m1), by simp⟩
    · rename_i kvs eq
      cases e
      obtain ⟨qs, m1, _⟩ := g.dK q eq
      exact .inl ⟨.base (.dK m1), by simp⟩
    · rename_i c eq
      cases e
      cases g.ob _ _ _ q eq with
      | ins m1 io => exact .inr ⟨_, .base (.ins m1 io.cl io.ha io.hn io.htk io.hm), io⟩
    · cases e
  | fn q => cases e
theorem pe_ty {t : String} {p : Pos} (o : XO D n X raw sc N) (ht : t ∈ tyNames) (hg : gloB sc (Str.ofString t) = true) (hk : okName (Str.ofString t) = true) : PE X (.Name (Str.ofString t) p) (tC (.ty t)) :=
  pe_bltn (o.gl hg) (o.blt t (ty_sub t ht)) (boot_tys t ht) rfl (okName_ok hk).2.2 (okName_ok hk).1
theorem px_isi1 {a : CE} {t : String} {a' : Expr} {p p2 pos : Pos} (o : XO D n X raw sc N) (hg : gloB sc "isinstance" = true) (hk : okName "isinstance" = true) (hs : noStar a' = true) (ht : t ∈ tyNames) (hg2 : gloB sc (Str.ofString t) = true) (hk2 : okName (Str.ofString t) = true) (pa : PE X a' (M1 D n X a)) :
    PE X (.Call (.Name "isinstance" p) [a', .Name (Str.ofString t) p2] [] pos) (M1 D n X (.isiT a [t])) := by
  have hm : X.mg "isinstance" = none := o.blt "isinstance" (by simp)
  refine (pe_callB call_isi (o.gl hg) hm PyProof.Rows.boot_isinstance (pa_cons pa (pa_cons (pe_ty o ht hg2 hk2) pa_nil rfl) (star_cons hs)) (okName_ok hk).2.2 (okName_ok hk).1 (star_cons hs) rfl).imp fun σ H Q ⟨ρ, ls, h, t', h', g, rs, e, k⟩ => ?_
  unfold evE at e
  obtain ⟨x, h1, e1, e2⟩ := R.bd_eq_ok e
  clear e
  split at e2
  · rename_i nm en
    cases e2
    refine ⟨ρ, ls, h, x, _, g, rs, e1, fun ρ1 H1 v1 E1 G1 r1 => ?_⟩
    obtain ⟨tv, ty, hn⟩ := typeN_ok G1 r1 en
    refine ⟨v1, .ty t, tv, .type t, isiT1 nm t, rfl, .ty t, ty, hn t ht, ?_⟩
    have z := k _ _ _ E1 G1 (.bl _)
    simpa using z
  · cases e2
def tTys (ts : List String) : TA := fun _ H Q => Q (ts.map V.ty) H
theorem pa_tys (o : XO D n X raw sc N) : ∀ (ts : List String) (es : List Expr), ts.length = es.length → ((ts.zip es).all fun p => isNameE p.1 sc p.2) = true → (∀ t ∈ ts, t ∈ tyNames) → PA X es (tTys ts)
  | [], [], _, _, _ => pa_nil
  | t :: ts, e :: es, hl, h, hm => by
    rw [List.zip_cons_cons, List.all_cons, Bool.and_eq_true] at h
    have h1 : isNameE t sc e = true := h.1
    unfold isNameE at h1
    split at h1
    · rename_i x p
      rw [Bool.and_eq_true, Bool.and_eq_true, decide_eq_true_eq] at h1
      obtain ⟨⟨rfl, hg⟩, hk⟩ := h1
      exact (pa_cons (pe_ty o (hm t List.mem_cons_self) hg hk) (pa_tys o ts es (by simpa using hl) h.2 fun t h => hm t (List.mem_cons_of_mem _ h)) rfl).imp fun σ H Q q => q
    · cases h1
theorem clsV_tys : ∀ ts : List String, Paired ClsV (ts.map V.ty) (ts.map Value.type)
  | [] => .nil
  | t :: ts => .cons (.ty t) (clsV_tys ts)
theorem kitAny_tys {K : PySem.W.Frag} {nm : String} {tv : Value} (hn : ∀ t ∈ tyNames, PySem.W.kitOne K tv (.type t) = some (isiT1 nm t)) : ∀ ts : List String, (∀ t ∈ ts, t ∈ tyNames) → PySem.W.kitAny K tv (ts.map Value.type) = some (ts.any (isiT1 nm))
  | [], _ => rfl
  | t :: ts, h => by
    rw [List.map_cons]
    refine kitAny_cons (hn t (h t List.mem_cons_self)) (fun e => ?_) (fun e => ?_)
    · rw [kitAny_tys hn ts fun t h' => h t (List.mem_cons_of_mem _ h'), List.any_cons, e]
      rfl
    · rw [List.any_cons, e]
      rfl
theorem px_isiT {a : CE} {ts : List String} {a' : Expr} {es : List Expr} {j : Nat} {p p2 pos : Pos} (o : XO D n X raw sc N) (hg : gloB sc "isinstance" = true) (hk : okName "isinstance" = true) (hs : noStar a' = true) (ht : ∀ t ∈ ts, t ∈ tyNames) (hl : ts.length = es.length)
    (hz : ((ts.zip es).all fun p => isNameE p.1 sc p.2) = true) (h100 : ts.length ≤ 100) (pa : PE X a' (M1 D n X a)) : PE X (.Call (.Name "isinstance" p) [a', .Tuple es j p2] [] pos) (M1 D n X (.isiT a ts)) := by
  have hm : X.mg "isinstance" = none := o.blt "isinstance" (by simp)
  refine (pe_callB call_isiT (o.gl hg) hm PyProof.Rows.boot_isinstance (pa_cons pa (pa_cons (pe_tup (pa_tys o ts es hl hz ht)) pa_nil rfl) (star_cons hs)) (okName_ok hk).2.2 (okName_ok hk).1 (star_cons hs) rfl).imp fun σ H Q ⟨ρ, ls, h, t', h', g, rs, e, k⟩ => ?_
  unfold evE at e
  obtain ⟨x, h1, e1, e2⟩ := R.bd_eq_ok e
  clear e
  split at e2
  · rename_i nm en
    cases e2
    refine ⟨ρ, ls, h, x, _, g, rs, e1, fun ρ1 H1 v1 E1 G1 r1 => ⟨by rw [List.length_map]; exact line_le (by omega), fun q hq => ?_⟩⟩
    have E2 : Ext ρ1 H1 ρ1 (upd H1 q (.tup (ts.map V.ty))) := Ext.fresh hq
    obtain ⟨tv, ty, hn⟩ := typeN_ok (G1.fresh hq) (r1.ext E2) en
    exact ⟨v1, q, ts.map V.ty, tv, ts.map Value.type, _, rfl, upd_same, clsV_tys ts, ty, kitAny_tys hn ts ht, k _ _ _ (E1.trans E2) (G1.fresh hq) (.bl _)⟩
  · cases e2
/-! ### methods -/
def Mth.id (m : Mth) : String := m.ty ++ "." ++ m.x
def rM (K : PySem.W.Frag) (mg : Str → Option Value) (m : Mth) : V → List V → Hp → VK → Prop := fun x vs H Q =>
  ∃ ρ h tx ts t h', G K mg ρ H h ∧ RT K mg ρ H tx x ∧ RTs K mg ρ H ts vs ∧ mthT m tx ts h = .ok t h' ∧ Kn K mg ρ H h' t Q
theorem ixN_i {m : Nat} {i : Int} {k : Nat} (h : ixN m i = some k) : seqIndex? i m = some k ∧ k < m := ⟨(ixN_seq h).1, (ixN_seq h).2.1⟩
theorem mt_all (m : Mth) (id : String) (hid : id = match m with | .append => "list.append" | .extend => "list.extend" | .pop => "list.pop" | .get => "dict.get" | .index => "list.index") (hu : X.A.units + 1 < cLine) : MtR X id (rM X.K X.mg m) := by
  intro pins s σ H x vs v us Q I rx rv hq
  obtain ⟨ρ, h, tx, ts, t, h', g, r1, r2, e, k⟩ := hq
  subst hid
  unfold mthT at e
  split at e
  · rename_i a y
    cases r1 with
    | ref p1 =>
      obtain ⟨w, rfl, ry⟩ := r2.one
      split at e
      · rename_i xs ex
        split at e
        · rename_i hl
          cases e
          obtain ⟨ws, m1, q1⟩ := g.mutL p1 ex
          exact mt_append pins s σ H _ _ v us Q I rx rv ⟨_, ws, w, rfl, rfl, m1, line_lt (by rw [← q1.length]; exact hl), k.setL g p1 (q1.append (.cons ry .nil)) .non⟩
        · cases e
      · cases e
  · rename_i a b
    cases r1 with
    | ref p1 =>
      obtain ⟨w, rfl, ry⟩ := r2.one
      cases ry with
      | ref p2 =>
        split at e
        · rename_i xs ys ex ey
          split at e
          · rename_i hl
            cases e
            obtain ⟨ws, m1, q1⟩ := g.mutL p1 ex
            obtain ⟨zs, m2, q2⟩ := g.mutL p2 ey
            exact mt_extend pins s σ H _ _ v us Q I rx rv ⟨_, _, ws, zs, rfl, rfl, m1, m2, line_le (by rw [← q1.length, ← q2.length]; exact hl), k.setL g p1 (q1.append q2) .non⟩
          · cases e
        · cases e
  · rename_i a
    cases r1 with
    | ref p1 =>
      cases r2
      split at e
      · rename_i xs ex
        split at e
        · rename_i y ey
          cases e
          obtain ⟨ws, m1, q1⟩ := g.mutL p1 ex
          obtain ⟨w, hw, ry⟩ := q1.get ey
          rw [q1.length] at hw
          exact mt_pop pins s σ H _ _ v us Q I rx rv ⟨_, ws, w, rfl, rfl, m1, hw, k.setL g p1 q1.dropLast ry⟩
        · cases e
      · cases e
  · rename_i a i
    cases r1 with
    | ref p1 =>
      obtain ⟨w, rfl, ry⟩ := r2.one
      cases ry
      split at e
      · rename_i xs ex
        split at e
        · rename_i kx ek
          split at e
          · rename_i y ey
            split at e
            · rename_i hb
              cases e
              obtain ⟨ws, m1, q1⟩ := g.mutL p1 ex
              obtain ⟨w, hw, ry⟩ := q1.get ey
              rw [q1.length] at ek
              exact mt_popAt pins s σ H _ _ v us Q I rx rv ⟨_, ws, i, kx, w, rfl, rfl, m1, by omega, by omega, (ixN_i ek).1, hw, k.setL g p1 (q1.eraseIdx kx) ry⟩
            · cases e
          · cases e
        · cases e
      · cases e
  · rename_i a y
    cases r1 with
    | ref p1 =>
      obtain ⟨w, rfl, ry⟩ := r2.one
      split at e
      · rename_i kvs kk ek et
        cases e
        obtain ⟨qs, m1, q1⟩ := g.dK p1 ek
        have ev := T.kt_ok et ry
        subst ev
        cases rx
        obtain ⟨u0, rfl, ru⟩ := rv.one
        refine d_get1 hu I (DGet.k m1) ru fun w' s' I' rw' => ⟨_, H, I', rw', ?_⟩
        obtain ⟨l1, l2⟩ := q1.look kk
        cases z : lookK kvs kk with
        | none =>
          rw [z] at k
          rw [l2 z]
          exact k.now g .non
        | some x0 =>
          rw [z] at k
          obtain ⟨v0, hv, rr⟩ := l1 x0 z
          rw [hv]
          exact k.now g rr
      · cases e
  · rename_i a y dd
    cases r1 with
    | ref p1 =>
      obtain ⟨w, w2, rfl, ry, rd⟩ := r2.two
      split at e
      · rename_i kvs kk ek et
        cases e
        obtain ⟨qs, m1, q1⟩ := g.dK p1 ek
        have ev := T.kt_ok et ry
        subst ev
        cases rx
        obtain ⟨u0, u1, rfl, ru, ru1⟩ := vals2 rv
        refine d_get2 hu I (DGet.k m1) ru ru1 fun w' s' I' rw' => ⟨_, H, I', rw', ?_⟩
        obtain ⟨l1, l2⟩ := q1.look kk
        cases z : lookK kvs kk with
        | none =>
          rw [z] at k
          rw [l2 z]
          exact k.now g rd
        | some x0 =>
          rw [z] at k
          obtain ⟨v0, hv, rr⟩ := l1 x0 z
          rw [hv]
          exact k.now g rr
      · cases e
  · cases e
theorem tyV_of {K : PySem.W.Frag} {mg : Str → Option Value} {ρ : List Addr} {H : Hp} {h : Hh} {x : T} {v : V} {m : Mth} (g : G K mg ρ H h) (r : RT K mg ρ H x v) (e : typeN h x = some m.ty) : tyV K m.ty v H := by
  have ht : m.ty = "list" ∨ m.ty = "dict" := by cases m <;> simp [Mth.ty]
  cases r with
  | non => rcases ht with z | z <;> rw [z] at e <;> simp [typeN] at e
  | bl b => rcases ht with z | z <;> rw [z] at e <;> simp [typeN] at e
  | int b => rcases ht with z | z <;> rw [z] at e <;> simp [typeN] at e
  | str b => rcases ht with z | z <;> rw [z] at e <;> simp [typeN] at e
  | tup t _ => rcases ht with z | z <;> rw [z] at e <;> simp [typeN] at e
  | fn q => cases e
  | fz t _ =>
    rcases ht with z | z
    · rw [z]
      exact .inl ⟨rfl, _, t.sq⟩
    · rw [z] at e
      simp [typeN] at e
  | ref q =>
    dsimp only [typeN] at e
    split at e
    · rename_i xs eq
      obtain ⟨vs, m1, _⟩ := g.mutL q (xs := xs) (by unfold mutL; rw [eq])
      rw [← Option.some.inj e]
      exact .inl ⟨rfl, _, SqL.of m1⟩
    · rename_i kvs eq
      obtain ⟨qs, m1, _⟩ := g.dK q eq
      rw [← Option.some.inj e]
      exact .inr (.inr (.inl ⟨rfl, .inl ⟨_, m1⟩⟩))
    · rename_i c eq
      cases g.ob _ _ _ q eq with
      | ins m1 io =>
        have z := Option.some.inj e
        rw [z] at io
        exfalso
        rcases ht with y | y <;> rw [y] at io <;> exact io.nm (by simp)
    · cases e
theorem px_mth {m : Mth} {c : CE} {cs : CEs} {c' : Expr} {es : List Expr} {ap cp : Pos} (o : XO D n X raw sc N) (h0 : noCall0 c' = true) (hl : (ap.endLine == cp.line) = true) (hs : es.all noStar = true) (h20 : es.length < 20) (hnil : es = [] → cs = .nil) (pc : PE X c' (M1 D n X c)) (pa : PA X es (MA D n X cs)) :
    PE X (.Call (.Attribute c' (Str.ofString m.x) ap) es [] cp) (M1 D n X (.mth m c cs)) := by
  have hu : X.A.units + 1 < cLine := by have := o.hu; omega
  have conv : ∀ σ H Q, M1 D n X (.mth m c cs) σ H Q → tBM X.K m.ty (rM X.K X.mg m) (M1 D n X c) (MA D n X cs) σ H Q := fun σ H Q ⟨ρ, ls, h, t, h', g, rs, e, k⟩ => by
    unfold evE at e
    obtain ⟨x, h1, e1, e2⟩ := R.bd_eq_ok e
    clear e
    split at e2
    · rename_i ht
      obtain ⟨xs, h2, e3, e4⟩ := R.bd_eq_ok e2
      exact ⟨ρ, ls, h, x, h1, g, rs, e1, fun ρ1 H1 v1 E1 G1 r1 => ⟨tyV_of G1 r1 ht, ρ1, ls, h1, xs, h2, G1, rs.ext E1, e3, fun ρ2 H2 vs E2 G2 r2 => ⟨ρ2, h2, x, xs, t, h', G2, r1.ext E2, r2, e4, k.mono (E1.trans E2)⟩⟩⟩
    · cases e2
  have conv0 : cs = .nil → ∀ σ H Q, M1 D n X (.mth m c cs) σ H Q → tBM0 X.K m.ty (rM X.K X.mg m) (M1 D n X c) σ H Q := fun hc σ H Q ⟨ρ, ls, h, t, h', g, rs, e, k⟩ => by
    subst hc
    unfold evE at e
    obtain ⟨x, h1, e1, e2⟩ := R.bd_eq_ok e
    clear e
    split at e2
    · rename_i ht
      unfold evEs at e2
      exact ⟨ρ, ls, h, x, h1, g, rs, e1, fun ρ1 H1 v1 E1 G1 r1 => ⟨tyV_of G1 r1 ht, ρ1, h1, x, [], t, h', G1, r1, .nil, e2, k.mono E1⟩⟩
    · cases e2
  cases es with
  | nil =>
    have cv := conv0 (hnil rfl)
    cases m with
    | append => exact (pe_bm0 PySem.F.plainAttrs_list PySem.F.slot_list_append PySem.F.type_list_append (mt_all .append _ rfl hu) pc (base_of h0) hl).imp cv
    | extend => exact (pe_bm0 PySem.F.plainAttrs_list PySem.F.slot_list_extend PySem.F.type_list_extend (mt_all .extend _ rfl hu) pc (base_of h0) hl).imp cv
    | pop => exact (pe_bm0 PySem.F.plainAttrs_list PySem.F.slot_list_pop PySem.F.type_list_pop (mt_all .pop _ rfl hu) pc (base_of h0) hl).imp cv
    | index => exact (pe_bm0 PySem.F.plainAttrs_list PySem.F.slot_list_index PySem.F.type_list_index (mt_all .index _ rfl hu) pc (base_of h0) hl).imp cv
    | get => exact (pe_bm0 PySem.F.plainAttrs_dict PySem.F.slot_dict_get PySem.F.type_dict_get (mt_all .get _ rfl hu) pc (base_of h0) hl).imp cv
  | cons a r =>
    have hs' := hs
    rw [List.all_cons, Bool.and_eq_true] at hs
    have s1 := star_cons (es := r) (env := X.env) hs.1
    have s2 := star_any cp X.env r hs.2
    have fw := few_of (pos := cp) (env := X.env) hs' h20
    cases m with
    | append => exact (pe_bm PySem.F.plainAttrs_list PySem.F.slot_list_append PySem.F.type_list_append (mt_all .append _ rfl hu) pc pa (base_of h0) fw hl s1 s2).imp conv
    | extend => exact (pe_bm PySem.F.plainAttrs_list PySem.F.slot_list_extend PySem.F.type_list_extend (mt_all .extend _ rfl hu) pc pa (base_of h0) fw hl s1 s2).imp conv
    | pop => exact (pe_bm PySem.F.plainAttrs_list PySem.F.slot_list_pop PySem.F.type_list_pop (mt_all .pop _ rfl hu) pc pa (base_of h0) fw hl s1 s2).imp conv
    | index => exact (pe_bm PySem.F.plainAttrs_list PySem.F.slot_list_index PySem.F.type_list_index (mt_all .index _ rfl hu) pc pa (base_of h0) fw hl s1 s2).imp conv
    | get => exact (pe_bm PySem.F.plainAttrs_dict PySem.F.slot_dict_get PySem.F.type_dict_get (mt_all .get _ rfl hu) pc pa (base_of h0) fw hl s1 s2).imp conv
end
end MP

set_option Elab.async false
set_option linter.all false
set_option maxRecDepth 100000
set_option maxHeartbeats 1000000
/-! MiniPy, part Jt: a told of a lambda -/
namespace MP
open PySem PySem.Spec PyProof.Rows L2
variable [tt : Mkr]
section
variable {D : Tbl} {n : Nat} {X : Cx} {raw sc : Scope} {N : List Str}
theorem _root_.L2.PK.imp {X : Cx} {e : List Keyword} {t t' : TA} (h : PK X e t) (f : ∀ σ H Q, t' σ H Q → t σ H Q) : PK X e t' := ⟨fun p pins s σ H Q I q => h.run p pins s σ H Q I (f σ H Q q)⟩
def varsR (is : List Nat) : Ls → Hh → R (List T) := fun ls h => match getL ls is with
  | some xs => .ok xs h
  | none => .bad
theorem varsR_nil {ls : Ls} {h h' : Hh} {ts : List T} (e : varsR [] ls h = .ok ts h') : ts = [] ∧ h' = h := by
  unfold varsR getL at e
  cases e
  exact ⟨rfl, rfl⟩
theorem varsR_cons {i : Nat} {is : List Nat} {ls : Ls} {h h' : Hh} {ts : List T} (e : varsR (i :: is) ls h = .ok ts h') : ∃ t xs, ls[i]? = some (some t) ∧ varsR is ls h = .ok xs h ∧ ts = t :: xs ∧ h' = h := by
  unfold varsR at e ⊢
  rw [getL] at e
  split at e
  · rename_i xs0 e0
    split at e0
    · rename_i t et
      cases q : getL ls is with
      | none =>
        rw [q] at e0
        cases e0
      | some xs =>
        rw [q] at e0
        cases e0
        cases e
        exact ⟨t, xs, et, rfl, rfl, rfl⟩
    · cases e0
  · cases e
theorem pa_vars {Y : Cx} (hN : Y.N = N) : ∀ (is : List Nat) (es : List Expr), varsB N Y.env.scope is es = true → PA Y es (rdA Y.K Y.mg (varsR is)) ∧ es.all noStar = true ∧ is.length = es.length
  | [], es, h => by
    unfold varsB at h
    cases es with
    | nil =>
      refine ⟨pa_nil.imp fun σ H Q ⟨ρ, ls, h, ts, h', g, rs, e, k⟩ => ?_, rfl, rfl⟩
      obtain ⟨rfl, rfl⟩ := varsR_nil e
      exact k ρ H [] Ext.refl g .nil
    | cons a r => cases h
  | i :: is, es, h => by
    unfold varsB at h
    split at h
    · rename_i x p es2
      simp only [Bool.and_eq_true, decide_eq_true_eq] at h
      obtain ⟨⟨⟨h1, h2⟩, h3⟩, h4⟩ := h
      obtain ⟨q1, q2, q3⟩ := pa_vars hN is es2 h4
      refine ⟨(pa_cons (pe_var (pos := p) (by rw [hN]; exact h1) (visB_ok h2) (okName_ok h3).1 (okName_ok h3).2.1) q1 rfl).imp fun σ H Q ⟨ρ, ls, h, ts, h', g, rs, e, k⟩ => ?_, by rw [List.all_cons, q2]; rfl, by rw [List.length_cons, List.length_cons, q3]⟩
      obtain ⟨t, xs, et, e2, rfl, rfl⟩ := varsR_cons e
      obtain ⟨v, hv, rv⟩ := rs.get i t et
      exact ⟨v, hv, ρ, ls, _, xs, _, g, rs, e2, fun ρ1 H1 vs E1 G1 r1 => k ρ1 H1 (v :: vs) E1 G1 (.cons (rv.ext E1) r1)⟩
    · cases h
theorem pk_vars {Y : Cx} (hN : Y.N = N) : ∀ (ks : List String) (js : List Nat) (kws : List Keyword), kwsB N Y.env.scope ks js kws = true → PK Y kws (rdA Y.K Y.mg (varsR js)) ∧ kws.map (·.arg) = ks.map fun k => some (Str.ofString k)
  | [], js, kws, h => by
    unfold kwsB at h
    cases js with
    | cons a r => cases h
    | nil =>
      cases kws with
      | cons a r => cases h
      | nil =>
        refine ⟨pk_nil.imp fun σ H Q ⟨ρ, ls, h, ts, h', g, rs, e, k⟩ => ?_, rfl⟩
        obtain ⟨rfl, rfl⟩ := varsR_nil e
        exact k ρ H [] Ext.refl g .nil
  | k :: ks, js, kws, h => by
    unfold kwsB at h
    split at h
    · rename_i j js2 nm x p p2 kws2
      simp only [Bool.and_eq_true, decide_eq_true_eq] at h
      obtain ⟨⟨⟨⟨rfl, h1⟩, h2⟩, h3⟩, h4⟩ := h
      obtain ⟨q1, q2⟩ := pk_vars hN ks js2 kws2 h4
      refine ⟨(pk_cons (pe_var (pos := p) (by rw [hN]; exact h1) (visB_ok h2) (okName_ok h3).1 (okName_ok h3).2.1) q1).imp fun σ H Q ⟨ρ, ls, h, ts, h', g, rs, e, k⟩ => ?_, by rw [List.map_cons, List.map_cons, q2]⟩
      obtain ⟨t, xs, et, e2, rfl, rfl⟩ := varsR_cons e
      obtain ⟨v, hv, rv⟩ := rs.get j t et
      exact ⟨v, hv, ρ, ls, _, xs, _, g, rs, e2, fun ρ1 H1 vs E1 G1 r1 => k ρ1 H1 (v :: vs) E1 G1 (.cons (rv.ext E1) r1)⟩
    · cases h
/-- behind the making of a lambda -/
theorem ext_tab {K : PySem.W.Frag} {mg : Str → Option Value} {ρ : List Addr} {H H1 : Hp} {h : Hh} (g : G K mg ρ H h) (e : LamX.ExtN H H1) (t : LamX.Tabs tt.T H1) : Ext ρ H ρ H1 ∧ G K mg ρ H1 h := by
  have E : Ext ρ H ρ H1 := ⟨List.prefix_refl _, fun a ha => .inl ha, fun a o q _ nt => e a o q nt, fun a xs q => e a _ q (by intro ps z; cases z), fun a o u q => e a _ q (by intro ps z; cases z)⟩
  refine ⟨E, g.step E (fun a ha => ?_) t⟩
  obtain ⟨o, q, _⟩ := g.mem_some ha
  rw [q]
  exact e a o q fun ps z => g.mem_no ha o q (.inl ⟨ps, z⟩)
theorem look_nodup {α : Type} {p : String × α} : ∀ {l : List (String × α)}, (l.map (·.1)).Nodup → p ∈ l → l.lookup p.1 = some p.2
  | [], _, h => by cases h
  | q :: r, nd, h => by
    rw [List.map_cons, List.nodup_cons] at nd
    rcases List.mem_cons.mp h with e | e
    · subst e
      obtain ⟨a, b⟩ := p
      simp [List.lookup_cons]
    · have hne : (p.1 == q.1) = false := beq_eq_false_iff_ne.mpr fun z => nd.1 (by rw [← z]; exact List.mem_map_of_mem e)
      obtain ⟨a, b⟩ := q
      rw [List.lookup_cons]
      dsimp only at hne ⊢
      rw [hne]
      exact look_nodup nd.2 e
theorem mem_look {α : Type} {c : String} {w : α} : ∀ {l : List (String × α)}, l.lookup c = some w → (c, w) ∈ l
  | [], h => by cases h
  | (a, b) :: r, h => by
    rw [List.lookup_cons] at h
    split at h
    · rename_i q
      cases h
      rw [eq_of_beq q]
      exact List.mem_cons_self
    · exact List.mem_cons_of_mem _ (mem_look h)
/-- what a told makes of its call -/
theorem told_rd {hs : List (String × String)} {hf : List (String × String × String)} {ρ : List Addr} {H : Hp} {r : R T} {t : T} {h' : Hh} {Q : VK} (ehs : hs = hf.map (fun p => (p.1, p.2.1))) (hes : ∀ p ∈ hf, (p.1, p.2.2) ∈ D.xs) (S : SubsAt X.K X.mg hf) (nd : (D.xs.map (·.1)).Nodup)
    (e : toldT hs r = .ok t h') (k : Kn X.K X.mg ρ H h' t Q) : ∃ fl h2, flX r = .ok fl h2 ∧ endX X.K X.mg D.xs ρ H h2 (fun v H1 => 2 ≤ sizeLine ∧ ∀ p, H1 p = none → Q (.ref p) (upd H1 p (.tup [.str (Str.ofString "told"), v]))) (exTold X.mg hf Q) fl := by
  cases r with
  | bad => cases e
  | ok v h3 =>
    cases e
    refine ⟨.rt v, _, rfl, fun ρ1 H1 v1 E1 G1 r1 => ⟨by decide, fun p hp => ?_⟩⟩
    exact k ρ1 _ _ (E1.trans (Ext.fresh hp)) (G1.fresh hp) (.tup (.inl upd_same) (.cons (.str _) (.cons (r1.ext (Ext.fresh hp)) .nil)))
  | exc c fs h3 =>
    unfold toldT at e
    dsimp only at e
    split at e
    · rename_i w x ew
      cases e
      refine ⟨.xc c [x], _, rfl, fun ρ1 H1 E1 G1 C fld t2 d v hm hx ht hd rv => ?_⟩
      cases ht
      obtain ⟨p, hp, e1, e2⟩ : ∃ p ∈ hf, p.1 = c ∧ p.2.1 = w := by
        have := mem_look ew
        rw [ehs] at this
        obtain ⟨p, hp, e⟩ := List.mem_map.mp this
        cases e
        exact ⟨p, hp, rfl, rfl⟩
      subst e1 e2
      have f1 := look_nodup nd (hes p hp)
      have f2 := look_nodup nd hx
      dsimp only at f1 f2
      rw [f1] at f2
      cases f2
      exact ⟨p, hp, C, d, v, hm, rfl, rfl, hd, fun q hq => k ρ1 _ _ (E1.trans (Ext.fresh hq)) (G1.fresh hq) (.tup (.inl upd_same) (.cons (.str _) (.cons (rv.ext (Ext.fresh hq)) .nil)))⟩
    · cases e
theorem px_told {g f : String} {is js : List Nat} {ks : List String} {es : List Expr} {kws : List Keyword} {scope : Scope} {hs : List (String × String)} {fd : FD} {p1 p2 p3 p4 p5 : Pos} (o : XO D n X raw sc N) (hg : gloB sc (Str.ofString g) = true) (hk : okName (Str.ofString g) = true) (hd : D.td g = some hs) (hmk : ("<lambda>" : Str) ∈ N)
    (hl : LamX.lamSB sc scope = true) (hg2 : gloB scope (Str.ofString f) = true) (hk2 : okName (Str.ofString f) = true) (hf : D.fn f = some fd) (hgr : grd fd = false) (hv : varsB N scope is es = true)
    (hkw : (if ks.isEmpty then kws.isEmpty && js.isEmpty else decide ((f, es.length, ks) ∈ D.kw) && kwsB N scope ks js kws) = true) :
    PE X (.Call (.Name (Str.ofString g) p1) [.Lambda ⟨[], [], none, [], [], none, []⟩ (.Call (.Name (Str.ofString f) p2) es kws p3) scope p4] [] p5) (M1 D n X (.told g f is ks js)) := by
  obtain ⟨c, P, hcode, TB, hmT, hu⟩ := o.lam hmk
  obtain ⟨st, ga, gdata, a, e, hf3, gv, Fg, hmg, Sg, bdg, tb, ehs, hes, S, hge, nd⟩ := o.tds g hs hd
  obtain ⟨fa, fdata, F, hm, kp, bd, bk⟩ := o.fns f fd hf
  obtain ⟨oc, od, kV, doc, pm, an, cdv, ct, osl, rfl, lk, hcd⟩ := Fg.ex
  have va : Vis (defScope st) a ∧ okName a = true := by
    unfold toldB at tb
    split at tb
    · simp only [Bool.and_eq_true, decide_eq_true_eq] at tb
      obtain ⟨⟨⟨⟨⟨⟨_, _⟩, _⟩, h4⟩, _⟩, h6⟩, _⟩ := tb
      exact ⟨visB_ok h4, h6⟩
    · cases tb
  have hN : X.N = N := o.eN
  have hlam : LamX.LamS X.env.scope scope := by
    rw [o.esc]
    exact LamX.lamS_by hl
  refine (LamX.pe_lamcall (x := Str.ofString g) (a := a) (T := tt.T) (TT := TTell X.mg hf3) (k := 3 * n) (t := fun E => rdX X.K X.mg D.xs E fun ls h => (varsR is ls h).bd fun xs h1 => (varsR js ls h1).bd fun ys h2 => match argX D f xs ks ys with | some zs => flX (callN D n f zs h2) | none => .bad)
    (o.gl hg) hmg Fg.kp lk hcd bdg Sg rfl va.1 (told_go S tb hge Sg) TB hcode hmT hu o.room hlam rfl (fun q cl pm cv ctv => rfl) (fun A outer s H E f' c' hr => ?_) (okName_ok hk).1 (okName_ok va.2).1 (okName_ok va.2).2.1).imp fun σ H Q ⟨ρ, ls, h, t, h', gg, rs, ev, k⟩ => ?_
  · have tk : Takes (LamX.lamCx X A outer s H E scope f' c') (fun cls d _ H => E cls d H) := L2.takes_of (X := LamX.lamCx X A outer s H E scope f' c') (E := E) rfl rfl rfl rfl
    obtain ⟨pa, hst, hlen⟩ := pa_vars (Y := LamX.lamCx X A outer s H E scope f' c') (N := N) hN is es hv
    have h0 : es = [] → ∀ ls h, varsR is ls h = .ok [] h := fun z ls h => by
      rw [z] at hlen
      cases is with
      | nil => rfl
      | cons a b => cases hlen
    have vl : ∀ (is : List Nat) ls h xs h', varsR is ls h = .ok xs h' → xs.length = is.length := by
      intro is
      induction is with
      | nil =>
        intro ls h xs h' e
        obtain ⟨rfl, _⟩ := varsR_nil e
        rfl
      | cons i is ih =>
        intro ls h xs h' e
        obtain ⟨t, ys, _, e2, rfl, _⟩ := varsR_cons e
        rw [List.length_cons, List.length_cons, ih _ _ _ _ e2]
    cases ks with
    | nil =>
      have hkw' : (kws.isEmpty && js.isEmpty) = true := hkw
      rw [Bool.and_eq_true, List.isEmpty_iff, List.isEmpty_iff] at hkw'
      obtain ⟨rfl, rfl⟩ := hkw'
      refine (px_callX (X := LamX.lamCx X A outer s H E scope f' c') (m1 := varsR is) (W := E) F hf hm kp bd (fun z => by rw [hgr] at z; cases z) hr (gloB_ok hg2) hk2 hst h0 tk pa).imp fun σ H Q ⟨ρ, ls, h, fl, h', g, rs, e, k⟩ => ⟨ρ, ls, h, fl, h', g, rs, ?_, k⟩
      rw [← e]
      show (varsR is ls h).bd _ = (varsR is ls h).bd _
      congr 1
      funext xs h1
      unfold argX
      rw [hf] <;> rfl
    | cons k0 kr =>
      have hkw' : (decide ((f, es.length, k0 :: kr) ∈ D.kw) && kwsB N scope (k0 :: kr) js kws) = true := hkw
      rw [Bool.and_eq_true, decide_eq_true_eq] at hkw'
      obtain ⟨pk, hnm⟩ := pk_vars (Y := LamX.lamCx X A outer s H E scope f' c') (N := N) hN (k0 :: kr) js kws hkw'.2
      refine (px_callXK (X := LamX.lamCx X A outer s H E scope f' c') (m1 := varsR is) (m2 := varsR js) (W := E) F hf hm kp (bk _ _ hkw'.1) (fun z => by rw [hgr] at z; cases z) hr (gloB_ok hg2) hk2 hst h0 hnm (fun ls h xs h' e => (vl is ls h xs h' e).trans hlen) tk pa pk).imp fun σ H Q ⟨ρ, ls, h, fl, h', g, rs, e, k⟩ => ⟨ρ, ls, h, fl, h', g, rs, ?_, k⟩
      rw [← e]
      show (varsR is ls h).bd _ = (varsR is ls h).bd _
      congr 1
      funext xs h1
      congr 1
      funext ys h2
      unfold argX
      rw [hf] <;> rfl
  · refine ⟨gg.tab, fun H1 eN t1 => ?_⟩
    obtain ⟨E1, G1⟩ := ext_tab gg eN t1
    unfold evE at ev
    split at ev
    · rename_i xs ys ex ey
      split at ev
      · rename_i hs2 zs eh ez
        rw [hd] at eh
        cases eh
        obtain ⟨fl, h2, e1, e2⟩ := told_rd (X := X) (D := D) (hf := hf3) ehs hes S o.xnd ev (Kn.mono k E1)
        refine ⟨ρ, ls, h, fl, h2, G1, rs.ext E1, ?_, e2⟩
        unfold varsR
        dsimp only
        rw [ex, ey]
        simp only [R.bd_ok, ez]
        exact e1
      · cases ev
    · cases ev
end
end MP

set_option Elab.async false
set_option linter.all false
set_option maxRecDepth 100000
/-! MiniPy, part S: sorted(set(a list of ints)) -/
namespace MP
open PySem PySem.Spec PyProof.Rows L2
variable [tt : Mkr]
/-- the empty set, as the model makes it -/
abbrev noSetO (w : World) : Obj := { cls := .type "set", dict := none, data := .set #[] 0 (.fresh 0 0 (!w.params.followText "set-order")) }
abbrev atSet (w : World) (s : Shared) : Shared := { s with heap := s.heap.push (noSetO w) }
section
variable {P : Program} {w : World} {A : Around} {E : Value → Shared → Prop} {s : Shared}
set_option maxHeartbeats 3200000 in
theorem call_setL {l : Addr} {us : Array Value} (ns : List Int) {Q : Value → Shared → Prop} (hd : A.handled = none) (hl : s.heap.IsList l us) (hi : IntsAre us.toList ns) (hz : ns.length + 1 < scanBound)
    (h : ∀ (g : Heap) (tk c : Nat), SetR w g s.heap.objs.size (fun j => decide (j ∈ ns)) c → c ≤ ns.length → (∀ b o, s.heap.get? b = some o → g.get? b = some o) → Q (.ref s.heap.objs.size) { s with heap := g, toks := tk }) :
    wpAny (model P w) A (call (.type "set") [.ref l]) Q E s := by
  have sz : us.size = ns.length := by simpa using hi.length
  obtain ⟨mc, mt, mro⟩ := F.called_set.mro
  have c1 := F.called_set.made
  have c2 := F.called_set.sub
  have c3 := F.called_set.notType
  have c4 := F.called_set.canCreate
  have c5 := F.typeCall_set_1 (Value.ref l)
  apply wpAny_call
  apply codeAny_of_tree
  show wpAny _ _ (callAny (Value.type "set") _) _ _ _
  apply wpAny_pure
  refine ⟨Code.quiet_builtin _ (by decide +kernel), codeAny_builtin F.entry_type_call ?_⟩
  rw [Around.under_plain (weight_type_call_type "set" [Value.ref l] []) rfl]
  repeat (any_goals (first | wp_step | assumption))
  have mk : codeAny (model P w) _ _ _ _ := code_set_led1 (P := P) (w := w) (A := A.in1) (s := s) (Value.ref l) (E := E) (Q₁ := fun u z => u = Value.ref s.heap.objs.size ∧ z = atSet w s) ⟨rfl, rfl⟩
  refine codeAny_mono mk fun r z hr => ?_
  match r, hr with
  | .error e, hr => exact hr
  | .ok .next, hr => exact hr.elim
  | .ok .brk, hr => exact hr.elim
  | .ok .cont, hr => exact hr.elim
  | .ok (.ret u), hr =>
    obtain ⟨rfl, rfl⟩ := hr
    have at0 : (atSet w s).heap.get? s.heap.objs.size = some (noSetO w) := Heap.get?_push_size _ rfl
    have ty0 : Shared.TypeIs (atSet w s) (.ref s.heap.objs.size) "set" := ⟨_, at0, rfl⟩
    have i1 := F.called_set.init.lookup
    have i2 := F.called_set.init.bind (Value.ref s.heap.objs.size)
    repeat (any_goals (first | wp_step | assumption))
    have go : codeAny (model P w) _ _ _ _ := codeAny_call_builtin (A := A.in1) (s := atSet w s) (R := wants (fun r z => r = Value.none ∧ ∃ (g : Heap) (tk c : Nat), z = { s with heap := g, toks := tk } ∧ SetR w g s.heap.objs.size (fun j => decide (j ∈ ns)) c ∧ c ≤ ns.length ∧ ∀ b o, s.heap.get? b = some o → g.get? b = some o) E)
      F.called_set.init.plain F.entry_set_init (check_set_init_1 (a := .ref l) ty0 ?_)
    · refine codeAny_mono go fun r z hr => ?_
      match r, hr with
      | .error e, hr => exact hr
      | .ok .next, hr => exact hr.elim
      | .ok .brk, hr => exact hr.elim
      | .ok .cont, hr => exact hr.elim
      | .ok (.ret u), hr =>
        obtain ⟨rfl, g, tk, c, rfl, q1, q2, q3⟩ := hr
        repeat (any_goals (first | wp_step | assumption))
        exact h g tk c q1 q2 q3
    · obtain ⟨⟨lc, ld, lq, ls⟩, lo, e1, nn, e2⟩ := hl
      dsimp only at e1 e2
      subst e1 e2
      have lo2 : (atSet w s).heap.get? l = some { cls := .type "list", dict := ld, data := .seq us nn, slots := ls } := Heap.get?_push_of_some _ lo
      have k1 := F.sub_list_set
      have k2 := F.sub_list_frozenset
      have k3 : (Value.type "list" == Value.type "dict") = false := by decide
      have isl : (atSet w s).heap.IsList l us := ⟨_, lo2, rfl, nn, rfl⟩
      unfold Builtin.«set.__init__» noKeywords Builtin.Frozenset.updateFrom
      generalize hp : pyIter = pI
      wp_walk
      subst hp
      apply wpAny_pyIter_list isl
      apply wpAny_bind
      apply wpAny_runValue
      have ll : l < s.heap.objs.size := Heap.lt_size lo
      have siz : (atSet w s).heap.objs.size = s.heap.objs.size + 1 := Heap.size_push ..
      have n1 : l ≠ (atSet w s).heap.objs.size := by
        rw [siz]
        exact Nat.ne_of_lt (Nat.lt_succ_of_lt ll)
      have n2 : s.heap.objs.size ∉ [(atSet w s).heap.objs.size, l] := by
        rw [siz]
        intro z
        rcases List.mem_cons.mp z with z | z
        · exact absurd z (Nat.ne_of_lt (Nat.lt_succ_self _))
        · exact absurd (List.mem_singleton.mp z) (Nat.ne_of_gt ll)
      have vals : ∀ (i : Nat) (v : Value), us[i]? = some v → ∃ k t, ns[i]? = some k ∧ v = .int k t := fun i v hv => by
        have il : i < ns.length := by rw [← sz]; exact (Array.getElem?_eq_some_iff.mp hv).1
        obtain ⟨t, e⟩ := PyProof.Rows.IntsAre.int_at hi i v (by simpa using hv)
        refine ⟨ns[i], t, List.getElem?_eq_getElem il, ?_⟩
        rw [e]
        simp [List.getElem?_eq_getElem il]
      have W := (Walks.list (prog := P) (w := w) (A := A.in1.in1.in1) (by simp [hd]) _ l n1 us).toS
      refine set_update_ints W s.heap.objs.size n2 ns sz hz vals (us.size - 0) 0 _ (by omega) (Nat.zero_le _) ⟨⟨_, Heap.get?_push_size _ rfl, rfl, rfl⟩, isl.push _⟩ ⟨0, Nat.le_refl 0, setR_new_at (Heap.get?_push_of_some _ at0)⟩ ?_
      intro z c mv cl rr
      obtain ⟨g, g2, d2, t2, o2⟩ := z
      obtain rfl : g2 = s.gens := mv.gens
      obtain rfl : d2 = s.drawn := mv.drawn
      obtain rfl : o2 = s.os := mv.os
      show wpAny _ _ _ _ _ _
      apply wpAny_pure
      show wpAny _ _ (ret Value.none) _ _ _
      apply wpAny_pure
      refine ⟨rfl, g, t2, c, rfl, rr, by omega, fun b o e => ?_⟩
      have bl : b < s.heap.objs.size := Heap.lt_size e
      refine mv.heap b o ?_ (Heap.get?_push_of_some _ (Heap.get?_push_of_some _ e))
      rw [siz]
      intro z
      rcases List.mem_cons.mp z with z | z
      · exact absurd z (Nat.ne_of_lt bl)
      · exact absurd (List.mem_singleton.mp z) (Nat.ne_of_lt (Nat.lt_succ_of_lt bl))
end
section
variable {X : Cx}
def rSetL (K : PySem.W.Frag) (w : World) : List V → Hp → VK → Prop := fun xs H Q => ∃ (l : Addr) (ns : List Int), xs = [V.ref l] ∧ SqL K H l (ns.map V.int) ∧ ns.length < 64 ∧
  ∀ p c, H p = none → c ≤ ns.length → Q (.ref p) (upd H p (SetO w p (fun j => decide (j ∈ ns)) c))
theorem cr_setL (hc : X.calm = true) : CallR X (.type "set") (rSetL X.K X.w) := by
  intro pins s σ H xs us Q I r h
  obtain ⟨l, ns, rfl, hs, hl, q⟩ := h
  rw [Vals.ref1 r]
  obtain ⟨its, rv, pl, _⟩ := I.list hs
  have il : s.heap.IsList l its.toArray := by
    obtain ⟨o, n, e, h1, h2, h3⟩ := pl
    exact ⟨o, e, h1, n, h3⟩
  refine call_setL ns (I.ok.hd hc) il (ints_of_vals rv) (by unfold scanBound; omega) fun g tk c R hc k => ?_
  exact ⟨.ref _, _, I.laid (t' := tk) k (Nat.le_refl _) (setO_new R), rfl, q _ c (I.hok.fresh (Nat.le_refl _)) hc⟩
end

/-! ### the ints, each once, in order -/
theorem insU_mem {k j : Int} : ∀ l : List Int, j ∈ insU k l ↔ j = k ∨ j ∈ l
  | [] => by simp [insU]
  | i :: r => by
    unfold insU
    split
    · simp
    · split
      · rename_i e
        subst e
        simp
      · rw [List.mem_cons, insU_mem r, List.mem_cons]
        constructor
        · rintro (h | h | h)
          · exact .inr (.inl h)
          · exact .inl h
          · exact .inr (.inr h)
        · rintro (h | h | h)
          · exact .inr (.inl h)
          · exact .inl h
          · exact .inr (.inr h)
theorem insU_lt {k : Int} : ∀ l : List Int, l.Pairwise (· < ·) → (insU k l).Pairwise (· < ·)
  | [], _ => by simp [insU]
  | i :: r, h => by
    obtain ⟨h1, h2⟩ := List.pairwise_cons.mp h
    unfold insU
    split
    · rename_i e
      refine List.pairwise_cons.mpr ⟨fun y hy => ?_, h⟩
      rcases List.mem_cons.mp hy with z | z
      · rw [z]; exact e
      · have := h1 y z; omega
    · split
      · exact h
      · refine List.pairwise_cons.mpr ⟨fun y hy => ?_, insU_lt r h2⟩
        rcases (insU_mem r).mp hy with z | z
        · rw [z]; omega
        · exact h1 y z
theorem sdd_mem {j : Int} : ∀ l : List Int, j ∈ sdd l ↔ j ∈ l
  | [] => by simp [sdd]
  | i :: r => by
    show j ∈ insU i (sdd r) ↔ _
    rw [insU_mem, sdd_mem r, List.mem_cons]
theorem sdd_lt : ∀ l : List Int, (sdd l).Pairwise (· < ·)
  | [] => by simp [sdd]
  | i :: r => insU_lt _ (sdd_lt r)
theorem lt_ext : ∀ {a b : List Int}, a.Pairwise (· < ·) → b.Pairwise (· < ·) → (∀ k, k ∈ a ↔ k ∈ b) → a = b
  | [], [], _, _, _ => rfl
  | [], y :: b, _, _, h => absurd ((h y).mpr List.mem_cons_self) (by simp)
  | x :: a, [], _, _, h => absurd ((h x).mp List.mem_cons_self) (by simp)
  | x :: a, y :: b, ha, hb, h => by
    obtain ⟨a1, a2⟩ := List.pairwise_cons.mp ha
    obtain ⟨b1, b2⟩ := List.pairwise_cons.mp hb
    have e : x = y := by
      rcases List.mem_cons.mp ((h x).mp List.mem_cons_self) with z | z
      · exact z
      · rcases List.mem_cons.mp ((h y).mpr List.mem_cons_self) with z2 | z2
        · exact z2.symm
        · have := a1 y z2
          have := b1 x z
          omega
    subst e
    rw [lt_ext a2 b2 fun k => ?_]
    constructor
    · intro m
      rcases List.mem_cons.mp ((h k).mp (List.mem_cons_of_mem _ m)) with z | z
      · have := a1 k m
        omega
      · exact z
    · intro m
      rcases List.mem_cons.mp ((h k).mpr (List.mem_cons_of_mem _ m)) with z | z
      · have := b1 k m
        omega
      · exact z
theorem rts_int {K : PySem.W.Frag} {mg : Str → Option Value} {ρ : List Addr} {H : Hp} : ∀ ns : List Int, RTs K mg ρ H (ns.map T.int) (ns.map V.int)
  | [] => .nil
  | n :: ns => .cons (.int n) (rts_int ns)
section
variable {X : Cx}
theorem setR_count {w : World} {g : Heap} {a : Addr} {ns : List Int} {c : Nat} (R : SetR w g a (fun j => decide (j ∈ ns)) c) : c = (sdd ns).length := by
  obtain ⟨o, es, ep, t, _, _, _, _, nd, hm, _, _, hn, _⟩ := R
  have pm : (es.toList.map keyOf).Perm (sdd ns) := (List.perm_ext_iff_of_nodup nd ((sdd_lt ns).imp fun {a b} (h : a < b) => Int.ne_of_lt h)).mpr fun k => by
    rw [← hm k, decide_eq_true_eq, sdd_mem]
  have e := pm.length_eq
  rw [List.length_map, Array.length_toList] at e
  omega
def tLenS (K : PySem.W.Frag) (ta : TE) : TE := fun σ H Q => ta σ H fun x H1 => ∃ (l : Addr) (ns : List Int), x = V.ref l ∧ (SqL K H1 l (ns.map V.int) ∨ SqT K H1 l (ns.map V.int)) ∧ ns.length < 1000 ∧ Q (.int (sdd ns).length) H1
theorem sdd_le : ∀ ns : List Int, (sdd ns).length ≤ ns.length
  | [] => Nat.le_refl _
  | i :: r => by
    have ih := sdd_le r
    have key : ∀ l : List Int, (insU i l).length ≤ l.length + 1 := fun l => by
      induction l with
      | nil => simp [insU]
      | cons j l ihl =>
        unfold insU
        split
        · simp
        · split
          · simp
          · simp only [List.length_cons]
            omega
    have := key (sdd r)
    show (insU i (sdd r)).length ≤ _
    rw [List.length_cons]
    omega
theorem pe_lenS {a : Expr} {ta : TE} {p p2 q pos : Pos} (hc : X.calm = true) (hg : Gl X "len") (hm : X.mg "len" = none) (hg2 : Gl X "set") (hm2 : X.mg "set" = none) (ha : PE X a ta)
    (na : starEach [a] X.env = (false, eval a X.env) :: starEach [] X.env) : PE X (.Call (.Name "len" p) [.Call (.Name "set" p2) [a] [] q] [] pos) (tLenS X.K ta) := by
  refine ⟨fun pins s σ H Q I h => ?_⟩
  refine Call_ (ld_blt I hg hm PySem.boot_len (PyProof.Rows.callWith_builtin1 (PyProof.Rows.args_cons ?_ rfl) rfl rfl))
  refine Call_ (ld_blt I hg2 hm2 PyProof.Rows.boot_set ?_)
  refine PyProof.Rows.callWith_type1 (PyProof.Rows.args_cons (thn (ha.run pins s σ H _ I h) fun v s1 ⟨x, H1, I1, r1, q1⟩ => PyProof.Rows.args_nil ?_) na) na rfl
  obtain ⟨l, ns, rfl, hq, hl, q1⟩ := q1
  cases r1
  have hd := I1.ok.hd hc
  have fin : ∀ (g : Heap) (tk c : Nat), SetR X.w g s1.heap.objs.size (fun j => decide (j ∈ ns)) c → (∀ b o, s1.heap.get? b = some o → g.get? b = some o) →
      wpAny (model X.prog X.w) X.A (call (.builtin "len") [.ref s1.heap.objs.size]) (EP X pins σ Q) X.xe { s1 with heap := g, toks := tk } := fun g tk c R k => by
    have ec := setR_count R
    have le := sdd_le ns
    obtain ⟨o, es, ep, t, ho, hex, hdt, _, _, _, _, hf, hn, _⟩ := R
    have I2 : Inv X pins σ H1 { s1 with heap := g, toks := tk } := I1.kept fun b o e => k b o e
    exact call_len_set ho hex hdt hf (by rw [hn]; omega) ⟨.int (sdd ns).length, H1, I2.tok _, ⟨_, by rw [hn, ec]⟩, q1⟩
  rcases hq with hq | hq
  · obtain ⟨its, rv, pl, _⟩ := I1.list hq
    have il : s1.heap.IsList l its.toArray := by
      obtain ⟨o, n, e, h1, h2, h3⟩ := pl
      exact ⟨o, e, h1, n, h3⟩
    exact call_setL ns hd il (ints_of_vals rv) (by unfold scanBound; omega) fun g tk c R _ k => PyProof.Rows.args_nil (fin g tk c R k)
  · obtain ⟨its, rv, pt, _⟩ := I1.tuple hq
    have hi : IntsAre its.toArray.toList ns := ints_of_vals rv
    exact call_set_tupI ns hd (show s1.heap.IsTuple l its.toArray from pt) hi (by unfold scanBound; omega) fun g tk c R _ k => PyProof.Rows.args_nil (fin g tk c R k)
end
section
variable {D : Tbl} {n : Nat} {X : Cx} {raw sc : Scope} {N : List Str}
theorem px_sset {c : CE} {a : Expr} {p p2 pos pos2 : Pos} (o : XO D n X raw sc N) (hg : gloB sc "sorted" = true) (hg2 : gloB sc "set" = true) (hs : noStar a = true) (pa : PE X a (M1 D n X c)) :
    PE X (.Call (.Name "sorted" p) [.Call (.Name "set" p2) [a] [] pos2] [] pos) (M1 D n X (.sset c)) := by
  have hm : X.mg "sorted" = none := o.blt "sorted" (by simp)
  have hm2 : X.mg "set" = none := o.blt "set" (by simp)
  have q1 := pe_callTy (x := "set") (p := p2) (pos := pos2) (cr_setL o.calm) (o.gl hg2) hm2 PyProof.Rows.boot_set (pa_cons pa pa_nil (by cases a <;> first | rfl | cases hs)) (by decide) (by decide) (star_cons hs) rfl
  have q2 := pe_callB (x := "sorted") (p := p) (pos := pos) (cr_sortedSet o.calm) (o.gl hg) hm (by decide +kernel) (pa_cons q1 pa_nil) (by decide) (by decide) rfl rfl
  refine q2.imp fun σ H Q ⟨ρ, ls, h, t, h', g, rs, e, k⟩ => ?_
  unfold evE at e
  obtain ⟨x, h1, e1, e2⟩ := R.bd_eq_ok e
  refine ⟨ρ, ls, h, x, h1, g, rs, e1, fun ρ1 H1 v E1 G1 r1 => ?_⟩
  unfold ssetT at e2
  cases q : (lsT h1 x).bind intsT with
  | none => rw [q] at e2; cases e2
  | some ns =>
    rw [q] at e2
    dsimp only at e2
    split at e2
    case isFalse => cases e2
    case isTrue h64 =>
      cases y : lsT h1 x with
      | none => rw [y] at q; cases q
      | some xs =>
        rw [y] at q
        have q' : intsT xs = some ns := q
        obtain ⟨a0, vs, ev, sq, rv⟩ := G1.lsT r1 y
        have ei := RTs.of_ints q' rv
        subst ei
        refine ⟨a0, ns, by rw [ev], sq, h64, fun p c hp hc => ?_⟩
        have G2 := G1.fresh (o := SetO X.w p (fun j => decide (j ∈ ns)) c) hp
        have E2 : Ext ρ1 H1 ρ1 (upd H1 p (SetO X.w p (fun j => decide (j ∈ ns)) c)) := Ext.fresh hp
        refine ⟨p, _, c, rfl, upd_same, by omega, fun ms p2 m1 m2 m3 hp2 => ?_⟩
        have em : ms = sdd ns := lt_ext m1 (sdd_lt ns) fun j => by rw [m2, sdd_mem, decide_eq_true_eq]
        subst em
        unfold newL at e2
        split at e2
        case isFalse => cases e2
        case isTrue =>
          cases e2
          have r3 : RTs X.K X.mg ρ1 (upd H1 p (SetO X.w p (fun j => decide (j ∈ ns)) c)) ((sdd ns).map T.int) ((sdd ns).map V.int) := rts_int _
          exact k _ _ _ ((E1.trans E2).trans (Ext.alloc hp2)) (G2.newL hp2 r3) (RT.last G2)
theorem px_lset {c : CE} {a : Expr} {p p2 pos pos2 : Pos} (o : XO D n X raw sc N) (hg : gloB sc "len" = true) (hg2 : gloB sc "set" = true) (hs : noStar a = true) (pa : PE X a (M1 D n X c)) :
    PE X (.Call (.Name "len" p) [.Call (.Name "set" p2) [a] [] pos2] [] pos) (M1 D n X (.lset c)) := by
  have hm : X.mg "len" = none := o.blt "len" (by simp)
  have hm2 : X.mg "set" = none := o.blt "set" (by simp)
  refine (pe_lenS (p := p) (p2 := p2) (q := pos2) (pos := pos) o.calm (o.gl hg) hm (o.gl hg2) hm2 pa (star_cons hs)).imp fun σ H Q ⟨ρ, ls, h, t, h', g, rs, e, k⟩ => ?_
  unfold evE at e
  obtain ⟨x, h1, e1, e2⟩ := R.bd_eq_ok e
  refine ⟨ρ, ls, h, x, h1, g, rs, e1, fun ρ1 H1 v E1 G1 r1 => ?_⟩
  unfold lsetT at e2
  cases q : (seqOf h1 x).bind intsT with
  | none => rw [q] at e2; cases e2
  | some ns =>
    rw [q] at e2
    dsimp only at e2
    split at e2
    case isFalse => cases e2
    case isTrue hl =>
      cases e2
      cases y : seqOf h' x with
      | none => rw [y] at q; cases q
      | some xs =>
        rw [y] at q
        have q' : intsT xs = some ns := q
        obtain ⟨a0, vs, ev, sq, rv⟩ := G1.seqOf r1 y
        have ei := RTs.of_ints q' rv
        subst ei
        exact ⟨a0, ns, ev, sq, hl, k _ _ _ E1 G1 (.int _)⟩
end
end MP

set_option Elab.async false
set_option linter.all false
set_option maxRecDepth 100000
/-! MiniPy, part K: what is walked, targets, comprehensions -/
namespace MP
open PySem PySem.Spec PyProof.Rows L2
variable [tt : Mkr]
structure ItOk (K : PySem.W.Frag) (mg : Str → Option Value) (ρ1 : List Addr) (H1 : Hp) (J : It) (xs : List T) (w : Wt) : Prop where
  all : ∀ ρ H h, Ext ρ1 H1 ρ H → G K mg ρ H h → wtOk w h = true → (∀ i x, xs[i]? = some x → J.go i H ∧ ∀ v H', J.yld i H v H' → Ext ρ H ρ H' ∧ G K mg ρ H' h ∧ RT K mg ρ H' x v) ∧ ∀ i, xs.length ≤ i → J.stop i H
def rdI (K : PySem.W.Frag) (mg : Str → Option Value) (m : Ls → Hh → R (List T × Wt)) : TI := fun σ H Q =>
  ∃ ρ ls h xs w h', G K mg ρ H h ∧ RS K mg ρ H ls σ ∧ m ls h = .ok (xs, w) h' ∧ ∀ ρ' H' J, Ext ρ H ρ' H' → G K mg ρ' H' h' → ItOk K mg ρ' H' J xs w → Q J H'
theorem wtOk_mem {w : Wt} {h : Hh} (e : wtOk w h = true) {t : T} {xs : List T} (hm : (t, xs) ∈ w) : lsT h t = some xs := by
  unfold wtOk at e
  exact @of_decide_eq_true _ (Classical.propDecidable _) e (t, xs) hm
section
variable {K : PySem.W.Frag} {mg : Str → Option Value} {ρ : List Addr} {H : Hp} {h : Hh}
theorem RTs.ge {xs : List T} {us : List V} {i : Nat} (r : RTs K mg ρ H xs us) (e : xs.length ≤ i) : us.length ≤ i := by rw [← r.length]; exact e
theorem it_list {x : T} {a : Addr} {xs : List T} (r : RT K mg ρ H x (.ref a)) : ItOk K mg ρ H (Itl K a) xs [(x, xs)] := ⟨fun ρ2 H2 h2 E G2 hw => by
  obtain ⟨b, vs, eb, s1, q1⟩ := G2.lsT (r.ext E) (wtOk_mem hw List.mem_cons_self)
  cases eb
  refine ⟨fun i y hy => ?_, fun i hi => ⟨vs, s1, q1.ge hi⟩⟩
  obtain ⟨v, hv, rv⟩ := q1.get hy
  refine ⟨⟨vs, v, s1, hv⟩, fun u H' ⟨e1, e2⟩ => ?_⟩
  subst e1
  have := e2 vs s1
  rw [hv] at this
  cases this
  exact ⟨Ext.refl, G2, rv⟩⟩
theorem it_tup {xs : List T} {a : Addr} {vs : List V} (t : TupAt K H a vs) (r : RTs K mg ρ H xs vs) : ItOk K mg ρ H (Itt K a) xs [] := ⟨fun ρ2 H2 h2 E G2 hw => by
  have s1 := (t.ext E).sq
  have q1 := r.ext E
  refine ⟨fun i y hy => ?_, fun i hi => ⟨vs, s1, q1.ge hi⟩⟩
  obtain ⟨v, hv, rv⟩ := q1.get hy
  refine ⟨⟨vs, v, s1, hv⟩, fun u H' ⟨e1, e2⟩ => ?_⟩
  subst e1
  have := e2 vs s1
  rw [hv] at this
  cases this
  exact ⟨Ext.refl, G2, rv⟩⟩
theorem rangeT_get {a b : Int} {i : Nat} {x : T} (e : (rangeT a b)[i]? = some x) : i < (b - a).toNat ∧ x = .int (a + (i : Nat)) := by
  unfold rangeT at e
  rw [List.getElem?_map] at e
  cases q : (List.range (b - a).toNat)[i]? with
  | none => rw [q] at e; cases e
  | some j =>
    rw [q] at e
    cases e
    obtain ⟨h1, h2⟩ := List.getElem?_eq_some_iff.mp q
    rw [List.getElem_range] at h2
    subst h2
    exact ⟨by simpa using h1, rfl⟩
theorem rangeT_len (a b : Int) : (rangeT a b).length = (b - a).toNat := by simp [rangeT]
theorem it_range {a b : Int} : ItOk K mg ρ H (Itr a (b - a).toNat) (rangeT a b) [] := ⟨fun ρ2 H2 h2 E G2 hw => by
  refine ⟨fun i y hy => ?_, fun i hi => by rw [rangeT_len] at hi; exact hi⟩
  obtain ⟨h1, rfl⟩ := rangeT_get hy
  exact ⟨h1, fun v H' ⟨e1, e2⟩ => by subst e1; subst e2; exact ⟨Ext.refl, G2, .int _⟩⟩⟩
theorem rangeC_get {a c : Int} {m i : Nat} {x : T} (e : (rangeC a c m)[i]? = some x) : i < m ∧ x = .int (a + (i : Nat) * c) := by
  unfold rangeC at e
  rw [List.getElem?_map] at e
  cases q : (List.range m)[i]? with
  | none => rw [q] at e; cases e
  | some j =>
    rw [q] at e
    cases e
    obtain ⟨h1, h2⟩ := List.getElem?_eq_some_iff.mp q
    rw [List.getElem_range] at h2
    subst h2
    exact ⟨by simpa using h1, rfl⟩
theorem it_rangeC {a c : Int} {m : Nat} : ItOk K mg ρ H (Itc a c m) (rangeC a c m) [] := ⟨fun ρ2 H2 h2 E G2 hw => by
  refine ⟨fun i y hy => ?_, fun i hi => by
    rw [show (rangeC a c m).length = m by simp [rangeC]] at hi
    exact hi⟩
  obtain ⟨h1, rfl⟩ := rangeC_get hy
  exact ⟨h1, fun v H' ⟨e1, e2⟩ => by subst e1; subst e2; exact ⟨Ext.refl, G2, .int _⟩⟩⟩
theorem enumT_get : ∀ {xs : List T} {k i : Nat} {y : T}, (enumT k xs)[i]? = some y → ∃ x, xs[i]? = some x ∧ y = .tup [.int (k + i : Nat), x]
  | [], _, _, _, e => by simp [enumT] at e
  | x :: xs, k, 0, y, e => by
    simp [enumT] at e
    subst e
    exact ⟨x, rfl, rfl⟩
  | x :: xs, k, i + 1, y, e => by
    simp only [enumT, List.getElem?_cons_succ] at e
    obtain ⟨z, h1, h2⟩ := enumT_get e
    refine ⟨z, by simpa using h1, ?_⟩
    rw [h2, show k + 1 + i = k + (i + 1) by omega]
theorem enumT_len : ∀ (xs : List T) (k : Nat), (enumT k xs).length = xs.length
  | [], _ => rfl
  | x :: xs, k => by simp [enumT, enumT_len xs]
theorem it_enum {x : T} {a : Addr} {xs : List T} (r : RT K mg ρ H x (.ref a)) : ItOk K mg ρ H (Ite K a) (enumT 0 xs) [(x, xs)] := ⟨fun ρ2 H2 h2 E G2 hw => by
  obtain ⟨b, vs, eb, s1, q1⟩ := G2.lsT (r.ext E) (wtOk_mem hw List.mem_cons_self)
  cases eb
  refine ⟨fun i y hy => ?_, fun i hi => ⟨vs, s1, q1.ge (by rw [enumT_len] at hi; exact hi)⟩⟩
  obtain ⟨z, hz, rfl⟩ := enumT_get hy
  obtain ⟨v, hv, rv⟩ := q1.get hz
  refine ⟨⟨vs, v, s1, hv⟩, fun u H' ⟨Tp, x0, e1, e2, e3, e4⟩ => ?_⟩
  subst e1
  subst e3
  have := e4 vs s1
  rw [hv] at this
  cases this
  have E3 : Ext ρ2 H2 ρ2 (upd H2 Tp (.tup [.int (i : Nat), v])) := Ext.fresh e2
  refine ⟨E3, G2.fresh e2, .tup (.inl upd_same) (.cons ?_ (.cons (rv.ext E3) .nil))⟩
  rw [Nat.zero_add]
  exact .int _⟩
theorem it_enumT {a : Addr} {xs : List T} (r : RT K mg ρ H (.tup xs) (.ref a)) : ItOk K mg ρ H (IteT K a) (enumT 0 xs) [] := ⟨fun ρ2 H2 h2 E G2 hw => by
  obtain ⟨b, vs, eb, s1, q1⟩ := (r.ext E).tupAt
  cases eb
  refine ⟨fun i y hy => ?_, fun i hi => ⟨vs, s1, q1.ge (by rw [enumT_len] at hi; exact hi)⟩⟩
  obtain ⟨z, hz, rfl⟩ := enumT_get hy
  obtain ⟨v, hv, rv⟩ := q1.get hz
  refine ⟨⟨vs, v, s1, hv⟩, fun u H' ⟨Tp, x0, e1, e2, e3, e4⟩ => ?_⟩
  subst e1
  subst e3
  have := e4 vs s1
  rw [hv] at this
  cases this
  have E3 : Ext ρ2 H2 ρ2 (upd H2 Tp (.tup [.int (i : Nat), v])) := Ext.fresh e2
  refine ⟨E3, G2.fresh e2, .tup (.inl upd_same) (.cons ?_ (.cons (rv.ext E3) .nil))⟩
  rw [Nat.zero_add]
  exact .int _⟩
theorem zipT_get : ∀ {xs ys : List T} {i : Nat} {y : T}, (zipT xs ys)[i]? = some y → ∃ a b, xs[i]? = some a ∧ ys[i]? = some b ∧ y = .tup [a, b]
  | [], _, _, _, e => by simp [zipT] at e
  | _ :: _, [], _, _, e => by simp [zipT] at e
  | x :: xs, z :: ys, 0, y, e => by
    simp [zipT] at e
    subst e
    exact ⟨x, z, rfl, rfl, rfl⟩
  | x :: xs, z :: ys, i + 1, y, e => by
    simp only [zipT, List.getElem?_cons_succ] at e
    obtain ⟨a, b, h1, h2, h3⟩ := zipT_get e
    exact ⟨a, b, by simpa using h1, by simpa using h2, h3⟩
theorem zipT_len : ∀ (xs ys : List T), (zipT xs ys).length = min xs.length ys.length
  | [], _ => by simp [zipT]
  | _ :: _, [] => by simp [zipT]
  | x :: xs, y :: ys => by simp only [zipT, List.length_cons, zipT_len xs ys]; omega
theorem it_zip {x y : T} {a b : Addr} {xs ys : List T} (r : RT K mg ρ H x (.ref a)) (r2 : RT K mg ρ H y (.ref b)) : ItOk K mg ρ H (Itz K a b) (zipT xs ys) [(x, xs), (y, ys)] := ⟨fun ρ2 H2 h2 E G2 hw => by
  obtain ⟨a', vs, ea, s1, q1⟩ := G2.lsT (r.ext E) (wtOk_mem hw List.mem_cons_self)
  obtain ⟨b', ws, eb, s2, q2⟩ := G2.lsT (r2.ext E) (wtOk_mem hw (List.mem_cons_of_mem _ List.mem_cons_self))
  cases ea
  cases eb
  refine ⟨fun i y hy => ?_, fun i hi => ⟨vs, ws, s1, s2, ?_⟩⟩
  · obtain ⟨z, z2, hz, hz2, rfl⟩ := zipT_get hy
    obtain ⟨v, hv, rv⟩ := q1.get hz
    obtain ⟨v2, hv2, rv2⟩ := q2.get hz2
    refine ⟨⟨vs, ws, v, v2, s1, s2, hv, hv2⟩, fun u H' ⟨Tp, x0, y0, e1, e2, e3, e4, e5⟩ => ?_⟩
    subst e1
    subst e3
    have t1 := e4 vs s1
    rw [hv] at t1
    cases t1
    have t2 := e5 ws s2
    rw [hv2] at t2
    cases t2
    have E3 : Ext ρ2 H2 ρ2 (upd H2 Tp (.tup [v, v2])) := Ext.fresh e2
    exact ⟨E3, G2.fresh e2, .tup (.inl upd_same) (.cons (rv.ext E3) (.cons (rv2.ext E3) .nil))⟩
  · rw [zipT_len] at hi
    have l1 := q1.length
    have l2 := q2.length
    omega⟩
theorem it_zipT {a b : Addr} {xs ys : List T} {vs ws : List V} (t : TupAt K H a vs) (r : RTs K mg ρ H xs vs) (t2 : TupAt K H b ws) (r2 : RTs K mg ρ H ys ws) : ItOk K mg ρ H (RZ.ItzT K a b) (zipT xs ys) [] := ⟨fun ρ2 H2 h2 E G2 hw => by
  have s1 := (t.ext E).sq
  have q1 := r.ext E
  have s2 := (t2.ext E).sq
  have q2 := r2.ext E
  refine ⟨fun i y hy => ?_, fun i hi => ⟨vs, ws, s1, s2, ?_⟩⟩
  · obtain ⟨z, z2, hz, hz2, rfl⟩ := zipT_get hy
    obtain ⟨v, hv, rv⟩ := q1.get hz
    obtain ⟨v2, hv2, rv2⟩ := q2.get hz2
    refine ⟨⟨vs, ws, v, v2, s1, s2, hv, hv2⟩, fun u H' ⟨Tp, x0, y0, e1, e2, e3, e4, e5⟩ => ?_⟩
    subst e1
    subst e3
    have t1 := e4 vs s1
    rw [hv] at t1
    cases t1
    have t2 := e5 ws s2
    rw [hv2] at t2
    cases t2
    have E3 : Ext ρ2 H2 ρ2 (upd H2 Tp (.tup [v, v2])) := Ext.fresh e2
    exact ⟨E3, G2.fresh e2, .tup (.inl upd_same) (.cons (rv.ext E3) (.cons (rv2.ext E3) .nil))⟩
  · rw [zipT_len] at hi
    have l1 := q1.length
    have l2 := q2.length
    omega⟩
theorem RT.tupInv {xs : List T} {v : V} (r : RT K mg ρ H (.tup xs) v) : ∃ a vs, v = .ref a ∧ TupAt K H a vs ∧ RTs K mg ρ H xs vs := by
  cases r with
  | tup t r => exact ⟨_, _, rfl, t, r⟩
end
section
variable {D : Tbl} {n : Nat} {X : Cx} {raw sc : Scope} {N : List Str} {tg : Expr}
abbrev MI (D : Tbl) (n : Nat) (X : Cx) (c : CI) : TI := rdI X.K X.mg (evI D (callN D n) c)
theorem pi_val {c : CE} {e : Expr} (p : PE X e (M1 D n X c)) : PI X tg e (MI D n X (.val c)) := by
  refine ⟨fun pins s σ H Q I q => ?_⟩
  obtain ⟨ρ, ls, h, xs, w, h', g, rs, e, k⟩ := q
  unfold evI at e
  obtain ⟨x, h1, e1, e2⟩ := R.bd_eq_ok e
  clear e
  split at e2
  · cases e2
    refine (pi_tup p).run pins s σ H Q I ⟨ρ, ls, h, _, _, g, rs, e1, fun ρ1 H1 v1 E1 G1 r1 => ?_⟩
    obtain ⟨a, vs, rfl, t, q1⟩ := r1.tupInv
    exact ⟨a, rfl, ⟨vs, t.sq⟩, k _ _ _ E1 G1 (it_tup t q1)⟩
  · split at e2
    · rename_i xs' ex
      cases e2
      refine (pi_list p).run pins s σ H Q I ⟨ρ, ls, h, _, _, g, rs, e1, fun ρ1 H1 v1 E1 G1 r1 => ?_⟩
      obtain ⟨a, vs, rfl, s1, q1⟩ := G1.lsT r1 ex
      exact ⟨a, rfl, ⟨vs, s1⟩, k _ _ _ E1 G1 (it_list r1)⟩
    · cases e2
theorem rg_ok {a b : Int} (h : rgOk a b = true) : -(2 ^ 62) ≤ a ∧ a < 2 ^ 62 ∧ -(2 ^ 62) ≤ b ∧ b < 2 ^ 62 := by
  unfold rgOk at h
  simp only [Bool.and_eq_true, decide_eq_true_eq] at h
  exact ⟨h.1.1.1, h.1.1.2, h.1.2, h.2⟩
theorem pi_rng1 {c : CE} {e : Expr} {p pos : Pos} (o : XO D n X raw sc N) (hg : gloB sc "range" = true) (hs : noStar e = true) (pa : PE X e (M1 D n X c)) : PI X tg (.Call (.Name "range" p) [e] [] pos) (MI D n X (.rng1 c)) :=
  (pi_range1 (o.gl hg) (o.blt "range" (by simp)) (px_cons hs pa px_nil) (star_cons hs)).imp fun σ H Q ⟨ρ, ls, h, xs, w, h', g, rs, e, k⟩ => by
    unfold evI at e
    obtain ⟨x, h1, e1, e2⟩ := R.bd_eq_ok e
    clear e
    split at e2
    · rename_i i
      split at e2
      · rename_i hr
        have ea : evEs D (callN D n) (.cons c .nil) ls h = .ok [.int i] h1 := by simp only [evEs, e1, R.bd_ok]
        cases e2
        refine ⟨ρ, ls, h, _, _, g, rs, ea, fun ρ1 H1 vs E1 G1 r1 => ?_⟩
        · obtain ⟨v, rfl, r2⟩ := r1.one
          cases r2
          have hb := rg_ok hr
          refine ⟨i, rfl, hb.2.2.1, hb.2.2.2, ?_⟩
          have z := k _ _ _ E1 G1 (it_range (a := 0) (b := i))
          rw [Int.sub_zero] at z
          exact z
      · cases e2
    · cases e2
theorem pi_rng2 {c c2 : CE} {e e2 : Expr} {p pos : Pos} (o : XO D n X raw sc N) (hg : gloB sc "range" = true) (hs : noStar e = true) (hs2 : noStar e2 = true) (pa : PE X e (M1 D n X c)) (pb : PE X e2 (M1 D n X c2)) : PI X tg (.Call (.Name "range" p) [e, e2] [] pos) (MI D n X (.rng2 c c2)) :=
  (pi_range2 (o.gl hg) (o.blt "range" (by simp)) (px_cons hs pa (px_cons hs2 pb px_nil)) (by rw [star_cons hs, star_cons hs2]; rfl) (star_cons hs2)).imp fun σ H Q ⟨ρ, ls, h, xs, w, h', g, rs, e, k⟩ => by
    unfold evI at e
    obtain ⟨x, h1, e1, e2⟩ := R.bd_eq_ok e
    obtain ⟨y, h2, e3, e4⟩ := R.bd_eq_ok e2
    clear e e2
    split at e4
    · rename_i i j
      split at e4
      · rename_i hr
        have ea : evEs D (callN D n) (.cons c (.cons c2 .nil)) ls h = .ok [.int i, .int j] h2 := by simp only [evEs, e1, e3, R.bd_ok]
        cases e4
        refine ⟨ρ, ls, h, _, _, g, rs, ea, fun ρ1 H1 vs E1 G1 r1 => ?_⟩
        · obtain ⟨v, v2, rfl, r2, r3⟩ := r1.two
          cases r2
          cases r3
          exact ⟨i, j, rfl, rg_ok hr, k _ _ _ E1 G1 it_range⟩
      · cases e4
    · cases e4
theorem pi_rng3 {c c2 c3 : CE} {e e2 e3 : Expr} {p pos : Pos} (o : XO D n X raw sc N) (hg : gloB sc "range" = true) (hs : noStar e = true) (hs2 : noStar e2 = true) (hs3 : noStar e3 = true) (pa : PE X e (M1 D n X c)) (pb : PE X e2 (M1 D n X c2)) (pc : PE X e3 (M1 D n X c3)) :
    PI X tg (.Call (.Name "range" p) [e, e2, e3] [] pos) (MI D n X (.rng3 c c2 c3)) :=
  (pi_range3 (o.gl hg) (o.blt "range" (by simp)) (px_cons hs pa (px_cons hs2 pb (px_cons hs3 pc px_nil))) (star_cons hs) (star_any _ _ _ (by rw [List.all_cons, List.all_cons, hs2, hs3]; rfl))).imp fun σ H Q ⟨ρ, ls, h, xs, w, h', g, rs, e, k⟩ => by
    unfold evI at e
    obtain ⟨x, h1, e1, e2⟩ := R.bd_eq_ok e
    obtain ⟨y, h2, e3, e4⟩ := R.bd_eq_ok e2
    obtain ⟨z, h3, e5, e6⟩ := R.bd_eq_ok e4
    clear e e2 e4
    split at e6
    · rename_i i j
      split at e6
      · rename_i hr
        have ea : evEs D (callN D n) (.cons c (.cons c2 (.cons c3 .nil))) ls h = .ok [.int i, .int j, .int (-1)] h3 := by simp only [evEs, e1, e3, e5, R.bd_ok]
        cases e6
        refine ⟨ρ, ls, h, _, _, g, rs, ea, fun ρ1 H1 vs E1 G1 r1 => ?_⟩
        · cases r1 with
          | cons r2 r1 =>
            obtain ⟨v, v2, rfl, r3, r4⟩ := r1.two
            cases r2
            cases r3
            cases r4
            have hb := rg_ok hr
            exact ⟨i, j, -1, _, rfl, RgC.neg hb.1 hb.2.1 hb.2.2.1 hb.2.2.2, k _ _ _ E1 G1 it_rangeC⟩
      · cases e6
    · cases e6
theorem pi_enu {c : CE} {e : Expr} {p pos tpos : Pos} {elts : List Expr} {kk : Nat} (o : XO D n X raw sc N) (hg : gloB sc "enumerate" = true) (hs : noStar e = true) (pa : PE X e (M1 D n X c)) : PI X (.Tuple elts kk tpos) (.Call (.Name "enumerate" p) [e] [] pos) (MI D n X (.enum c)) :=
  (pi_enumA (o.gl hg) (o.blt "enumerate" (by simp)) (px_cons hs pa px_nil) (star_cons hs)).imp fun σ H Q ⟨ρ, ls, h, xs, w, h', g, rs, e, k⟩ => by
    unfold evI at e
    obtain ⟨x, h1, e1, e2⟩ := R.bd_eq_ok e
    clear e
    have ea : evEs D (callN D n) (.cons c .nil) ls h = .ok [x] h1 := by simp only [evEs, e1, R.bd_ok]
    split at e2
    · cases e2
      refine ⟨ρ, ls, h, _, _, g, rs, ea, fun ρ1 H1 vs E1 G1 r1 => ?_⟩
      obtain ⟨v, rfl, r2⟩ := r1.one
      obtain ⟨a, us, rfl, s1, q1⟩ := r2.tupAt
      exact ⟨a, us, rfl, .inr ⟨s1, k _ _ _ E1 G1 (it_enumT r2)⟩⟩
    · split at e2
      · rename_i ys ey
        cases e2
        refine ⟨ρ, ls, h, _, _, g, rs, ea, fun ρ1 H1 vs E1 G1 r1 => ?_⟩
        obtain ⟨v, rfl, r2⟩ := r1.one
        obtain ⟨a, us, rfl, s1, q1⟩ := G1.lsT r2 ey
        exact ⟨a, us, rfl, .inl ⟨s1, k _ _ _ E1 G1 (it_enum r2)⟩⟩
      · cases e2
theorem pi_zp {c c2 : CE} {e e2 : Expr} {p pos tpos : Pos} {elts : List Expr} {kk : Nat} (o : XO D n X raw sc N) (hg : gloB sc "zip" = true) (hs : noStar e = true) (hs2 : noStar e2 = true) (pa : PE X e (M1 D n X c)) (pb : PE X e2 (M1 D n X c2)) :
    PI X (.Tuple elts kk tpos) (.Call (.Name "zip" p) [e, e2] [] pos) (MI D n X (.zip c c2)) :=
  (RZ.pi_zipA (o.gl hg) (o.blt "zip" (by simp)) (px_cons hs pa (px_cons hs2 pb px_nil)) (star_cons hs) (star_any _ _ _ (by rw [List.all_cons, hs2]; rfl))).imp fun σ H Q ⟨ρ, ls, h, xs, w, h', g, rs, e, k⟩ => by
    unfold evI at e
    obtain ⟨x, h1, e1, e2⟩ := R.bd_eq_ok e
    obtain ⟨y, h2, e3, e4⟩ := R.bd_eq_ok e2
    clear e e2
    have ea : evEs D (callN D n) (.cons c (.cons c2 .nil)) ls h = .ok [x, y] h2 := by simp only [evEs, e1, e3, R.bd_ok]
    split at e4
    · cases e4
      refine ⟨ρ, ls, h, _, _, g, rs, ea, fun ρ1 H1 vs E1 G1 r1 => ?_⟩
      obtain ⟨v, v2, rfl, r2, r3⟩ := r1.two
      obtain ⟨a, us, rfl, s1, q1⟩ := r2.tupInv
      obtain ⟨b, ws, rfl, s2, q2⟩ := r3.tupInv
      exact ⟨a, b, us, ws, rfl, .inr ⟨s1.sq, s2.sq, k _ _ _ E1 G1 (it_zipT s1 q1 s2 q2)⟩⟩
    · split at e4
      · rename_i xs1 ys1 ex ey
        cases e4
        refine ⟨ρ, ls, h, _, _, g, rs, ea, fun ρ1 H1 vs E1 G1 r1 => ?_⟩
        obtain ⟨v, v2, rfl, r2, r3⟩ := r1.two
        obtain ⟨a, us, rfl, s1, q1⟩ := G1.lsT r2 ex
        obtain ⟨b, ws, rfl, s2, q2⟩ := G1.lsT r3 ey
        exact ⟨a, b, us, ws, rfl, .inl ⟨s1, s2, k _ _ _ E1 G1 (it_zip r2 r3)⟩⟩
      · cases e4
/-! ranges as lists, as tuples -/
theorem rts_range {K : PySem.W.Frag} {mg : Str → Option Value} {ρ : List Addr} {H : Hp} (a b : Int) : RTs K mg ρ H (rangeT a b) (rgV a b) := by
  unfold rangeT rgV
  generalize List.range (b - a).toNat = l
  induction l with
  | nil => exact .nil
  | cons x l ih => exact .cons (.int _) ih
def rdR (K : PySem.W.Frag) (mg : Str → Option Value) (m : Ls → Hh → R (List T × Wt)) : L2.St → Hp → (Int → Int → Hp → Prop) → Prop := fun σ H Q =>
  ∃ ρ ls h a b w h', G K mg ρ H h ∧ RS K mg ρ H ls σ ∧ m ls h = .ok (rangeT a b, w) h' ∧ rgOk a b = true ∧ ∀ ρ' H', Ext ρ H ρ' H' → G K mg ρ' H' h' → Q a b H'
def isR : CI → Bool
  | .rng1 _ => true
  | .rng2 _ _ => true
  | _ => false
theorem prg1 {c : CE} {e : Expr} {p pos : Pos} (o : XO D n X raw sc N) (hg : gloB sc "range" = true) (hs : noStar e = true) (pa : PE X e (M1 D n X c)) : ∃ te, PRg X (.Call (.Name "range" p) [e] [] pos) te ∧ ∀ σ H Q, (∃ ρ ls h xs w h', G X.K X.mg ρ H h ∧ RS X.K X.mg ρ H ls σ ∧ evI D (callN D n) (.rng1 c) ls h = .ok (xs, w) h' ∧
    ∀ a b, xs = rangeT a b → rgOk a b = true → ∀ ρ' H', Ext ρ H ρ' H' → G X.K X.mg ρ' H' h' → Q a b H') → te σ H Q :=
  ⟨_, prg_1 (o.gl hg) (o.blt "range" (by simp)) pa (star_cons hs), fun σ H Q ⟨ρ, ls, h, xs, w, h', g, rs, e, k⟩ => by
    unfold evI at e
    obtain ⟨x, h1, e1, e2⟩ := R.bd_eq_ok e
    clear e
    split at e2
    · split at e2
      · rename_i hr
        cases e2
        exact ⟨ρ, ls, h, _, _, g, rs, e1, fun ρ1 H1 v1 E1 G1 r1 => by cases r1; exact ⟨_, rfl, k 0 _ rfl hr _ _ E1 G1⟩⟩
      · cases e2
    · cases e2⟩
theorem prg2 {c c2 : CE} {e e2 : Expr} {p pos : Pos} (o : XO D n X raw sc N) (hg : gloB sc "range" = true) (hs : noStar e = true) (hs2 : noStar e2 = true) (pa : PE X e (M1 D n X c)) (pb : PE X e2 (M1 D n X c2)) : ∃ te, PRg X (.Call (.Name "range" p) [e, e2] [] pos) te ∧
    ∀ σ H Q, (∃ ρ ls h xs w h', G X.K X.mg ρ H h ∧ RS X.K X.mg ρ H ls σ ∧ evI D (callN D n) (.rng2 c c2) ls h = .ok (xs, w) h' ∧ ∀ a b, xs = rangeT a b → rgOk a b = true → ∀ ρ' H', Ext ρ H ρ' H' → G X.K X.mg ρ' H' h' → Q a b H') → te σ H Q :=
  ⟨_, prg_2 (o.gl hg) (o.blt "range" (by simp)) pa pb (star_cons hs) (star_cons hs2) (star_any _ _ _ (by rw [List.all_cons, hs2]; rfl)), fun σ H Q ⟨ρ, ls, h, xs, w, h', g, rs, e, k⟩ => by
    unfold evI at e
    obtain ⟨x, h1, e1, e2⟩ := R.bd_eq_ok e
    obtain ⟨y, h2, e3, e4⟩ := R.bd_eq_ok e2
    clear e e2
    split at e4
    · split at e4
      · rename_i hr
        cases e4
        exact ⟨ρ, ls, h, _, _, g, rs, e1, fun ρ1 H1 v1 E1 G1 r1 => ⟨ρ1, ls, h1, _, _, G1, rs.ext E1, e3, fun ρ2 H2 v2 E2 G2 r2 => by
          cases r1
          cases r2
          exact ⟨_, _, rfl, rfl, k _ _ rfl hr _ _ (E1.trans E2) G2⟩⟩⟩
      · cases e4
    · cases e4⟩
theorem px_rng {it : CI} {r : Expr} {p pos : Pos} (o : XO D n X raw sc N) (hs : noStar r = true) (hp : ∃ te, PRg X r te ∧ ∀ σ H Q, (∃ ρ ls h xs w h', G X.K X.mg ρ H h ∧ RS X.K X.mg ρ H ls σ ∧ evI D (callN D n) it ls h = .ok (xs, w) h' ∧ ∀ a b, xs = rangeT a b → rgOk a b = true → ∀ ρ' H', Ext ρ H ρ' H' → G X.K X.mg ρ' H' h' → Q a b H') → te σ H Q) :
    (gloB sc "list" = true → PE X (.Call (.Name "list" p) [r] [] pos) (M1 D n X (.rngL it))) ∧ (gloB sc "tuple" = true → PE X (.Call (.Name "tuple" p) [r] [] pos) (M1 D n X (.rngT it))) := by
  obtain ⟨te, hr, hc⟩ := hp
  refine ⟨fun hg => (pe_listRg o.calm (o.gl hg) (o.blt "list" (by simp)) hr (star_cons hs)).imp fun σ H Q ⟨ρ, ls, h, t, h', g, rs, e, k⟩ => ?_, fun hg => (pe_tupRg o.calm (o.gl hg) (o.blt "tuple" (by simp)) hr (star_cons hs)).imp fun σ H Q ⟨ρ, ls, h, t, h', g, rs, e, k⟩ => ?_⟩
  · unfold evE at e
    obtain ⟨⟨xs, w⟩, h1, e1, e2⟩ := R.bd_eq_ok e
    obtain ⟨hl, rfl, rfl⟩ := newL_ok e2
    refine hc σ H _ ⟨ρ, ls, h, xs, w, h1, g, rs, e1, fun a b ex hb ρ1 H1 E1 G1 => ?_⟩
    subst ex
    have z := rg_ok hb
    rw [rangeT_len] at hl
    exact ⟨⟨z.1, z.2.1, z.2.2.1, z.2.2.2, hl⟩, fun q hq => (k.mono E1).lst G1 (rts_range a b) hq⟩
  · unfold evE at e
    obtain ⟨⟨xs, w⟩, h1, e1, e2⟩ := R.bd_eq_ok e
    obtain ⟨hl, rfl, rfl⟩ := newT_ok e2
    refine hc σ H _ ⟨ρ, ls, h, xs, w, _, g, rs, e1, fun a b ex hb ρ1 H1 E1 G1 => ?_⟩
    subst ex
    have z := rg_ok hb
    rw [rangeT_len] at hl
    exact ⟨⟨z.1, z.2.1, z.2.2.1, z.2.2.2, hl⟩, fun q hq => (k.mono E1).tup G1 (rts_range a b) hq⟩
/-! ### targets -/
abbrev MG (D : Tbl) (n : Nat) (X : Cx) (t : Tg) : TG := rdG X.K X.mg t.vars (evG D (callN D n) t)
abbrev MGs (D : Tbl) (n : Nat) (X : Cx) (t : Tgs) : TGs := rdGs X.K X.mg t.vars (evGs D (callN D n) t)
theorem XO.st (o : XO D n X raw sc N) {x : Str} (h : (locB raw x || celB raw x) = true) : L2.Loc X.env.scope x ∧ (X.fn x = true ∨ X.env.scope.names.lookup x = some .local) := by
  rw [o.esc]
  rw [Bool.or_eq_true] at h
  rcases h with h | h
  · have e := o.rw_ x _ (by decide) (locB_ok h)
    exact ⟨.inl e, .inr e⟩
  · have e := o.rw_ x _ (by decide) (celB_ok h)
    exact ⟨.inr e, .inl (o.fn x (celB_ok h))⟩
theorem pg_var {i : Nat} {x : Str} {p : Pos} (o : XO D n X raw sc N) (hi : N[i]? = some x) (hl : (locB raw x || celB raw x) = true) : PG X (.Name x p) (MG D n X (.var i)) := by
  obtain ⟨h1, h2⟩ := o.st hl
  refine (pg_name (by rw [o.eN]; exact o.nd) (by rw [o.eN]; exact hi) h1 h2).imp fun v σ H Q ⟨ρ, ls, h, t, l', h', g, rs, rt, e, k⟩ => ?_
  unfold evG at e
  split at e
  · rename_i hl
    cases e
    exact k _ _ _ Ext.refl g (rs.set hl rt) fun vs hv => wipe_set (hv i (by simp [Tg.vars]))
  · cases e
theorem pg_tupl {ts : Tgs} {es : List Expr} {j : Nat} {p : Pos} (o : XO D n X raw sc N) (pp : PGs X es (MGs D n X ts)) (h1 : (assignEach es X.env).length = es.length) (h2 : (assignEach es X.env).findIdx? (·.1) = none) (hlen : ∀ xs ls h l' h', evGs D (callN D n) ts xs ls h = .ok l' h' → xs.length = es.length) :
    PG X (.Tuple es j p) (MG D n X (.tup ts)) :=
  (pg_tup o.calm pp h1 h2).imp fun v σ H Q ⟨ρ, ls, h, t, l', h', g, rs, rt, e, k⟩ => by
    unfold evG at e
    split at e
    · rename_i xs
      obtain ⟨a, vs, rfl, s1, q1⟩ := rt.tupAt
      exact ⟨a, vs, rfl, s1, by rw [← q1.length]; exact hlen _ _ _ _ _ e, ρ, ls, h, xs, l', h', g, rs, q1, e, fun ρ2 H2 σ2 E2 G2 S2 ho => k _ _ _ E2 G2 S2 fun vs hv => ho vs (by simpa [Tg.vars] using hv)⟩
    · cases e
theorem pg_item {a i : CE} {a' i' : Expr} {p : Pos} (o : XO D n X raw sc N) (hs : noSlice i' = true) (pa : PE X a' (M1 D n X a)) (pb : PE X i' (M1 D n X i))
    (hsb : ∀ v, assign (.Subscript a' i' p) X.env v = (do
      let ov ← holding [v] (eval a' X.env)
      let iv ← holding [v, ov] (eval i' X.env)
      standAt p
      holding [v, ov, iv] (setItem ov iv v)
      release [v, ov, iv] [])) : PG X (.Subscript a' i' p) (MG D n X (.sub a i)) :=
  (pg_sub pa pb (set_all (by have := o.hu; omega)) hsb).imp fun v σ H Q ⟨ρ, ls, h, t, l', h', g, rs, rt, e, k⟩ => by
    unfold evG at e
    obtain ⟨x, h1, e1, e2⟩ := R.bd_eq_ok e
    obtain ⟨y, h2, e3, e4⟩ := R.bd_eq_ok e2
    obtain ⟨u, h3, e5, e6⟩ := R.bd_eq_ok e4
    cases e6
    exact ⟨ρ, ls, h, x, h1, g, rs, e1, fun ρ1 H1 v1 E1 G1 r1 => ⟨ρ1, ls, h1, y, h2, G1, rs.ext E1, e3, fun ρ2 H2 v2 E2 G2 r2 => ⟨ρ2, h2, x, y, t, _, G2, r1.ext E2, r2, rt.ext (E1.trans E2), e5, fun ρ3 H3 E3 G3 => k _ _ _ (E1.trans (E2.trans E3)) G3 (rs.ext (E1.trans (E2.trans E3))) Only1.refl⟩⟩⟩
theorem pgs_n : PGs X [] (MGs D n X .nil) := pgs_nil.imp fun v σ H Q ⟨ρ, ls, h, t, l', h', g, rs, rt, e, k⟩ => by
  cases t with
  | nil =>
    simp only [evGs] at e
    cases e
    cases rt
    exact ⟨rfl, k _ _ _ Ext.refl g rs Only1.refl⟩
  | cons a b =>
    simp only [evGs] at e
    cases e
theorem each_cons {e : Expr} {es : List Expr} {env : Env} (h : noStar e = true) : (assignEach (e :: es) env).map (·.2) = assign e env :: (assignEach es env).map (·.2) := by
  cases e <;> first | rfl | cases h
theorem each_len {env : Env} : ∀ es : List Expr, es.all noStar = true → (assignEach es env).length = es.length ∧ (assignEach es env).findIdx? (·.1) = none
  | [], _ => ⟨rfl, rfl⟩
  | e :: es, h => by
    rw [List.all_cons, Bool.and_eq_true] at h
    obtain ⟨a, b⟩ := each_len (env := env) es h.2
    have z : assignEach (e :: es) env = (false, assign e env) :: assignEach es env := by
      cases e <;> first | rfl | (cases h.1; done)
    rw [z, List.findIdx?_cons]
    exact ⟨by rw [List.length_cons, List.length_cons, a], by rw [b]; rfl⟩
theorem pgs_c {t : Tg} {ts : Tgs} {e : Expr} {es : List Expr} (hs : noStar e = true) (p : PG X e (MG D n X t)) (q : PGs X es (MGs D n X ts)) : PGs X (e :: es) (MGs D n X (.cons t ts)) :=
  (pgs_cons p q (each_cons hs)).imp fun v σ H Q ⟨ρ, ls, h, t, l', h', g, rs, rt, e, k⟩ => by
    cases t with
    | nil =>
      simp only [evGs] at e
      cases e
    | cons a b =>
      simp only [evGs] at e
      obtain ⟨l1, h1, e1, e2⟩ := R.bd_eq_ok e
      cases rt with
      | cons r1 r2 =>
        exact ⟨_, _, rfl, ρ, ls, h, a, l1, h1, g, rs, r1, e1, fun ρ1 H1 σ1 E1 G1 S1 ho1 => ⟨ρ1, l1, h1, b, l', h', G1, S1, r2.ext E1, e2, fun ρ2 H2 σ2 E2 G2 S2 ho2 => k _ _ _ (E1.trans E2) G2 S2 fun vs hv => by
          simp only [Tgs.vars, List.mem_append] at hv
          rw [ho2 vs fun i hi => hv i (.inr hi), ho1 vs fun i hi => hv i (.inl hi)]⟩⟩
/-! ### comprehensions -/
theorem relS_keep {scope sc : Scope} {x : Str} {k : NameKind} (hk : k ≠ .free) (h : scope.names.lookup x = some k) : (relS scope sc).names.lookup x = some k := lookup_relS_keep hk h
theorem XO.blk (o : XO D n X raw sc N) {scope : Scope} (hk : scope.kind = .function) (s : Shared) (H : Hp) (C : Addr) (cl : List (Str × Addr)) (fp : List Addr) : XO D n (X.blk s H scope (compEnvC scope cl C X.env) fp) scope (relS scope sc) N where
  esc := by
    show relS scope X.env.scope = _
    rw [o.esc]
  eN := o.eN
  nd := o.nd
  calm := o.calm
  room := o.room
  gd := o.gd
  kd := hk
  rw_ := fun x k hk h => relS_keep hk h
  fn := fun x h => by
    show (scope.names.lookup x == some NameKind.cell) = true
    rw [h]
    rfl
  pas := PassesOwn.never
  fns := o.fns
  nws := o.nws
  lam := o.lam
  tds := o.tds
  xcs := o.xcs
  xnd := o.xnd
  gls := o.gls
  blt := o.blt
end
end MP

set_option Elab.async false
set_option linter.all false
set_option maxRecDepth 100000
/-! MiniPy, part L: comprehensions -/
namespace MP
open PySem PySem.Spec PyProof.Rows L2
variable [tt : Mkr]
section
variable {D : Tbl} {n : Nat} {X : Cx} {raw sc : Scope} {N : List Str}
theorem Ext.poke {ρ ρ' : List Addr} {H H' : Hp} {p : Addr} {o u : HO} (e : Ext ρ H ρ' H') (hp : H p = none) (hu : H' p = some u) (h1 : ∀ xs, u ≠ .tup xs) (h2 : ∀ q w, u ≠ .frz q w) : Ext ρ H ρ' (upd H' p o) where
  pre := e.pre
  new := e.new
  keep := fun a q ea hm nt => by
    rw [upd_ne (ne_of_none ea hp)]
    exact e.keep a q ea hm nt
  tup := fun a xs ea => by
    rw [upd_ne (ne_of_none ea hp)]
    exact e.tup a xs ea
  frz := fun a q z ea => by
    rw [upd_ne (ne_of_none ea hp)]
    exact e.frz a q z ea
theorem Ext.addp {ρ ρ' : List Addr} {H H' : Hp} {p : Addr} (e : Ext ρ H ρ' H') (hp : H p = none) : Ext ρ H (ρ' ++ [p]) H' where
  pre := e.pre.trans (List.prefix_append _ _)
  new := fun a ha => by
    rcases List.mem_append.mp ha with q | q
    · exact e.new a q
    · rw [List.mem_singleton.mp q]
      exact .inr (NoT.none hp)
  keep := e.keep
  tup := e.tup
  frz := e.frz
theorem Ext.offp {ρ ρ' : List Addr} {H H' : Hp} {p : Addr} {u : HO} (e : Ext ρ H ρ' H') (hm : p ∉ ρ) (hu : H p = some u) (nt : ∀ ps, u ≠ .tbl ps) : p ∉ ρ' ∧ H' p = some u := by
  refine ⟨fun h => ?_, e.keep p u hu hm nt⟩
  rcases e.new p h with z | z
  · exact hm z
  · exact z.no hu nt
abbrev MC (D : Tbl) (n : Nat) (X : Cx) (c : CO) : TT := rdT X.K X.mg (evC D (callN D n) c)
theorem comp_rd {own : List Nat} {tg : Tg} {it : CI} {c : CO} {elt : CE} {σ : L2.St} {H : Hp} {Q : VK} (hv : ∀ i ∈ tg.vars, i ∈ own) (q : M1 D n X (.comp own tg it c elt) σ H Q) :
    tLc (MI D n X it) (MG D n X tg) (MC D n X c) (M1 D n X elt) own σ H Q := by
  obtain ⟨ρ, ls, h, t, h', g, rs, e, k⟩ := q
  unfold evE at e
  obtain ⟨⟨xs, w⟩, h1, e1, e2⟩ := R.bd_eq_ok e
  clear e
  refine ⟨ρ, ls, h, xs, w, h1, g, rs, e1, fun ρ1 H1 J E1 G1 IO Dd hD => ?_⟩
  let RUN := fun (ys : List T) (acc : List T) (hh : Hh) => evComp w (fun x l hh => evG D (callN D n) tg x l hh) (fun l hh => evC D (callN D n) c l hh) (fun l hh => evE D (callN D n) elt l hh) (wipeL ls own) ys acc hh
  refine ⟨fun i m H2 => ∃ ρ2 h2 acc av, Ext ρ1 H1 ρ2 H2 ∧ G X.K X.mg ρ2 H2 h2 ∧ Dd ∉ ρ2 ∧ H2 Dd = some (.lst av) ∧ RTs X.K X.mg ρ2 H2 acc av ∧ m = xs.length - i ∧ i ≤ xs.length ∧ RUN (xs.drop i) acc h2 = .ok t h',
    ⟨xs.length, ρ1, h1, [], [], Ext.fresh hD, G1.fresh hD, G1.not_mem hD, upd_same, .nil, by omega, Nat.zero_le _, e2⟩, ?_⟩
  rintro i m H2 ⟨ρ2, h2, acc, av, E2, G2, hn, hDd, ra, rfl, hi, er⟩
  by_cases hlt : i < xs.length
  · -- a turn
    have hx : xs[i]? = some xs[i] := List.getElem?_eq_getElem hlt
    have hdrop : xs.drop i = xs[i] :: xs.drop (i + 1) := List.drop_eq_getElem_cons hlt
    generalize xs[i] = x at hx hdrop
    have er' : RUN (x :: xs.drop (i + 1)) acc h2 = .ok t h' := by rw [← hdrop]; exact er
    have er2 : (if wtOk w h2 = true then (evG D (callN D n) tg x (wipeL ls own) h2).bd fun ls1 h1 => (evC D (callN D n) c ls1 h1).bd fun b h2 => match b with
      | .bl true => (evE D (callN D n) elt ls1 h2).bd fun y h3 => if acc.length < 16777216 then RUN (xs.drop (i + 1)) (acc ++ [y]) h3 else .bad
      | .bl false => RUN (xs.drop (i + 1)) acc h2
      | _ => .bad
      else .bad) = R.ok t h' := er'
    split at er2
    · rename_i hw
      obtain ⟨l1, h3, e3, e4⟩ := R.bd_eq_ok er2
      obtain ⟨b, h4, e5, e6⟩ := R.bd_eq_ok e4
      obtain ⟨hgo, hyl⟩ := (IO.all ρ2 H2 h2 E2 G2 hw).1 i x hx
      refine .inr ⟨hgo, fun H' => ∃ ρ' h2' acc' av', Ext ρ1 H1 ρ' H' ∧ G X.K X.mg ρ' H' h2' ∧ Dd ∉ ρ' ∧ H' Dd = some (.lst av') ∧ RTs X.K X.mg ρ' H' acc' av' ∧ RUN (xs.drop (i + 1)) acc' h2' = .ok t h',
        fun H' ⟨ρ', h2', acc', av', a1, a2, a3, a4, a5, a6⟩ => ⟨xs.length - (i + 1), by omega, ρ', h2', acc', av', a1, a2, a3, a4, a5, rfl, hlt, a6⟩, fun v H' hy => ?_⟩
      obtain ⟨E3, G3, rv⟩ := hyl v H' hy
      obtain ⟨hn3, hD3⟩ := E3.offp hn hDd (by intro ps z; cases z)
      refine ⟨ρ2, wipeL ls own, h2, x, l1, h3, G3, (rs.ext (E1.trans (E2.trans E3))).wipe own, rv, e3, fun ρ4 H4 σ4 E4 G4 S4 ho => ⟨?_, ?_⟩⟩
      · rw [ho own hv, wipe_wipe]
      obtain ⟨hn4, hD4⟩ := E4.offp hn3 hD3 (by intro ps z; cases z)
      obtain ⟨bb, hbb⟩ : ∃ bb, b = .bl bb := by
        cases b with
        | bl bb => exact ⟨bb, rfl⟩
        | _ => cases e6
      subst hbb
      refine ⟨ρ4, l1, h3, bb, h4, G4, S4, e5, fun ρ5 H5 E5 G5 => ?_⟩
      obtain ⟨hn5, hD5⟩ := E5.offp hn4 hD4 (by intro ps z; cases z)
      have E35 := E3.trans (E4.trans E5)
      cases bb with
      | false => exact iteF ⟨ρ5, h4, acc, av, E2.trans E35, G5, hn5, hD5, ra.ext E35, e6⟩
      | true =>
        obtain ⟨y, h6, e7, e8⟩ := R.bd_eq_ok e6
        split at e8
        · rename_i hlen
          refine iteT ⟨ρ5, l1, h4, y, h6, G5, S4.ext E5, e7, fun ρ6 H6 yv E6 G6 ry => ?_⟩
          obtain ⟨hn6, hD6⟩ := E6.offp hn5 hD5 (by intro ps z; cases z)
          have E36 := E35.trans E6
          have ra6 := ra.ext E36
          have hw6 := Wk.poke (ρ := ρ6) (o := .lst (av ++ [yv])) hD6 (by intro xs z; cases z) (by intro q w z; cases z)
          exact ⟨av, hD6, line_lt (by rw [← ra.length]; exact hlen), ρ6, h6, acc ++ [y], av ++ [yv], (E2.trans E36).poke hD hD6 (by intro xs z; cases z) (by intro q w z; cases z), G6.poke hn6 hD6 (by intro xs z; cases z) (by intro q w z; cases z) (no_tabO (by intro xs z; cases z) (by intro xs z; cases z)), hn6, upd_same,
            (ra6.append (.cons ry .nil)).wk hw6, e8⟩
        · cases e8
    · cases er2
  · -- the end
    have hd : xs.drop i = [] := List.drop_eq_nil_of_le (by omega)
    have er' : RUN [] acc h2 = .ok t h' := by rw [← hd]; exact er
    have er2 : (if wtOk w h2 = true then R.ok (T.ref h2.length) (h2 ++ [.lst acc]) else .bad) = R.ok t h' := er'
    split at er2
    · rename_i hw
      cases er2
      refine .inl ⟨(IO.all ρ2 H2 h2 E2 G2 hw).2 i (by omega), ?_⟩
      exact k _ _ _ (E1.trans (E2.addp hD)) (G2.add hn (.lst hDd ra)) (RT.last G2)
    · cases er2
theorem pts_no : PTs X [] (MC D n X .no) := ⟨fun pins s σ H Q I q => by
  obtain ⟨ρ, ls, h, b, h', g, rs, e, k⟩ := q
  unfold evC at e
  cases e
  exact pts_nil.run pins s σ H Q I (k _ _ Ext.refl g)⟩
theorem pts_so {c : CE} {e : Expr} (p : PT X e (M1T D n X c)) : PTs X [e] (MC D n X (.so c)) := ⟨fun pins s σ H Q I q => by
  obtain ⟨ρ, ls, h, b, h', g, rs, e, k⟩ := q
  unfold evC at e
  exact (pts_one p).run pins s σ H Q I ⟨ρ, ls, h, b, h', g, rs, e, k⟩⟩
def ownOf (N : List Str) (own : List Nat) : List (Str × Nat) := own.map fun i => (N.getD i "", i)
theorem ownOf_snd (N : List Str) (own : List Nat) : (ownOf N own).map (·.2) = own := by
  unfold ownOf
  rw [List.map_map]
  exact List.map_id _
/-- what a comprehension's parts are -/
structure LcOk (D : Tbl) (n : Nat) (X : Cx) (sc : Scope) (N : List Str) (own : List Nat) (tg : Tg) (it : CI) (c : CO) (elt : CE) (tg' it' elt' : Expr) (ifs : List Expr) (scope : Scope) : Prop where
  blk : BlkOk X.N X.env.scope scope (ownOf N own)
  vars : ∀ i ∈ tg.vars, i ∈ own
  set : noSet it' = true
  pi : PI X tg' it' (MI D n X it)
  pg : ∀ (s : Shared) (H : Hp) (C : Addr) (cl : List (Str × Addr)) (fp : List Addr), PG (X.blk s H scope (compEnvC scope cl C X.env) fp) tg' (MG D n X tg)
  pt : ∀ (s : Shared) (H : Hp) (C : Addr) (cl : List (Str × Addr)) (fp : List Addr), PTs (X.blk s H scope (compEnvC scope cl C X.env) fp) ifs (MC D n X c)
  pe : ∀ (s : Shared) (H : Hp) (C : Addr) (cl : List (Str × Addr)) (fp : List Addr), PE (X.blk s H scope (compEnvC scope cl C X.env) fp) elt' (M1 D n X elt)
theorem px_comp {own : List Nat} {tg : Tg} {it : CI} {c : CO} {elt : CE} {tg' it' elt' : Expr} {ifs : List Expr} {scope : Scope} {pos : Pos} (o : XO D n X raw sc N) (l : LcOk D n X sc N own tg it c elt tg' it' elt' ifs scope) :
    PE X (.ListComp elt' [⟨tg', it', ifs, 0⟩] scope pos) (M1 D n X (.comp own tg it c elt)) := by
  have hN : X.N.Nodup := by rw [o.eN]; exact o.nd
  refine (pe_lc o.calm hN l.pi l.blk l.pg l.pt l.pe (set_of l.set)).imp fun σ H Q q => ?_
  rw [ownOf_snd]
  exact comp_rd l.vars q
end
end MP

set_option Elab.async false
set_option linter.all false
set_option maxRecDepth 100000
/-! MiniPy, part M: statements -/
namespace MP
open PySem PySem.Spec PyProof.Rows L2
variable [tt : Mkr]
theorem swn_tg {tg e : Expr} {env : Env} (h : isTupE tg = false) (h2 : isListE tg = false) : swappedStores [tg] e env = pure none := by
  cases tg <;> first | rfl | (cases h; done) | (cases h2; done)
theorem swn_e {tg e : Expr} {env : Env} (h : isTupE e = false) : swappedStores [tg] e env = pure none := by
  cases e <;> first | (cases h; done) | (cases tg <;> rfl)
theorem blk_fn {env : Env} (hk : env.scope.kind = .function) : env.blockKind = .function := by
  unfold Env.blockKind
  rw [hk]
  rfl
theorem noStar_any {a : Expr} (h : noStar a = true) : (match a with | .Starred .. => true | _ => false) = false := by
  cases a <;> first | rfl | cases h
theorem swn_long {ts vs : List Expr} {k k2 : Nat} {p p2 : Pos} {env : Env} (h : ts.length ≠ 2) (h3 : ts.length ≠ 3) : swappedStores [.Tuple ts k p] (.Tuple vs k2 p2) env = pure none := by
  unfold swappedStores
  have : (!(ts.length == 2 || ts.length == 3)) = true := by simp [h, h3]
  simp only [this, Bool.true_or, if_true]
theorem sw2_some {x y : Str} {px py pt pt2 : Pos} {kt k2 : Nat} {a b : Expr} {env : Env} (hk : env.scope.kind = .function) (hx : env.scope.names.lookup x = some .local) (hy : env.scope.names.lookup y = some .local) (hl : (py.line == px.line) = true) (hxy : x ≠ y) (ha : noStar a = true) (hb : noStar b = true)
    (hf : (foldedForSure 8 a && foldedForSure 8 b) = false) (hc : (constantsAlone 8 a && constantsAlone 8 b) = false) : swappedStores [.Tuple [.Name x px, .Name y py] kt pt] (.Tuple [a, b] k2 pt2) env = pure (some [x, y]) := by
  have kx : env.kindOf x = some .local := hx
  have ky : env.kindOf y = some .local := hy
  have hne : (y == x) = false := beq_eq_false_iff_ne.mpr (Ne.symm hxy)
  have hne2 : (x == y) = false := beq_eq_false_iff_ne.mpr hxy
  unfold swappedStores
  simp only [blk_fn hk, List.length_cons, List.length_nil, List.any_cons, List.any_nil, List.all_cons, List.all_nil, List.filterMap_cons, List.filterMap_nil, kx, ky, List.head?_cons, Option.map_some, Option.getD_some, Expr.pos, hl, Bool.and_true, hf, hc]
  simp [List.eraseDups_cons, hne, hne2]
  intro h
  exfalso
  rcases h with h | h
  · cases a <;> first | (cases h; done) | (cases ha; done)
  · cases b <;> first | (cases h; done) | (cases hb; done)
theorem sw2_none {x y : Str} {px py pt pt2 : Pos} {kt k2 : Nat} {a b : Expr} {env : Env} (ha : noStar a = true) (hb : noStar b = true)
    (h : (match env.scope.names.lookup x with | some .local => true | _ => false) = false ∨ (match env.scope.names.lookup y with | some .local => true | _ => false) = false ∨ (foldedForSure 8 a && foldedForSure 8 b) = true) : swappedStores [.Tuple [.Name x px, .Name y py] kt pt] (.Tuple [a, b] k2 pt2) env = pure none := by
  unfold swappedStores
  simp only [List.length_cons, List.length_nil, List.any_cons, List.any_nil, List.all_cons, List.all_nil, List.filterMap_cons, List.filterMap_nil, List.head?_cons, Option.map_some, Option.getD_some, Expr.pos, Bool.and_true]
  rcases h with h | h | h
  · have kx : (env.kindOf x == some NameKind.local) = false := by
      show (env.scope.names.lookup x == some NameKind.local) = false
      split at h
      · cases h
      · rename_i hn
        exact beq_eq_false_iff_ne.mpr hn
    simp only [kx, Bool.false_and]
    split
    · rfl
    · split
      · rfl
      · simp
        intros
        exfalso
        by_cases hc : env.kindOf y = some NameKind.local ∧ py.line = px.line <;> simp_all
  · have ky : (env.kindOf y == some NameKind.local) = false := by
      show (env.scope.names.lookup y == some NameKind.local) = false
      split at h
      · cases h
      · rename_i hn
        exact beq_eq_false_iff_ne.mpr hn
    simp only [ky, Bool.false_and]
    split
    · rfl
    · split
      · rfl
      · simp
        intros
        exfalso
        by_cases hc : env.kindOf x = some NameKind.local <;> simp_all
  · simp only [h]
    split
    · rfl
    · split
      · rfl
      · split
        · rfl
        · simp
theorem sw3_some {x y z : Str} {px py pz pt pt2 : Pos} {kt k2 : Nat} {a b c : Expr} {env : Env} (hk : env.scope.kind = .function) (hx : env.scope.names.lookup x = some .local) (hy : env.scope.names.lookup y = some .local) (hz : env.scope.names.lookup z = some .local)
    (hl : (py.line == px.line) = true) (hl2 : (pz.line == px.line) = true) (hxy : x ≠ y) (hxz : x ≠ z) (hyz : y ≠ z) (ha : noStar a = true) (hb : noStar b = true) (hc' : noStar c = true)
    (hf : (foldedForSure 8 a && (foldedForSure 8 b && foldedForSure 8 c)) = false) (hc : (constantsAlone 8 a && (constantsAlone 8 b && constantsAlone 8 c)) = false) : swappedStores [.Tuple [.Name x px, .Name y py, .Name z pz] kt pt] (.Tuple [a, b, c] k2 pt2) env = pure (some [x, y, z]) := by
  have kx : env.kindOf x = some .local := hx
  have ky : env.kindOf y = some .local := hy
  have kz : env.kindOf z = some .local := hz
  have n1 : (y == x) = false := beq_eq_false_iff_ne.mpr (Ne.symm hxy)
  have n2 : (z == x) = false := beq_eq_false_iff_ne.mpr (Ne.symm hxz)
  have n3 : (z == y) = false := beq_eq_false_iff_ne.mpr (Ne.symm hyz)
  unfold swappedStores
  simp only [blk_fn hk, List.length_cons, List.length_nil, List.any_cons, List.any_nil, List.all_cons, List.all_nil, List.filterMap_cons, List.filterMap_nil, kx, ky, kz, List.head?_cons, Option.map_some, Option.getD_some, Expr.pos, hl, hl2, Bool.and_true, hf, hc]
  simp [List.eraseDups_cons, n1, n2, n3]
  intro h
  exfalso
  rcases h with h | h | h
  · cases a <;> first | (cases h; done) | (cases ha; done)
  · cases b <;> first | (cases h; done) | (cases hb; done)
  · cases c <;> first | (cases h; done) | (cases hc'; done)
theorem sw3_none {x y z : Str} {px py pz pt pt2 : Pos} {kt k2 : Nat} {a b c : Expr} {env : Env}
    (h : (match env.scope.names.lookup x with | some .local => true | _ => false) = false ∨ (match env.scope.names.lookup y with | some .local => true | _ => false) = false ∨ (match env.scope.names.lookup z with | some .local => true | _ => false) = false ∨ (foldedForSure 8 a && (foldedForSure 8 b && foldedForSure 8 c)) = true) :
    swappedStores [.Tuple [.Name x px, .Name y py, .Name z pz] kt pt] (.Tuple [a, b, c] k2 pt2) env = pure none := by
  have off : ∀ {w : Str}, (match env.scope.names.lookup w with | some .local => true | _ => false) = false → (env.kindOf w == some NameKind.local) = false := fun {w} h => by
    show (env.scope.names.lookup w == some NameKind.local) = false
    split at h
    · cases h
    · rename_i hn
      exact beq_eq_false_iff_ne.mpr hn
  unfold swappedStores
  simp only [List.length_cons, List.length_nil, List.any_cons, List.any_nil, List.all_cons, List.all_nil, List.filterMap_cons, List.filterMap_nil, List.head?_cons, Option.map_some, Option.getD_some, Expr.pos, Bool.and_true]
  rcases h with h | h | h | h
  · simp only [off h, Bool.false_and]
    split
    · rfl
    · split
      · rfl
      · simp
        intros
        exfalso
        by_cases c1 : env.kindOf y = some NameKind.local ∧ py.line = px.line <;> by_cases c2 : env.kindOf z = some NameKind.local ∧ pz.line = px.line <;> simp_all
  · simp only [off h, Bool.false_and]
    split
    · rfl
    · split
      · rfl
      · simp
        intros
        exfalso
        by_cases c1 : env.kindOf x = some NameKind.local <;> by_cases c2 : env.kindOf z = some NameKind.local ∧ pz.line = px.line <;> simp_all
  · simp only [off h, Bool.false_and]
    split
    · rfl
    · split
      · rfl
      · simp
        intros
        exfalso
        by_cases c1 : env.kindOf x = some NameKind.local <;> by_cases c2 : env.kindOf y = some NameKind.local ∧ py.line = px.line <;> simp_all
  · simp only [h]
    split
    · rfl
    · split
      · rfl
      · split
        · rfl
        · simp
end MP

set_option Elab.async false
set_option linter.all false
set_option maxRecDepth 100000
/-! MiniPy, part N: the check of statements; the whole soundness -/
namespace MP
open PySem PySem.Spec PyProof.Rows L2
/-- a comprehension whose name is stored within it -/
def lcSwap (sc : Scope) (tg e : Expr) : Bool := match e, tg with
  | .ListComp _ _ scope p, .Name y py => locB sc y && (py.line == p.line) && !(scope.names.any fun (n, k) => n == y && (k == .local || k == .cell))
  | _, _ => false
def swpF (sc : Scope) (tg e : Expr) : Bool := noComp e || (match e with | .ListComp .. => true | _ => false) && !lcSwap sc tg e
def isSubE : Expr → Bool
  | .Subscript .. => true
  | _ => false
def hasSub : Expr → Bool
  | .Tuple ts _ _ => ts.any isSubE
  | _ => false
def swnF (sc : Scope) (tg e : Expr) : Bool := (!isTupE tg && !isListE tg) || !isTupE e || hasSub tg || (match tg, e with
  | .Tuple ts _ _, .Tuple vs _ _ => (decide (ts.length ≠ 2) && decide (ts.length ≠ 3)) || (match ts, vs with
    | [.Name x _, .Name y _], [a, b] => noStar a && noStar b && (!locB sc x || !locB sc y || (foldedForSure 8 a && foldedForSure 8 b))
    | [.Name x _, .Name y _, .Name z _], [a, b, c] => !locB sc x || !locB sc y || !locB sc z || (foldedForSure 8 a && (foldedForSure 8 b && foldedForSure 8 c))
    | _, _ => false)
  | _, _ => false)
def par2 (sc : Scope) (tg e : Expr) : Bool := match tg, e with
  | .Tuple [.Name x px, .Name y py] _ _, .Tuple [a, b] _ _ => locB sc x && locB sc y && (py.line == px.line) && !decide (x = y) && noStar a && noStar b && !(foldedForSure 8 a && foldedForSure 8 b) && !(constantsAlone 8 a && constantsAlone 8 b)
  | _, _ => false
def par3 (sc : Scope) (tg e : Expr) : Bool := match tg, e with
  | .Tuple [.Name x px, .Name y py, .Name z pz] _ _, .Tuple [a, b, c] _ _ => locB sc x && locB sc y && locB sc z && (py.line == px.line) && (pz.line == px.line) && !decide (x = y) && !decide (x = z) && !decide (y = z) && noStar a && noStar b && noStar c &&
      !(foldedForSure 8 a && (foldedForSure 8 b && foldedForSure 8 c)) && !(constantsAlone 8 a && (constantsAlone 8 b && constantsAlone 8 c))
  | _, _ => false
def nilB : CEs → Bool
  | .nil => true
  | _ => false
mutual
def chkS (D : Tbl) (N : List Str) : CS → (raw sc : Scope) → Stmt → Bool
  | .pass, raw, sc, s => match s with
    | .Pass _ => true
    | .Expr (.Constant (.str _) _ _) _ => true
    | _ => false
  | .expr c, raw, sc, s => match s with
    | .Expr e _ => noComp e && chkE D N c raw sc e
    | _ => false
  | .ret c, raw, sc, s => match s with
    | .Return (some e) _ => chkE D N c raw sc e
    | _ => false
  | .retN, raw, sc, s => match s with
    | .Return none _ => true
    | _ => false
  | .set t c, raw, sc, s => match s with
    | .Assign [tg] e _ => noStar tg && chkG D N t raw sc tg && chkE D N c raw sc e && ((swpF sc tg e && swnF sc tg e) || par2 sc tg e || par3 sc tg e || lcSwap sc tg e)
    | _ => false
  | .aug i op c, raw, sc, s => match s with
    | .AugAssign (.Name x _) o e _ => decide (op.o = o) && decide (N[i]? = some x) && (locB raw x || celB raw x) && okName x && chkE D N c raw sc e
    | _ => false
  | .augS _ _ _ _, _, _, _ => false
  | .iff c a b, raw, sc, s => match s with
    | .If e p q _ => c.tst && chkE D N c raw sc e && chkSs D N a raw sc p && chkSs D N b raw sc q
    | _ => false
  | .for t it body, raw, sc, s => match s with
    | .For tg iter p [] _ => noSet iter && chkI D N it raw sc iter (isTupE tg) && chkG D N t raw sc tg && chkSs D N body raw sc p
    | _ => false
  | .whl c body, raw, sc, s => match s with
    | .While e p [] _ => c.tst && chkE D N c raw sc e && chkSs D N body raw sc p
    | _ => false
  | .brk, raw, sc, s => match s with
    | .Break _ => true
    | _ => false
  | .cnt, raw, sc, s => match s with
    | .Continue _ => true
    | _ => false
  | .never, _, _, _ => true
  | .exprX f as ks vs, raw, sc, s => match s with
    | .Expr (.Call (.Name x _) es kws _) _ => decide (x = Str.ofString f) && gloB sc x && okName x && callB D N f && chkEs D N as raw sc es && (if ks.isEmpty then kws.isEmpty && nilB vs else decide ((f, es.length, ks) ∈ D.kw) && chkKW D N vs raw sc ks kws)
    | _ => false
  | .retX f as ks vs, raw, sc, s => match s with
    | .Return (some (.Call (.Name x _) es kws _)) _ => decide (x = Str.ofString f) && gloB sc x && okName x && callB D N f && chkEs D N as raw sc es && (if ks.isEmpty then kws.isEmpty && nilB vs else decide ((f, es.length, ks) ∈ D.kw) && chkKW D N vs raw sc ks kws)
    | _ => false
  | .setX t f as ks vs, raw, sc, s => match s with
    | .Assign [tg] (.Call (.Name x _) es kws _) _ => noStar tg && chkG D N t raw sc tg && decide (x = Str.ofString f) && gloB sc x && okName x && callB D N f && chkEs D N as raw sc es && (if ks.isEmpty then kws.isEmpty && nilB vs else decide ((f, es.length, ks) ∈ D.kw) && chkKW D N vs raw sc ks kws)
    | _ => false
  | .raise c e, raw, sc, s => match s with
    | .Raise (some (.Call (.Name x _) [a'] [] _)) none _ => decide (x = Str.ofString c) && gloB sc x && okName x && noStar a' && (D.xs.lookup c).isSome && chkE D N e raw sc a'
    | _ => false
def chkSs (D : Tbl) (N : List Str) : CSs → (raw sc : Scope) → List Stmt → Bool
  | .nil, raw, sc, ss => match ss with
    | [] => true
    | _ => false
  | .cons c cs, raw, sc, ss => match ss with
    | s :: r => chkS D N c raw sc s && chkSs D N cs raw sc r
    | [] => false
end
section
variable [tt : Mkr] {D : Tbl} {n : Nat} {X : Cx} {raw sc : Scope} {N : List Str}
/-! ### readings of expressions: all together -/
theorem all_and {a b : Bool} (h : (a && b) = true) : a = true ∧ b = true := by rwa [Bool.and_eq_true] at h
theorem chkEs_star : ∀ (cs : CEs) {raw sc : Scope} {es : List Expr}, chkEs D N cs raw sc es = true → es.all noStar = true ∧ (es = [] → cs = .nil)
  | .nil, raw, sc, es, h => by
    unfold chkEs at h
    split at h
    · exact ⟨rfl, fun _ => rfl⟩
    · cases h
  | .cons c cs, raw, sc, es, h => by
    unfold chkEs at h
    split at h
    · rename_i e r
      obtain ⟨h, h3⟩ := all_and h
      obtain ⟨h1, h2⟩ := all_and h
      rw [List.all_cons, h1, (chkEs_star cs h3).1]
      exact ⟨rfl, fun z => nomatch z⟩
    · cases h
theorem evEs_len {C : String → List T → Hh → R T} : ∀ (cs : CEs) {raw sc : Scope} {es : List Expr} {ls : Ls} {h h' : Hh} {xs : List T}, chkEs D N cs raw sc es = true → evEs D C cs ls h = .ok xs h' → xs.length = es.length
  | .nil, raw, sc, es, ls, h, h', xs, hc, e => by
    unfold chkEs at hc
    unfold evEs at e
    cases e
    split at hc
    · rfl
    · cases hc
  | .cons c cs, raw, sc, es, ls, h, h', xs, hc, e => by
    unfold chkEs at hc
    unfold evEs at e
    obtain ⟨x, h1, e1, e2⟩ := R.bd_eq_ok e
    obtain ⟨ys, h2, e3, e4⟩ := R.bd_eq_ok e2
    cases e4
    split at hc
    · rename_i e' r
      obtain ⟨_, h3⟩ := all_and hc
      rw [List.length_cons, List.length_cons, evEs_len cs h3 e3]
    · cases hc
theorem evKV_len {C : String → List T → Hh → R T} : ∀ (cs : CKs) {raw sc : Scope} {ks : List (Option Expr)} {vs : List Expr} {ls : Ls} {h h' : Hh} {p : List T × List T}, chkKV D N cs raw sc ks vs = true → evKV D C cs ls h = .ok p h' → p.1.length = ks.length
  | .nil, raw, sc, ks, vs, ls, h, h', p, hc, e => by
    unfold chkKV at hc
    unfold evKV at e
    cases e
    split at hc
    · rfl
    · cases hc
  | .cons k v r, raw, sc, ks, vs, ls, h, h', p, hc, e => by
    unfold chkKV at hc
    unfold evKV at e
    obtain ⟨x, h1, e1, e2⟩ := R.bd_eq_ok e
    obtain ⟨y, h2, e3, e4⟩ := R.bd_eq_ok e2
    obtain ⟨q, h3, e5, e6⟩ := R.bd_eq_ok e4
    cases e6
    split at hc
    · obtain ⟨_, h4⟩ := all_and hc
      show (x :: q.1).length = _
      rw [List.length_cons, List.length_cons, evKV_len r h4 e5]
    · cases hc
theorem evGs_len {C : String → List T → Hh → R T} : ∀ (cs : Tgs) {raw sc : Scope} {es : List Expr} {ls l' : Ls} {h h' : Hh} {xs : List T}, chkGs D N cs raw sc es = true → evGs D C cs xs ls h = .ok l' h' → xs.length = es.length
  | .nil, raw, sc, es, ls, l', h, h', xs, hc, e => by
    unfold chkGs at hc
    cases xs with
    | nil =>
      split at hc
      · rfl
      · cases hc
    | cons a b =>
      simp only [evGs] at e
      cases e
  | .cons c cs, raw, sc, es, ls, l', h, h', xs, hc, e => by
    unfold chkGs at hc
    cases xs with
    | nil =>
      simp only [evGs] at e
      cases e
    | cons a b =>
      simp only [evGs] at e
      obtain ⟨l1, h1, e1, e2⟩ := R.bd_eq_ok e
      split at hc
      · obtain ⟨_, h3⟩ := all_and hc
        rw [List.length_cons, List.length_cons, evGs_len cs h3 e2]
      · cases hc
theorem chkGs_star : ∀ (cs : Tgs) {raw sc : Scope} {es : List Expr}, chkGs D N cs raw sc es = true → es.all noStar = true
  | .nil, raw, sc, es, h => by
    unfold chkGs at h
    split at h
    · rfl
    · cases h
  | .cons c cs, raw, sc, es, h => by
    unfold chkGs at h
    split at h
    · obtain ⟨h, h3⟩ := all_and h
      obtain ⟨h1, h2⟩ := all_and h
      rw [List.all_cons, h1, chkGs_star cs h3]
      rfl
    · cases h
theorem sub_assign {o i : Expr} {p : Pos} {env : Env} (h : noSlice i = true) : ∀ v, assign (.Subscript o i p) env v = (do
      let ov ← holding [v] (eval o env)
      let iv ← holding [v, ov] (eval i env)
      standAt p
      holding [v, ov, iv] (setItem ov iv v)
      release [v, ov, iv] []) := by
  intro v
  cases i <;> first | rfl | cases h
theorem chkKV_len : ∀ (cs : CKs) {raw sc : Scope} {ks : List (Option Expr)} {vs : List Expr}, chkKV D N cs raw sc ks vs = true → ks.all (·.isSome) = true ∧ ks.length = vs.length ∧ (ks = [] → cs = .nil)
  | .nil, raw, sc, ks, vs, h => by
    unfold chkKV at h
    split at h
    · exact ⟨rfl, rfl, fun _ => rfl⟩
    · cases h
  | .cons k v r, raw, sc, ks, vs, h => by
    unfold chkKV at h
    split at h
    · obtain ⟨_, h3⟩ := all_and h
      obtain ⟨a, b, _⟩ := chkKV_len r h3
      rw [List.all_cons, a, List.length_cons, List.length_cons, b]
      exact ⟨rfl, rfl, fun z => nomatch z⟩
    · cases h
theorem chkKW_names : ∀ (cs : CEs) {raw sc : Scope} {ks : List String} {kws : List Keyword}, chkKW D N cs raw sc ks kws = true → kws.map (·.arg) = ks.map fun k => some (Str.ofString k)
  | .nil, raw, sc, ks, kws, h => by
    unfold chkKW at h
    split at h
    · rfl
    · cases h
  | .cons c cs, raw, sc, ks, kws, h => by
    unfold chkKW at h
    split at h
    · obtain ⟨h, h3⟩ := all_and h
      obtain ⟨h1, h2⟩ := all_and h
      rw [List.map_cons, List.map_cons, chkKW_names cs h3]
      rw [decide_eq_true_eq] at h1
      rw [← h1]
    · cases h
end
end MP

set_option Elab.async false
set_option linter.all false
set_option maxRecDepth 100000
/-! MiniPy, part O: every checked expression is read by the evaluator -/
namespace MP
open PySem PySem.Spec PyProof.Rows L2
variable [tt : Mkr]
def Snd (D : Tbl) (n : Nat) (X : Cx) (c : CE) (e : Expr) : Prop := PE X e (M1 D n X c) ∧ (c.tst = true → PT X e (M1T D n X c))
section
variable {D : Tbl} {n : Nat} {N : List Str}
theorem snd_pe {X : Cx} {c : CE} {e : Expr} (p : PE X e (M1 D n X c)) (he : ∀ whole, isTrue e X.env whole = (do let v ← whole; standAt e.pos; holding [v] (truthy v))) : Snd D n X c e := ⟨p, fun _ => pt_of p he⟩
set_option maxHeartbeats 1000000 in
mutual
theorem sE : ∀ (c : CE) {raw sc : Scope} {e : Expr} {X : Cx}, chkE D N c raw sc e = true → XO D n X raw sc N → Snd D n X c e
  | .var i, raw, sc, e, X, h, o => by
    unfold chkE at h
    split at h
    · obtain ⟨h, h3⟩ := all_and h
      obtain ⟨h1, h2⟩ := all_and h
      exact snd_pe (px_var o (of_decide_eq_true h1) h2 h3) fun _ => rfl
    · cases h
  | .int i, raw, sc, e, X, h, o => by
    unfold chkE at h
    split at h
    · cases of_decide_eq_true h
      exact snd_pe px_int fun _ => rfl
    · cases h
  | .bl i, raw, sc, e, X, h, o => by
    unfold chkE at h
    split at h
    · cases of_decide_eq_true h
      exact snd_pe px_bl fun _ => rfl
    · cases h
  | .non, raw, sc, e, X, h, o => by
    unfold chkE at h
    split at h
    · exact snd_pe px_non fun _ => rfl
    · cases h
  | .str x, raw, sc, e, X, h, o => by
    unfold chkE at h
    split at h
    · cases of_decide_eq_true h
      exact snd_pe px_str fun _ => rfl
    · cases h
  | .glob x, raw, sc, e, X, h, o => by
    unfold chkE at h
    split at h
    · obtain ⟨h, h4⟩ := all_and h
      obtain ⟨h, h3⟩ := all_and h
      obtain ⟨h1, h2⟩ := all_and h
      cases of_decide_eq_true h1
      exact snd_pe (px_glob o h2 h3) fun _ => rfl
    · cases h
  | .bin op a b, raw, sc, e, X, h, o => by
    unfold chkE at h
    split at h
    · obtain ⟨h, h3⟩ := all_and h
      obtain ⟨h1, h2⟩ := all_and h
      cases of_decide_eq_true h1
      exact snd_pe (px_bin (sE a h2 o).1 (sE b h3 o).1) fun _ => rfl
    · cases h
  | .neg a, raw, sc, e, X, h, o => by
    unfold chkE at h
    split at h
    · exact snd_pe (px_neg (sE a h o).1) fun _ => rfl
    · cases h
  | .inv a, raw, sc, e, X, h, o => by
    unfold chkE at h
    split at h
    · exact snd_pe (px_inv (sE a h o).1) fun _ => rfl
    · cases h
  | .not a, raw, sc, e, X, h, o => by
    unfold chkE at h
    split at h
    · obtain ⟨h1, h2⟩ := all_and h
      have p := px_not (pos := by assumption) (sE a h2 o).1 ((sE a h2 o).2 h1)
      exact ⟨p.1, fun _ => p.2⟩
    · cases h
  | .cmp op a b, raw, sc, e, X, h, o => by
    unfold chkE at h
    split at h
    · obtain ⟨h, h4⟩ := all_and h
      obtain ⟨h, h3⟩ := all_and h
      obtain ⟨h1, h2⟩ := all_and h
      cases of_decide_eq_true h1
      have p := px_cmp (op := op) (pos := by assumption) o h2 (sE a h3 o).1 (sE b h4 o).1
      exact ⟨p.1, fun _ => p.2⟩
    · cases h
  | .chn op op2 a b c, raw, sc, e, X, h, o => by
    unfold chkE at h
    split at h
    · obtain ⟨h, h6⟩ := all_and h
      obtain ⟨h, h5⟩ := all_and h
      obtain ⟨h, h4⟩ := all_and h
      obtain ⟨h, h3⟩ := all_and h
      obtain ⟨h1, h2⟩ := all_and h
      cases of_decide_eq_true h1
      cases of_decide_eq_true h2
      have p := px_chn (op := op) (op' := op2) (pos := by assumption) o h3 (sE a h4 o).1 (sE b h5 o).1 (sE c h6 o).1
      exact ⟨p.1, fun _ => p.2⟩
    · cases h
  | .isN a, raw, sc, e, X, h, o => by
    unfold chkE at h
    split at h
    · exact ⟨(px_isN (sE a h o).1).1, fun _ => (px_isN (sE a h o).1).2⟩
    · cases h
  | .isnN a, raw, sc, e, X, h, o => by
    unfold chkE at h
    split at h
    · exact ⟨(px_isnN (sE a h o).1).1, fun _ => (px_isnN (sE a h o).1).2⟩
    · cases h
  | .and es, raw, sc, e, X, h, o => by
    unfold chkE at h
    split at h
    · rename_i es' pos
      obtain ⟨p, t⟩ := (sT es h o pos).1
      refine ⟨p.imp fun σ H Q ⟨ρ, ls, hh, t', h', g, rs, e, k⟩ => ⟨ρ, ls, hh, t', h', g, rs, by simpa only [evE] using e, k⟩, fun _ => t.pt.imp fun σ H Q ⟨ρ, ls, hh, t', h', g, rs, e, k⟩ => ⟨ρ, ls, hh, t', h', g, rs, by simpa only [evE] using e, k⟩⟩
    · cases h
  | .or es, raw, sc, e, X, h, o => by
    unfold chkE at h
    split at h
    · rename_i es' pos
      obtain ⟨p, t⟩ := (sT es h o pos).2
      refine ⟨p.imp fun σ H Q ⟨ρ, ls, hh, t', h', g, rs, e, k⟩ => ⟨ρ, ls, hh, t', h', g, rs, by simpa only [evE] using e, k⟩, fun _ => t.pt.imp fun σ H Q ⟨ρ, ls, hh, t', h', g, rs, e, k⟩ => ⟨ρ, ls, hh, t', h', g, rs, by simpa only [evE] using e, k⟩⟩
    · cases h
  | .ite c a b, raw, sc, e, X, h, o => by
    unfold chkE at h
    split at h
    · obtain ⟨h, h4⟩ := all_and h
      obtain ⟨h, h3⟩ := all_and h
      obtain ⟨h1, h2⟩ := all_and h
      exact ⟨px_ite ((sE c h2 o).2 h1) (sE a h3 o).1 (sE b h4 o).1, fun z => nomatch z⟩
    · cases h
  | .tup es, raw, sc, e, X, h, o => by
    unfold chkE at h
    split at h
    · exact snd_pe (px_tup (sEs es h o)) fun _ => rfl
    · cases h
  | .lst es, raw, sc, e, X, h, o => by
    unfold chkE at h
    split at h
    · exact snd_pe (px_lst (sEs es h o)) fun _ => rfl
    · cases h
  | .dic ps, raw, sc, e, X, h, o => by
    unfold chkE at h
    split at h
    · rename_i ks vs pos
      obtain ⟨h1, h2⟩ := all_and h
      obtain ⟨a, b, c⟩ := chkKV_len ps h1
      by_cases hk : ks = []
      · subst hk
        cases c rfl
        have hv : vs = [] := List.eq_nil_of_length_eq_zero b.symm
        subst hv
        exact snd_pe px_dic0 fun _ => rfl
      · exact snd_pe (px_dic (sKV ps h1 o pos) a b hk (of_decide_eq_true h2) fun _ _ _ _ e => evKV_len ps h1 e) fun _ => rfl
    · cases h
  | .idx a i, raw, sc, e, X, h, o => by
    unfold chkE at h
    split at h
    · obtain ⟨h, h3⟩ := all_and h
      obtain ⟨h1, h2⟩ := all_and h
      exact snd_pe (px_idx o h1 (sE a h2 o).1 (sE i h3 o).1) fun _ => rfl
    · cases h
  | .slc a lo hi, raw, sc, e, X, h, o => by
    unfold chkE at h
    split at h
    · obtain ⟨h, h3⟩ := all_and h
      obtain ⟨h1, h2⟩ := all_and h
      exact snd_pe (px_slc (sE a h1 o).1 (sO lo h2 o) (sO hi h3 o)) fun _ => rfl
    · cases h
  | .rev a, raw, sc, e, X, h, o => by
    unfold chkE at h
    split at h
    · exact snd_pe (px_rev (sE a h o).1) fun _ => rfl
    · cases h
  | .call f as, raw, sc, e, X, h, o => by
    unfold chkE at h
    split at h
    · obtain ⟨h, h5⟩ := all_and h
      obtain ⟨h, h4⟩ := all_and h
      obtain ⟨h, h3⟩ := all_and h
      obtain ⟨h1, h2⟩ := all_and h
      cases of_decide_eq_true h1
      obtain ⟨a, b⟩ := chkEs_star as h5
      exact snd_pe (px_call o h4 h2 h3 a b (sEs as h5 o)) fun _ => rfl
    · cases h
  | .callK f as ks vs, raw, sc, e, X, h, o => by
    unfold chkE at h
    split at h
    · obtain ⟨h, h7⟩ := all_and h
      obtain ⟨h, h6⟩ := all_and h
      obtain ⟨h, h5⟩ := all_and h
      obtain ⟨h, h4⟩ := all_and h
      obtain ⟨h, h3⟩ := all_and h
      obtain ⟨h1, h2⟩ := all_and h
      cases of_decide_eq_true h1
      obtain ⟨a, b⟩ := chkEs_star as h6
      exact snd_pe (px_callK o h4 h2 h3 a b (of_decide_eq_true h5) (chkKW_names vs h7) (fun _ _ _ _ e => evEs_len as h6 e) (sEs as h6 o) (sKW vs h7 o)) fun _ => rfl
    · cases h
  | .new c g a, raw, sc, e, X, h, o => by
    unfold chkE at h
    split at h
    · obtain ⟨h, h6⟩ := all_and h
      obtain ⟨h, h5⟩ := all_and h
      obtain ⟨h, h4⟩ := all_and h
      obtain ⟨h, h3⟩ := all_and h
      obtain ⟨h1, h2⟩ := all_and h
      cases of_decide_eq_true h1
      exact snd_pe (px_new o h2 h3 h4 (of_decide_eq_true h5) (sE a h6 o).1) fun _ => rfl
    · cases h
  | .blt b as, raw, sc, e, X, h, o => by
    unfold chkE at h
    split at h
    · obtain ⟨h, h4⟩ := all_and h
      obtain ⟨h, h5⟩ := all_and h
      obtain ⟨h, h3⟩ := all_and h
      obtain ⟨h1, h2⟩ := all_and h
      cases of_decide_eq_true h1
      exact snd_pe (px_blt o h5 h2 h3 (chkEs_star as h4).1 (sEs as h4 o)) fun _ => rfl
    · cases h
  | .told g f is ks js, raw, sc, e, X, h, o => by
    unfold chkE at h
    split at h
    · simp only [Bool.and_eq_true, decide_eq_true_eq, Option.isSome_iff_exists] at h
      obtain ⟨⟨⟨⟨⟨⟨⟨⟨⟨⟨⟨rfl, h2⟩, h3⟩, ⟨hs, h4⟩⟩, h5⟩, h6⟩, rfl⟩, h8⟩, h9⟩, h10⟩, h11⟩, h12⟩ := h
      obtain ⟨fd, g1, g2⟩ := nogB_ok h10
      exact snd_pe (px_told o h2 h3 h4 h5 h6 h8 h9 g1 g2 h11 (by
        by_cases hk : ks.isEmpty = true
        · rw [if_pos hk] at h12 ⊢
          simpa using h12
        · rw [if_neg hk] at h12 ⊢
          simpa using h12)) fun _ => rfl
    · cases h
  | .sset a, raw, sc, e, X, h, o => by
    unfold chkE at h
    split at h
    · obtain ⟨h, h8⟩ := all_and h
      obtain ⟨h, h7⟩ := all_and h
      obtain ⟨h, h6⟩ := all_and h
      obtain ⟨h, h5⟩ := all_and h
      obtain ⟨h, h4⟩ := all_and h
      obtain ⟨h, h3⟩ := all_and h
      obtain ⟨h1, h2⟩ := all_and h
      cases of_decide_eq_true h1
      cases of_decide_eq_true h4
      exact snd_pe (px_sset o h2 h5 h7 (sE a h8 o).1) fun _ => rfl
    · cases h
  | .lset a, raw, sc, e, X, h, o => by
    unfold chkE at h
    split at h
    · obtain ⟨h, h8⟩ := all_and h
      obtain ⟨h, h7⟩ := all_and h
      obtain ⟨h, h6⟩ := all_and h
      obtain ⟨h, h5⟩ := all_and h
      obtain ⟨h, h4⟩ := all_and h
      obtain ⟨h, h3⟩ := all_and h
      obtain ⟨h1, h2⟩ := all_and h
      cases of_decide_eq_true h1
      cases of_decide_eq_true h4
      exact snd_pe (px_lset o h2 h5 h7 (sE a h8 o).1) fun _ => rfl
    · cases h
  | .isiT a ts, raw, sc, e, X, h, o => by
    unfold chkE at h
    split at h
    · rename_i x p a' t' pos
      obtain ⟨h, h7⟩ := all_and h
      obtain ⟨h, h6⟩ := all_and h
      obtain ⟨h, h5⟩ := all_and h
      obtain ⟨h, h4⟩ := all_and h
      obtain ⟨h, h3⟩ := all_and h
      obtain ⟨h1, h2⟩ := all_and h
      cases of_decide_eq_true h1
      have hall : ∀ t ∈ ts, t ∈ tyNames := fun t ht => by
        have z := List.all_eq_true.mp h5 t ht
        simpa using z
      obtain ⟨hs, h100⟩ := all_and h4
      split at h7
      · obtain ⟨h7, h10⟩ := all_and h7
        obtain ⟨h8, h9⟩ := all_and h7
        cases of_decide_eq_true h8
        exact snd_pe (px_isi1 o h2 h3 hs (hall _ List.mem_cons_self) h9 h10 (sE a h6 o).1) fun _ => rfl
      · obtain ⟨h7, h10⟩ := all_and h7
        obtain ⟨h8, h9⟩ := all_and h7
        exact snd_pe (px_isiT o h2 h3 hs hall (of_decide_eq_true h9) h10 (of_decide_eq_true h100) (sE a h6 o).1) fun _ => rfl
      · cases h7
    · cases h
  | .mth m c cs, raw, sc, e, X, h, o => by
    unfold chkE at h
    split at h
    · obtain ⟨h, h6⟩ := all_and h
      obtain ⟨h, h5⟩ := all_and h
      obtain ⟨h, h4⟩ := all_and h
      obtain ⟨h, h3⟩ := all_and h
      obtain ⟨h1, h2⟩ := all_and h
      cases of_decide_eq_true h1
      obtain ⟨a, b⟩ := chkEs_star cs h6
      exact snd_pe (px_mth o h2 h3 a (of_decide_eq_true h4) b (sE c h5 o).1 (sEs cs h6 o)) fun _ => rfl
    · cases h
  | .rngL it, raw, sc, e, X, h, o => by
    unfold chkE at h
    split at h
    · obtain ⟨h, h5⟩ := all_and h
      obtain ⟨h, h4⟩ := all_and h
      obtain ⟨h, h3⟩ := all_and h
      obtain ⟨h1, h2⟩ := all_and h
      cases of_decide_eq_true h1
      exact snd_pe ((px_rng o h4 (sR it h5 o)).1 h2) fun _ => rfl
    · cases h
  | .rngT it, raw, sc, e, X, h, o => by
    unfold chkE at h
    split at h
    · obtain ⟨h, h5⟩ := all_and h
      obtain ⟨h, h4⟩ := all_and h
      obtain ⟨h, h3⟩ := all_and h
      obtain ⟨h1, h2⟩ := all_and h
      cases of_decide_eq_true h1
      exact snd_pe ((px_rng o h4 (sR it h5 o)).2 h2) fun _ => rfl
    · cases h
  | .comp own tg it c elt, raw, sc, e, X, h, o => by
    unfold chkE at h
    split at h
    · obtain ⟨h, h8⟩ := all_and h
      obtain ⟨h, h7⟩ := all_and h
      obtain ⟨h, h6⟩ := all_and h
      obtain ⟨h, h5⟩ := all_and h
      obtain ⟨h, h4⟩ := all_and h
      obtain ⟨h, h3⟩ := all_and h
      obtain ⟨h1, h2⟩ := all_and h
      have bk := blkOk_by h1
      have ob := fun s H C cl fp => o.blk bk.kind s H C cl fp
      refine snd_pe (px_comp o ⟨by rw [o.eN, o.esc]; exact bk, fun i hi => ?_, h4, sI it h5 o, fun s H C cl fp => sG tg h6 (ob s H C cl fp), fun s H C cl fp => sC c h7 (ob s H C cl fp), fun s H C cl fp => (sE elt h8 (ob s H C cl fp)).1⟩) fun _ => rfl
      have z := List.all_eq_true.mp h3 i hi
      simpa using z
    · cases h
theorem sEs : ∀ (cs : CEs) {raw sc : Scope} {es : List Expr} {X : Cx}, chkEs D N cs raw sc es = true → XO D n X raw sc N → PA X es (MA D n X cs)
  | .nil, raw, sc, es, X, h, o => by
    unfold chkEs at h
    split at h
    · exact px_nil
    · cases h
  | .cons c cs, raw, sc, es, X, h, o => by
    unfold chkEs at h
    split at h
    · obtain ⟨h, h3⟩ := all_and h
      obtain ⟨h1, h2⟩ := all_and h
      exact px_cons h1 (sE c h2 o).1 (sEs cs h3 o)
    · cases h
theorem sT : ∀ (cs : CEs) {raw sc : Scope} {es : List Expr} {X : Cx}, chkT D N cs raw sc es = true → XO D n X raw sc N → ∀ pos, (PE X (.BoolOp .And es pos) (MAnd D n X cs) ∧ PW X (.BoolOp .And es pos) (MAndT D n X cs)) ∧ (PE X (.BoolOp .Or es pos) (MOr D n X cs) ∧ PW X (.BoolOp .Or es pos) (MOrT D n X cs))
  | .nil, raw, sc, es, X, h, o, pos => by
    unfold chkT at h
    cases h
  | .cons c .nil, raw, sc, es, X, h, o, pos => by
    unfold chkT at h
    split at h
    · obtain ⟨h1, h2⟩ := all_and h
      have s := sE c h2 o
      exact ⟨px_and1 s.1 (s.2 h1), px_or1 s.1 (s.2 h1)⟩
    · obtain ⟨h, h3⟩ := all_and h
      unfold chkT at h3
      cases h3
    · cases h
  | .cons c (.cons c2 cs), raw, sc, es, X, h, o, pos => by
    unfold chkT at h
    split at h
    · rename_i hh
      cases hh
    · obtain ⟨h, h3⟩ := all_and h
      obtain ⟨h1, h2⟩ := all_and h
      have s := sE c h2 o
      have r := sT (.cons c2 cs) h3 o pos
      exact ⟨px_and s.1 (s.2 h1) r.1.1 r.1.2, px_or s.1 (s.2 h1) r.2.1 r.2.2⟩
    · cases h
theorem sKV : ∀ (cs : CKs) {raw sc : Scope} {ks : List (Option Expr)} {vs : List Expr} {X : Cx}, chkKV D N cs raw sc ks vs = true → XO D n X raw sc N → ∀ pos, PPs X pos ks vs (trsOf D n X cs)
  | .nil, raw, sc, ks, vs, X, h, o, pos => by
    unfold chkKV at h
    split at h
    · exact pps_nil
    · cases h
  | .cons k v r, raw, sc, ks, vs, X, h, o, pos => by
    unfold chkKV at h
    split at h
    · obtain ⟨h, h3⟩ := all_and h
      obtain ⟨h1, h2⟩ := all_and h
      exact pps_cons (sE k h1 o).1 (sE v h2 o).1 (sKV r h3 o pos)
    · cases h
theorem sKW : ∀ (cs : CEs) {raw sc : Scope} {ks : List String} {kws : List Keyword} {X : Cx}, chkKW D N cs raw sc ks kws = true → XO D n X raw sc N → PK X kws (MA D n X cs)
  | .nil, raw, sc, ks, kws, X, h, o => by
    unfold chkKW at h
    split at h
    · exact ⟨fun pos pins s σ H Q I ⟨ρ, ls, hh, t, h', g, rs, e, k⟩ => by
        unfold evEs at e
        cases e
        exact pk_nil.run pos pins s σ H Q I (k _ _ _ Ext.refl g .nil)⟩
    · cases h
  | .cons c cs, raw, sc, ks, kws, X, h, o => by
    unfold chkKW at h
    split at h
    · obtain ⟨h, h3⟩ := all_and h
      obtain ⟨h1, h2⟩ := all_and h
      exact ⟨fun pos pins s σ H Q I ⟨ρ, ls, hh, t, h', g, rs, e, k⟩ => by
        unfold evEs at e
        obtain ⟨x, h1, e1, e2⟩ := R.bd_eq_ok e
        obtain ⟨xs, h2, e3, e4⟩ := R.bd_eq_ok e2
        cases e4
        exact (pk_cons (sE c h2 o).1 (sKW cs h3 o)).run pos pins s σ H Q I ⟨ρ, ls, hh, x, h1, g, rs, e1, fun ρ1 H1 v1 E1 G1 r1 => ⟨ρ1, ls, h1, xs, _, G1, rs.ext E1, e3, fun ρ2 H2 v2 E2 G2 r2 => k _ _ _ (E1.trans E2) G2 (.cons (r1.ext E2) r2)⟩⟩⟩
    · cases h
theorem sO : ∀ (c : CO) {raw sc : Scope} {e : Option Expr} {X : Cx}, chkO D N c raw sc e = true → XO D n X raw sc N → PO X e (rdO X.K X.mg (evO D (callN D n) c))
  | .no, raw, sc, e, X, h, o => by
    unfold chkO at h
    split at h
    · exact px_no
    · cases h
  | .so c, raw, sc, e, X, h, o => by
    unfold chkO at h
    split at h
    · exact px_so (sE c h o).1
    · cases h
theorem sC : ∀ (c : CO) {raw sc : Scope} {e : List Expr} {X : Cx}, chkC D N c raw sc e = true → XO D n X raw sc N → PTs X e (MC D n X c)
  | .no, raw, sc, e, X, h, o => by
    unfold chkC at h
    split at h
    · exact pts_no
    · cases h
  | .so c, raw, sc, e, X, h, o => by
    unfold chkC at h
    split at h
    · obtain ⟨h1, h2⟩ := all_and h
      exact pts_so ((sE c h2 o).2 h1)
    · cases h
theorem sR : ∀ (c : CI) {raw sc : Scope} {e : Expr} {X : Cx}, chkR D N c raw sc e = true → XO D n X raw sc N → ∃ te, PRg X e te ∧ ∀ σ H Q, (∃ ρ ls h xs w h', G X.K X.mg ρ H h ∧ RS X.K X.mg ρ H ls σ ∧ evI D (callN D n) c ls h = .ok (xs, w) h' ∧ ∀ a b, xs = rangeT a b → rgOk a b = true → ∀ ρ' H', Ext ρ H ρ' H' → G X.K X.mg ρ' H' h' → Q a b H') → te σ H Q
  | .rng1 a, raw, sc, e, X, h, o => by
    unfold chkR at h
    split at h
    · obtain ⟨h, h5⟩ := all_and h
      obtain ⟨h, h4⟩ := all_and h
      obtain ⟨h, h3⟩ := all_and h
      obtain ⟨h1, h2⟩ := all_and h
      cases of_decide_eq_true h1
      exact prg1 o h2 h4 (sE a h5 o).1
    · cases h
  | .rng2 a b, raw, sc, e, X, h, o => by
    unfold chkR at h
    split at h
    · obtain ⟨h, h7⟩ := all_and h
      obtain ⟨h, h6⟩ := all_and h
      obtain ⟨h, h5⟩ := all_and h
      obtain ⟨h, h4⟩ := all_and h
      obtain ⟨h, h3⟩ := all_and h
      obtain ⟨h1, h2⟩ := all_and h
      cases of_decide_eq_true h1
      exact prg2 o h2 h4 h5 (sE a h6 o).1 (sE b h7 o).1
    · cases h
  | .val _, raw, sc, e, X, h, o => by unfold chkR at h; cases h
  | .rng3 _ _ _, raw, sc, e, X, h, o => by unfold chkR at h; cases h
  | .enum _, raw, sc, e, X, h, o => by unfold chkR at h; cases h
  | .zip _ _, raw, sc, e, X, h, o => by unfold chkR at h; cases h
theorem sI : ∀ (c : CI) {raw sc : Scope} {tg e : Expr} {X : Cx}, chkI D N c raw sc e (isTupE tg) = true → XO D n X raw sc N → PI X tg e (MI D n X c)
  | .val a, raw, sc, tg, e, X, h, o => by
    unfold chkI at h
    exact pi_val (sE a h o).1
  | .rng1 a, raw, sc, tg, e, X, h, o => by
    unfold chkI at h
    split at h
    · obtain ⟨h, h5⟩ := all_and h
      obtain ⟨h, h4⟩ := all_and h
      obtain ⟨h, h3⟩ := all_and h
      obtain ⟨h1, h2⟩ := all_and h
      cases of_decide_eq_true h1
      exact pi_rng1 o h2 h4 (sE a h5 o).1
    · cases h
  | .rng2 a b, raw, sc, tg, e, X, h, o => by
    unfold chkI at h
    split at h
    · obtain ⟨h, h7⟩ := all_and h
      obtain ⟨h, h6⟩ := all_and h
      obtain ⟨h, h5⟩ := all_and h
      obtain ⟨h, h4⟩ := all_and h
      obtain ⟨h, h3⟩ := all_and h
      obtain ⟨h1, h2⟩ := all_and h
      cases of_decide_eq_true h1
      exact pi_rng2 o h2 h4 h5 (sE a h6 o).1 (sE b h7 o).1
    · cases h
  | .rng3 a b c, raw, sc, tg, e, X, h, o => by
    unfold chkI at h
    split at h
    · obtain ⟨h, h9⟩ := all_and h
      obtain ⟨h, h8⟩ := all_and h
      obtain ⟨h, h7⟩ := all_and h
      obtain ⟨h, h6⟩ := all_and h
      obtain ⟨h, h5⟩ := all_and h
      obtain ⟨h, h4⟩ := all_and h
      obtain ⟨h, h3⟩ := all_and h
      obtain ⟨h1, h2⟩ := all_and h
      cases of_decide_eq_true h1
      exact pi_rng3 o h2 h4 h5 h6 (sE a h7 o).1 (sE b h8 o).1 (sE c h9 o).1
    · cases h
  | .enum a, raw, sc, tg, e, X, h, o => by
    unfold chkI at h
    obtain ⟨ht, h⟩ := all_and h
    split at h
    · obtain ⟨h, h5⟩ := all_and h
      obtain ⟨h, h4⟩ := all_and h
      obtain ⟨h, h3⟩ := all_and h
      obtain ⟨h1, h2⟩ := all_and h
      cases of_decide_eq_true h1
      cases tg <;> first | (cases ht; done) | exact pi_enu o h2 h4 (sE a h5 o).1
    · cases h
  | .zip a b, raw, sc, tg, e, X, h, o => by
    unfold chkI at h
    obtain ⟨ht, h⟩ := all_and h
    split at h
    · obtain ⟨h, h7⟩ := all_and h
      obtain ⟨h, h6⟩ := all_and h
      obtain ⟨h, h5⟩ := all_and h
      obtain ⟨h, h4⟩ := all_and h
      obtain ⟨h, h3⟩ := all_and h
      obtain ⟨h1, h2⟩ := all_and h
      cases of_decide_eq_true h1
      cases tg <;> first | (cases ht; done) | exact pi_zp o h2 h4 h5 (sE a h6 o).1 (sE b h7 o).1
    · cases h
theorem sG : ∀ (t : Tg) {raw sc : Scope} {e : Expr} {X : Cx}, chkG D N t raw sc e = true → XO D n X raw sc N → PG X e (MG D n X t)
  | .var i, raw, sc, e, X, h, o => by
    unfold chkG at h
    split at h
    · obtain ⟨h, h3⟩ := all_and h
      obtain ⟨h1, h2⟩ := all_and h
      exact pg_var o (of_decide_eq_true h1) h2
    · cases h
  | .tup ts, raw, sc, e, X, h, o => by
    unfold chkG at h
    split at h
    · have hst := chkGs_star ts h
      exact pg_tupl o (sGs ts h o) (each_len _ hst).1 (each_len _ hst).2 fun _ _ _ _ _ e => evGs_len ts h e
    · cases h
  | .sub a i, raw, sc, e, X, h, o => by
    unfold chkG at h
    split at h
    · obtain ⟨h, h3⟩ := all_and h
      obtain ⟨h1, h2⟩ := all_and h
      exact pg_item o h1 (sE a h2 o).1 (sE i h3 o).1 (sub_assign h1)
    · cases h
theorem sGs : ∀ (t : Tgs) {raw sc : Scope} {e : List Expr} {X : Cx}, chkGs D N t raw sc e = true → XO D n X raw sc N → PGs X e (MGs D n X t)
  | .nil, raw, sc, e, X, h, o => by
    unfold chkGs at h
    split at h
    · exact pgs_n
    · cases h
  | .cons t ts, raw, sc, e, X, h, o => by
    unfold chkGs at h
    split at h
    · obtain ⟨h, h3⟩ := all_and h
      obtain ⟨h1, h2⟩ := all_and h
      exact pgs_c h1 (sG t h2 o) (sGs ts h3 o)
    · cases h
end
end
end MP

set_option Elab.async false
set_option linter.all false
set_option maxRecDepth 100000
/-! MiniPy, part P: statements -/
namespace MP
open PySem PySem.Spec PyProof.Rows L2
variable [tt : Mkr]
section
variable {D : Tbl} {n : Nat} {X : Cx} {raw sc : Scope} {N : List Str}
abbrev MS (D : Tbl) (n : Nat) (X : Cx) (W : XK) (c : CS) : TS := rdS X.K X.mg D.xs W (evS D (callN D n) c)
abbrev MSs (D : Tbl) (n : Nat) (X : Cx) (W : XK) (c : CSs) : TS := rdS X.K X.mg D.xs W (evSs D (callN D n) c)
variable {W : XK}
theorem not_t {b : Bool} (h : (!b) = true) : b = false := by cases b <;> first | rfl | cases h
theorem lc_of_swap {tg e : Expr} (h : lcSwap sc tg e = true) : ∃ elt gs scope p y py, e = .ListComp elt gs scope p ∧ tg = .Name y py ∧ locB sc y = true ∧ (py.line == p.line) = true ∧ (scope.names.any fun (n, k) => n == y && (k == .local || k == .cell)) = false := by
  unfold lcSwap at h
  split at h
  · obtain ⟨h, h3⟩ := all_and h
    obtain ⟨h1, h2⟩ := all_and h
    exact ⟨_, _, _, _, _, _, rfl, rfl, h1, h2, not_t h3⟩
  · cases h
theorem swp_ok {tg e : Expr} {l : Nat} (o : XO D n X raw sc N) (h : swpF sc tg e = true) : swapsWith e (some tg) l X.env = pure false := by
  unfold swpF at h
  rw [Bool.or_eq_true] at h
  rcases h with h | h
  · exact swap_of h
  · obtain ⟨h1, h2⟩ := all_and h
    split at h1
    · rename_i elt gs scope p
      have hb : X.env.blockKind = .function := blk_fn (by rw [o.esc]; exact o.kd)
      cases tg <;> first
        | rfl
        | (rename_i y py
           have h3 := not_t h2
           unfold lcSwap at h3
           unfold swapsWith
           have ky : (X.env.kindOf y == some NameKind.local) = locB sc y := by
             show (X.env.scope.names.lookup y == some NameKind.local) = _
             rw [o.esc]
             unfold locB
             split
             · rename_i e
               rw [e]
               rfl
             · rename_i hn
               exact beq_eq_false_iff_ne.mpr hn
           simp only [hb, ky, Expr.pos]
           have z : (ScopeKind.function == ScopeKind.function) = true := rfl
           rw [z, Bool.true_and]
           exact congrArg pure h3)
    · cases h1
theorem fm_lt {α β : Type} {f : α → Option β} {p : α → Bool} (hp : ∀ a, p a = true → f a = none) : ∀ l : List α, l.any p = true → (l.filterMap f).length < l.length
  | [], h => by cases h
  | a :: l, h => by
    have hl := List.length_filterMap_le f l
    rw [List.any_cons, Bool.or_eq_true] at h
    rw [List.filterMap_cons, List.length_cons]
    by_cases hq : p a = true
    · rw [hp a hq]
      dsimp only
      omega
    · have ih := fm_lt hp l (h.resolve_left hq)
      cases f a with
      | none => dsimp only; omega
      | some b => dsimp only [List.length_cons]; omega
theorem swn_sub {ts vs : List Expr} {k k2 : Nat} {p p2 : Pos} {env : Env} (h : ts.any isSubE = true) : swappedStores [.Tuple ts k p] (.Tuple vs k2 p2) env = pure none := by
  unfold swappedStores
  simp only
  split
  · rfl
  · split
    · rfl
    · exact if_pos ((Bool.or_eq_true _ _).mpr (.inl (bne_iff_ne.mpr (Nat.ne_of_lt (fm_lt (p := isSubE) (fun a ha => by cases a <;> first | rfl | cases ha) ts h)))))
theorem swn_ok {tg e : Expr} (o : XO D n X raw sc N) (h : swnF sc tg e = true) : swappedStores [tg] e X.env = pure none := by
  have lk : ∀ {w : Str}, locB sc w = false → (match X.env.scope.names.lookup w with | some .local => true | _ => false) = false := fun {w} h => by
    rw [o.esc]
    exact h
  unfold swnF at h
  rw [Bool.or_eq_true, Bool.or_eq_true, Bool.or_eq_true] at h
  rcases h with ((h | h) | h) | h
  · obtain ⟨h1, h2⟩ := all_and h
    exact swn_tg (not_t h1) (not_t h2)
  · exact swn_e (not_t h)
  · cases tg <;> first | (cases h; done) | skip
    cases e <;> first | rfl | skip
    exact swn_sub h
  · split at h
    · rename_i ts k p vs k2 p2
      rw [Bool.or_eq_true] at h
      rcases h with h | h
      · obtain ⟨h1, h2⟩ := all_and h
        exact swn_long (of_decide_eq_true h1) (of_decide_eq_true h2)
      · split at h
        · obtain ⟨h, h3⟩ := all_and h
          obtain ⟨h1, h2⟩ := all_and h
          rw [Bool.or_eq_true, Bool.or_eq_true] at h3
          refine sw2_none h1 h2 ?_
          rcases h3 with (h3 | h3) | h3
          · exact .inl (lk (not_t h3))
          · exact .inr (.inl (lk (not_t h3)))
          · exact .inr (.inr h3)
        · rw [Bool.or_eq_true, Bool.or_eq_true, Bool.or_eq_true] at h
          refine sw3_none ?_
          rcases h with ((h | h) | h) | h
          · exact .inl (lk (not_t h))
          · exact .inr (.inl (lk (not_t h)))
          · exact .inr (.inr (.inl (lk (not_t h))))
          · exact .inr (.inr (.inr h))
        · cases h
    · cases h
theorem endF_mono {K : PySem.W.Frag} {mg : Str → Option Value} {es : List (String × String)} {ρ : List Addr} {H : Hp} {D1 D2 : Ends} {l : Ls} {f : Fl} (e : endF K mg es W ρ H D1 l f) (h1 : ∀ σ H, D1.nx σ H → D2.nx σ H) (h2 : ∀ σ H, D1.bk σ H → D2.bk σ H) (h3 : ∀ σ H, D1.ct σ H → D2.ct σ H) (h4 : ∀ v H, D1.rt v H → D2.rt v H) : endF K mg es W ρ H D2 l f := by
  cases f with
  | nx => exact fun σ r => h1 _ _ (e σ r)
  | bk => exact fun σ r => h2 _ _ (e σ r)
  | ct => exact fun σ r => h3 _ _ (e σ r)
  | rt t => exact fun v r => h4 _ _ (e v r)
  | xc c fs => exact e
theorem pz_expr {c : CE} {e : Expr} {pos : Pos} (hn : noComp e = true) (p : PE X e (M1 D n X c)) : PS X (.Expr e pos) (MS D n X W (.expr c)) :=
  (ps_expr p (swap_of hn)).imp fun E σ H ⟨ρ, ls, h, f, l', h', g, rs, e, k⟩ => by
    unfold evS at e
    obtain ⟨x, h1, e1, e2⟩ := R.bd_eq_ok e
    cases e2
    exact ⟨ρ, ls, h, x, _, g, rs, e1, fun ρ1 H1 v1 E1 G1 r1 => k _ _ E1 G1 σ (rs.ext E1)⟩
theorem pz_ret {c : CE} {e : Expr} {pos : Pos} (p : PE X e (M1 D n X c)) : PS X (.Return (some e) pos) (MS D n X W (.ret c)) :=
  (ps_ret p).imp fun E σ H ⟨ρ, ls, h, f, l', h', g, rs, e, k⟩ => by
    unfold evS at e
    obtain ⟨x, h1, e1, e2⟩ := R.bd_eq_ok e
    cases e2
    exact ⟨ρ, ls, h, x, _, g, rs, e1, fun ρ1 H1 v1 E1 G1 r1 => k _ _ E1 G1 v1 r1⟩
theorem pz_retN {pos : Pos} : PS X (.Return none pos) (MS D n X W .retN) :=
  ps_retN.imp fun E σ H ⟨ρ, ls, h, f, l', h', g, rs, e, k⟩ => by
    unfold evS at e
    cases e
    exact k _ _ Ext.refl g .non .non
theorem pz_nx {st : Stmt} {c : CS} (p : PS X st tNext) (hc : ∀ ls h, evS D (callN D n) c ls h = .ok (.nx, ls) h) : PS X st (MS D n X W c) :=
  p.imp fun E σ H ⟨ρ, ls, h, f, l', h', g, rs, e, k⟩ => by
    rw [hc] at e
    cases e
    exact k _ _ Ext.refl g σ rs
theorem pz_brk {pos : Pos} : PS X (.Break pos) (MS D n X W .brk) :=
  ps_break.imp fun E σ H ⟨ρ, ls, h, f, l', h', g, rs, e, k⟩ => by
    unfold evS at e
    cases e
    exact k _ _ Ext.refl g σ rs
theorem pz_cnt {pos : Pos} : PS X (.Continue pos) (MS D n X W .cnt) :=
  ps_continue.imp fun E σ H ⟨ρ, ls, h, f, l', h', g, rs, e, k⟩ => by
    unfold evS at e
    cases e
    exact k _ _ Ext.refl g σ rs
theorem pz_never {st : Stmt} : PS X st (MS D n X W .never) :=
  ps_never.imp fun E σ H ⟨ρ, ls, h, f, l', h', g, rs, e, k⟩ => by
    unfold evS at e
    cases e
theorem pz_set {t : Tg} {c : CE} {tg e : Expr} {pos : Pos} (o : XO D n X raw sc N) (hst : noStar tg = true) (h1 : swpF sc tg e = true) (h2 : swnF sc tg e = true) (p : PE X e (M1 D n X c)) (q : PG X tg (MG D n X t)) : PS X (.Assign [tg] e pos) (MS D n X W (.set t c)) :=
  (ps_asg p q (swp_ok o h1) (swn_ok o h2) (each_cons hst)).imp fun E σ H ⟨ρ, ls, h, f, l', h', g, rs, e, k⟩ => by
    unfold evS at e
    obtain ⟨x, h1, e1, e2⟩ := R.bd_eq_ok e
    obtain ⟨l, h2, e3, e4⟩ := R.bd_eq_ok e2
    cases e4
    exact ⟨ρ, ls, h, x, h1, g, rs, e1, fun ρ1 H1 v1 E1 G1 r1 => ⟨ρ1, ls, h1, x, _, _, G1, rs.ext E1, r1, e3, fun ρ2 H2 σ2 E2 G2 S2 _ => k _ _ (E1.trans E2) G2 σ2 S2⟩⟩
theorem pz_setLc {i : Nat} {own : List Nat} {tg : Tg} {it : CI} {c : CO} {elt : CE} {tg' it' elt' : Expr} {ifs : List Expr} {scope : Scope} {y : Str} {py pos spos : Pos} (o : XO D n X raw sc N) (hi : N[i]? = some y) (hl : locB sc y = true) (h2 : (py.line == pos.line) = true)
    (h3 : (scope.names.any fun (n, k) => n == y && (k == .local || k == .cell)) = false) (l : LcOk D n X sc N own tg it c elt tg' it' elt' ifs scope) :
    PS X (.Assign [.Name y py] (.ListComp elt' [⟨tg', it', ifs, 0⟩] scope pos) spos) (MS D n X W (.set (.var i) (.comp own tg it c elt))) := by
  have hN : X.N.Nodup := by rw [o.eN]; exact o.nd
  have hy : X.env.scope.names.lookup y = some .local := by rw [o.esc]; exact locB_ok hl
  refine (ps_setLc o.calm hN (by rw [o.eN]; exact hi) hy (sw_true (by rw [o.esc]; exact o.kd) hy h2 h3) l.pi l.blk l.pg l.pt l.pe (set_of l.set)).imp fun E σ H ⟨ρ, ls, h, f, l', h', g, rs, e, k⟩ => ?_
  unfold evS at e
  obtain ⟨x, h1, e1, e2⟩ := R.bd_eq_ok e
  obtain ⟨l2, h2, e3, e4⟩ := R.bd_eq_ok e2
  cases e4
  unfold evG at e3
  split at e3
  · rename_i hlt
    cases e3
    show tLc _ _ _ _ _ σ H _
    rw [ownOf_snd]
    exact comp_rd l.vars ⟨ρ, ls, h, x, _, g, rs, e1, fun ρ1 H1 v1 E1 G1 r1 => k _ _ E1 G1 _ ((rs.ext E1).set hlt r1)⟩
  · cases e3
theorem evG_var {i : Nat} {x : T} {ls l : Ls} {h h' : Hh} (e : evG D (callN D n) (.var i) x ls h = .ok l h') : i < ls.length ∧ l = ls.set i (some x) ∧ h' = h := by
  unfold evG at e
  split at e
  · rename_i hl
    cases e
    exact ⟨hl, rfl, rfl⟩
  · cases e
theorem pz_par2 {i j : Nat} {cs : CEs} {x y : Str} {a b : Expr} {px py pt pt2 pos : Pos} {kt k2 : Nat} (o : XO D n X raw sc N) (hi : N[i]? = some x) (hj : N[j]? = some y) (hx : locB sc x = true) (hy : locB sc y = true) (hl : (py.line == px.line) = true) (hxy : x ≠ y) (ha : noStar a = true) (hb : noStar b = true)
    (hf : (foldedForSure 8 a && foldedForSure 8 b) = false) (hc : (constantsAlone 8 a && constantsAlone 8 b) = false) (p : PA X [a, b] (MA D n X cs)) :
    PS X (.Assign [.Tuple [.Name x px, .Name y py] kt pt] (.Tuple [a, b] k2 pt2) pos) (MS D n X W (.set (.tup (.cons (.var i) (.cons (.var j) .nil))) (.tup cs))) := by
  have hij : i ≠ j := fun z => hxy (by rw [z, hj] at hi; exact (Option.some.inj hi).symm)
  have lx : X.env.scope.names.lookup x = some .local := by rw [o.esc]; exact locB_ok hx
  have ly : X.env.scope.names.lookup y = some .local := by rw [o.esc]; exact locB_ok hy
  refine (ps_par o.calm (by rw [o.eN]; exact o.nd) (by rw [o.eN]; exact hi) (by rw [o.eN]; exact hj) hij lx ly p (sw2_some (by rw [o.esc]; exact o.kd) lx ly hl hxy ha hb hf hc)).imp fun E σ H ⟨ρ, ls, h, f, l', h', g, rs, e, k⟩ => ?_
  unfold evS at e
  obtain ⟨x, h1, e1, e2⟩ := R.bd_eq_ok e
  obtain ⟨l2, h2, e3, e4⟩ := R.bd_eq_ok e2
  cases e4
  unfold evE at e1
  obtain ⟨xs, h3, e5, e6⟩ := R.bd_eq_ok e1
  obtain ⟨_, rfl, rfl⟩ := newT_ok e6
  unfold evG at e3
  refine ⟨ρ, ls, h, xs, _, g, rs, e5, fun ρ1 H1 vs E1 G1 r1 => ?_⟩
  cases r1 with
  | nil => simp only [evGs] at e3; cases e3
  | cons r1 rr =>
    cases rr with
    | nil =>
      simp only [evGs] at e3
      obtain ⟨l1, h4, e7, e8⟩ := R.bd_eq_ok e3
      cases e8
    | cons r2 rr =>
      cases rr with
      | nil =>
        simp only [evGs] at e3
        obtain ⟨l1, h4, e7, e8⟩ := R.bd_eq_ok e3
        obtain ⟨l3, h5, e9, e10⟩ := R.bd_eq_ok e8
        cases e10
        obtain ⟨b1, rfl, rfl⟩ := evG_var e7
        obtain ⟨b2, rfl, rfl⟩ := evG_var e9
        exact ⟨_, _, rfl, k _ _ E1 G1 _ (((rs.ext E1).set b1 r1).set b2 r2)⟩
      | cons r3 rr =>
        simp only [evGs] at e3
        obtain ⟨l1, h4, e7, e8⟩ := R.bd_eq_ok e3
        obtain ⟨l3, h5, e9, e10⟩ := R.bd_eq_ok e8
        cases e10
theorem pz_par3 {i j m : Nat} {cs : CEs} {x y z : Str} {a b c : Expr} {px py pz pt pt2 pos : Pos} {kt k2 : Nat} (o : XO D n X raw sc N) (hi : N[i]? = some x) (hj : N[j]? = some y) (hm : N[m]? = some z) (hx : locB sc x = true) (hy : locB sc y = true) (hz : locB sc z = true) (hl : (py.line == px.line) = true) (hl2 : (pz.line == px.line) = true)
    (hxy : x ≠ y) (hxz : x ≠ z) (hyz : y ≠ z) (ha : noStar a = true) (hb : noStar b = true) (hc' : noStar c = true) (hf : (foldedForSure 8 a && (foldedForSure 8 b && foldedForSure 8 c)) = false) (hc : (constantsAlone 8 a && (constantsAlone 8 b && constantsAlone 8 c)) = false) (p : PA X [a, b, c] (MA D n X cs)) :
    PS X (.Assign [.Tuple [.Name x px, .Name y py, .Name z pz] kt pt] (.Tuple [a, b, c] k2 pt2) pos) (MS D n X W (.set (.tup (.cons (.var i) (.cons (.var j) (.cons (.var m) .nil)))) (.tup cs))) := by
  have hij : i ≠ j := fun z => hxy (by rw [z, hj] at hi; exact (Option.some.inj hi).symm)
  have him : i ≠ m := fun z => hxz (by rw [z, hm] at hi; exact (Option.some.inj hi).symm)
  have hjm : j ≠ m := fun z => hyz (by rw [z, hm] at hj; exact (Option.some.inj hj).symm)
  have lx : X.env.scope.names.lookup x = some .local := by rw [o.esc]; exact locB_ok hx
  have ly : X.env.scope.names.lookup y = some .local := by rw [o.esc]; exact locB_ok hy
  have lz : X.env.scope.names.lookup z = some .local := by rw [o.esc]; exact locB_ok hz
  refine (ps_par3 o.calm (by rw [o.eN]; exact o.nd) (by rw [o.eN]; exact hi) (by rw [o.eN]; exact hj) (by rw [o.eN]; exact hm) hij him hjm lx ly lz p (sw3_some (by rw [o.esc]; exact o.kd) lx ly lz hl hl2 hxy hxz hyz ha hb hc' hf hc)).imp fun E σ H ⟨ρ, ls, h, f, l', h', g, rs, e, k⟩ => ?_
  unfold evS at e
  obtain ⟨x, h1, e1, e2⟩ := R.bd_eq_ok e
  obtain ⟨l2, h2, e3, e4⟩ := R.bd_eq_ok e2
  cases e4
  unfold evE at e1
  obtain ⟨xs, h3, e5, e6⟩ := R.bd_eq_ok e1
  obtain ⟨_, rfl, rfl⟩ := newT_ok e6
  unfold evG at e3
  refine ⟨ρ, ls, h, xs, _, g, rs, e5, fun ρ1 H1 vs E1 G1 r1 => ?_⟩
  cases r1 with
  | nil => simp only [evGs] at e3; cases e3
  | cons r1 rr =>
    simp only [evGs] at e3
    obtain ⟨l1, h4, e7, e8⟩ := R.bd_eq_ok e3
    cases rr with
    | nil => simp only [evGs] at e8; cases e8
    | cons r2 rr =>
      simp only [evGs] at e8
      obtain ⟨l3, h5, e9, e10⟩ := R.bd_eq_ok e8
      cases rr with
      | nil => simp only [evGs] at e10; cases e10
      | cons r3 rr =>
        simp only [evGs] at e10
        obtain ⟨l4, h6, e11, e12⟩ := R.bd_eq_ok e10
        cases rr with
        | cons r4 rr => simp only [evGs] at e12; cases e12
        | nil =>
          simp only [evGs] at e12
          cases e12
          obtain ⟨b1, rfl, rfl⟩ := evG_var e7
          obtain ⟨b2, rfl, rfl⟩ := evG_var e9
          obtain ⟨b3, rfl, rfl⟩ := evG_var e11
          exact ⟨_, _, _, rfl, k _ _ E1 G1 _ ((((rs.ext E1).set b1 r1).set b2 r2).set b3 r3)⟩
def ipA (op : Bop) : TIp := fun x y H Q => ∃ i j k, x = .int i ∧ y = .int j ∧ Q (.int k) H ∧ ((op = .add ∧ k = i + j) ∨ (op = .sub ∧ k = i - j))
theorem ip_all (op : Bop) : PIp X op.o (ipA op) := by
  intro pins s σ H x y v u Q I r1 r2 h
  obtain ⟨i, j, k, e1, e2, q, h⟩ := h
  rcases h with ⟨rfl, rfl⟩ | ⟨rfl, rfl⟩
  · exact ip_add pins s σ H x y v u Q I r1 r2 ⟨i, j, e1, e2, q⟩
  · exact ip_sub pins s σ H x y v u Q I r1 r2 ⟨i, j, e1, e2, q⟩
theorem pz_aug {i : Nat} {op : Bop} {c : CE} {x : Str} {e : Expr} {p pos : Pos} (o : XO D n X raw sc N) (hi : N[i]? = some x) (hl : (locB raw x || celB raw x) = true) (pe : PE X e (M1 D n X c)) : PS X (.AugAssign (.Name x p) op.o e pos) (MS D n X W (.aug i op c)) := by
  obtain ⟨h1, h2⟩ := o.st hl
  refine (ps_aug (by rw [o.eN]; exact o.nd) (by rw [o.eN]; exact hi) h1 pe (ip_all op) h2).imp fun E σ H ⟨ρ, ls, h, f, l', h', g, rs, e, k⟩ => ?_
  unfold evS at e
  split at e
  · rename_i t0 et
    obtain ⟨v0, hv, rv⟩ := rs.get i _ et
    have hlt : i < ls.length := (List.getElem?_eq_some_iff.mp et).1
    obtain ⟨y, h3, e1, e2⟩ := R.bd_eq_ok e
    clear e
    refine ⟨v0, hv, ρ, ls, h, y, h3, g, rs, e1, fun ρ1 H1 v1 E1 G1 r1 => ?_⟩
    split at e2
    · rename_i a b
      cases rv
      cases r1
      cases op <;> dsimp only at e2 <;> first
        | (cases e2; exact ⟨_, _, _, rfl, rfl, k _ _ E1 G1 _ ((rs.ext E1).set hlt (.int _)), .inl ⟨rfl, rfl⟩⟩)
        | (cases e2; exact ⟨_, _, _, rfl, rfl, k _ _ E1 G1 _ ((rs.ext E1).set hlt (.int _)), .inr ⟨rfl, rfl⟩⟩)
        | (cases e2; done)
    · cases e2
  · cases e
theorem pz_if {c : CE} {a b : CSs} {e : Expr} {p q : List Stmt} {pos : Pos} (tc : PT X e (M1T D n X c)) (pa : PSs X p (MSs D n X W a)) (pb : PSs X q (MSs D n X W b)) : PS X (.If e p q pos) (MS D n X W (.iff c a b)) :=
  (ps_if tc pa pb).imp fun E σ H ⟨ρ, ls, h, f, l', h', g, rs, e, k⟩ => by
    unfold evS at e
    obtain ⟨x, h1, e1, e2⟩ := R.bd_eq_ok e
    clear e
    split at e2
    · exact ⟨ρ, ls, h, true, h1, g, rs, e1, fun ρ1 H1 E1 G1 => iteT ⟨ρ1, ls, h1, f, l', h', G1, rs.ext E1, e2, fun ρ2 H2 E2 G2 => k _ _ (E1.trans E2) G2⟩⟩
    · exact ⟨ρ, ls, h, false, h1, g, rs, e1, fun ρ1 H1 E1 G1 => iteF ⟨ρ1, ls, h1, f, l', h', G1, rs.ext E1, e2, fun ρ2 H2 E2 G2 => k _ _ (E1.trans E2) G2⟩⟩
    · cases e2
theorem pzs_nil : PSs X [] (MSs D n X W .nil) := pss_nil.imp fun E σ H ⟨ρ, ls, h, f, l', h', g, rs, e, k⟩ => by
  unfold evSs at e
  cases e
  exact k _ _ Ext.refl g σ rs
theorem pzs_cons {c : CS} {cs : CSs} {s : Stmt} {ss : List Stmt} (p : PS X s (MS D n X W c)) (q : PSs X ss (MSs D n X W cs)) : PSs X (s :: ss) (MSs D n X W (.cons c cs)) :=
  (pss_cons p q).imp fun E σ H ⟨ρ, ls, h, f, l', h', g, rs, e, k⟩ => by
    unfold evSs at e
    obtain ⟨⟨f1, l1⟩, h1, e1, e2⟩ := R.bd_eq_ok e
    clear e
    refine ⟨ρ, ls, h, f1, l1, h1, g, rs, e1, fun ρ1 H1 E1 G1 => ?_⟩
    cases f1 with
    | nx => exact fun σ1 r1 => ⟨ρ1, l1, h1, f, l', h', G1, r1, e2, fun ρ2 H2 E2 G2 => k _ _ (E1.trans E2) G2⟩
    | bk => cases e2; exact k _ _ E1 G1
    | ct => cases e2; exact k _ _ E1 G1
    | rt t => cases e2; exact k _ _ E1 G1
    | xc c fs => cases e2; exact k _ _ E1 G1
theorem pz_for {t : Tg} {it : CI} {body : CSs} {tg iter : Expr} {p : List Stmt} {pos : Pos} (o : XO D n X raw sc N) (hs : noSet iter = true) (pi : PI X tg iter (MI D n X it)) (pg : PG X tg (MG D n X t)) (pb : PSs X p (MSs D n X W body)) : PS X (.For tg iter p [] pos) (MS D n X W (.for t it body)) := by
  refine (ps_for o.pas o.calm pi pg pb (set_of hs)).imp fun E σ H ⟨ρ, ls, h, f, l', h', g, rs, e, k⟩ => ?_
  unfold evS at e
  obtain ⟨⟨xs, w⟩, h1, e1, e2⟩ := R.bd_eq_ok e
  clear e
  let RUN := fun (ys : List T) (l : Ls) (hh : Hh) => evFor w (fun x l hh => evG D (callN D n) t x l hh) (fun l hh => evSs D (callN D n) body l hh) ys l hh
  refine ⟨ρ, ls, h, xs, w, h1, g, rs, e1, fun ρ1 H1 J E1 G1 IO => ⟨fun i m σ2 H2 => ∃ ρ2 l2 h2, Ext ρ1 H1 ρ2 H2 ∧ G X.K X.mg ρ2 H2 h2 ∧ RS X.K X.mg ρ2 H2 l2 σ2 ∧ m = xs.length - i ∧ i ≤ xs.length ∧ RUN (xs.drop i) l2 h2 = .ok (f, l') h', ⟨xs.length, ρ1, ls, h1, Ext.refl, G1, rs.ext E1, by omega, Nat.zero_le _, e2⟩, ?_⟩⟩
  rintro i m σ2 H2 ⟨ρ2, l2, h2, E2, G2, S2, rfl, hi, er⟩
  by_cases hlt : i < xs.length
  · have hx : xs[i]? = some xs[i] := List.getElem?_eq_getElem hlt
    have hdrop : xs.drop i = xs[i] :: xs.drop (i + 1) := List.drop_eq_getElem_cons hlt
    generalize xs[i] = x at hx hdrop
    have er' : RUN (x :: xs.drop (i + 1)) l2 h2 = .ok (f, l') h' := by rw [← hdrop]; exact er
    have er2 : (if wtOk w h2 = true then (evG D (callN D n) t x l2 h2).bd fun ls1 h1 => (evSs D (callN D n) body ls1 h1).bd fun p h2 => match p.1 with
      | .nx => RUN (xs.drop (i + 1)) p.2 h2
      | .ct => RUN (xs.drop (i + 1)) p.2 h2
      | .bk => .ok (.nx, p.2) h2
      | .rt t => .ok (.rt t, p.2) h2
      | .xc c fs => .ok (.xc c fs, p.2) h2
      else .bad) = R.ok (f, l') h' := er'
    split at er2
    · rename_i hw
      obtain ⟨l3, h3, e3, e4⟩ := R.bd_eq_ok er2
      obtain ⟨⟨f1, l4⟩, h4, e5, e6⟩ := R.bd_eq_ok e4
      obtain ⟨hgo, hyl⟩ := (IO.all ρ2 H2 h2 E2 G2 hw).1 i x hx
      refine .inr ⟨hgo, fun σ' H' => ∃ ρ' l'' h'', Ext ρ1 H1 ρ' H' ∧ G X.K X.mg ρ' H' h'' ∧ RS X.K X.mg ρ' H' l'' σ' ∧ RUN (xs.drop (i + 1)) l'' h'' = .ok (f, l') h', fun σ' H' ⟨ρ', l'', h'', a1, a2, a3, a4⟩ => ⟨xs.length - (i + 1), by omega, ρ', l'', h'', a1, a2, a3, rfl, hlt, a4⟩, fun v H' hy => ?_⟩
      obtain ⟨E3, G3, rv⟩ := hyl v H' hy
      refine ⟨ρ2, l2, h2, x, l3, h3, G3, S2.ext E3, rv, e3, fun ρ4 H4 σ4 E4 G4 S4 _ => ⟨ρ4, l3, h3, f1, l4, h4, G4, S4, e5, fun ρ5 H5 E5 G5 => ?_⟩⟩
      have EE := E2.trans (E3.trans (E4.trans E5))
      cases f1 with
      | nx => exact fun σ5 S5 => ⟨ρ5, l4, h4, EE, G5, S5, e6⟩
      | ct => exact fun σ5 S5 => ⟨ρ5, l4, h4, EE, G5, S5, e6⟩
      | bk => cases e6; exact k _ _ (E1.trans EE) G5
      | rt u => cases e6; exact k _ _ (E1.trans EE) G5
      | xc c fs => cases e6; exact k _ _ (E1.trans EE) G5
    · cases er2
  · have hd : xs.drop i = [] := List.drop_eq_nil_of_le (by omega)
    have er' : RUN [] l2 h2 = .ok (f, l') h' := by rw [← hd]; exact er
    have er2 : (if wtOk w h2 = true then R.ok (Fl.nx, l2) h2 else .bad) = R.ok (f, l') h' := er'
    split at er2
    · rename_i hw
      cases er2
      exact .inl ⟨(IO.all ρ2 H2 _ E2 G2 hw).2 i (by omega), k _ _ (E1.trans E2) G2 σ2 S2⟩
    · cases er2
theorem whileW_ok {c : Ls → Hh → R T} {body : Ls → Hh → R (Fl × Ls)} {ls : Ls} {h h' : Hh} {r : Fl × Ls} (e : whileW c body ls h = .ok r h') : ∃ m, whileN c body m ls h = .ok r h' := by
  unfold whileW at e
  split at e
  · exact ⟨_, e⟩
  · cases e
theorem pz_while {c : CE} {body : CSs} {e : Expr} {p : List Stmt} {pos : Pos} (o : XO D n X raw sc N) (tc : PT X e (M1T D n X c)) (pb : PSs X p (MSs D n X W body)) : PS X (.While e p [] pos) (MS D n X W (.whl c body)) := by
  refine (ps_while o.pas tc pb).imp fun E σ H ⟨ρ, ls, h, f, l', h', g, rs, e, k⟩ => ?_
  unfold evS at e
  obtain ⟨m0, e0⟩ := whileW_ok e
  refine ⟨fun m σ2 H2 => ∃ ρ2 l2 h2, Ext ρ H ρ2 H2 ∧ G X.K X.mg ρ2 H2 h2 ∧ RS X.K X.mg ρ2 H2 l2 σ2 ∧ whileN (fun l hh => evE D (callN D n) c l hh) (fun l hh => evSs D (callN D n) body l hh) m l2 h2 = .ok (f, l') h', ⟨m0, ρ, ls, h, Ext.refl, g, rs, e0⟩, ?_⟩
  rintro m σ2 H2 ⟨ρ2, l2, h2, E2, G2, S2, er⟩
  cases m with
  | zero => cases er
  | succ m =>
    unfold whileN at er
    obtain ⟨x, h3, e1, e2⟩ := R.bd_eq_ok er
    clear er
    split at e2
    · cases e2
      exact ⟨ρ2, _, _, false, _, G2, S2, e1, fun ρ3 H3 E3 G3 => iteF (k _ _ (E2.trans E3) G3 σ2 (S2.ext E3))⟩
    · obtain ⟨⟨f1, l4⟩, h4, e5, e6⟩ := R.bd_eq_ok e2
      refine ⟨ρ2, l2, h2, true, h3, G2, S2, e1, fun ρ3 H3 E3 G3 => iteT ⟨fun σ' H' => ∃ ρ' l'' h'', Ext ρ H ρ' H' ∧ G X.K X.mg ρ' H' h'' ∧ RS X.K X.mg ρ' H' l'' σ' ∧ whileN (fun l hh => evE D (callN D n) c l hh) (fun l hh => evSs D (callN D n) body l hh) m l'' h'' = .ok (f, l') h', fun σ' H' q => ⟨m, Nat.lt_succ_self m, q⟩, ρ3, l2, h3, f1, l4, h4, G3, S2.ext E3, e5, fun ρ5 H5 E5 G5 => ?_⟩⟩
      have EE := E2.trans (E3.trans E5)
      cases f1 with
      | nx => exact fun σ5 S5 => ⟨ρ5, l4, h4, EE, G5, S5, e6⟩
      | ct => exact fun σ5 S5 => ⟨ρ5, l4, h4, EE, G5, S5, e6⟩
      | bk => cases e6; exact k _ _ EE G5
      | rt u => cases e6; exact k _ _ EE G5
      | xc c fs => cases e6; exact k _ _ EE G5
    · cases e2
/-! ### what may raise -/
theorem evX_fl {f : String} {as vs : CEs} {ks : List String} {ls : Ls} {h h' : Hh} {fl : Fl} (e : evX D (callN D n) f as ks vs ls h = .ok fl h') : (∃ t, fl = .rt t) ∨ ∃ c fs, fl = .xc c fs := by
  unfold evX at e
  obtain ⟨xs, h1, _, e⟩ := R.bd_eq_ok e
  obtain ⟨ys, h2, _, e⟩ := R.bd_eq_ok e
  split at e
  · unfold flX at e
    split at e
    · cases e
      exact .inl ⟨_, rfl⟩
    · cases e
      exact .inr ⟨_, _, rfl⟩
    · cases e
  · cases e
theorem pe_evX {f : String} {as vs : CEs} {ks : List String} {es : List Expr} {kws : List Keyword} {p pos : Pos} (o : XO D n X raw sc N) (tk : Takes X (fun c d _ H => W c d H)) (h2 : gloB sc (Str.ofString f) = true) (h3 : okName (Str.ofString f) = true) (h4 : callB D N f = true) (h5 : chkEs D N as raw sc es = true)
    (h6 : (if ks.isEmpty then kws.isEmpty && nilB vs else decide ((f, es.length, ks) ∈ D.kw) && chkKW D N vs raw sc ks kws) = true) : PE X (.Call (.Name (Str.ofString f) p) es kws pos) (rdX X.K X.mg D.xs W (evX D (callN D n) f as ks vs)) := by
  obtain ⟨a, b⟩ := chkEs_star as h5
  obtain ⟨fd, hf⟩ : ∃ fd, D.fn f = some fd := by
    unfold callB at h4
    split at h4
    · rename_i fd e
      exact ⟨fd, e⟩
    · cases h4
  obtain ⟨fa, fdata, F, hm, kp, bd, bk⟩ := o.fns f fd hf
  have rm : Room (3 * n) X.A := o.room.mono (by omega)
  cases ks with
  | nil =>
    have h6' : (kws.isEmpty && nilB vs) = true := h6
    rw [Bool.and_eq_true, List.isEmpty_iff] at h6'
    obtain ⟨rfl, hv⟩ := h6'
    have hv' : vs = .nil := by
      cases vs with
      | nil => rfl
      | cons a b => cases hv
    subst hv'
    refine (px_callX (m1 := fun ls h => evEs D (callN D n) as ls h) F hf hm kp bd (callB_ok h4 o.gd fd hf) rm (o.gl h2) h3 a (fun z ls h => by rw [b z]; simp only [evEs]) tk (sEs as h5 o)).imp fun σ H Q ⟨ρ, ls, h, fl, h', g, rs, e, k⟩ => ⟨ρ, ls, h, fl, h', g, rs, ?_, k⟩
    rw [← e]
    unfold evX
    show (evEs D (callN D n) as ls h).bd _ = (evEs D (callN D n) as ls h).bd _
    congr 1
    funext xs h1
    simp only [evEs, R.bd_ok]
    unfold argX
    rw [hf]
  | cons k0 kr =>
    have h6' : (decide ((f, es.length, k0 :: kr) ∈ D.kw) && chkKW D N vs raw sc (k0 :: kr) kws) = true := h6
    rw [Bool.and_eq_true, decide_eq_true_eq] at h6'
    refine (px_callXK (m1 := fun ls h => evEs D (callN D n) as ls h) (m2 := fun ls h => evEs D (callN D n) vs ls h) F hf hm kp (bk _ _ h6'.1) (callB_ok h4 o.gd fd hf) rm (o.gl h2) h3 a (fun z ls h => by rw [b z]; simp only [evEs]) (chkKW_names vs h6'.2) (fun _ _ _ _ e => evEs_len as h5 e) tk (sEs as h5 o) (sKW vs h6'.2 o)).imp fun σ H Q ⟨ρ, ls, h, fl, h', g, rs, e, k⟩ => ⟨ρ, ls, h, fl, h', g, rs, ?_, k⟩
    rw [← e]
    unfold evX
    show (evEs D (callN D n) as ls h).bd _ = (evEs D (callN D n) as ls h).bd _
    congr 1
    funext xs h1
    congr 1
    funext ys h2
    unfold argX
    rw [hf] <;> rfl
theorem pz_exprX {f : String} {as vs : CEs} {ks : List String} {e : Expr} {pos : Pos} (hn : noComp e = true) (p : PE X e (rdX X.K X.mg D.xs W (evX D (callN D n) f as ks vs))) : PS X (.Expr e pos) (MS D n X W (.exprX f as ks vs)) :=
  (ps_expr p (swap_of hn)).imp fun E σ H ⟨ρ, ls, h, f, l', h', g, rs, e, k⟩ => by
    unfold evS at e
    obtain ⟨fl, h1, e1, e2⟩ := R.bd_eq_ok e
    rcases evX_fl e1 with ⟨t, rfl⟩ | ⟨c, fs, rfl⟩
    · cases e2
      exact ⟨ρ, ls, h, .rt t, _, g, rs, e1, fun ρ1 H1 v1 E1 G1 r1 => k _ _ E1 G1 σ (rs.ext E1)⟩
    · cases e2
      exact ⟨ρ, ls, h, .xc c fs, _, g, rs, e1, fun ρ1 H1 E1 G1 => k _ _ E1 G1⟩
theorem pz_retX {f : String} {as vs : CEs} {ks : List String} {e : Expr} {pos : Pos} (p : PE X e (rdX X.K X.mg D.xs W (evX D (callN D n) f as ks vs))) : PS X (.Return (some e) pos) (MS D n X W (.retX f as ks vs)) :=
  (ps_ret p).imp fun E σ H ⟨ρ, ls, h, f, l', h', g, rs, e, k⟩ => by
    unfold evS at e
    obtain ⟨fl, h1, e1, e2⟩ := R.bd_eq_ok e
    rcases evX_fl e1 with ⟨t, rfl⟩ | ⟨c, fs, rfl⟩
    · cases e2
      exact ⟨ρ, ls, h, .rt t, _, g, rs, e1, fun ρ1 H1 v1 E1 G1 r1 => k _ _ E1 G1 v1 r1⟩
    · cases e2
      exact ⟨ρ, ls, h, .xc c fs, _, g, rs, e1, fun ρ1 H1 E1 G1 => k _ _ E1 G1⟩
theorem pz_setX {t : Tg} {f : String} {as vs : CEs} {ks : List String} {tg e : Expr} {pos : Pos} (hst : noStar tg = true) (h1 : noComp e = true) (h2 : isTupE e = false) (p : PE X e (rdX X.K X.mg D.xs W (evX D (callN D n) f as ks vs))) (q : PG X tg (MG D n X t)) : PS X (.Assign [tg] e pos) (MS D n X W (.setX t f as ks vs)) :=
  (ps_asg p q (swap_of h1) (swn_e h2) (each_cons hst)).imp fun E σ H ⟨ρ, ls, h, f, l', h', g, rs, e, k⟩ => by
    unfold evS at e
    obtain ⟨fl, h1, e1, e2⟩ := R.bd_eq_ok e
    rcases evX_fl e1 with ⟨x, rfl⟩ | ⟨c, fs, rfl⟩
    · obtain ⟨l, h2, e3, e4⟩ := R.bd_eq_ok e2
      cases e4
      exact ⟨ρ, ls, h, .rt x, h1, g, rs, e1, fun ρ1 H1 v1 E1 G1 r1 => ⟨ρ1, ls, h1, x, _, _, G1, rs.ext E1, r1, e3, fun ρ2 H2 σ2 E2 G2 S2 _ => k _ _ (E1.trans E2) G2 σ2 S2⟩⟩
    · cases e2
      exact ⟨ρ, ls, h, .xc c fs, _, g, rs, e1, fun ρ1 H1 E1 G1 => k _ _ E1 G1⟩
theorem pz_raise {c fld : String} {a : CE} {a' : Expr} {p pos pos2 : Pos} (o : XO D n X raw sc N) (tk : Takes X (fun c d _ H => W c d H)) (hg : gloB sc (Str.ofString c) = true) (hk : okName (Str.ofString c) = true) (hs : noStar a' = true) (hx : (c, fld) ∈ D.xs) (pa : PE X a' (M1 D n X a)) :
    PS X (.Raise (some (.Call (.Name (Str.ofString c) p) [a'] [] pos)) none pos2) (MS D n X W (.raise c a)) := by
  obtain ⟨C, hm, pm⟩ := pmkX (p := p) (pos := pos) (o.xcs c fld hx) o.room (pa_cons pa pa_nil (star_cons hs)) (o.gl hg) (okName_ok hk).1 (star_cons hs)
  refine (ps_raise o.calm tk pm).imp fun E σ H ⟨ρ, ls, h, f, l', h', g, rs, e, k⟩ => ?_
  unfold evS at e
  obtain ⟨x, h1, e1, e2⟩ := R.bd_eq_ok e
  cases e2
  exact ⟨ρ, ls, h, x, _, g, rs, e1, fun ρ1 H1 v1 E1 G1 r1 => ⟨v1, rfl, fun d hd => k ρ1 _ (E1.trans (Ext.fresh hd)) (G1.fresh hd) C fld x d v1 hm hx rfl upd_same (r1.ext (Ext.fresh hd))⟩⟩
end
end MP

set_option Elab.async false
set_option linter.all false
set_option maxRecDepth 100000
/-! MiniPy, part Q: blocks, defs, the law's end -/
namespace MP
open PySem PySem.Spec PyProof.Rows L2
variable [tt : Mkr]
section
variable {D : Tbl} {n : Nat} {N : List Str} {W : XK}
theorem inv_tup {c : CE} {raw sc : Scope} {es : List Expr} {k : Nat} {p : Pos} (h : chkE D N c raw sc (.Tuple es k p) = true) : ∃ cs, c = .tup cs ∧ chkEs D N cs raw sc es = true := by
  cases c <;> first
    | (unfold chkE at h; exact ⟨_, rfl, h⟩)
    | (unfold chkE at h; cases h; done)
theorem inv_comp {c : CE} {raw sc : Scope} {elt : Expr} {gs : List Comprehension} {scope : Scope} {p : Pos} (h : chkE D N c raw sc (.ListComp elt gs scope p) = true) : ∃ own tg it cn el, c = .comp own tg it cn el := by
  cases c <;> first
    | (exact ⟨_, _, _, _, _, rfl⟩)
    | (unfold chkE at h; cases h; done)
theorem inv_gvar {t : Tg} {raw sc : Scope} {x : Str} {p : Pos} (h : chkG D N t raw sc (.Name x p) = true) : ∃ i, t = .var i ∧ N[i]? = some x := by
  cases t <;> unfold chkG at h
  · obtain ⟨h, h3⟩ := all_and h
    obtain ⟨h1, h2⟩ := all_and h
    exact ⟨_, rfl, of_decide_eq_true h1⟩
  · cases h
  · cases h
theorem inv_gtup {t : Tg} {raw sc : Scope} {es : List Expr} {k : Nat} {p : Pos} (h : chkG D N t raw sc (.Tuple es k p) = true) : ∃ ts, t = .tup ts ∧ chkGs D N ts raw sc es = true := by
  cases t <;> unfold chkG at h
  · cases h
  · exact ⟨_, rfl, h⟩
  · cases h
theorem inv_gs {ts : Tgs} {raw sc : Scope} {e : Expr} {es : List Expr} (h : chkGs D N ts raw sc (e :: es) = true) : ∃ t ts', ts = .cons t ts' ∧ chkG D N t raw sc e = true ∧ chkGs D N ts' raw sc es = true := by
  cases ts <;> unfold chkGs at h
  · cases h
  · obtain ⟨h, h3⟩ := all_and h
    obtain ⟨h1, h2⟩ := all_and h
    exact ⟨_, _, rfl, h2, h3⟩
theorem inv_gs0 {ts : Tgs} {raw sc : Scope} (h : chkGs D N ts raw sc [] = true) : ts = .nil := by
  cases ts <;> unfold chkGs at h
  · rfl
  · cases h
theorem sSet {t : Tg} {c : CE} {raw sc : Scope} {tg e : Expr} {pos : Pos} {X : Cx} (o : XO D n X raw sc N) (h1 : noStar tg = true) (h2 : chkG D N t raw sc tg = true) (h3 : chkE D N c raw sc e = true)
    (h4 : ((swpF sc tg e && swnF sc tg e) || par2 sc tg e || par3 sc tg e || lcSwap sc tg e) = true) : PS X (.Assign [tg] e pos) (MS D n X W (.set t c)) := by
  rw [Bool.or_eq_true, Bool.or_eq_true, Bool.or_eq_true] at h4
  rcases h4 with ((h4 | h4) | h4) | h4
  · obtain ⟨a, b⟩ := all_and h4
    exact pz_set o h1 a b (sE c h3 o).1 (sG t h2 o)
  · unfold par2 at h4
    split at h4
    · obtain ⟨h4, g8⟩ := all_and h4
      obtain ⟨h4, g7⟩ := all_and h4
      obtain ⟨h4, g6⟩ := all_and h4
      obtain ⟨h4, g5⟩ := all_and h4
      obtain ⟨h4, g4⟩ := all_and h4
      obtain ⟨h4, g3⟩ := all_and h4
      obtain ⟨g1, g2⟩ := all_and h4
      obtain ⟨cs, rfl, hc⟩ := inv_tup h3
      obtain ⟨ts, rfl, ht⟩ := inv_gtup h2
      obtain ⟨t1, ts1, rfl, k1, ht⟩ := inv_gs ht
      obtain ⟨t2, ts2, rfl, k2, ht⟩ := inv_gs ht
      cases inv_gs0 ht
      obtain ⟨i, rfl, hi⟩ := inv_gvar k1
      obtain ⟨j, rfl, hj⟩ := inv_gvar k2
      exact pz_par2 o hi hj g1 g2 g3 (of_decide_eq_false (not_t g4)) g5 g6 (not_t g7) (not_t g8) (sEs cs hc o)
    · cases h4
  · unfold par3 at h4
    split at h4
    · obtain ⟨h4, g13⟩ := all_and h4
      obtain ⟨h4, g12⟩ := all_and h4
      obtain ⟨h4, g11⟩ := all_and h4
      obtain ⟨h4, g10⟩ := all_and h4
      obtain ⟨h4, g9⟩ := all_and h4
      obtain ⟨h4, g8⟩ := all_and h4
      obtain ⟨h4, g7⟩ := all_and h4
      obtain ⟨h4, g6⟩ := all_and h4
      obtain ⟨h4, g5⟩ := all_and h4
      obtain ⟨h4, g4⟩ := all_and h4
      obtain ⟨h4, g3⟩ := all_and h4
      obtain ⟨g1, g2⟩ := all_and h4
      obtain ⟨cs, rfl, hc⟩ := inv_tup h3
      obtain ⟨ts, rfl, ht⟩ := inv_gtup h2
      obtain ⟨t1, ts1, rfl, k1, ht⟩ := inv_gs ht
      obtain ⟨t2, ts2, rfl, k2, ht⟩ := inv_gs ht
      obtain ⟨t3, ts3, rfl, k3, ht⟩ := inv_gs ht
      cases inv_gs0 ht
      obtain ⟨i, rfl, hi⟩ := inv_gvar k1
      obtain ⟨j, rfl, hj⟩ := inv_gvar k2
      obtain ⟨m, rfl, hm⟩ := inv_gvar k3
      exact pz_par3 o hi hj hm g1 g2 g3 g4 g5 (of_decide_eq_false (not_t g6)) (of_decide_eq_false (not_t g7)) (of_decide_eq_false (not_t g8)) g9 g10 g11 (not_t g12) (not_t g13) (sEs cs hc o)
    · cases h4
  · obtain ⟨elt, gs, scope, p, y, py, rfl, rfl, b1, b2, b3⟩ := lc_of_swap h4
    obtain ⟨i, rfl, hi⟩ := inv_gvar h2
    obtain ⟨own, tg, it, cn, el, rfl⟩ := inv_comp h3
    unfold chkE at h3
    split at h3
    · rename_i heq
      cases heq
      obtain ⟨h, h8⟩ := all_and h3
      obtain ⟨h, h7⟩ := all_and h
      obtain ⟨h, h6⟩ := all_and h
      obtain ⟨h, h5⟩ := all_and h
      obtain ⟨h, h4'⟩ := all_and h
      obtain ⟨h, h3'⟩ := all_and h
      obtain ⟨h1', h2'⟩ := all_and h
      have bk := blkOk_by h1'
      have ob := fun s H C cl fp => o.blk bk.kind s H C cl fp
      refine pz_setLc o hi b1 b2 b3 ⟨by rw [o.eN, o.esc]; exact bk, fun i hi => ?_, h4', sI it h5 o, fun s H C cl fp => sG tg h6 (ob s H C cl fp), fun s H C cl fp => sC cn h7 (ob s H C cl fp), fun s H C cl fp => (sE el h8 (ob s H C cl fp)).1⟩
      have z := List.all_eq_true.mp h3' i hi
      simpa using z
    · cases h3
mutual
theorem sS : ∀ (c : CS) {raw sc : Scope} {s : Stmt} {X : Cx}, chkS D N c raw sc s = true → XO D n X raw sc N → Takes X (fun c d _ H => W c d H) → PS X s (MS D n X W c)
  | .pass, raw, sc, s, X, h, o, tk => by
    unfold chkS at h
    split at h
    · exact pz_nx ps_pass fun _ _ => by simp only [evS]
    · exact pz_nx ps_doc fun _ _ => by simp only [evS]
    · cases h
  | .expr c, raw, sc, s, X, h, o, tk => by
    unfold chkS at h
    split at h
    · obtain ⟨h1, h2⟩ := all_and h
      exact pz_expr h1 (sE c h2 o).1
    · cases h
  | .ret c, raw, sc, s, X, h, o, tk => by
    unfold chkS at h
    split at h
    · exact pz_ret (sE c h o).1
    · cases h
  | .retN, raw, sc, s, X, h, o, tk => by
    unfold chkS at h
    split at h
    · exact pz_retN
    · cases h
  | .set t c, raw, sc, s, X, h, o, tk => by
    unfold chkS at h
    split at h
    · obtain ⟨h, h4⟩ := all_and h
      obtain ⟨h, h3⟩ := all_and h
      obtain ⟨h1, h2⟩ := all_and h
      exact sSet o h1 h2 h3 h4
    · cases h
  | .aug i op c, raw, sc, s, X, h, o, tk => by
    unfold chkS at h
    split at h
    · obtain ⟨h, h5⟩ := all_and h
      obtain ⟨h, h4⟩ := all_and h
      obtain ⟨h, h3⟩ := all_and h
      obtain ⟨h1, h2⟩ := all_and h
      cases of_decide_eq_true h1
      exact pz_aug o (of_decide_eq_true h2) h3 (sE c h5 o).1
    · cases h
  | .augS _ _ _ _, raw, sc, s, X, h, o, tk => by
    unfold chkS at h
    cases h
  | .iff c a b, raw, sc, s, X, h, o, tk => by
    unfold chkS at h
    split at h
    · obtain ⟨h, h4⟩ := all_and h
      obtain ⟨h, h3⟩ := all_and h
      obtain ⟨h1, h2⟩ := all_and h
      exact pz_if ((sE c h2 o).2 h1) (sSs a h3 o tk) (sSs b h4 o tk)
    · cases h
  | .for t it body, raw, sc, s, X, h, o, tk => by
    unfold chkS at h
    split at h
    · obtain ⟨h, h4⟩ := all_and h
      obtain ⟨h, h3⟩ := all_and h
      obtain ⟨h1, h2⟩ := all_and h
      exact pz_for o h1 (sI it h2 o) (sG t h3 o) (sSs body h4 o tk)
    · cases h
  | .whl c body, raw, sc, s, X, h, o, tk => by
    unfold chkS at h
    split at h
    · obtain ⟨h, h3⟩ := all_and h
      obtain ⟨h1, h2⟩ := all_and h
      exact pz_while o ((sE c h2 o).2 h1) (sSs body h3 o tk)
    · cases h
  | .brk, raw, sc, s, X, h, o, tk => by
    unfold chkS at h
    split at h
    · exact pz_brk
    · cases h
  | .cnt, raw, sc, s, X, h, o, tk => by
    unfold chkS at h
    split at h
    · exact pz_cnt
    · cases h
  | .never, raw, sc, s, X, h, o, tk => pz_never
  | .exprX f as ks vs, raw, sc, s, X, h, o, tk => by
    unfold chkS at h
    split at h
    · obtain ⟨h, h6⟩ := all_and h
      obtain ⟨h, h5⟩ := all_and h
      obtain ⟨h, h4⟩ := all_and h
      obtain ⟨h, h3⟩ := all_and h
      obtain ⟨h1, h2⟩ := all_and h
      cases of_decide_eq_true h1
      exact pz_exprX rfl (pe_evX o tk h2 h3 h4 h5 h6)
    · cases h
  | .retX f as ks vs, raw, sc, s, X, h, o, tk => by
    unfold chkS at h
    split at h
    · obtain ⟨h, h6⟩ := all_and h
      obtain ⟨h, h5⟩ := all_and h
      obtain ⟨h, h4⟩ := all_and h
      obtain ⟨h, h3⟩ := all_and h
      obtain ⟨h1, h2⟩ := all_and h
      cases of_decide_eq_true h1
      exact pz_retX (pe_evX o tk h2 h3 h4 h5 h6)
    · cases h
  | .setX t f as ks vs, raw, sc, s, X, h, o, tk => by
    unfold chkS at h
    split at h
    · obtain ⟨h, h6⟩ := all_and h
      obtain ⟨h, h5⟩ := all_and h
      obtain ⟨h, h4⟩ := all_and h
      obtain ⟨h, h3⟩ := all_and h
      obtain ⟨h, h2⟩ := all_and h
      obtain ⟨h, h1⟩ := all_and h
      obtain ⟨g1, g2⟩ := all_and h
      cases of_decide_eq_true h1
      exact pz_setX g1 rfl rfl (pe_evX o tk h2 h3 h4 h5 h6) (sG t g2 o)
    · cases h
  | .raise c e, raw, sc, s, X, h, o, tk => by
    unfold chkS at h
    split at h
    · obtain ⟨h, h6⟩ := all_and h
      obtain ⟨h, h5⟩ := all_and h
      obtain ⟨h, h4⟩ := all_and h
      obtain ⟨h, h3⟩ := all_and h
      obtain ⟨h1, h2⟩ := all_and h
      cases of_decide_eq_true h1
      obtain ⟨fld, hx⟩ := Option.isSome_iff_exists.mp h5
      exact pz_raise o tk h2 h3 h4 (mem_look hx) (sE e h6 o).1
    · cases h
theorem sSs : ∀ (c : CSs) {raw sc : Scope} {s : List Stmt} {X : Cx}, chkSs D N c raw sc s = true → XO D n X raw sc N → Takes X (fun c d _ H => W c d H) → PSs X s (MSs D n X W c)
  | .nil, raw, sc, s, X, h, o, tk => by
    unfold chkSs at h
    split at h
    · exact pzs_nil
    · cases h
  | .cons c cs, raw, sc, s, X, h, o, tk => by
    unfold chkSs at h
    split at h
    · obtain ⟨h1, h2⟩ := all_and h
      exact pzs_cons (sS c h1 o tk) (sSs cs h2 o tk)
    · cases h
end
end
/-! ### defs -/
section
variable {P : Program} {w : World} {K : PySem.W.Frag} {mg : Str → Option Value} {base : Heap}
theorem fnG_of {x qual : Str} {st : Stmt} {f : Addr} {fd : FuncData} {N ps : List Str} {b : Bool} {k : Nat} {sp : Sp} (F : Fun K x qual st f fd) (S : FnScope N ps (defScope st)) (len : ∀ vs H Q E, sp vs H Q E → vs.length = ps.length)
    (hbody : ∀ (cdv : Value) (A : Around) (fr : List Env) (s : Shared) (H : Hp) (vs : List V) (Q : VK) (E : XK), fd.code = cdv → (b = true → A.guards = some []) → Room k (A.deeper (envOfC qual (defScope st) s.heap.objs.size f cdv)) → sp vs H Q E →
      ∃ t, PSs (cxOf (L2.CX P w) P w K mg base N qual (defScope st) f cdv A fr s H E) (defBody st) t ∧ t { nx := fun _ H' => Q .non H', rt := Q } (L2.start N vs) H) : FnG P w K mg base b (k + 1) f fd ps sp := by
  obtain ⟨oc, od, kV, doc, pm, an, cdv, ct, osl, rfl, lk, hcd⟩ := F.ex
  constructor
  · exact len
  intro A fr s H args us vs Q E gd room env0 bnd rel hsp
  have kin : K.In s.heap := env0.mod.kin.keeps fun b q e => (env0.bs b q e).1
  have nl : s.heap.NoLimit := env0.mod.nolimit.keeps fun b q e => (env0.bs b q e).1
  have par : ∀ y ∈ ps.zip us, (defScope st).names.lookup y.1 = some .local ∨ ((defScope st).names.lookup y.1 = some .cell ∧ ((cellsFrom (s.heap.objs.size + 1) (defScope st).names []).lookup y.1).isSome = true) := by
    rintro ⟨nm, v⟩ hy
    refine (S.par nm (List.of_mem_zip hy).1).imp id fun q => ⟨q, PySem.W.cellsFrom_some _ _ _ (.inl q)⟩
  refine codeAny_call_function room.depth (kin _ _ lk) rfl S.co S.gen rfl (PySem.W.codeRec_of kin hcd) (bnd _ _ _ _ (wpAny_newFunctionEnv_cells S.kind par fun env he s1 y => ?_))
  subst he
  obtain ⟨t, ht, hq⟩ := hbody cdv A fr s H vs Q E rfl gd (room.deeper _) hsp
  have I := inv_start (CX := L2.CX P w) (P := P) (mg := mg) (base := base) (E := E) S room.hd env0 (len _ _ _ _ hsp) rel y
  refine ⟨nl.keeps y.toInCall.keep, codeAny_func (wpAny_mono (ht.run [] s1 (L2.start N vs) H _ I hq) (fun fl s' hs => ?_) fun e s' hs => hs)⟩
  match fl, hs with
  | .ret u, ⟨v, σ', H', J, rv, q⟩ => exact ⟨v, H', J.os, J.bare, J.base, J.hok, rv, q⟩
  | .next, ⟨σ', H', J, q⟩ => exact ⟨.non, H', J.os, J.bare, J.base, J.hok, rfl, q⟩
  | .brk, ⟨_, _, _, q⟩ => exact q.elim
  | .cont, ⟨_, _, _, q⟩ => exact q.elim
/-! ### a class whose __init__ calls a def on its argument and keeps it -/
def iniB (g : String) (sc : Scope) (body : List Stmt) : Bool := match body with
  | [.Expr (.Call (.Name x _) [.Name y1 _] [] _) _, .Assign [.Attribute (.Name s1 _) f1 _] (.Tuple [.Name y2 _, .Tuple [] _ _] _ _) _, .Assign [.Attribute (.Name s2 _) f2 _] (.Tuple [] _ _) _, .Assign [.Attribute (.Name s3 _) f3 _] (.Tuple [] _ _) _] =>
    decide (x = Str.ofString g) && gloB sc x && okName x && decide (y1 = "garden") && decide (y2 = "garden") && decide (s1 = "self") && decide (s2 = "self") && decide (s3 = "self") && decide (f1 = "_stand") && decide (f2 = "_done") && decide (f3 = "_undone") && visB sc "self" && visB sc "garden"
  | _ => false
structure NewAt (K : PySem.W.Frag) (mg : Str → Option Value) (c g : String) : Prop where
  ex : ∃ (C fi : Addr) (fdata : FuncData) (st : Stmt) (qual : Str), mg (Str.ofString c) = some (.ref C) ∧ Mk K C fi ∧ InsOk K c C ∧ Fun K "__init__" qual st fi fdata ∧ FnScope ["self", "garden"] ["self", "garden"] (defScope st) ∧ Binds K fdata ["self", "garden"] [] ∧
    (NoAttr K C "_stand" ∧ NoAttr K C "_done" ∧ NoAttr K C "_undone") ∧ iniB g (defScope st) (defBody st) = true
theorem gd_deep {A : Around} {env : Env} (h : A.guards = some []) : (A.deeper env).guards = some [] := h
theorem pe_callG {X : Cx} {b : Bool} {k : Nat} {f : Addr} {fd : FuncData} {ps : List Str} {sp : Sp} {x : Str} {p pos : Pos} {e : Expr} {te : TE} (F : FnG X.prog X.w X.K X.mg X.base b k f fd ps sp) (gd : b = true → X.A.guards = some []) (hr : Room k X.A) (hg : Gl X x) (hm : X.mg x = some (.ref f)) (hk : okName x = true)
    (kp : PySem.W.keepIn X.K (.ref f) = true) (bd : Binds X.K fd ps []) (hs : noStar e = true) (pe : PE X e te) : PE X (.Call (.Name x p) [e] [] pos) (fun σ H Q => te σ H fun v H1 => sp [v] H1 Q E0) := by
  refine ⟨fun pins s σ H Q I q => ?_⟩
  refine wpAny_Call_Name_kw (ld_glob I hg hm ?_ (okName_ok hk).1)
  refine PySem.W.callWith_K (h₀ := X.base) I.ok.mod.kin kp (thn ((pa_cons pe pa_nil (star_cons hs)).run pos pins s σ H (fun vs H1 => sp vs H1 Q E0) I q) fun us s1 ⟨vs, H1, I1, rv, q1⟩ => ⟨I1.kIn, ?_⟩) (star_cons hs) (star_any _ _ _ rfl)
  have hl := F.len _ _ _ _ q1
  have bb := bd s1 us I1.kIn (by rw [List.append_nil, ← rv.length]; exact hl)
  rw [List.append_nil] at bb
  exact run_g F gd hr I1 bb rv q1
theorem behind_init {ρ ρ1 : List Addr} {H0 H1 H2 : Hp} {p dx C : Addr} {h h' : Hh} (hp : H0 p = none) (hdx : H0 dx = none) (G0 : G K mg ρ H0 h) (E1 : Ext ρ (upd (upd H0 dx (.own p)) p (.ins C dx [])) ρ1 H1) (G1 : G K mg ρ1 H1 h')
    (hk : ∀ a o, a ≠ p → H1 a = some o → H2 a = some o) : Ext ρ H0 ρ1 H2 ∧ G K mg ρ1 H2 h' ∧ p ∉ ρ1 := by
  have up : ∀ a o, H0 a = some o → upd (upd H0 dx (.own p)) p (.ins C dx []) a = some o := fun a o e => by
    rw [upd_ne (ne_of_none e hp), upd_ne (ne_of_none e hdx)]
    exact e
  have hpr : p ∉ ρ := G0.not_mem hp
  have hp1 : H1 p = some (.ins C dx []) := E1.keep p _ upd_same hpr (by intro ps z; cases z)
  have hn : p ∉ ρ1 := fun z => by
    rcases E1.new p z with y | y
    · exact hpr y
    · exact y.no upd_same (by intro ps z; cases z)
  refine ⟨⟨E1.pre, fun a ha => ?_, fun a o e hm nt => ?_, fun a xs e => ?_, fun a o u e => ?_⟩, ⟨G1.len, G1.nd, fun n a o e1 e2 => ?_, ?_⟩, hn⟩
  · rcases E1.new a ha with y | y
    · exact .inl y
    · exact .inr fun o z => y o (up a o z)
  · exact hk a o (ne_of_none e hp) (E1.keep a o (up a o e) hm nt)
  · exact hk a _ (ne_of_none e hp) (E1.tup a xs (up a _ e))
  · exact hk a _ (ne_of_none e hp) (E1.frz a o u (up a _ e))
  · have hap : a ≠ p := fun z => hn (z ▸ List.mem_of_getElem? e1)
    obtain ⟨q, hq, _⟩ := G1.mem_some (List.mem_of_getElem? e1)
    refine (G1.ob n a o e1 e2).wk ⟨fun _ _ z => z, fun b xs z => ?_, fun b ob u z => ?_⟩ (by rw [hk a q hap hq, hq])
    · exact hk b _ (fun y => by rw [y, hp1] at z; cases z) z
    · exact hk b _ (fun y => by rw [y, hp1] at z; cases z) z
  · exact Tabs.keepO G1.tab fun b o e z => hk b o (fun y => by
      rw [y, hp1] at e
      cases e
      exact no_tabO (by intro ps w; cases w) (by intro φ w; cases w) z) e
theorem init_ok {D : Tbl} {n : Nat} {g c : String} {C fi : Addr} {fdata : FuncData} {st : Stmt} {qual : Str} (F : Fun K "__init__" qual st fi fdata) (S : FnScope ["self", "garden"] ["self", "garden"] (defScope st)) (hb : iniB g (defScope st) (defBody st) = true) (io : InsOk K c C)
    (na : NoAttr K C "_stand" ∧ NoAttr K C "_done" ∧ NoAttr K C "_undone") {ga : Addr} {gdata : FuncData} {gp : List Str} (FG : FnG P w K mg base false (3 * n) ga gdata gp (spf K mg D.xs 1 (callN D n g))) (hm : mg (Str.ofString g) = some (.ref ga)) (kp : PySem.W.keepIn K (.ref ga) = true) (bg : Binds K gdata gp []) :
    FnG P w K mg base false (3 * n + 1) fi fdata ["self", "garden"] (spIni K mg C (callN D n g)) := by
  refine fnG_of F S (fun vs H Q E h => by obtain ⟨p, dx, v, ρ, h, t, u, h', H0, rfl, _⟩ := h; rfl) (fun cdv A fr s H vs Q E _ gd room hsp => ?_)
  obtain ⟨p, dx, v, ρ, h, t, u, h', H0, rfl, hp, hdx, hne, rfl, G0, rt, em, k⟩ := hsp
  unfold iniB at hb
  split at hb
  · rename_i x p1 y1 p2 p3 p4 s1 p5 f1 p6 y2 p7 k8 p8 k9 p9 p10 s2 p11 f2 p12 k13 p13 p14 s3 p15 f3 p16 k17 p17 p18 eb
    simp only [Bool.and_eq_true, decide_eq_true_eq] at hb
    obtain ⟨⟨⟨⟨⟨⟨⟨⟨⟨⟨⟨⟨rfl, c2⟩, c3⟩, rfl⟩, rfl⟩, rfl⟩, rfl⟩, rfl⟩, rfl⟩, rfl⟩, rfl⟩, c12⟩, c13⟩ := hb
    rw [eb]
    have v0 : ∀ {q : Pos}, PE (cxOf (L2.CX P w) P w K mg base ["self", "garden"] qual (defScope st) fi cdv A fr s (upd (upd H0 dx (.own p)) p (.ins C dx [])) E) (.Name "self" q) (tVar 0) := pe_var rfl (visB_ok c12)
    have v1 : ∀ {q : Pos}, PE (cxOf (L2.CX P w) P w K mg base ["self", "garden"] qual (defScope st) fi cdv A fr s (upd (upd H0 dx (.own p)) p (.ins C dx [])) E) (.Name "garden" q) (tVar 1) := pe_var rfl (visB_ok c13)
    refine ⟨_, pss_cons (ps_expr (pe_callG FG gd room (gloB_ok c2) hm c3 kp bg rfl v1) rfl) (pss_cons (ps_fld v0 (pe_tup (pa_cons v1 (pa_cons (pe_tup pa_nil) pa_nil))) rfl) (pss_cons (ps_fld v0 (pe_tup pa_nil) rfl) (pss_one (ps_fld v0 (pe_tup pa_nil) rfl)))), ?_⟩
    have hne' : p ≠ dx := fun z => hne z.symm
    have hdp : (upd H0 dx (.own p)) p = none := by rw [upd_ne hne']; exact hp
    refine ⟨v, rfl, rfl, ρ, h, [t], .rt u, h', (G0.fresh hdx).fresh hdp, .cons ((rt.ext (Ext.fresh hdx)).ext (Ext.fresh hdp)) .nil, flX_ok em, fun ρ1 H1 w1 E1 G1 r1 => ?_⟩
    have hp1 : H1 p = some (.ins C dx []) := E1.keep p _ upd_same (G0.not_mem hp) (by intro ps z; cases z)
    refine ⟨v, rfl, (by show 0 ≤ sizeLine; decide), fun a1 ha1 => ⟨(by show 2 ≤ sizeLine; decide), fun a2 ha2 => ?_⟩⟩
    have y1 : (upd H1 a1 (.tup [])) p = some (.ins C dx []) := by rw [upd_ne (ne_of_none hp1 ha1)]; exact hp1
    have y2 : (upd (upd H1 a1 (.tup [])) a2 (.tup [v, .ref a1])) p = some (.ins C dx []) := by rw [upd_ne (ne_of_none y1 ha2)]; exact y1
    refine ⟨.ref p, rfl, p, C, dx, [], rfl, y2, io.cl, na.1, (by show 0 < 1000; decide), (by show 0 ≤ sizeLine; decide), fun a3 ha3 => ?_⟩
    have n3 : p ≠ a3 := ne_of_none upd_same ha3
    refine ⟨.ref p, rfl, p, C, dx, putF "_stand" (.ref a2) [], rfl, by rw [upd_ne n3, upd_same], io.cl, na.2.1, (by show 1 < 1000; decide), (by show 0 ≤ sizeLine; decide), fun a4 ha4 => ?_⟩
    have n4 : p ≠ a4 := ne_of_none upd_same ha4
    refine ⟨.ref p, rfl, p, C, dx, putF "_done" (.ref a3) (putF "_stand" (.ref a2) []), rfl, by rw [upd_ne n4, upd_same], io.cl, na.2.2, ?_, ?_⟩
    · have w1 := length_putF (Str.ofString "_done") (.ref a3) (putF "_stand" (.ref a2) [])
      have w2 : (putF "_stand" (V.ref a2) []).length = 1 := rfl
      omega
    refine (fun b => k ρ1 _ _ b.1 b.2.1 b.2.2 upd_same) (behind_init hp hdx G0 E1 G1 (fun a o hap e => ?_))
    · have st : ∀ {H : Hp} {b : Addr} {q : HO}, H a = some o → H b = none → upd H b q a = some o := fun {H b q} y z => by rw [upd_ne (ne_of_none y z)]; exact y
      have sp : ∀ {H : Hp} {q : HO}, H a = some o → upd H p q a = some o := fun {H q} y => by rw [upd_ne hap]; exact y
      exact sp (st (sp (st (sp (st (st e ha1) ha2)) ha3)) ha4)
  · cases hb
/-- a def of the table and its text -/
structure DefAt (K : PySem.W.Frag) (mg : Str → Option Value) (D : Tbl) (f : String) (fd : FD) : Prop where
  ex : ∃ (st : Stmt) (fa : Addr) (fdata : FuncData), Fun K (Str.ofString f) (Str.ofString f) st fa fdata ∧ mg (Str.ofString f) = some (.ref fa) ∧ FnScope (fd.N.map Str.ofString) (fd.ps.map Str.ofString) (defScope st) ∧
    chkSs D (fd.N.map Str.ofString) fd.body (defScope st) (defScope st) (defBody st) = true ∧ Binds K fdata (fd.ps.map Str.ofString) [] ∧ (∀ m ks, (f, m, ks) ∈ D.kw → KBd K fdata fd.ps m ks) ∧ (("<lambda>" : Str) ∈ fd.N.map Str.ofString → ∃ c P, fdata.code = .ref c ∧ (c, P, Str.ofString f ++ ".<locals>." ++ "<lambda>") ∈ tt.t)
theorem fin_ok {r : R (Fl × Ls)} {fl : Fl} {h : Hh} (e : flX (fin r) = .ok fl h) : (∃ l t, r = .ok (.rt t, l) h ∧ fl = .rt t) ∨ (∃ l, r = .ok (.nx, l) h ∧ fl = .rt .non) ∨ ∃ l c fs, r = .ok (.xc c fs, l) h ∧ fl = .xc c fs := by
  cases r with
  | bad => cases e
  | exc c fs h => cases e
  | ok p h1 =>
    obtain ⟨f, l⟩ := p
    cases f with
    | rt t => cases e; exact .inl ⟨_, _, rfl, rfl⟩
    | nx => cases e; exact .inr (.inl ⟨_, rfl, rfl⟩)
    | xc c fs => cases e; exact .inr (.inr ⟨_, _, _, rfl, rfl⟩)
    | bk => cases e
    | ct => cases e
theorem rs_start {ρ : List Addr} {H : Hp} {fd : FD} {ts : List T} {vs : List V} (r : RTs K mg ρ H ts vs) (hl : ts.length ≤ fd.N.length) : RS K mg ρ H (startL fd ts) (L2.start (fd.N.map Str.ofString) vs) := by
  have hlen := r.length
  refine ⟨?_, fun i t e => ?_⟩
  · unfold startL L2.start
    simp only [List.length_append, List.length_map, List.length_replicate]
    omega
  · unfold startL at e
    by_cases hi : i < ts.length
    · rw [List.getElem?_append_left (by simpa using hi), List.getElem?_map] at e
      cases q : ts[i]? with
      | none => rw [q] at e; cases e
      | some t0 =>
        rw [q] at e
        cases e
        obtain ⟨v, hv, rv⟩ := r.get q
        refine ⟨v, ?_, rv⟩
        unfold L2.start
        rw [List.getElem?_append_left (by rw [List.length_map, ← hlen]; exact hi), List.getElem?_map, hv]
        rfl
    · rw [List.getElem?_append_right (by simpa using Nat.le_of_not_lt hi)] at e
      rw [List.getElem?_replicate] at e
      split at e <;> cases e
theorem grd_of {fd : FD} (h : ("<repr>" : Str) ∈ fd.N.map Str.ofString) : grd fd = true := by
  unfold grd
  exact decide_eq_true h
/-- all that is known of the text -/
structure Facts (K : PySem.W.Frag) (mg : Str → Option Value) (D : Tbl) : Prop where
  fn : ∀ f fd, D.fn f = some fd → DefAt K mg D f fd
  nw : ∀ c g, (c, g) ∈ D.nw → NewAt K mg c g ∧ ∃ fd, D.fn g = some fd ∧ fd.ps.length = 1 ∧ grd fd = false
  gl : ∀ x t, D.gl x = some t → ∃ u v, mg (Str.ofString x) = some u ∧ RelV v u ∧ ∀ ρ H, RT K mg ρ H t v
  td : ∀ g hs, D.td g = some hs → ToldAt K mg D.xs g hs
  xc : ∀ c fld, (c, fld) ∈ D.xs → ExcAt K mg c fld
  xn : (D.xs.map (·.1)).Nodup
  bl : ∀ x, x ∈ ["len", "list", "tuple", "sorted", "all", "any", "sum", "max", "min", "int", "repr", "str", "abs", "bool", "isinstance", "range", "enumerate", "zip", "set", "reversed", "dict"] → mg (Str.ofString x) = none
  tu : ∀ p ∈ tt.T, ∀ q ∈ tt.T, p.1 = q.1 → p.2 = q.2

theorem def_step {D : Tbl} (F0 : Facts K mg D) (TB : ∀ p ∈ tt.t, LamX.TabB base mg p.1 p.2.1) {n : Nat}
    (ih : ∀ (f : String) (fd : FD), D.fn f = some fd → ∃ fa fdata, FnG P w K mg base (grd fd) (3 * n) fa fdata (fd.ps.map Str.ofString) (spf K mg D.xs fd.ps.length (callN D n f)) ∧ mg (Str.ofString f) = some (.ref fa) ∧ PySem.W.keepIn K (.ref fa) = true ∧ Binds K fdata (fd.ps.map Str.ofString) [] ∧ ∀ m ks, (f, m, ks) ∈ D.kw → KBd K fdata fd.ps m ks)
    {f : String} {fd : FD} (hf : D.fn f = some fd) {st : Stmt} {fa : Addr} {fdata : FuncData} (F : Fun K (Str.ofString f) (Str.ofString f) st fa fdata) (S : FnScope (fd.N.map Str.ofString) (fd.ps.map Str.ofString) (defScope st))
    (hc : chkSs D (fd.N.map Str.ofString) fd.body (defScope st) (defScope st) (defBody st) = true) (hlam : ("<lambda>" : Str) ∈ fd.N.map Str.ofString → ∃ c P, fdata.code = .ref c ∧ (c, P, Str.ofString f ++ ".<locals>." ++ "<lambda>") ∈ tt.t) :
    FnG P w K mg base (grd fd) (3 * (n + 1)) fa fdata (fd.ps.map Str.ofString) (spf K mg D.xs fd.ps.length (callN D (n + 1) f)) := by
  have news : ∀ c g, (c, g) ∈ D.nw → ∃ C fi fdata, mg (Str.ofString c) = some (.ref C) ∧ Mk K C fi ∧ InsOk K c C ∧ Binds K fdata ["self", "garden"] [] ∧ FnG P w K mg base false (3 * n + 1) fi fdata ["self", "garden"] (spIni K mg C (callN D n g)) := fun c g hm => by
    obtain ⟨⟨C, fi, fdata, st, qual, h1, h2, h3, h4, h5, h6, h7, h8⟩, fd, h9, h10, h11⟩ := F0.nw c g hm
    obtain ⟨ga, gdata, FG, gm, gk, gb, _⟩ := ih g fd h9
    rw [h10, h11] at FG
    exact ⟨C, fi, fdata, h1, h2, h3, h6, init_ok h4 h5 h8 h3 h7 FG gm gk gb⟩
  refine fnG_of (k := 3 * n + 2) F S (fun vs H Q E h => by rw [List.length_map]; exact h.1) (fun cdv A fr s H vs Q E hcd gd room hsp => ?_)
  obtain ⟨hlen, ρ, h, ts, fl, h', g, rs, e, k⟩ := hsp
  have lamX : ("<lambda>" : Str) ∈ fd.N.map Str.ofString → ∃ c P, cdv = .ref c ∧ LamX.TabB base mg c P ∧ (P, Str.ofString f ++ ".<locals>." ++ "<lambda>") ∈ tt.T ∧ ∀ p ∈ tt.T, p.1 = P → p.2 = Str.ofString f ++ ".<locals>." ++ "<lambda>" := fun hl => by
    obtain ⟨c, P, h1, h2⟩ := hlam hl
    have hm : (P, Str.ofString f ++ ".<locals>." ++ "<lambda>") ∈ tt.T := List.mem_map.mpr ⟨(c, P, Str.ofString f ++ ".<locals>." ++ "<lambda>"), h2, rfl⟩
    exact ⟨c, P, hcd.symm.trans h1, TB (c, P, Str.ofString f ++ ".<locals>." ++ "<lambda>") h2, hm, fun p hp z => F0.tu p hp (P, Str.ofString f ++ ".<locals>." ++ "<lambda>") hm z⟩
  have o : XO D n (cxOf (L2.CX P w) P w K mg base (fd.N.map Str.ofString) (Str.ofString f) (defScope st) fa cdv A fr s H E) (defScope st) (defScope st) (fd.N.map Str.ofString) :=
    { esc := rfl, eN := rfl, nd := S.nd, calm := rfl, room := room, gd := fun hr => gd (grd_of hr), kd := S.kind, rw_ := fun _ _ _ h => h, fn := fun _ _ => rfl
      pas := L2.passes_of rfl, fns := ih, nws := news, gls := F0.gl
      lam := lamX
      tds := F0.td, xcs := F0.xc, xnd := F0.xn, blt := F0.bl }
  have tk : Takes (cxOf (L2.CX P w) P w K mg base (fd.N.map Str.ofString) (Str.ofString f) (defScope st) fa cdv A fr s H E) (fun c d _ H => E c d H) := L2.takes_of (X := cxOf (L2.CX P w) P w K mg base (fd.N.map Str.ofString) (Str.ofString f) (defScope st) fa cdv A fr s H E) (E := E) rfl rfl rfl rfl
  refine ⟨_, sSs (W := E) fd.body hc o tk, ?_⟩
  unfold callN at e
  rw [hf] at e
  dsimp only at e
  split at e
  · rename_i hl
    have hNl : ts.length ≤ fd.N.length := by
      have z := S.pre
      have z2 := congrArg List.length z
      rw [List.length_take, List.length_map, List.length_map] at z2
      omega
    rcases fin_ok e with ⟨l, t, e2, rfl⟩ | ⟨l, e2, rfl⟩ | ⟨l, c, fs, e2, rfl⟩
    · exact ⟨ρ, startL fd ts, h, .rt t, l, h', g, rs_start rs hNl, e2, fun ρ1 H1 E1 G1 v r => k _ _ _ E1 G1 r⟩
    · exact ⟨ρ, startL fd ts, h, .nx, l, h', g, rs_start rs hNl, e2, fun ρ1 H1 E1 G1 σ r => k _ _ _ E1 G1 .non⟩
    · exact ⟨ρ, startL fd ts, h, .xc c fs, l, h', g, rs_start rs hNl, e2, fun ρ1 H1 E1 G1 => k _ _ E1 G1⟩
  · cases e
/-- all defs of the table keep their promises, whatever the depth -/
theorem all_defs {D : Tbl} (F0 : Facts K mg D) (TB : ∀ p ∈ tt.t, LamX.TabB base mg p.1 p.2.1) :
    ∀ (n : Nat) (f : String) (fd : FD), D.fn f = some fd → ∃ fa fdata, FnG P w K mg base (grd fd) (3 * n) fa fdata (fd.ps.map Str.ofString) (spf K mg D.xs fd.ps.length (callN D n f)) ∧ mg (Str.ofString f) = some (.ref fa) ∧ PySem.W.keepIn K (.ref fa) = true ∧ Binds K fdata (fd.ps.map Str.ofString) [] ∧ ∀ m ks, (f, m, ks) ∈ D.kw → KBd K fdata fd.ps m ks := by
  intro n
  induction n with
  | zero =>
    intro f fd hf
    obtain ⟨st, fa, fdata, F, hm, S, hc, bd, bk, _⟩ := (F0.fn f fd hf).ex
    refine ⟨fa, fdata, ⟨fun vs H Q E h => by rw [List.length_map]; exact h.1, fun A fr s H args us vs Q E gd room env0 bnd rel hsp => ?_⟩, hm, F.kp, bd, bk⟩
    obtain ⟨_, ρ, h, ts, fl, h', g, rs, e, k⟩ := hsp
    cases e
  | succ n ih =>
    intro f fd hf
    obtain ⟨st, fa, fdata, F, hm, S, hc, bd, bk, hl⟩ := (F0.fn f fd hf).ex
    exact ⟨fa, fdata, def_step F0 TB ih hf F S hc hl, hm, F.kp, bd, bk⟩
end
end MP

set_option Elab.async false
set_option linter.all false
set_option maxRecDepth 100000
/-! MiniPy, part R: the law's end -/
namespace MP
open PySem PySem.Spec PyProof.Rows L2
variable [tt : Mkr]
/-- the heap in which the script, unless it is an object of the module, and the tables of code objects are known -/
def scriptH (K : PySem.W.Frag) (ts : List Addr) (a : Addr) (ob : Obj) (ns : List Int) : Hp := fun b =>
  if b = a ∧ (K.lookup a).isNone = true then some (.frz ob (.lst (ns.map V.int))) else if b ∈ ts then some (.tbl #[]) else none
theorem scriptH_none {K : PySem.W.Frag} {ts : List Addr} {a : Addr} {ob : Obj} {ns : List Int} {b : Addr} (h : b ≠ a) (h2 : b ∉ ts) : scriptH K ts a ob ns b = none := by
  unfold scriptH
  rw [if_neg fun z => h z.1, if_neg h2]
theorem scriptH_tbl {K : PySem.W.Frag} {ts : List Addr} {a : Addr} {ob : Obj} {ns : List Int} {b : Addr} (h : b ≠ a) (h2 : b ∈ ts) : scriptH K ts a ob ns b = some (.tbl #[]) := by
  unfold scriptH
  rw [if_neg fun z => h z.1, if_pos h2]
theorem scriptH_some {K : PySem.W.Frag} {ts : List Addr} {a : Addr} {ob : Obj} {ns : List Int} {b : Addr} {u : HO} (h : scriptH K ts a ob ns b = some u) : (b = a ∧ K.lookup a = none ∧ u = .frz ob (.lst (ns.map V.int))) ∨ (b ∈ ts ∧ u = .tbl #[]) := by
  unfold scriptH at h
  split at h
  · rename_i hc
    cases h
    exact .inl ⟨hc.1, Option.isNone_iff_eq_none.mp hc.2, rfl⟩
  · split at h
    · rename_i hm
      cases h
      exact .inr ⟨hm, rfl⟩
    · cases h
/-- the module of the built-ins, as a lambda's making asks for it -/
def BmOk (mg : Str → Option Value) (h : Heap) : Prop := ∃ (m : Addr) (o : Obj), mg "__builtins__" = some (.ref m) ∧ m ≠ builtinsNs ∧ h.get? m = some o ∧ o.cls = .type "module" ∧ o.dict = some builtinsNs ∧ o.data = .plain
theorem law_go {P : Program} {w : World} {K : PySem.W.Frag} {mg mb : Str → Option Value} {bb : Bool} {k : Nat} {fa a : Addr} {fd : FuncData} {x : Str} {sp : Sp} {s1 : Shared} {vs : List Value} {ns : List Int}
    (KX : K.In s1.heap) (hns : s1.heap.Ns mainGlobals mg) (hb : s1.heap.Ns builtinsNs mb) (hbb : ∀ x : Str, x ≠ "__name__" → mb x = bootBuiltins x) (hlim : s1.heap.NoLimit) (hgen : s1.gens = #[])
    (hT : ∀ p ∈ tt.t, s1.heap.get? p.2.1 = some (PySem.W.tabObj #[])) (nT : ∀ p ∈ tt.t, K.lookup p.2.1 = none) (hC : ∀ p ∈ tt.t, PySem.W.CodeHd s1.heap p.1 p.2.1) (hbm : BmOk mg s1.heap)
    (ha : s1.heap.get? a = some { cls := .type "list", data := .seq vs.toArray }) (hi : IntsAre vs ns) (hl : ns.length ≤ sizeLine) (hr : Room k callerA)
    (F : ∀ base : Heap, K.In base → base.Ns mainGlobals mg → (∀ p ∈ tt.t, LamX.TabB base mg p.1 p.2.1) → FnG P w K mg base bb k fa fd [x] sp) (hbind : BindsTo s1 fd ⟨[.ref a], []⟩ [(x, .ref a)])
    (hsp : ∀ H : Hp, LamX.Tabs tt.T H → FzAt K H a (ns.map V.int) → sp [.ref a] H (fun v _ => v = .bl true) E0) :
    codeAny (model P w) callerA (.call (.ref fa) ⟨[.ref a], []⟩) (fun r s' => r = .ok (.ret (.bool true)) ∧ OldK s1.heap s'.heap ∧ s'.os = s1.os ∧ AllBare s'.gens) s1 := by
  have rel : Vals (ns.map V.int) vs := vals_ints hi
  have zl : vs.length = ns.length := hi.length
  let ob : Obj := { cls := .type "list", data := .seq vs.toArray }
  let ts : List Addr := tt.t.map fun p => p.2.1
  let H : Hp := scriptH K ts a ob ns
  have tsO : ∀ b, b ∈ ts → s1.heap.get? b = some (PySem.W.tabObj #[]) ∧ K.lookup b = none := fun b hm => by
    obtain ⟨p, hp, rfl⟩ := List.mem_map.mp hm
    exact ⟨hT p hp, nT p hp⟩
  have ats : a ∉ ts := fun z => by
    have y := (tsO a z).1
    rw [ha] at y
    cases y
  have hh : ∀ {b : Addr} {o : Obj}, s1.heap.get? b = some o → H b = none → (hidT s1.heap H).get? b = some o := fun e z => hidT_get e z
  have other : ∀ {b : Addr} {o : Obj}, s1.heap.get? b = some o → (∀ vs n, o.data ≠ .seq vs n) → o.data ≠ .fields #[] → H b = none := fun {b o} e h1 h2 => scriptH_none (fun z => by
    rw [z, ha] at e
    cases e
    exact h1 _ _ rfl) (fun z => by
    rw [(tsO b z).1] at e
    cases e
    exact h2 rfl)
  have notdict : ∀ {b : Addr} {o : Obj} {es : Array DictEntry} {ep : Nat}, s1.heap.get? b = some o → o.data = .dict es ep → H b = none := fun {b o es ep} e d => other e (fun vs n z => by rw [d] at z; cases z) (fun z => by rw [d] at z; cases z)
  have nsk : ∀ {b : Addr} {m : Str → Option Value}, s1.heap.Ns b m → (hidT s1.heap H).Ns b m := fun {b m} ⟨o, es, ep, e, d, r⟩ => ⟨o, es, ep, hh e (notdict e d), d, r⟩
  have kb : K.In (hidT s1.heap H) := fun b o e => hh (KX b o e) (by
    cases q : H b with
    | none => rfl
    | some u =>
      rcases scriptH_some q with ⟨rfl, z, _⟩ | ⟨z, _⟩
      · rw [z] at e
        cases e
      · rw [(tsO b z).2] at e
        cases e)
  have hok : HOk P w H s1.heap := fun b u q => by
    rcases scriptH_some q with ⟨rfl, z, rfl⟩ | ⟨z, rfl⟩
    · exact ⟨ha, by rw [List.length_map]; exact hl, vs, 0, rel, ha⟩
    · exact (tsO b z).1
  have md : Mod K mg (hidT s1.heap H) := ⟨kb, nsk hns, ⟨mb, nsk hb, hbb⟩, let ⟨mc, h1, h2⟩ := hlim; ⟨mc, nsk h1, h2⟩⟩
  have env0 : Env0 P w K mg (hidT s1.heap H) callerA [] s1 H := ⟨rfl, md, fun b o e => of_hidT e, Nat.le_of_eq (hidT_size _ _), trivial, fun b z => (by cases z), hok, .of_eq hgen⟩
  have gNo : ∀ b, s1.heap.get? b = some (PySem.W.tabObj #[]) → mainGlobals ≠ b := fun b e z => by
    obtain ⟨o, es, ep, e2, hd, _⟩ := hns
    rw [z, e] at e2
    cases e2
    cases hd
  have TB : ∀ p ∈ tt.t, LamX.TabB (hidT s1.heap H) mg p.1 p.2.1 := fun p hp => by
    refine ⟨?_, ?_, gNo _ (hT p hp)⟩
    · obtain ⟨o, us, fl, u1, fg, u2, iF, tx, u3, e1, r1, r2, r3, r4, r5, r6, r7, r8, r9⟩ := hC p hp
      refine ⟨o, us, fl, u1, fg, u2, iF, tx, u3, hh e1 (other e1 (fun vs n z => by rw [r2] at z; cases z) (fun z => ?_)), r1, r2, r3, r4, r5, r6, r7, r8, r9⟩
      rw [r2] at z
      cases z
      simp at r3
    · obtain ⟨m, o, y1, y2, y3, y4, y5, y6⟩ := hbm
      refine ⟨m, o, y1, y2, fun z => ?_, fun z => ?_, hh y3 (other y3 (fun vs n z => by rw [y6] at z; cases z) (fun z => by rw [y6] at z; cases z)), y4, y5, y6⟩
      · obtain ⟨o2, es, ep, e2, hd, _⟩ := hns
        rw [← z, y3] at e2
        cases e2
        rw [y6] at hd
        cases hd
      · have y := hT p hp
        rw [← z, y3] at y
        cases y
        cases y6
  have fz : FzAt K H a (ns.map V.int) := by
    cases q : K.lookup a with
    | none => exact .inl ⟨ob, if_pos ⟨rfl, by rw [q]; rfl⟩⟩
    | some o =>
      have e := KX a o q
      rw [ha] at e
      cases e
      exact .inr ⟨_, vs.toArray, _, q, rfl, fun _ => rfl, rfl, by rw [List.size_toArray, zl]; exact hl, by simpa using rel⟩
  have htab : ∀ b, b ∈ ts → H b = some (.tbl #[]) := fun b hm => scriptH_tbl (fun z => ats (by rw [← z]; exact hm)) hm
  have tabs : LamX.Tabs tt.T H := fun p hp => by
    obtain ⟨q, hq, rfl⟩ := List.mem_map.mp hp
    exact .nil (htab _ (List.mem_map.mpr ⟨q, hq, rfl⟩))
  have run := (F _ kb (nsk hns) TB).run callerA [] s1 H ⟨[.ref a], []⟩ [.ref a] [.ref a] (fun v _ => v = .bl true) E0 (fun _ => rfl) hr env0 hbind (.cons rfl .nil) (hsp H tabs fz)
  refine codeAny_mono run fun r s' h => ?_
  match r, h with
  | .error _, h => exact (cx_no h).elim
  | .ok .next, h => exact h.elim
  | .ok .brk, h => exact h.elim
  | .ok .cont, h => exact h.elim
  | .ok (.ret u), ⟨v, H', os, bare, un, hok', rv, q⟩ =>
    have q' : v = .bl true := q
    subst q'
    obtain rfl : u = Value.bool true := rv
    have tabE : ∀ b, b ∈ ts → ∃ more : Array Value, s'.heap.get? b = some { cls := .none, data := .fields more } := fun b hm => by
      obtain ⟨more, z⟩ := un.tbls b #[] (htab b hm)
      exact ⟨_, hok' b _ z⟩
    have key : ∀ b o, b ∉ ts → s1.heap.get? b = some o → s'.heap.get? b = some o := fun b o nb e => by
      cases z : H b with
      | none => exact un.keep b o e z (fun y => nomatch y) (fun y => nomatch y)
      | some u =>
        rcases scriptH_some z with ⟨rfl, _, rfl⟩ | ⟨z2, _⟩
        · obtain ⟨e2, _⟩ := hok' b _ (un.frzs b ob _ z)
          rw [ha] at e
          cases e
          exact e2
        · exact absurd z2 nb
    refine ⟨rfl, ⟨fun b o e => ?_, fun b o e => ?_⟩, os, bare⟩
    · by_cases hm : b ∈ ts
      · obtain ⟨more, y⟩ := tabE b hm
        obtain ⟨p, hp, hpe⟩ := List.mem_map.mp hm
        have e3 := (tsO b hm).1
        rw [e] at e3
        cases e3
        subst hpe
        exact .inr (.inl ⟨((hC p hp).tab (hT p hp)).isCodeTable, rfl, #[], more, rfl, by rw [Array.empty_append]; exact y⟩)
      · exact .inl (key b o hm e)
    · by_cases hm : b ∈ ts
      · obtain ⟨more, y⟩ := tabE b hm
        exact ⟨_, y⟩
      · exact ⟨o, key b o hm e⟩
/-- the script as our value -/
def scr (ns : List Int) : T := .fz (ns.map T.int)
theorem rts_ints {K : PySem.W.Frag} {mg : Str → Option Value} {ρ : List Addr} {H : Hp} : ∀ ns : List Int, RTs K mg ρ H (ns.map T.int) (ns.map V.int)
  | [] => .nil
  | n :: ns => .cons (.int n) (rts_ints ns)
omit tt in
/-- what the head leaves, from the evaluator's answer -/
theorem walk_mp {tt : Mkr} {l : PySem.W.OpenLaw} {m k : Nat} {q : Program} {loose : List Str} {XP : (Str → Option Value) → Heap → Prop} {YP : World → Heap → Prop} {d : DefRec} {K : Params → PySem.W.Frag} {x : String} {D : Tbl} {fd : FD} {f : String}
    (hn : l.most = some m) (hn2 : m ≤ sizeLine) (hdf : d.params.defaults = []) (hr : Room (3 * (k + 1)) callerA) (hY : ∀ (w : World) (h : Heap), YP w h → (K w.params).In h) (hname : d.name = Str.ofString f) (hfd : D.fn f = some fd) (hps : fd.ps = [x])
    (hT : ∀ (w : World) (lo : List Str) (mean : ExcName → Option Value) (mg mb : Str → Option Value) (h : Heap), Top q lo mean mg mb h → (K w.params).In h → ∀ p ∈ tt.t, h.get? p.2.1 = some (PySem.W.tabObj #[]) ∧ (K w.params).lookup p.2.1 = none ∧ PySem.W.CodeHd h p.1 p.2.1)
    (hD : ∀ (w : World) (mg : Str → Option Value) (h : Heap), (K w.params).In h → h.Ns mainGlobals mg → Facts (K w.params) mg D)
    (hlaw : ∀ ns : List Int, ns.length ≤ m → ∃ h', callN D (k + 1) f [scr ns] [] = .ok (.bl true) h') :
    PySem.W.WalkO q loose XP YP l.row.toRowW d [] (fun f vs => PySem.call f vs) := by
  refine Att.attach_call hn hdf fun w s0 s1 mg mb fa o pm cd doc a vs ns G0 Y ho hd hcd hmg hobj hints hlen hg => ?_
  have KX := hY w _ Y
  have F0 := hD w mg _ KX G0.T.g
  -- the law's own def
  obtain ⟨st, fa', fdata, F, hm, S, hc, bd, bk, hlm⟩ := (F0.fn f fd hfd).ex
  have efa : fa' = fa := by
    rw [hname] at hmg
    rw [hm] at hmg
    cases hmg
    rfl
  subst efa
  have ox : (fd.ps.map Str.ofString) = [Str.ofString x] := by rw [hps]; rfl
  refine law_go (bb := grd fd) (x := Str.ofString x) (fd := fdata) (sp := spf (K w.params) mg D.xs 1 (callN D (k + 1) f)) KX G0.T.g G0.T.b G0.T.builtins G0.T.nolimit hg (fun p hp => (hT w _ _ _ _ _ G0.T KX p hp).1) (fun p hp => (hT w _ _ _ _ _ G0.T KX p hp).2.1) (fun p hp => (hT w _ _ _ _ _ G0.T KX p hp).2.2) G0.T.bmain hobj hints (Nat.le_trans hlen hn2) hr (fun base kb nb tb => ?_) ?_ (fun H ht hf => ?_)
  · have z := def_step (P := l.prog) (w := w) (base := base) F0 tb (all_defs (P := l.prog) (w := w) (base := base) F0 tb k) hfd F S hc hlm
    rw [hps] at z
    exact z
  · have z := bd s1 [.ref a] KX (by rw [hps]; rfl)
    rw [hps] at z
    exact z
  · obtain ⟨h', e⟩ := hlaw ns hlen
    exact ⟨rfl, [], [], [scr ns], .rt (.bl true), h', ⟨rfl, List.nodup_nil, fun n a o e => by simp at e, ht⟩, .cons (.fz hf (rts_ints ns)) .nil, flX_ok e, fun ρ' H' v E G r => by cases r; rfl⟩
end MP

set_option Elab.async false
set_option linter.all false
set_option maxRecDepth 100000
/-! MiniPy, part T: a law's own table of defs -/
namespace MP
open PySem PySem.Spec PyProof.Rows L2
inductive AllP {α : Type} (P : String → α → Prop) : List (String × α) → Prop
  | nil : AllP P []
  | cons {f : String} {x : α} {l : List (String × α)} : P f x → AllP P l → AllP P ((f, x) :: l)
theorem AllP.look {α : Type} {P : String → α → Prop} {f : String} {x : α} : ∀ {l : List (String × α)}, AllP P l → l.lookup f = some x → P f x
  | _, .nil, e => by cases e
  | _, .cons (f := g) (l := l) h t, e => by
    rw [List.lookup_cons] at e
    split at e
    · rename_i q
      cases e
      rw [eq_of_beq q]
      exact h
    · exact t.look e
inductive AllN (P : String → Prop) : List String → Prop
  | nil : AllN P []
  | cons {f : String} {l : List String} : P f → AllN P l → AllN P (f :: l)
theorem AllN.mem {P : String → Prop} {f : String} : ∀ {l : List String}, AllN P l → f ∈ l → P f
  | _, .nil, e => by simp at e
  | _, .cons h t, e => by
    rcases List.mem_cons.mp e with z | z
    · rw [z]; exact h
    · exact t.mem z
def tblOf (fs : List (String × FD)) (gs : List (String × T)) (kw : List (String × Nat × List String)) (nw : List (String × String)) (td : List (String × List (String × String))) (xs : List (String × String)) : Tbl := ⟨fun f => fs.lookup f, fun x => gs.lookup x, kw, nw, fun g => td.lookup g, xs⟩
theorem AllP.memP {α : Type} {P : String → α → Prop} {f : String} {x : α} : ∀ {l : List (String × α)}, AllP P l → (f, x) ∈ l → P f x
  | _, .nil, e => by simp at e
  | _, .cons h t, e => by
    rcases List.mem_cons.mp e with z | z
    · cases z
      exact h
    · exact t.memP z
theorem kw_no {f : String} {kw : List (String × Nat × List String)} (h : (kw.all fun k => !decide (k.1 = f)) = true) {P : Prop} {m : Nat} {ks : List String} (e : (f, m, ks) ∈ kw) : P := by
  have := List.all_eq_true.mp h _ e
  simp at this
section
variable {K : PySem.W.Frag} {h : Heap} {mg : Str → Option Value} {D : Tbl}
/-- keywords, in words of the model -/
def KwOk (fd : FuncData) (ps : List String) (n : Nat) (ks : List String) : Prop := ∀ us ws zs : List Value, us.length = n → ws.length = ks.length → ordK ps n us ks ws = some zs →
  bindArgs fd ⟨us, (ks.map Str.ofString).zip ws⟩ = pure ((ps.map Str.ofString).zip zs)
theorem KwOk.bd {fd : FuncData} {ps : List String} {n : Nat} {ks : List String} (o : KwOk fd ps n ks) : KBd K fd ps n ks := fun s us ws zs _ e => by
  have e2 := e
  unfold ordK at e
  split at e
  · rename_i c
    exact .of_eq (o us ws zs c.2.1 c.2.2.symm e2)
  · cases e
abbrev fnT (f : String) (st : Stmt) (kV doc pm : Value) (an : Option Addr) (cdv ct : Value) : FuncData := PySem.W.fnOf (Str.ofString f) (Str.ofString f) (defArgs st) (defBody st) (defScope st) .none kV doc pm an cdv ct
theorem DefAt.mk1 {tt : Mkr} {f : String} {fd : FD} {st : Stmt} {fa : Addr} {oc : Value} {od an : Option Addr} {osl : Array (Option Value)} {kV doc pm cdv ct : Value} (X : K.In h) (G : h.Ns mainGlobals mg)
    (S : FnScope (fd.N.map Str.ofString) (fd.ps.map Str.ofString) (defScope st)) (hc : chkSs D (fd.N.map Str.ofString) fd.body (defScope st) (defScope st) (defBody st) = true)
    (hb : ∀ (kV doc pm : Value) (an : Option Addr) (cdv ct : Value) (us : List Value), us.length = (fd.ps.map Str.ofString).length → bindArgs (fnT f st kV doc pm an cdv ct) ⟨us, []⟩ = pure ((fd.ps.map Str.ofString).zip us))
    (hk : ∀ (kV doc pm : Value) (an : Option Addr) (cdv ct : Value), ∀ m ks, (f, m, ks) ∈ D.kw → KwOk (fnT f st kV doc pm an cdv ct) fd.ps m ks)
    (a : PySem.W.nsIn K mainGlobals (Str.ofString f) = some (some (.ref fa))) (l : K.lookup fa = some ⟨oc, od, .func (PySem.W.fnOf (Str.ofString f) (Str.ofString f) (defArgs st) (defBody st) (defScope st) .none kV doc pm an cdv ct), osl⟩)
    (c : PySem.W.codeIn K cdv (Str.ofString f) = true) (k : PySem.W.keepIn K (.ref fa) = true) (hl : ("<lambda>" : Str) ∈ fd.N.map Str.ofString → ∃ c P, cdv = .ref c ∧ (c, P, Str.ofString f ++ ".<locals>." ++ "<lambda>") ∈ tt.t) : DefAt K mg D f fd :=
  have F := fun_mk (st := st) l c k
  ⟨st, fa, _, F, PySem.W.mg_of X G a, S, hc, F.binds hb, fun m ks hm => (hk kV doc pm an cdv ct m ks hm).bd, hl⟩
theorem ExcAt.mk_thing {c : String} {nm q : Str} {C fI NN G0 : Addr} {bs : List Value} {sn : List Str} {sub : List Value} {ab : Bool} {col : Option Bool} {dd : Option Addr} {m0 m1 m2 m3 m5 : Option Value} {od1 an1 : Option Addr} {sl1 : Array (Option Value)} {oc1 dc1 pm1 cd1 ct1 : Value} {p1 p2 q1 q2 q3 q4 : Pos} {qi : Str} (X : K.In h) (G : h.Ns mainGlobals mg)
    (aC : PySem.W.nsIn K mainGlobals (Str.ofString c) = some (some (.ref C))) (xL : K.lookup C = some (PySem.excClassObj nm q C NN bs (.ref G0 :: PySem.ESX.exTail) true sn sub ab col dd m0 m1 m2 m3 m5 "Exception.__new__"))
    (sa : PySem.W.findIn K (.ref C) "__setattr__" = some (some (.builtin "object.__setattr__"))) (ga : PySem.W.findIn K (.ref C) "__getattribute__" = some (some (.builtin "BaseException.__getattribute__"))) (gg : PySem.W.findIn K (.ref C) "__getattr__" = some none) (nb : PySem.W.findIn K (.ref C) "thing" = some none)
    (a1 : PySem.W.findIn K (.ref C) "__init__" = some (some (.ref fI))) (t1 : PySem.W.typeIn K (.ref fI) = some (.type "function")) (l1 : K.lookup fI = some ⟨oc1, od1, .func (PySem.W.fnOf "__init__" qi (PySem.OwnX.args_thing p1 p2) (PySem.OwnX.body_thing q1 q2 q3 q4) PySem.OwnX.scope_thing .none .none dc1 pm1 an1 cd1 ct1), sl1⟩) (c1 : PySem.W.codeIn K cd1 qi = true)
    (kC : PySem.W.keepIn K (.ref C) = true) (eC : PySem.W.subIn K (.ref C) (.type "BaseException") = some true) (tC : PySem.W.typeIn K (.ref C) = some (.type "type")) (hC : PySem.W.hasDictIn K C = true) : ExcAt K mg c "thing" :=
  .thing qi C fI { gC := PySem.W.mg_of X G aC, kC := kC, exC := eC, tyC := tC, cls := ⟨nm, q, NN, bs, _, sn, sub, ab, col, dd, m0, m1, m2, m3, m5, xL, G0, rfl⟩, sa := sa, ga := ga, gg := gg, noN := nb, iC := a1, tC := t1, hdC := hC, fn := ⟨_, _, _, _, _, _, _, _, _, _, _, _, _, _, l1, c1⟩ }
theorem ExcAt.mk_most {c : String} {nm q : Str} {C fI NN G0 : Addr} {bs : List Value} {sn : List Str} {sub : List Value} {ab : Bool} {col : Option Bool} {dd : Option Addr} {m0 m1 m2 m3 m5 : Option Value} {od1 an1 : Option Addr} {sl1 : Array (Option Value)} {oc1 dc1 pm1 cd1 ct1 : Value} {p1 p2 q1 q2 q3 q4 : Pos} {qi : Str} (X : K.In h) (G : h.Ns mainGlobals mg)
    (aC : PySem.W.nsIn K mainGlobals (Str.ofString c) = some (some (.ref C))) (xL : K.lookup C = some (PySem.excClassObj nm q C NN bs (.ref G0 :: PySem.ESX.exTail) true sn sub ab col dd m0 m1 m2 m3 m5 "Exception.__new__"))
    (sa : PySem.W.findIn K (.ref C) "__setattr__" = some (some (.builtin "object.__setattr__"))) (ga : PySem.W.findIn K (.ref C) "__getattribute__" = some (some (.builtin "BaseException.__getattribute__"))) (gg : PySem.W.findIn K (.ref C) "__getattr__" = some none) (nb : PySem.W.findIn K (.ref C) "most" = some none)
    (a1 : PySem.W.findIn K (.ref C) "__init__" = some (some (.ref fI))) (t1 : PySem.W.typeIn K (.ref fI) = some (.type "function")) (l1 : K.lookup fI = some ⟨oc1, od1, .func (PySem.W.fnOf "__init__" qi (PySem.OwnX.args_most p1 p2) (PySem.OwnX.body_most q1 q2 q3 q4) PySem.OwnX.scope_most .none .none dc1 pm1 an1 cd1 ct1), sl1⟩) (c1 : PySem.W.codeIn K cd1 qi = true)
    (kC : PySem.W.keepIn K (.ref C) = true) (eC : PySem.W.subIn K (.ref C) (.type "BaseException") = some true) (tC : PySem.W.typeIn K (.ref C) = some (.type "type")) (hC : PySem.W.hasDictIn K C = true) : ExcAt K mg c "most" :=
  .most qi C fI { gC := PySem.W.mg_of X G aC, kC := kC, exC := eC, tyC := tC, cls := ⟨nm, q, NN, bs, _, sn, sub, ab, col, dd, m0, m1, m2, m3, m5, xL, G0, rfl⟩, sa := sa, ga := ga, gg := gg, noN := nb, iC := a1, tC := t1, hdC := hC, fn := ⟨_, _, _, _, _, _, _, _, _, _, _, _, _, _, l1, c1⟩ }
theorem ExcAt.mk_at {c : String} {nm q : Str} {C fI NN G0 : Addr} {bs : List Value} {sn : List Str} {sub : List Value} {ab : Bool} {col : Option Bool} {dd : Option Addr} {m0 m1 m2 m3 m5 : Option Value} {od1 an1 : Option Addr} {sl1 : Array (Option Value)} {oc1 dc1 pm1 cd1 ct1 : Value} {p1 p2 q1 q2 q3 q4 : Pos} {qi : Str} (X : K.In h) (G : h.Ns mainGlobals mg)
    (aC : PySem.W.nsIn K mainGlobals (Str.ofString c) = some (some (.ref C))) (xL : K.lookup C = some (PySem.excClassObj nm q C NN bs (.ref G0 :: PySem.ESX.exTail) true sn sub ab col dd m0 m1 m2 m3 m5 "Exception.__new__"))
    (sa : PySem.W.findIn K (.ref C) "__setattr__" = some (some (.builtin "object.__setattr__"))) (ga : PySem.W.findIn K (.ref C) "__getattribute__" = some (some (.builtin "BaseException.__getattribute__"))) (gg : PySem.W.findIn K (.ref C) "__getattr__" = some none) (nb : PySem.W.findIn K (.ref C) "at" = some none)
    (a1 : PySem.W.findIn K (.ref C) "__init__" = some (some (.ref fI))) (t1 : PySem.W.typeIn K (.ref fI) = some (.type "function")) (l1 : K.lookup fI = some ⟨oc1, od1, .func (PySem.W.fnOf "__init__" qi (PySem.OwnX.args_at p1 p2) (PySem.OwnX.body_at q1 q2 q3 q4) PySem.OwnX.scope_at .none .none dc1 pm1 an1 cd1 ct1), sl1⟩) (c1 : PySem.W.codeIn K cd1 qi = true)
    (kC : PySem.W.keepIn K (.ref C) = true) (eC : PySem.W.subIn K (.ref C) (.type "BaseException") = some true) (tC : PySem.W.typeIn K (.ref C) = some (.type "type")) (hC : PySem.W.hasDictIn K C = true) : ExcAt K mg c "at" :=
  .atF qi C fI { gC := PySem.W.mg_of X G aC, kC := kC, exC := eC, tyC := tC, cls := ⟨nm, q, NN, bs, _, sn, sub, ab, col, dd, m0, m1, m2, m3, m5, xL, G0, rfl⟩, sa := sa, ga := ga, gg := gg, noN := nb, iC := a1, tC := t1, hdC := hC, fn := ⟨_, _, _, _, _, _, _, _, _, _, _, _, _, _, l1, c1⟩ }
theorem ExcAt.mk_c {c : String} {nm q : Str} {C fI NN G0 : Addr} {bs : List Value} {sn : List Str} {sub : List Value} {ab : Bool} {col : Option Bool} {dd : Option Addr} {m0 m1 m2 m3 m5 : Option Value} {od1 an1 : Option Addr} {sl1 : Array (Option Value)} {oc1 dc1 pm1 cd1 ct1 : Value} {p1 p2 q1 q2 q3 q4 : Pos} {qi : Str} (X : K.In h) (G : h.Ns mainGlobals mg)
    (aC : PySem.W.nsIn K mainGlobals (Str.ofString c) = some (some (.ref C))) (xL : K.lookup C = some (PySem.excClassObj nm q C NN bs (.ref G0 :: PySem.ESX.exTail) true sn sub ab col dd m0 m1 m2 m3 m5 "Exception.__new__"))
    (sa : PySem.W.findIn K (.ref C) "__setattr__" = some (some (.builtin "object.__setattr__"))) (ga : PySem.W.findIn K (.ref C) "__getattribute__" = some (some (.builtin "BaseException.__getattribute__"))) (gg : PySem.W.findIn K (.ref C) "__getattr__" = some none) (nb : PySem.W.findIn K (.ref C) "c" = some none)
    (a1 : PySem.W.findIn K (.ref C) "__init__" = some (some (.ref fI))) (t1 : PySem.W.typeIn K (.ref fI) = some (.type "function")) (l1 : K.lookup fI = some ⟨oc1, od1, .func (PySem.W.fnOf "__init__" qi (PySem.OwnX.args_c p1 p2) (PySem.OwnX.body_c q1 q2 q3 q4) PySem.OwnX.scope_c .none .none dc1 pm1 an1 cd1 ct1), sl1⟩) (c1 : PySem.W.codeIn K cd1 qi = true)
    (kC : PySem.W.keepIn K (.ref C) = true) (eC : PySem.W.subIn K (.ref C) (.type "BaseException") = some true) (tC : PySem.W.typeIn K (.ref C) = some (.type "type")) (hC : PySem.W.hasDictIn K C = true) : ExcAt K mg c "c" :=
  .c qi C fI { gC := PySem.W.mg_of X G aC, kC := kC, exC := eC, tyC := tC, cls := ⟨nm, q, NN, bs, _, sn, sub, ab, col, dd, m0, m1, m2, m3, m5, xL, G0, rfl⟩, sa := sa, ga := ga, gg := gg, noN := nb, iC := a1, tC := t1, hdC := hC, fn := ⟨_, _, _, _, _, _, _, _, _, _, _, _, _, _, l1, c1⟩ }
theorem ToldAt.mk1 {g : String} {es : List (String × String)} {hs : List (String × String)} {hf : List (String × String × String)} {a e : Str} {st : Stmt} {ga : Addr} {gv oc : Value} {od an : Option Addr} {osl : Array (Option Value)} {kV doc pm cdv ct : Value} (X : K.In h) (G : h.Ns mainGlobals mg)
    (S : FnScope [a, e] [a] (defScope st)) (tb : toldB a e hf (defScope st) (defBody st) = true) (hb : ∀ (kV doc pm : Value) (an : Option Addr) (cdv ct : Value) (us : List Value), us.length = [a].length → bindArgs (fnT g st kV doc pm an cdv ct) ⟨us, []⟩ = pure ([a].zip us))
    (ehs : hs = hf.map fun p => (p.1, p.2.1)) (hes : ∀ p ∈ hf, (p.1, p.2.2) ∈ es) (nd : (hf.map (·.1)).Nodup) (sb : SubsAt K mg hf) (ge : PySem.W.nsIn K mainGlobals "GardenError" = some (some gv))
    (a1 : PySem.W.nsIn K mainGlobals (Str.ofString g) = some (some (.ref ga))) (l : K.lookup ga = some ⟨oc, od, .func (PySem.W.fnOf (Str.ofString g) (Str.ofString g) (defArgs st) (defBody st) (defScope st) .none kV doc pm an cdv ct), osl⟩)
    (c : PySem.W.codeIn K cdv (Str.ofString g) = true) (k : PySem.W.keepIn K (.ref ga) = true) : ToldAt K mg es g hs :=
  have F := fun_mk (st := st) l c k
  ⟨st, ga, _, a, e, hf, gv, F, PySem.W.mg_of X G a1, S, F.binds hb, tb, ehs, hes, sb, PySem.W.mg_of X G ge, nd⟩
/-- the handlers' classes -/
theorem SubsAt.mk1 {p : String × String × String} {r : List (String × String × String)} {C : Addr} (X : K.In h) (G : h.Ns mainGlobals mg) (ea : ExcAt K mg p.1 p.2.2) (a1 : PySem.W.nsIn K mainGlobals (Str.ofString p.1) = some (some (.ref C))) (s1 : PySem.W.subIn K (.ref C) (.ref C) = some true)
    (hr : ∀ q ∈ r, ∃ C', mg (Str.ofString q.1) = some (.ref C') ∧ PySem.W.subIn K (.ref C') (.ref C) = some false) (rest : SubsAt K mg r) : SubsAt K mg (p :: r) := .cons C ea (PySem.W.mg_of X G a1) s1 hr rest
theorem subs_nil {α : Type} {P : α → Prop} : ∀ q ∈ ([] : List α), P q := fun _ h => by cases h
theorem subs_cons {C : Addr} {q : String × String × String} {r : List (String × String × String)} (X : K.In h) (G : h.Ns mainGlobals mg) {C' : Addr} (a1 : PySem.W.nsIn K mainGlobals (Str.ofString q.1) = some (some (.ref C'))) (s1 : PySem.W.subIn K (.ref C') (.ref C) = some false)
    (hr : ∀ q ∈ r, ∃ C', mg (Str.ofString q.1) = some (.ref C') ∧ PySem.W.subIn K (.ref C') (.ref C) = some false) : ∀ x ∈ q :: r, ∃ C', mg (Str.ofString x.1) = some (.ref C') ∧ PySem.W.subIn K (.ref C') (.ref C) = some false := fun x hx => by
  rcases List.mem_cons.mp hx with rfl | hx
  · exact ⟨C', PySem.W.mg_of X G a1, s1⟩
  · exact hr x hx
abbrev GlAt (K : PySem.W.Frag) (mg : Str → Option Value) (x : String) (t : T) : Prop := ∃ u v, mg (Str.ofString x) = some u ∧ RelV v u ∧ ∀ ρ H, RT K mg ρ H t v
theorem GlAt.int {x : String} {i : Int} {k : Tok} (X : K.In h) (G : h.Ns mainGlobals mg) (a : PySem.W.nsIn K mainGlobals (Str.ofString x) = some (some (.int i k))) : GlAt K mg x (.int i) :=
  ⟨_, .int i, PySem.W.mg_of X G a, ⟨k, rfl⟩, fun _ _ => .int i⟩
theorem GlAt.fn {x : String} {fa : Addr} (X : K.In h) (G : h.Ns mainGlobals mg) (a : PySem.W.nsIn K mainGlobals (Str.ofString x) = some (some (.ref fa))) : GlAt K mg x (.fn x) :=
  ⟨_, .ref fa, PySem.W.mg_of X G a, rfl, fun _ _ => .fn (PySem.W.mg_of X G a)⟩
abbrev bltNames : List String := ["len", "list", "tuple", "sorted", "all", "any", "sum", "max", "min", "int", "repr", "str", "abs", "bool", "isinstance", "range", "enumerate", "zip", "set", "reversed", "dict"]
theorem GlAt.str {x : String} {i : Str} {k : Tok} (X : K.In h) (G : h.Ns mainGlobals mg) (a : PySem.W.nsIn K mainGlobals (Str.ofString x) = some (some (.str i k))) : GlAt K mg x (.str i) :=
  ⟨_, .str i, PySem.W.mg_of X G a, ⟨k, rfl⟩, fun _ _ => .str i⟩
theorem kit_own {C : Addr} {t : String} (hm : PySem.W.kitMeta t = true) (e : PySem.W.mroIn K C (.type t) = some false) : PySem.W.kitOne K (.ref C) (.type t) = some false := by
  unfold PySem.W.kitOne PySem.W.kitCls
  rw [if_neg (show ¬ ((Value.ref C == Value.type t) = true) from fun z => by simp at z)]
  dsimp only
  rw [if_pos hm]
  exact e
def strsB : List Str → List Value → Bool
  | [], [] => true
  | x :: r, .str y _ :: s => decide (x = y) && strsB r s
  | _, _ => false
theorem strs_ok : ∀ {xs : List Str} {vs : List Value}, strsB xs vs = true → Vals (xs.map V.str) vs
  | [], [], _ => .nil
  | x :: r, .str y t :: s, h => by
    unfold strsB at h
    rw [Bool.and_eq_true, decide_eq_true_eq] at h
    exact .cons ⟨t, by rw [h.1]⟩ (strs_ok h.2)
theorem rts_strs {K : PySem.W.Frag} {mg : Str → Option Value} {ρ : List Addr} {H : Hp} : ∀ xs : List Str, RTs K mg ρ H (xs.map T.str) (xs.map V.str)
  | [] => .nil
  | x :: xs => .cons (.str x) (rts_strs xs)
/-- a tuple of texts among the module's names -/
theorem GlAt.tupS {tt : Mkr} {x : String} {fa : Addr} {od : Option Addr} {its : Array Value} {n : Nat} {sl : Array (Option Value)} {xs : List Str} (X : K.In h) (G : h.Ns mainGlobals mg) (a : PySem.W.nsIn K mainGlobals (Str.ofString x) = some (some (.ref fa)))
    (l : K.lookup fa = some ⟨.type "tuple", od, .seq its n, sl⟩) (h1 : its.size ≤ 1000) (h2 : strsB xs its.toList = true) : GlAt K mg x (.tup (xs.map T.str)) :=
  ⟨_, .ref fa, PySem.W.mg_of X G a, rfl, fun _ _ => .tup (.inr ⟨_, its, n, l, rfl, fun z => absurd z (by decide), rfl, line_le (by omega), strs_ok h2⟩) (rts_strs (K := K) xs)⟩
theorem NewAt.mk1 {tt : Mkr} {c g : String} {qual : Str} {st : Stmt} {C fi : Addr} {oc : Value} {od an : Option Addr} {osl : Array (Option Value)} {kV doc pm cdv ct : Value} (X : K.In h) (G : h.Ns mainGlobals mg)
    (S : FnScope ["self", "garden"] ["self", "garden"] (defScope st)) (hb : iniB g (defScope st) (defBody st) = true)
    (hbd : ∀ (kV doc pm : Value) (an : Option Addr) (cdv ct : Value) (us : List Value), us.length = 2 → bindArgs (PySem.W.fnOf "__init__" qual (defArgs st) (defBody st) (defScope st) .none kV doc pm an cdv ct) ⟨us, []⟩ = pure ((["self", "garden"] : List Str).zip us))
    (nm : c ∉ ["NoneType", "bool", "int", "str", "tuple", "list", "dict"]) (a : PySem.W.nsIn K mainGlobals (Str.ofString c) = some (some (.ref C))) (i : PySem.W.findIn K (.ref C) "__init__" = some (some (.ref fi)))
    (l : K.lookup fi = some ⟨oc, od, .func (PySem.W.fnOf "__init__" qual (defArgs st) (defBody st) (defScope st) .none kV doc pm an cdv ct), osl⟩) (cd : PySem.W.codeIn K cdv qual = true) (kf : PySem.W.keepIn K (.ref fi) = true)
    (m1 : PySem.W.makesIn K C = true) (m2 : PySem.W.isFn K (.ref fi) = true) (m3 : PySem.W.keepIn K (.ref C) = true)
    (c1 : PySem.W.plainGet K C Str.empty = true) (c2 : PySem.W.hasDictIn K C = true) (c3 : PySem.W.plainOver K C = true) (c4 : PySem.W.findIn K (.ref C) "__setattr__" = some (some (.builtin "object.__setattr__")))
    (o1 : PySem.W.findIn K (.ref C) "__class__" = some (some (.builtin "object.__class__"))) (o2 : PySem.W.specialIn K (.builtin "object.__class__") "__get__" = some (some (.builtin "getset_descriptor.__get__")))
    (o3 : PySem.W.takesIn K (.builtin "object.__class__") = some true) (o4 : PySem.W.mroIn K C (.type "object") = some true)
    (k1 : PySem.W.mroIn K C (.type "int") = some false) (k2 : PySem.W.mroIn K C (.type "bool") = some false) (k3 : PySem.W.mroIn K C (.type "str") = some false) (k4 : PySem.W.mroIn K C (.type "list") = some false)
    (k5 : PySem.W.mroIn K C (.type "tuple") = some false) (k6 : PySem.W.mroIn K C (.type "dict") = some false)
    (n1 : PySem.W.findIn K (.ref C) "_stand" = some none) (n2 : PySem.W.findIn K (.ref C) "_done" = some none) (n3 : PySem.W.findIn K (.ref C) "_undone" = some none) : NewAt K mg c g :=
  have F := fun_mk (st := st) l cd kf
  ⟨C, fi, _, st, qual, PySem.W.mg_of X G a, ⟨m1, i, m2, m3⟩, ⟨⟨c1, c2, c3, c4⟩, o1, o2, o3, o4, nm, fun t ht => by
    simp only [List.mem_cons, List.not_mem_nil, or_false] at ht
    rcases ht with rfl | rfl | rfl | rfl | rfl | rfl
    · exact kit_own (by decide +kernel) k1
    · exact kit_own (by decide +kernel) k2
    · exact kit_own (by decide +kernel) k3
    · exact kit_own (by decide +kernel) k4
    · exact kit_own (by decide +kernel) k5
    · exact kit_own (by decide +kernel) k6⟩, F, S, F.binds hbd, ⟨n1, n2, n3⟩, hb⟩
theorem all_tbl {tt : Mkr} {fs : List (String × FD)} {gs : List (String × T)} {kw : List (String × Nat × List String)} {nw : List (String × String)} {td : List (String × List (String × String))} {xs : List (String × String)} (X : K.In h) (G : h.Ns mainGlobals mg) (h1 : AllP (DefAt K mg (tblOf fs gs kw nw td xs)) fs) (h2 : AllP (GlAt K mg) gs)
    (h3 : AllN (fun x => PySem.W.nsIn K mainGlobals (Str.ofString x) = some none) bltNames) (h4 : AllP (NewAt K mg) nw) (h5 : (nw.all fun p => match fs.lookup p.2 with | some fd => decide (fd.ps.length = 1) && !grd fd | none => false) = true)
    (h6 : AllP (fun g hs => ToldAt K mg xs g hs) td) (h7 : AllP (fun c fld => ExcAt K mg c fld) xs) (h8 : (xs.map (·.1)).Nodup) (h9 : ∀ p ∈ tt.T, ∀ q ∈ tt.T, p.1 = q.1 → p.2 = q.2) : Facts K mg (tblOf fs gs kw nw td xs) where
  fn := fun f fd e => h1.look e
  gl := fun x t e => h2.look e
  bl := fun x hx => PySem.W.mg_none_of X G (h3.mem hx)
  nw := fun c g hm => ⟨h4.memP hm, by
    have z := List.all_eq_true.mp h5 _ hm
    dsimp only at z
    split at z
    · rename_i fd e
      rw [Bool.and_eq_true, decide_eq_true_eq] at z
      exact ⟨fd, e, z.1, by simpa using z.2⟩
    · cases z⟩
  td := fun g hs e => h6.look e
  xc := fun c fld hm => h7.memP hm
  xn := h8
  tu := h9
end
/-- nothing is made here -/
abbrev noMk : Mkr := ⟨[]⟩
theorem noMk_u : ∀ p ∈ noMk.T, ∀ q ∈ noMk.T, p.1 = q.1 → p.2 = q.2 := fun p h => by cases h
theorem noMk_t {Q : Addr × Addr × Str → Prop} : ∀ p ∈ noMk.t, Q p := fun p h => by cases h
theorem noLam {N : List Str} {P : Prop} (e : decide (("<lambda>" : Str) ∈ N) = false) : ("<lambda>" : Str) ∈ N → P := fun h => absurd h (of_decide_eq_false e)
theorem DefAt.mkL {tt : Mkr} {f : String} {fd : FD} {st : Stmt} {fa c P : Addr} {oc : Value} {od an : Option Addr} {osl : Array (Option Value)} {kV doc pm ct : Value} {K : PySem.W.Frag} {h : Heap} {mg : Str → Option Value} {D : Tbl} (X : K.In h) (G : h.Ns mainGlobals mg)
    (S : FnScope (fd.N.map Str.ofString) (fd.ps.map Str.ofString) (defScope st)) (hc : chkSs D (fd.N.map Str.ofString) fd.body (defScope st) (defScope st) (defBody st) = true)
    (hb : ∀ (kV doc pm : Value) (an : Option Addr) (cdv ct : Value) (us : List Value), us.length = (fd.ps.map Str.ofString).length → bindArgs (fnT f st kV doc pm an cdv ct) ⟨us, []⟩ = pure ((fd.ps.map Str.ofString).zip us))
    (hk : ∀ (kV doc pm : Value) (an : Option Addr) (cdv ct : Value), ∀ m ks, (f, m, ks) ∈ D.kw → KwOk (fnT f st kV doc pm an cdv ct) fd.ps m ks)
    (a : PySem.W.nsIn K mainGlobals (Str.ofString f) = some (some (.ref fa))) (l : K.lookup fa = some ⟨oc, od, .func (PySem.W.fnOf (Str.ofString f) (Str.ofString f) (defArgs st) (defBody st) (defScope st) .none kV doc pm an (.ref c) ct), osl⟩)
    (cc : PySem.W.codeIn K (.ref c) (Str.ofString f) = true) (k : PySem.W.keepIn K (.ref fa) = true) (hl : (c, P, Str.ofString f ++ ".<locals>." ++ "<lambda>") ∈ tt.t) : DefAt K mg D f fd :=
  .mk1 X G S hc hb hk a l cc k fun _ => ⟨c, P, rfl, hl⟩
/-- the tables -/
theorem tabs_nil {Q : Addr × Addr × Str → Prop} : ∀ p ∈ ([] : List (Addr × Addr × Str)), Q p := fun p h => by cases h
theorem tabs_cons {p : Program} {loose : List Str} {mean : ExcName → Option Value} {mg mb : Str → Option Value} {h : Heap} {K : PySem.W.Frag} {x q : Str} {d : DefRec} {c P : Addr} {r : List (Addr × Addr × Str)} (T : Top p loose mean mg mb h) (X : K.In h)
    {f : Addr} {fd : FuncData} {o1 o3 : Value} {d1 d3 : Option Addr} {s1 s3 : Array (Option Value)} {vs : Array Value}
    (hr : (recsOf p).find? (fun e => e.name == x) = some d) (h1 : PySem.W.nsIn K mainGlobals x = some (some (.ref f))) (h2 : K.lookup f = some ⟨o1, d1, .func fd, s1⟩) (h3 : fd.code = .ref c) (h4 : K.lookup c = some ⟨o3, d3, .fields vs, s3⟩) (h5 : vs[11]? = some (.ref P)) (hn : K.lookup P = none) (rest : ∀ y ∈ r, h.get? y.2.1 = some (PySem.W.tabObj #[]) ∧ K.lookup y.2.1 = none ∧ PySem.W.CodeHd h y.1 y.2.1) :
    ∀ y ∈ (c, P, q) :: r, h.get? y.2.1 = some (PySem.W.tabObj #[]) ∧ K.lookup y.2.1 = none ∧ PySem.W.CodeHd h y.1 y.2.1 := fun y hy => by
  rcases List.mem_cons.mp hy with rfl | hy
  · have ht : PySem.W.tabIn K x = some (c, P) := by
      unfold PySem.W.tabIn
      rw [h1]
      dsimp only
      rw [h2]
      dsimp only
      rw [h3]
      dsimp only
      rw [h4]
      dsimp only
      rw [h5]
    have z := PySem.W.tab_of T X hr ht
    exact ⟨z.2, hn, z.1⟩
  · exact rest y hy
/-- the table of one maker -/
theorem mk_one {K : PySem.W.Frag} {h : Heap} {c P : Addr} (X : K.In h) (hc : PySem.W.codeHdIn K c P = true) (hP : h.get? P = some (PySem.W.tabObj #[])) (hn : K.lookup P = none) : h.get? P = some (PySem.W.tabObj #[]) ∧ K.lookup P = none ∧ PySem.W.CodeHd h c P := ⟨hP, hn, PySem.W.codeHd_of_K X hc⟩
end MP

set_option Elab.async false
set_option linter.all false
set_option maxRecDepth 100000
/-! MiniPy, part U: reasoning about the evaluator -/
namespace MP
open PySem
def Go {α : Type} (r : R α) (Q : α → Hh → Prop) : Prop := match r with
  | .ok a h => Q a h
  | _ => False
section
variable {α β : Type}
theorem Go_ok (a : α) (h : Hh) (Q : α → Hh → Prop) : Go (.ok a h) Q = Q a h := rfl
theorem Go_bd (r : R α) (f : α → Hh → R β) (Q : β → Hh → Prop) : Go (r.bd f) Q = Go r (fun a h => Go (f a h) Q) := by
  cases r <;> rfl
theorem Go_congr {r r' : R α} {Q : α → Hh → Prop} (h : r = r') : Go r Q = Go r' Q := by rw [h]
theorem Go.mono {r : R α} {Q Q' : α → Hh → Prop} (g : Go r Q) (k : ∀ a h, Q a h → Q' a h) : Go r Q' := by
  cases r with
  | ok a h => exact k a h g
  | exc _ _ _ => exact g
  | bad => exact g
theorem Go.ex {r : R α} {Q : α → Hh → Prop} (g : Go r Q) : ∃ a h, r = .ok a h ∧ Q a h := by
  cases r with
  | ok a h => exact ⟨a, h, rfl, g⟩
  | exc _ _ _ => exact g.elim
  | bad => exact g.elim
theorem Go.of {r : R α} {Q : α → Hh → Prop} {a : α} {h : Hh} (e : r = .ok a h) (q : Q a h) : Go r Q := by
  rw [e]
  exact q
end
/-! ### a call -/
def FlQ (Q : T → Hh → Prop) : Fl × Ls → Hh → Prop := fun p h => match p.1 with
  | .rt t => Q t h
  | .nx => Q .non h
  | _ => False
theorem Go_fin (r : R (Fl × Ls)) (Q : T → Hh → Prop) : Go (fin r) Q = Go r (FlQ Q) := by
  match r with
  | .ok (.nx, l) h => rfl
  | .ok (.rt t, l) h => rfl
  | .ok (.bk, l) h => rfl
  | .ok (.ct, l) h => rfl
  | .ok (.xc _ _, l) h => rfl
  | .exc _ _ _ => rfl
  | .bad => rfl
theorem FlQ_rt (Q : T → Hh → Prop) (t : T) (l : Ls) (h : Hh) : FlQ Q (.rt t, l) h = Q t h := rfl
theorem FlQ_nx (Q : T → Hh → Prop) (l : Ls) (h : Hh) : FlQ Q (.nx, l) h = Q .non h := rfl
theorem callN_go {D : Tbl} {n : Nat} {f : String} {fd : FD} {as : List T} {h : Hh} {Q : T → Hh → Prop} (e : D.fn f = some fd) (l : as.length = fd.ps.length) (g : Go (evSs D (callN D n) fd.body (startL fd as) h) (FlQ Q)) : Go (callN D (n + 1) f as h) Q := by
  unfold callN
  rw [e]
  dsimp only
  rw [if_pos l, Go_fin]
  exact g
theorem wtOk_of {w : Wt} {h : Hh} (e : ∀ p ∈ w, lsT h p.1 = some p.2) : wtOk w h = true := by
  unfold wtOk
  exact @decide_eq_true _ (Classical.propDecidable _) e
/-! ### ways of a text -/
theorem evFor_go {w : Wt} {asg : T → Ls → Hh → R Ls} {body : Ls → Hh → R (Fl × Ls)} {Q : Fl × Ls → Hh → Prop} (J : Nat → Ls → Hh → Prop) (hw : ∀ i l h, J i l h → ∀ p ∈ w, lsT h p.1 = some p.2) :
    ∀ {xs : List T} {ls : Ls} {h : Hh} (k : Nat), J k ls h → (∀ i x l h, xs[i]? = some x → J (k + i) l h → Go (asg x l h) fun l1 h1 => Go (body l1 h1) fun p h2 => match p.1 with
      | .nx => J (k + i + 1) p.2 h2
      | .ct => J (k + i + 1) p.2 h2
      | .bk => Q (.nx, p.2) h2
      | .rt t => Q (.rt t, p.2) h2
      | .xc c fs => Q (.xc c fs, p.2) h2) → (∀ l h, J (k + xs.length) l h → Q (.nx, l) h) → Go (evFor w asg body xs ls h) Q
  | [], ls, h, k, h0, _, hd => by
    unfold evFor
    have : wtOk w h = true := by
      exact wtOk_of (hw k ls h h0)
    rw [if_pos this, Go_ok]
    exact hd ls h h0
  | x :: xs, ls, h, k, h0, hs, hd => by
    unfold evFor
    have : wtOk w h = true := by
      exact wtOk_of (hw k ls h h0)
    rw [if_pos this, Go_bd]
    refine (hs 0 x ls h rfl h0).mono fun l1 h1 g => ?_
    rw [Go_bd]
    refine g.mono fun p h2 q => ?_
    have go1 : ∀ l h', J (k + 0 + 1) l h' → Go (evFor w asg body xs l h') Q := fun l h' q => evFor_go J hw (k + 0 + 1) q (fun i y l h hi hj => by
      have e : k + 0 + 1 + i = k + (i + 1) := by omega
      rw [e] at hj ⊢
      exact hs (i + 1) y l h hi hj) (fun l h hj => hd l h (by
        have e : k + 0 + 1 + xs.length = k + (x :: xs).length := by
          rw [List.length_cons]
          omega
        rw [e] at hj
        exact hj))
    obtain ⟨f, l2⟩ := p
    cases f with
    | nx => exact go1 l2 h2 q
    | ct => exact go1 l2 h2 q
    | bk => exact q
    | rt t => exact q
    | xc c fs => exact q
theorem for_go {w : Wt} {asg : T → Ls → Hh → R Ls} {body : Ls → Hh → R (Fl × Ls)} {Q : Fl × Ls → Hh → Prop} {xs : List T} {ls : Ls} {h : Hh} (J : Nat → Ls → Hh → Prop) (h0 : J 0 ls h) (hw : ∀ i l h, J i l h → ∀ p ∈ w, lsT h p.1 = some p.2)
    (hs : ∀ i x l h, xs[i]? = some x → J i l h → Go (asg x l h) fun l1 h1 => Go (body l1 h1) fun p h2 => match p.1 with
      | .nx => J (i + 1) p.2 h2
      | .ct => J (i + 1) p.2 h2
      | .bk => Q (.nx, p.2) h2
      | .rt t => Q (.rt t, p.2) h2
      | .xc c fs => Q (.xc c fs, p.2) h2) (hd : ∀ l h, J xs.length l h → Q (.nx, l) h) : Go (evFor w asg body xs ls h) Q :=
  evFor_go J hw 0 h0 (fun i x l h hi hj => by
    rw [Nat.zero_add] at hj ⊢
    exact hs i x l h hi hj) (fun l h hj => by
    rw [Nat.zero_add] at hj
    exact hd l h hj)
theorem evComp_go {w : Wt} {asg : T → Ls → Hh → R Ls} {c elt : Ls → Hh → R T} {ls : Ls} {Q : T → Hh → Prop} (J : Nat → List T → Hh → Prop) (hw : ∀ i a h, J i a h → ∀ p ∈ w, lsT h p.1 = some p.2) :
    ∀ {xs acc : List T} {h : Hh} (k : Nat), J k acc h → (∀ i x a h, xs[i]? = some x → J (k + i) a h → Go (asg x ls h) fun l1 h1 => Go (c l1 h1) fun b h2 => (b = .bl false ∧ J (k + i + 1) a h2) ∨ (b = .bl true ∧ a.length < 16777216 ∧ Go (elt l1 h2) fun y h3 => J (k + i + 1) (a ++ [y]) h3)) →
      (∀ a h, J (k + xs.length) a h → Q (.ref h.length) (h ++ [.lst a])) → Go (evComp w asg c elt ls xs acc h) Q
  | [], acc, h, k, h0, _, hd => by
    unfold evComp
    have : wtOk w h = true := by
      exact wtOk_of (hw k acc h h0)
    rw [if_pos this, Go_ok]
    exact hd acc h h0
  | x :: xs, acc, h, k, h0, hs, hd => by
    unfold evComp
    have : wtOk w h = true := by
      exact wtOk_of (hw k acc h h0)
    rw [if_pos this, Go_bd]
    refine (hs 0 x acc h rfl h0).mono fun l1 h1 g => ?_
    rw [Go_bd]
    refine g.mono fun b h2 q => ?_
    have go1 : ∀ a h', J (k + 0 + 1) a h' → Go (evComp w asg c elt ls xs a h') Q := fun a h' q => evComp_go J hw (k + 0 + 1) q (fun i y a h hi hj => by
      have e : k + 0 + 1 + i = k + (i + 1) := by omega
      rw [e] at hj ⊢
      exact hs (i + 1) y a h hi hj) (fun a h hj => hd a h (by
        have e : k + 0 + 1 + xs.length = k + (x :: xs).length := by
          rw [List.length_cons]
          omega
        rw [e] at hj
        exact hj))
    rcases q with ⟨rfl, q⟩ | ⟨rfl, hl, q⟩
    · exact go1 acc h2 q
    · dsimp only
      rw [Go_bd]
      refine q.mono fun y h3 r => ?_
      rw [if_pos hl]
      exact go1 _ h3 r
theorem comp_go {w : Wt} {asg : T → Ls → Hh → R Ls} {c elt : Ls → Hh → R T} {ls : Ls} {Q : T → Hh → Prop} {xs : List T} {h : Hh} (J : Nat → List T → Hh → Prop) (h0 : J 0 [] h) (hw : ∀ i a h, J i a h → ∀ p ∈ w, lsT h p.1 = some p.2)
    (hs : ∀ i x a h, xs[i]? = some x → J i a h → Go (asg x ls h) fun l1 h1 => Go (c l1 h1) fun b h2 => (b = .bl false ∧ J (i + 1) a h2) ∨ (b = .bl true ∧ a.length < 16777216 ∧ Go (elt l1 h2) fun y h3 => J (i + 1) (a ++ [y]) h3))
    (hd : ∀ a h, J xs.length a h → Q (.ref h.length) (h ++ [.lst a])) : Go (evComp w asg c elt ls xs [] h) Q :=
  evComp_go J hw 0 h0 (fun i x a h hi hj => by
    rw [Nat.zero_add] at hj ⊢
    exact hs i x a h hi hj) (fun l h hj => by
    rw [Nat.zero_add] at hj
    exact hd l h hj)
theorem whileN_up {c : Ls → Hh → R T} {body : Ls → Hh → R (Fl × Ls)} : ∀ (n : Nat) {ls : Ls} {h : Hh}, whileN c body n ls h ≠ .bad → whileN c body (n + 1) ls h = whileN c body n ls h
  | 0, ls, h, e => absurd rfl e
  | n + 1, ls, h, e => by
    rw [whileN] at e
    rw [whileN]
    rw [show whileN c body (n + 1) ls h = _ from by rw [whileN]]
    cases q : c ls h with
    | ok b h1 =>
      rw [q] at e
      rw [R.bd_ok] at e ⊢
      rw [R.bd_ok]
      match b, e with
      | .bl false, e => rfl
      | .bl true, e =>
        dsimp only at e ⊢
        cases q2 : body ls h1 with
        | ok p h2 =>
          rw [q2] at e
          rw [R.bd_ok] at e ⊢
          rw [R.bd_ok]
          obtain ⟨f, l⟩ := p
          cases f with
          | nx => exact whileN_up n e
          | ct => exact whileN_up n e
          | bk => rfl
          | rt t => rfl
          | xc c fs => rfl
        | exc _ _ _ => rfl
        | bad => rfl
      | .non, e => rfl
      | .int _, e => rfl
      | .str _, e => rfl
      | .tup _, e => rfl
      | .fz _, e => rfl
      | .ref _, e => rfl
      | .fn _, e => rfl
    | exc _ _ _ => rfl
    | bad => rfl
theorem whileN_le {c : Ls → Hh → R T} {body : Ls → Hh → R (Fl × Ls)} {ls : Ls} {h : Hh} (n : Nat) (e : whileN c body n ls h ≠ .bad) : ∀ k, whileN c body (n + k) ls h = whileN c body n ls h
  | 0 => rfl
  | k + 1 => by
    have ih := whileN_le n e k
    rw [← Nat.add_assoc, whileN_up (n + k) (by rw [ih]; exact e), ih]
theorem whileW_eq {c : Ls → Hh → R T} {body : Ls → Hh → R (Fl × Ls)} {ls : Ls} {h : Hh} (n : Nat) (e : whileN c body n ls h ≠ .bad) : whileW c body ls h = whileN c body n ls h := by
  unfold whileW
  have x : ∃ n, whileN c body n ls h ≠ .bad := ⟨n, e⟩
  rw [dif_pos x]
  have y := x.choose_spec
  rcases Nat.le_total n x.choose with z | z
  · obtain ⟨k, ek⟩ := Nat.exists_eq_add_of_le z
    rw [ek]
    exact whileN_le n e k
  · obtain ⟨k, ek⟩ := Nat.exists_eq_add_of_le z
    have := whileN_le x.choose y k
    rw [← ek] at this
    exact this.symm
theorem while_go {c : Ls → Hh → R T} {body : Ls → Hh → R (Fl × Ls)} {Q : Fl × Ls → Hh → Prop} (J : Nat → Ls → Hh → Prop)
    (hs : ∀ m l h, J m l h → Go (c l h) fun b h1 => (b = .bl false ∧ Q (.nx, l) h1) ∨ (b = .bl true ∧ Go (body l h1) fun p h2 => match p.1 with
      | .nx => ∃ k, k < m ∧ J k p.2 h2
      | .ct => ∃ k, k < m ∧ J k p.2 h2
      | .bk => Q (.nx, p.2) h2
      | .rt t => Q (.rt t, p.2) h2
      | .xc c fs => Q (.xc c fs, p.2) h2)) {m : Nat} {ls : Ls} {h : Hh} (h0 : J m ls h) : Go (whileW c body ls h) Q := by
  have key : ∀ m ls h, J m ls h → ∃ n, Go (whileN c body n ls h) Q := by
    intro m
    induction m using Nat.strongRecOn with
    | _ m ih =>
      intro ls h hj
      obtain ⟨b, h1, e1, q⟩ := (hs m ls h hj).ex
      rcases q with ⟨rfl, q⟩ | ⟨rfl, q⟩
      · refine ⟨1, ?_⟩
        rw [whileN, e1]
        exact q
      · obtain ⟨⟨f, l2⟩, h2, e2, q⟩ := q.ex
        cases f with
        | nx =>
          obtain ⟨k, hk, hj2⟩ := q
          obtain ⟨n, g⟩ := ih k hk l2 h2 hj2
          refine ⟨n + 1, ?_⟩
          rw [whileN, e1, R.bd_ok]
          dsimp only
          rw [e2]
          exact g
        | ct =>
          obtain ⟨k, hk, hj2⟩ := q
          obtain ⟨n, g⟩ := ih k hk l2 h2 hj2
          refine ⟨n + 1, ?_⟩
          rw [whileN, e1, R.bd_ok]
          dsimp only
          rw [e2]
          exact g
        | bk =>
          refine ⟨1, ?_⟩
          rw [whileN, e1, R.bd_ok]
          dsimp only
          rw [e2]
          exact q
        | rt t =>
          refine ⟨1, ?_⟩
          rw [whileN, e1, R.bd_ok]
          dsimp only
          rw [e2]
          exact q
        | xc c fs =>
          refine ⟨1, ?_⟩
          rw [whileN, e1, R.bd_ok]
          dsimp only
          rw [e2]
          exact q
  obtain ⟨n, g⟩ := key m ls h h0
  have ne : whileN c body n ls h ≠ .bad := fun z => by
    rw [z] at g
    exact g
  rw [whileW_eq n ne]
  exact g

/-! ### heaps -/
/-- but for the objects of S, what stood stands -/
structure Keep (S : List Nat) (h h' : Hh) : Prop where
  le : h.length ≤ h'.length
  at_ : ∀ n o, n ∉ S → h[n]? = some o → h'[n]? = some o
section
variable {S S' : List Nat} {h h' h1 h2 : Hh}
theorem Keep.refl : Keep S h h := ⟨Nat.le_refl _, fun _ _ _ e => e⟩
theorem Keep.trans (a : Keep S h h1) (b : Keep S h1 h2) : Keep S h h2 := ⟨Nat.le_trans a.le b.le, fun n o hn e => b.at_ n o hn (a.at_ n o hn e)⟩
theorem Keep.sub (a : Keep S h h1) (b : ∀ n ∈ S, n ∈ S') : Keep S' h h1 := ⟨a.le, fun n o hn e => a.at_ n o (fun z => hn (b n z)) e⟩
theorem Keep.nil (a : Keep [] h h1) : Keep S h h1 := a.sub fun _ z => by simp at z
theorem Keep.app (o : List O) : Keep S h (h ++ o) := ⟨by simp, fun n u _ e => by
  have := (List.getElem?_eq_some_iff.mp e).1
  rw [List.getElem?_append_left this]
  exact e⟩
theorem Keep.set {n : Nat} {o : O} (hn : n ∈ S) : Keep S h (h.set n o) := ⟨by simp, fun m u hm e => by
  rw [List.getElem?_set_ne fun z : n = m => hm (z ▸ hn)]
  exact e⟩
/-- an object that came after may be changed -/
theorem Keep.fresh {n : Nat} {o : O} (a : Keep S h h1) (hn : h.length ≤ n) : Keep S h (h1.set n o) := ⟨by simpa using a.le, fun m u hm e => by
  have := (List.getElem?_eq_some_iff.mp e).1
  rw [List.getElem?_set_ne (by omega)]
  exact a.at_ m u hm e⟩
theorem Keep.lst {n : Nat} {xs : List T} (a : Keep S h h1) (hn : n ∉ S) (e : h[n]? = some (.lst xs)) : h1[n]? = some (.lst xs) := a.at_ n _ hn e
end
end MP

set_option Elab.async false
set_option linter.all false
set_option maxRecDepth 100000
/-! MiniPy, part V: the evaluator by rewriting; what is behind stands in an instance, which simp leaves alone -/
namespace MP
open PySem L2
class Po (α : Type) where
  q : α → Hh → Prop
def Gx {α : Type} (r : R α) [P : Po α] : Prop := Go r P.q
class Two where
  a : Prop
  b : Prop
def IfX (b : Bool) [P : Two] : Prop := (b = true → P.a) ∧ (b = false → P.b)
theorem ifx_t {p q : Prop} : (IfX true (P := ⟨p, q⟩)) = p := propext ⟨fun h => h.1 rfl, fun h => ⟨fun _ => h, fun z => (by cases z)⟩⟩
theorem ifx_f {p q : Prop} : (IfX false (P := ⟨p, q⟩)) = q := propext ⟨fun h => h.2 rfl, fun h => ⟨fun z => (by cases z), fun _ => h⟩⟩
theorem ifx_n {b : Bool} {p q : Prop} : (IfX (!b) (P := ⟨p, q⟩)) = IfX b (P := ⟨q, p⟩) := by
  cases b
  · exact ifx_t.trans ifx_f.symm
  · exact ifx_f.trans ifx_t.symm
theorem ifx_dt {r p q : Prop} [Decidable r] (h : r) (g : p) : IfX (decide r) (P := ⟨p, q⟩) := by
  rw [decide_eq_true h, ifx_t]
  exact g
theorem ifx_df {r p q : Prop} [Decidable r] (h : ¬r) (g : q) : IfX (decide r) (P := ⟨p, q⟩) := by
  rw [decide_eq_false h, ifx_f]
  exact g
theorem ifx_by {r p q : Prop} [Decidable r] (h1 : r → p) (h2 : ¬r → q) : IfX (decide r) (P := ⟨p, q⟩) := ⟨fun z => h1 (of_decide_eq_true z), fun z => h2 (of_decide_eq_false z)⟩
theorem ifx_cs {b : Bool} {p q : Prop} (h1 : b = true → p) (h2 : b = false → q) : IfX b (P := ⟨p, q⟩) := ⟨h1, h2⟩
section
variable {α β : Type}
theorem gx_ok (a : α) (h : Hh) (Q : α → Hh → Prop) : (Gx (.ok a h) (P := ⟨Q⟩)) = Q a h := propext ⟨fun q => q, fun q => q⟩
theorem gx_bd (r : R α) (f : α → Hh → R β) (Q : β → Hh → Prop) : (Gx (r.bd f) (P := ⟨Q⟩)) = Gx r (P := ⟨fun a h => Gx (f a h) (P := ⟨Q⟩)⟩) := Go_bd r f Q
theorem gx_mono {r : R α} {Q Q' : α → Hh → Prop} (g : Gx r (P := ⟨Q⟩)) (k : ∀ a h, Q a h → Q' a h) : Gx r (P := ⟨Q'⟩) := Go.mono g k
theorem gx_ex {r : R α} {Q : α → Hh → Prop} (g : Gx r (P := ⟨Q⟩)) : ∃ a h, r = .ok a h ∧ Q a h := Go.ex g
theorem gx_of {r : R α} {Q : α → Hh → Prop} {a : α} {h : Hh} (e : r = .ok a h) (q : Q a h) : Gx r (P := ⟨Q⟩) := Go.of e q
end
/-! ### the evaluator's own branches, named -/
def lkR (o : Option (Option T)) (h : Hh) : R T := match o with
  | some (some t) => .ok t h
  | _ => .bad
def negR (x : T) (h : Hh) : R T := match x with
  | .int i => .ok (.int (-i)) h
  | .bl b => .ok (.int (-(b2I b))) h
  | _ => .bad
def notR (x : T) (h : Hh) : R T := match x with
  | .bl b => .ok (.bl (!b)) h
  | _ => .bad
def cndR {α : Type} (x : T) (r1 r2 : R α) : R α := match x with
  | .bl true => r1
  | .bl false => r2
  | _ => .bad
def isiR (ts : List String) (x : T) (h : Hh) : R T := match typeN h x with
  | some n => .ok (.bl (ts.any (isiT1 n))) h
  | none => .bad
def oiR (x : T) (h : Hh) : R (Option Int) := match x with
  | .int i => .ok (some i) h
  | _ => .bad
def r1R (x : T) (h : Hh) : R (List T × Wt) := match x with
  | .int i => if rgOk 0 i = true then .ok (rangeT 0 i, []) h else .bad
  | _ => .bad
def r2R (x y : T) (h : Hh) : R (List T × Wt) := match x, y with
  | .int i, .int j => if rgOk i j = true then .ok (rangeT i j, []) h else .bad
  | _, _ => .bad
def valR (x : T) (h : Hh) : R (List T × Wt) := match x with
  | .tup xs => .ok (xs, []) h
  | x => match lsT h x with
    | some xs => .ok (xs, [(x, xs)]) h
    | none => .bad
def r3R (x y z : T) (h : Hh) : R (List T × Wt) := match x, y, z with
  | .int i, .int j, .int (-1) => if rgOk i j = true then .ok (rangeC i (-1) (i - j).toNat, []) h else .bad
  | _, _, _ => .bad
def enumR (x : T) (h : Hh) : R (List T × Wt) := match x with
  | .tup xs => .ok (enumT 0 xs, []) h
  | x => match lsT h x with
    | some xs => .ok (enumT 0 xs, [(x, xs)]) h
    | none => .bad
def dicR (p : List T × List T) (h : Hh) : R T := match keysT p.1 with
  | some ks => match mergeKT [] ks p.2 with
    | some kvs => .ok (.ref h.length) (h ++ [.dK kvs])
    | none => .bad
  | none => .bad
def optR {α : Type} (o : Option α) (h : Hh) : R α := match o with
  | some v => .ok v h
  | none => .bad
def obR (o : Option Bool) (h : Hh) : R T := match o with
  | some v => .ok (.bl v) h
  | none => .bad
def finR (p : Fl × Ls) (h : Hh) : R T := match p.1 with
  | .rt t => .ok t h
  | .nx => .ok .non h
  | _ => .bad
noncomputable def seqR (D : Tbl) (C : String → List T → Hh → R T) (ss : CSs) (p : Fl × Ls) (h : Hh) : R (Fl × Ls) := match p.1 with
  | .nx => evSs D C ss p.2 h
  | f => .ok (f, p.2) h
noncomputable def mthR (D : Tbl) (C : String → List T → Hh → R T) (m : Mth) (as : CEs) (ls : Ls) (x : T) (h : Hh) : R T := if typeN h x = some m.ty then (evEs D C as ls h).bd fun ys h2 => mthT m x ys h2 else .bad
noncomputable def kwR (D : Tbl) (C : String → List T → Hh → R T) (f : String) (xs ys : List T) (ks : List String) (h : Hh) : R T := match D.fn f with
  | some fd => match ordK fd.ps xs.length xs ks ys with
    | some zs => C f zs h
    | none => .bad
  | none => .bad
noncomputable def xR (D : Tbl) (C : String → List T → Hh → R T) (f : String) (xs : List T) (ks : List String) (ys : List T) (h : Hh) : R Fl := match argX D f xs ks ys with
  | some zs => flX (C f zs h)
  | none => .bad
def exprR (ls : Ls) (fl : Fl) (h : Hh) : R (Fl × Ls) := match fl with
  | .rt _ => .ok (.nx, ls) h
  | fl => .ok (fl, ls) h
noncomputable def setXR (D : Tbl) (C : String → List T → Hh → R T) (t : Tg) (ls : Ls) (fl : Fl) (h : Hh) : R (Fl × Ls) := match fl with
  | .rt x => (evG D C t x ls h).bd fun l h2 => .ok (.nx, l) h2
  | fl => .ok (fl, ls) h
noncomputable def tdR (D : Tbl) (C : String → List T → Hh → R T) (g f : String) (oxs : Option (List T)) (ks : List String) (oys : Option (List T)) (h : Hh) : R T := match oxs, oys with
  | some xs, some ys => match D.td g, argX D f xs ks ys with
    | some hs, some zs => toldT hs (C f zs h)
    | _, _ => .bad
  | _, _ => .bad
noncomputable def compR (D : Tbl) (C : String → List T → Hh → R T) (own : List Nat) (tg : Tg) (c : CO) (elt : CE) (ls : Ls) (p : List T × Wt) (h : Hh) : R T :=
  evComp p.2 (fun x l hh => evG D C tg x l hh) (fun l hh => evC D C c l hh) (fun l hh => evE D C elt l hh) (wipeL ls own) p.1 [] h
noncomputable def forR (D : Tbl) (C : String → List T → Hh → R T) (t : Tg) (body : CSs) (ls : Ls) (p : List T × Wt) (h : Hh) : R (Fl × Ls) := evFor p.2 (fun x l hh => evG D C t x l hh) (fun l hh => evSs D C body l hh) p.1 ls h
noncomputable def whlR (D : Tbl) (C : String → List T → Hh → R T) (c : CE) (body : CSs) (ls : Ls) (h : Hh) : R (Fl × Ls) := whileW (fun l hh => evE D C c l hh) (fun l hh => evSs D C body l hh) ls h
def augR (op : Bop) (i : Nat) (ls : Ls) (x y : T) (h : Hh) : R (Fl × Ls) := match x, y with
  | .int a, .int b => match op with
    | .add => .ok (.nx, ls.set i (some (.int (a + b)))) h
    | .sub => .ok (.nx, ls.set i (some (.int (a - b)))) h
    | _ => .bad
  | _, _ => .bad
noncomputable def augO (D : Tbl) (C : String → List T → Hh → R T) (op : Bop) (i : Nat) (e : CE) (ls : Ls) (h : Hh) (o : Option (Option T)) : R (Fl × Ls) := match o with
  | some (some x) => (evE D C e ls h).bd fun y h1 => augR op i ls x y h1
  | _ => .bad
noncomputable def gtupR (D : Tbl) (C : String → List T → Hh → R T) (ts : Tgs) (x : T) (ls : Ls) (h : Hh) : R Ls := match x with
  | .tup xs => evGs D C ts xs ls h
  | _ => .bad
section
variable {D : Tbl} {C : String → List T → Hh → R T} {ls : Ls} {h : Hh}

theorem x_var {i : Nat} {Q : T → Hh → Prop} : (Gx (evE D C (.var i) ls h) (P := ⟨Q⟩)) = Gx (lkR ls[i]? h) (P := ⟨Q⟩) := propext ⟨fun q => q, fun q => q⟩
theorem x_int {i : Int} {Q : T → Hh → Prop} : (Gx (evE D C (.int i) ls h) (P := ⟨Q⟩)) = Q (.int i) h := propext ⟨fun q => q, fun q => q⟩
theorem x_bl {i : Bool} {Q : T → Hh → Prop} : (Gx (evE D C (.bl i) ls h) (P := ⟨Q⟩)) = Q (.bl i) h := propext ⟨fun q => q, fun q => q⟩
theorem x_non  {Q : T → Hh → Prop} : (Gx (evE D C .non ls h) (P := ⟨Q⟩)) = Q .non h := propext ⟨fun q => q, fun q => q⟩
theorem x_str {x : String} {Q : T → Hh → Prop} : (Gx (evE D C (.str x) ls h) (P := ⟨Q⟩)) = Q (.str (Str.ofString x)) h := propext ⟨fun q => q, fun q => q⟩
theorem x_bin {op : Bop} {a b : CE} {Q : T → Hh → Prop} : (Gx (evE D C (.bin op a b) ls h) (P := ⟨Q⟩)) = Gx (evE D C a ls h) (P := ⟨fun x h1 => Gx (evE D C b ls h1) (P := ⟨fun y h2 => Gx (binT op x y h2) (P := ⟨Q⟩)⟩)⟩) := by simp only [Gx, evE, evEs, evKV, evO, evC, evI, evG, evGs, Go_bd, Go_ok] <;> rfl
theorem x_cmp {op : Cop} {a b : CE} {Q : T → Hh → Prop} : (Gx (evE D C (.cmp op a b) ls h) (P := ⟨Q⟩)) = Gx (evE D C a ls h) (P := ⟨fun x h1 => Gx (evE D C b ls h1) (P := ⟨fun y h2 => Gx (cmpT op x y h2) (P := ⟨Q⟩)⟩)⟩) := by simp only [Gx, evE, evEs, evKV, evO, evC, evI, evG, evGs, Go_bd, Go_ok] <;> rfl
theorem x_idx {a b : CE} {Q : T → Hh → Prop} : (Gx (evE D C (.idx a b) ls h) (P := ⟨Q⟩)) = Gx (evE D C a ls h) (P := ⟨fun x h1 => Gx (evE D C b ls h1) (P := ⟨fun y h2 => Gx (idxT x y h2) (P := ⟨Q⟩)⟩)⟩) := by simp only [Gx, evE, evEs, evKV, evO, evC, evI, evG, evGs, Go_bd, Go_ok] <;> rfl
theorem x_neg {a : CE} {Q : T → Hh → Prop} : (Gx (evE D C (.neg a) ls h) (P := ⟨Q⟩)) = Gx (evE D C a ls h) (P := ⟨fun x h1 => Gx (negR x h1) (P := ⟨Q⟩)⟩) := by simp only [Gx, evE, evEs, evKV, evO, evC, evI, evG, evGs, Go_bd, Go_ok] <;> rfl
theorem x_not {a : CE} {Q : T → Hh → Prop} : (Gx (evE D C (.not a) ls h) (P := ⟨Q⟩)) = Gx (evE D C a ls h) (P := ⟨fun x h1 => Gx (notR x h1) (P := ⟨Q⟩)⟩) := by simp only [Gx, evE, evEs, evKV, evO, evC, evI, evG, evGs, Go_bd, Go_ok] <;> rfl
theorem x_isN {a : CE} {Q : T → Hh → Prop} : (Gx (evE D C (.isN a) ls h) (P := ⟨Q⟩)) = Gx (evE D C a ls h) (P := ⟨fun x h1 => Q (.bl x.isNone) h1⟩) := by simp only [Gx, evE, evEs, evKV, evO, evC, evI, evG, evGs, Go_bd, Go_ok] <;> rfl
theorem x_isnN {a : CE} {Q : T → Hh → Prop} : (Gx (evE D C (.isnN a) ls h) (P := ⟨Q⟩)) = Gx (evE D C a ls h) (P := ⟨fun x h1 => Q (.bl (!x.isNone)) h1⟩) := by simp only [Gx, evE, evEs, evKV, evO, evC, evI, evG, evGs, Go_bd, Go_ok] <;> rfl
theorem x_rev {a : CE} {Q : T → Hh → Prop} : (Gx (evE D C (.rev a) ls h) (P := ⟨Q⟩)) = Gx (evE D C a ls h) (P := ⟨fun x h1 => Gx (revT x h1) (P := ⟨Q⟩)⟩) := by simp only [Gx, evE, evEs, evKV, evO, evC, evI, evG, evGs, Go_bd, Go_ok] <;> rfl
def glC (o : Option (Option T)) (r : Option (List T)) : Option (List T) := match o, r with
  | some (some t), some l => some (t :: l)
  | _, _ => none
theorem x_gl0 {ls : Ls} : getL ls [] = some [] := Eq.trans rfl rfl
theorem x_glc {ls : Ls} {i : Nat} {r : List Nat} : getL ls (i :: r) = glC ls[i]? (getL ls r) := by
  rw [getL]
  unfold glC
  cases ls[i]? with
  | none => rfl
  | some o =>
    cases o with
    | none => rfl
    | some t => cases getL ls r <;> rfl
theorem x_gl1 {t : T} {l : List T} : glC (some (some t)) (some l) = some (t :: l) := Eq.trans rfl rfl
theorem x_sset {a : CE} {Q : T → Hh → Prop} : (Gx (evE D C (.sset a) ls h) (P := ⟨Q⟩)) = Gx (evE D C a ls h) (P := ⟨fun x h1 => Gx (ssetT h1 x) (P := ⟨Q⟩)⟩) := by simp only [Gx, evE, evEs, evKV, evO, evC, evI, evG, evGs, Go_bd, Go_ok] <;> rfl
theorem x_lset {a : CE} {Q : T → Hh → Prop} : (Gx (evE D C (.lset a) ls h) (P := ⟨Q⟩)) = Gx (evE D C a ls h) (P := ⟨fun x h1 => Gx (lsetT h1 x) (P := ⟨Q⟩)⟩) := by simp only [Gx, evE, evEs, evKV, evO, evC, evI, evG, evGs, Go_bd, Go_ok] <;> rfl
theorem x_isiT {a : CE} {ts : List String} {Q : T → Hh → Prop} : (Gx (evE D C (.isiT a ts) ls h) (P := ⟨Q⟩)) = Gx (evE D C a ls h) (P := ⟨fun x h1 => Gx (isiR ts x h1) (P := ⟨Q⟩)⟩) := by simp only [Gx, evE, evEs, evKV, evO, evC, evI, evG, evGs, Go_bd, Go_ok] <;> rfl
theorem x_chn {op op2 : Cop} {a b c : CE} {Q : T → Hh → Prop} : (Gx (evE D C (.chn op op2 a b c) ls h) (P := ⟨Q⟩)) = Gx (evE D C a ls h) (P := ⟨fun x h1 => Gx (evE D C b ls h1) (P := ⟨fun y h2 => Gx (cmpT op x y h2) (P := ⟨fun z h3 => Gx (cndR z ((evE D C c ls h3).bd fun u h4 => cmpT op2 y u h4) (.ok (.bl false) h3)) (P := ⟨Q⟩)⟩)⟩)⟩) := by
  simp only [Gx, evE, Go_bd]
  rfl
theorem x_ite {c a b : CE} {Q : T → Hh → Prop} : (Gx (evE D C (.ite c a b) ls h) (P := ⟨Q⟩)) = Gx (evE D C c ls h) (P := ⟨fun z h1 => Gx (cndR z (evE D C a ls h1) (evE D C b ls h1)) (P := ⟨Q⟩)⟩) := by simp only [Gx, evE, evEs, evKV, evO, evC, evI, evG, evGs, Go_bd, Go_ok] <;> rfl
theorem x_and {es : CEs} {Q : T → Hh → Prop} : (Gx (evE D C (.and es) ls h) (P := ⟨Q⟩)) = Gx (evAnd D C es ls h) (P := ⟨Q⟩) := propext ⟨fun q => q, fun q => q⟩
theorem x_or {es : CEs} {Q : T → Hh → Prop} : (Gx (evE D C (.or es) ls h) (P := ⟨Q⟩)) = Gx (evOr D C es ls h) (P := ⟨Q⟩) := propext ⟨fun q => q, fun q => q⟩
theorem x_and1 {e : CE} {Q : T → Hh → Prop} : (Gx (evAnd D C (.cons e .nil) ls h) (P := ⟨Q⟩)) = Gx (evE D C e ls h) (P := ⟨Q⟩) := by
  simp only [Gx, evAnd, Go_bd, Go_ok]
theorem x_or1 {e : CE} {Q : T → Hh → Prop} : (Gx (evOr D C (.cons e .nil) ls h) (P := ⟨Q⟩)) = Gx (evE D C e ls h) (P := ⟨Q⟩) := by
  simp only [Gx, evOr, Go_bd, Go_ok]
theorem x_and2 {e e2 : CE} {es : CEs} {Q : T → Hh → Prop} : (Gx (evAnd D C (.cons e (.cons e2 es)) ls h) (P := ⟨Q⟩)) = Gx (evE D C e ls h) (P := ⟨fun z h1 => Gx (cndR z (evAnd D C (.cons e2 es) ls h1) (.ok (.bl false) h1)) (P := ⟨Q⟩)⟩) := by
  rw [evAnd]
  simp only [Gx, Go_bd]
  rfl
theorem x_or2 {e e2 : CE} {es : CEs} {Q : T → Hh → Prop} : (Gx (evOr D C (.cons e (.cons e2 es)) ls h) (P := ⟨Q⟩)) = Gx (evE D C e ls h) (P := ⟨fun z h1 => Gx (cndR z (.ok (.bl true) h1) (evOr D C (.cons e2 es) ls h1)) (P := ⟨Q⟩)⟩) := by
  rw [evOr]
  simp only [Gx, Go_bd]
  congr 1
  funext z h1
  match z with
  | .bl true => rfl
  | .bl false => rfl
  | .non => rfl
  | .int _ => rfl
  | .str _ => rfl
  | .tup _ => rfl
  | .fz _ => rfl
  | .ref _ => rfl
  | .fn _ => rfl
theorem x_tup {es : CEs} {Q : T → Hh → Prop} : (Gx (evE D C (.tup es) ls h) (P := ⟨Q⟩)) = Gx (evEs D C es ls h) (P := ⟨fun xs h1 => Gx (newT h1 xs) (P := ⟨Q⟩)⟩) := by simp only [Gx, evE, evEs, evKV, evO, evC, evI, evG, evGs, Go_bd, Go_ok] <;> rfl
theorem x_lst {es : CEs} {Q : T → Hh → Prop} : (Gx (evE D C (.lst es) ls h) (P := ⟨Q⟩)) = Gx (evEs D C es ls h) (P := ⟨fun xs h1 => Gx (newL h1 xs) (P := ⟨Q⟩)⟩) := by simp only [Gx, evE, evEs, evKV, evO, evC, evI, evG, evGs, Go_bd, Go_ok] <;> rfl
theorem x_dic {ps : CKs} {Q : T → Hh → Prop} : (Gx (evE D C (.dic ps) ls h) (P := ⟨Q⟩)) = Gx (evKV D C ps ls h) (P := ⟨fun p h1 => Gx (dicR p h1) (P := ⟨Q⟩)⟩) := by simp only [Gx, evE, evEs, evKV, evO, evC, evI, evG, evGs, Go_bd, Go_ok] <;> rfl
theorem x_slc {a : CE} {lo hi : CO} {Q : T → Hh → Prop} : (Gx (evE D C (.slc a lo hi) ls h) (P := ⟨Q⟩)) = Gx (evE D C a ls h) (P := ⟨fun x h1 => Gx (evO D C lo ls h1) (P := ⟨fun l h2 => Gx (evO D C hi ls h2) (P := ⟨fun u h3 => Gx (slcT x l u h3) (P := ⟨Q⟩)⟩)⟩)⟩) := by simp only [Gx, evE, evEs, evKV, evO, evC, evI, evG, evGs, Go_bd, Go_ok] <;> rfl
theorem x_call {f : String} {es : CEs} {Q : T → Hh → Prop} : (Gx (evE D C (.call f es) ls h) (P := ⟨Q⟩)) = Gx (evEs D C es ls h) (P := ⟨fun xs h1 => Gx (C f xs h1) (P := ⟨Q⟩)⟩) := by simp only [Gx, evE, evEs, evKV, evO, evC, evI, evG, evGs, Go_bd, Go_ok] <;> rfl
theorem x_new {c gd : String} {a : CE} {Q : T → Hh → Prop} : (Gx (evE D C (.new c gd a) ls h) (P := ⟨Q⟩)) = Gx (evE D C a ls h) (P := ⟨fun x h1 => Gx (C gd [x] h1) (P := ⟨fun _ h2 => Q (.ref h2.length) (h2 ++ [.ins c])⟩)⟩) := by simp only [Gx, evE, evEs, evKV, evO, evC, evI, evG, evGs, Go_bd, Go_ok] <;> rfl
theorem x_callK {f : String} {es vs : CEs} {ks : List String} {Q : T → Hh → Prop} : (Gx (evE D C (.callK f es ks vs) ls h) (P := ⟨Q⟩)) = Gx (evEs D C es ls h) (P := ⟨fun xs h1 => Gx (evEs D C vs ls h1) (P := ⟨fun ys h2 => Gx (kwR D C f xs ys ks h2) (P := ⟨Q⟩)⟩)⟩) := by simp only [Gx, evE, evEs, evKV, evO, evC, evI, evG, evGs, Go_bd, Go_ok] <;> rfl
theorem x_blt {b : Blt} {es : CEs} {Q : T → Hh → Prop} : (Gx (evE D C (.blt b es) ls h) (P := ⟨Q⟩)) = Gx (evEs D C es ls h) (P := ⟨fun xs h1 => Gx (bltT b xs h1) (P := ⟨Q⟩)⟩) := by simp only [Gx, evE, evEs, evKV, evO, evC, evI, evG, evGs, Go_bd, Go_ok] <;> rfl
theorem x_mth {m : Mth} {o : CE} {es : CEs} {Q : T → Hh → Prop} : (Gx (evE D C (.mth m o es) ls h) (P := ⟨Q⟩)) = Gx (evE D C o ls h) (P := ⟨fun x h1 => Gx (mthR D C m es ls x h1) (P := ⟨Q⟩)⟩) := by simp only [Gx, evE, evEs, evKV, evO, evC, evI, evG, evGs, Go_bd, Go_ok] <;> rfl
theorem x_rngL {it : CI} {Q : T → Hh → Prop} : (Gx (evE D C (.rngL it) ls h) (P := ⟨Q⟩)) = Gx (evI D C it ls h) (P := ⟨fun p h1 => Gx (newL h1 p.1) (P := ⟨Q⟩)⟩) := by simp only [Gx, evE, evEs, evKV, evO, evC, evI, evG, evGs, Go_bd, Go_ok] <;> rfl
theorem x_rngT {it : CI} {Q : T → Hh → Prop} : (Gx (evE D C (.rngT it) ls h) (P := ⟨Q⟩)) = Gx (evI D C it ls h) (P := ⟨fun p h1 => Gx (newT h1 p.1) (P := ⟨Q⟩)⟩) := by simp only [Gx, evE, evEs, evKV, evO, evC, evI, evG, evGs, Go_bd, Go_ok] <;> rfl
theorem x_comp {own : List Nat} {tg : Tg} {it : CI} {c : CO} {elt : CE} {Q : T → Hh → Prop} : (Gx (evE D C (.comp own tg it c elt) ls h) (P := ⟨Q⟩)) = Gx (evI D C it ls h) (P := ⟨fun p h1 => Gx (compR D C own tg c elt ls p h1) (P := ⟨Q⟩)⟩) := by simp only [Gx, evE, evEs, evKV, evO, evC, evI, evG, evGs, Go_bd, Go_ok] <;> rfl
theorem x_told {gg f : String} {is js : List Nat} {ks : List String} {Q : T → Hh → Prop} : (Gx (evE D C (.told gg f is ks js) ls h) (P := ⟨Q⟩)) = Gx (tdR D C gg f (getL ls is) ks (getL ls js) h) (P := ⟨Q⟩) := propext ⟨fun q => q, fun q => q⟩
theorem x_enil  {Q : List T → Hh → Prop} : (Gx (evEs D C .nil ls h) (P := ⟨Q⟩)) = Q [] h := propext ⟨fun q => q, fun q => q⟩
theorem x_econs {e : CE} {es : CEs} {Q : List T → Hh → Prop} : (Gx (evEs D C (.cons e es) ls h) (P := ⟨Q⟩)) = Gx (evE D C e ls h) (P := ⟨fun x h1 => Gx (evEs D C es ls h1) (P := ⟨fun xs h2 => Q (x :: xs) h2⟩)⟩) := by simp only [Gx, evE, evEs, evKV, evO, evC, evI, evG, evGs, Go_bd, Go_ok] <;> rfl
theorem x_kv0  {Q : (List T × List T) → Hh → Prop} : (Gx (evKV D C .nil ls h) (P := ⟨Q⟩)) = Q ([], []) h := propext ⟨fun q => q, fun q => q⟩
theorem x_kv {k e : CE} {r : CKs} {Q : (List T × List T) → Hh → Prop} : (Gx (evKV D C (.cons k e r) ls h) (P := ⟨Q⟩)) = Gx (evE D C k ls h) (P := ⟨fun x h1 => Gx (evE D C e ls h1) (P := ⟨fun y h2 => Gx (evKV D C r ls h2) (P := ⟨fun p h3 => Q (x :: p.1, y :: p.2) h3⟩)⟩)⟩) := by simp only [Gx, evE, evEs, evKV, evO, evC, evI, evG, evGs, Go_bd, Go_ok] <;> rfl
theorem x_ono  {Q : Option Int → Hh → Prop} : (Gx (evO D C .no ls h) (P := ⟨Q⟩)) = Q none h := propext ⟨fun q => q, fun q => q⟩
theorem x_oso {e : CE} {Q : Option Int → Hh → Prop} : (Gx (evO D C (.so e) ls h) (P := ⟨Q⟩)) = Gx (evE D C e ls h) (P := ⟨fun x h1 => Gx (oiR x h1) (P := ⟨Q⟩)⟩) := by simp only [Gx, evE, evEs, evKV, evO, evC, evI, evG, evGs, Go_bd, Go_ok] <;> rfl
theorem x_cno  {Q : T → Hh → Prop} : (Gx (evC D C .no ls h) (P := ⟨Q⟩)) = Q (.bl true) h := propext ⟨fun q => q, fun q => q⟩
theorem x_cso {e : CE} {Q : T → Hh → Prop} : (Gx (evC D C (.so e) ls h) (P := ⟨Q⟩)) = Gx (evE D C e ls h) (P := ⟨Q⟩) := propext ⟨fun q => q, fun q => q⟩
theorem x_val {e : CE} {Q : (List T × Wt) → Hh → Prop} : (Gx (evI D C (.val e) ls h) (P := ⟨Q⟩)) = Gx (evE D C e ls h) (P := ⟨fun x h1 => Gx (valR x h1) (P := ⟨Q⟩)⟩) := by simp only [Gx, evE, evEs, evKV, evO, evC, evI, evG, evGs, Go_bd, Go_ok] <;> rfl
theorem x_rng1 {a : CE} {Q : (List T × Wt) → Hh → Prop} : (Gx (evI D C (.rng1 a) ls h) (P := ⟨Q⟩)) = Gx (evE D C a ls h) (P := ⟨fun x h1 => Gx (r1R x h1) (P := ⟨Q⟩)⟩) := by simp only [Gx, evE, evEs, evKV, evO, evC, evI, evG, evGs, Go_bd, Go_ok] <;> rfl
theorem x_rng2 {a b : CE} {Q : (List T × Wt) → Hh → Prop} : (Gx (evI D C (.rng2 a b) ls h) (P := ⟨Q⟩)) = Gx (evE D C a ls h) (P := ⟨fun x h1 => Gx (evE D C b ls h1) (P := ⟨fun y h2 => Gx (r2R x y h2) (P := ⟨Q⟩)⟩)⟩) := by simp only [Gx, evE, evEs, evKV, evO, evC, evI, evG, evGs, Go_bd, Go_ok] <;> rfl
theorem x_rng3 {a b c : CE} {Q : (List T × Wt) → Hh → Prop} : (Gx (evI D C (.rng3 a b c) ls h) (P := ⟨Q⟩)) = Gx (evE D C a ls h) (P := ⟨fun x h1 => Gx (evE D C b ls h1) (P := ⟨fun y h2 => Gx (evE D C c ls h2) (P := ⟨fun z h3 => Gx (r3R x y z h3) (P := ⟨Q⟩)⟩)⟩)⟩) := by simp only [Gx, evI, Go_bd, Go_ok] <;> rfl
theorem x_enum {e : CE} {Q : (List T × Wt) → Hh → Prop} : (Gx (evI D C (.enum e) ls h) (P := ⟨Q⟩)) = Gx (evE D C e ls h) (P := ⟨fun x h1 => Gx (enumR x h1) (P := ⟨Q⟩)⟩) := by simp only [Gx, evE, evEs, evKV, evO, evC, evI, evG, evGs, Go_bd, Go_ok] <;> rfl
theorem x_gvar {i : Nat} {x : T} {Q : Ls → Hh → Prop} : (Gx (evG D C (.var i) x ls h) (P := ⟨Q⟩)) = (i < ls.length ∧ Q (ls.set i (some x)) h) := by
  simp only [Gx, evG]
  by_cases hi : i < ls.length
  · rw [if_pos hi, Go_ok]
    exact propext ⟨fun q => ⟨hi, q⟩, fun q => q.2⟩
  · rw [if_neg hi]
    exact propext ⟨fun q => q.elim, fun q => absurd q.1 hi⟩
theorem x_gtup {ts : Tgs} {x : T} {Q : Ls → Hh → Prop} : (Gx (evG D C (.tup ts) x ls h) (P := ⟨Q⟩)) = Gx (gtupR D C ts x ls h) (P := ⟨Q⟩) := propext ⟨fun q => q, fun q => q⟩
theorem x_gtupR {ts : Tgs} {xs : List T} {Q : Ls → Hh → Prop} : (Gx (gtupR D C ts (.tup xs) ls h) (P := ⟨Q⟩)) = Gx (evGs D C ts xs ls h) (P := ⟨Q⟩) := propext ⟨fun q => q, fun q => q⟩
theorem x_gsub {o i : CE} {x : T} {Q : Ls → Hh → Prop} : (Gx (evG D C (.sub o i) x ls h) (P := ⟨Q⟩)) = Gx (evE D C o ls h) (P := ⟨fun p h1 => Gx (evE D C i ls h1) (P := ⟨fun y h2 => Gx (setT p y x h2) (P := ⟨fun _ h3 => Q ls h3⟩)⟩)⟩) := by simp only [Gx, evE, evEs, evKV, evO, evC, evI, evG, evGs, Go_bd, Go_ok] <;> rfl
theorem x_gnil  {Q : Ls → Hh → Prop} : (Gx (evGs D C .nil [] ls h) (P := ⟨Q⟩)) = Q ls h := propext ⟨fun q => q, fun q => q⟩
theorem x_gcons {t : Tg} {ts : Tgs} {x : T} {xs : List T} {Q : Ls → Hh → Prop} : (Gx (evGs D C (.cons t ts) (x :: xs) ls h) (P := ⟨Q⟩)) = Gx (evG D C t x ls h) (P := ⟨fun l1 h1 => Gx (evGs D C ts xs l1 h1) (P := ⟨Q⟩)⟩) := by
  simp only [Gx, evGs, Go_bd]
theorem x_snil  {Q : (Fl × Ls) → Hh → Prop} : (Gx (evSs D C .nil ls h) (P := ⟨Q⟩)) = Q (.nx, ls) h := propext ⟨fun q => q, fun q => q⟩
theorem x_scons {s : CS} {ss : CSs} {Q : (Fl × Ls) → Hh → Prop} : (Gx (evSs D C (.cons s ss) ls h) (P := ⟨Q⟩)) = Gx (evS D C s ls h) (P := ⟨fun p h1 => Gx (seqR D C ss p h1) (P := ⟨Q⟩)⟩) := by
  rw [evSs]
  exact gx_bd _ _ _
theorem x_pass  {Q : (Fl × Ls) → Hh → Prop} : (Gx (evS D C .pass ls h) (P := ⟨Q⟩)) = Q (.nx, ls) h := propext ⟨fun q => q, fun q => q⟩
theorem x_expr {e : CE} {Q : (Fl × Ls) → Hh → Prop} : (Gx (evS D C (.expr e) ls h) (P := ⟨Q⟩)) = Gx (evE D C e ls h) (P := ⟨fun _ h1 => Q (.nx, ls) h1⟩) := by simp only [Gx, evS, Go_bd, Go_ok] <;> rfl
theorem x_ret {e : CE} {Q : (Fl × Ls) → Hh → Prop} : (Gx (evS D C (.ret e) ls h) (P := ⟨Q⟩)) = Gx (evE D C e ls h) (P := ⟨fun x h1 => Q (.rt x, ls) h1⟩) := by simp only [Gx, evS, Go_bd, Go_ok] <;> rfl
theorem x_retN  {Q : (Fl × Ls) → Hh → Prop} : (Gx (evS D C .retN ls h) (P := ⟨Q⟩)) = Q (.rt .non, ls) h := propext ⟨fun q => q, fun q => q⟩
theorem x_set {t : Tg} {e : CE} {Q : (Fl × Ls) → Hh → Prop} : (Gx (evS D C (.set t e) ls h) (P := ⟨Q⟩)) = Gx (evE D C e ls h) (P := ⟨fun x h1 => Gx (evG D C t x ls h1) (P := ⟨fun l h2 => Q (.nx, l) h2⟩)⟩) := by simp only [Gx, evS, Go_bd, Go_ok] <;> rfl
theorem x_aug {i : Nat} {op : Bop} {e : CE} {Q : (Fl × Ls) → Hh → Prop} : (Gx (evS D C (.aug i op e) ls h) (P := ⟨Q⟩)) = Gx (augO D C op i e ls h ls[i]?) (P := ⟨Q⟩) := propext ⟨fun q => q, fun q => q⟩
theorem x_augO {i : Nat} {op : Bop} {e : CE} {x : T} {Q : (Fl × Ls) → Hh → Prop} : (Gx (augO D C op i e ls h (some (some x))) (P := ⟨Q⟩)) = Gx (evE D C e ls h) (P := ⟨fun y h1 => Gx (augR op i ls x y h1) (P := ⟨Q⟩)⟩) := gx_bd _ _ _
theorem x_augA {i : Nat} {a b : Int} {Q : (Fl × Ls) → Hh → Prop} : (Gx (augR .add i ls (.int a) (.int b) h) (P := ⟨Q⟩)) = Q (.nx, ls.set i (some (.int (a + b)))) h := propext ⟨fun q => q, fun q => q⟩
theorem x_augS {i : Nat} {a b : Int} {Q : (Fl × Ls) → Hh → Prop} : (Gx (augR .sub i ls (.int a) (.int b) h) (P := ⟨Q⟩)) = Q (.nx, ls.set i (some (.int (a - b)))) h := propext ⟨fun q => q, fun q => q⟩
theorem x_iff {c : CE} {a b : CSs} {Q : (Fl × Ls) → Hh → Prop} : (Gx (evS D C (.iff c a b) ls h) (P := ⟨Q⟩)) = Gx (evE D C c ls h) (P := ⟨fun z h1 => Gx (cndR z (evSs D C a ls h1) (evSs D C b ls h1)) (P := ⟨Q⟩)⟩) := by simp only [Gx, evS, Go_bd, Go_ok] <;> rfl
theorem x_for {t : Tg} {it : CI} {body : CSs} {Q : (Fl × Ls) → Hh → Prop} : (Gx (evS D C (.for t it body) ls h) (P := ⟨Q⟩)) = Gx (evI D C it ls h) (P := ⟨fun p h1 => Gx (forR D C t body ls p h1) (P := ⟨Q⟩)⟩) := by simp only [Gx, evS, Go_bd, Go_ok] <;> rfl
theorem x_whl {c : CE} {body : CSs} {Q : (Fl × Ls) → Hh → Prop} : (Gx (evS D C (.whl c body) ls h) (P := ⟨Q⟩)) = Gx (whlR D C c body ls h) (P := ⟨Q⟩) := propext ⟨fun q => q, fun q => q⟩
theorem x_brk  {Q : (Fl × Ls) → Hh → Prop} : (Gx (evS D C .brk ls h) (P := ⟨Q⟩)) = Q (.bk, ls) h := propext ⟨fun q => q, fun q => q⟩
theorem x_cnt  {Q : (Fl × Ls) → Hh → Prop} : (Gx (evS D C .cnt ls h) (P := ⟨Q⟩)) = Q (.ct, ls) h := propext ⟨fun q => q, fun q => q⟩
theorem x_seqN {ss : CSs} {l : Ls} {Q : (Fl × Ls) → Hh → Prop} : (Gx (seqR D C ss (.nx, l) h) (P := ⟨Q⟩)) = Gx (evSs D C ss l h) (P := ⟨Q⟩) := propext ⟨fun q => q, fun q => q⟩
theorem x_seqR {ss : CSs} {l : Ls} {t : T} {Q : (Fl × Ls) → Hh → Prop} : (Gx (seqR D C ss (.rt t, l) h) (P := ⟨Q⟩)) = Q (.rt t, l) h := propext ⟨fun q => q, fun q => q⟩
theorem x_seqB {ss : CSs} {l : Ls} {Q : (Fl × Ls) → Hh → Prop} : (Gx (seqR D C ss (.bk, l) h) (P := ⟨Q⟩)) = Q (.bk, l) h := propext ⟨fun q => q, fun q => q⟩
theorem x_exprX {f : String} {as vs : CEs} {ks : List String} {Q : (Fl × Ls) → Hh → Prop} : (Gx (evS D C (.exprX f as ks vs) ls h) (P := ⟨Q⟩)) = Gx (evEs D C as ls h) (P := ⟨fun xs h1 => Gx (evEs D C vs ls h1) (P := ⟨fun ys h2 => Gx (xR D C f xs ks ys h2) (P := ⟨fun fl h3 => Gx (exprR ls fl h3) (P := ⟨Q⟩)⟩)⟩)⟩) := by
  simp only [Gx, evS, evX, Go_bd]
  rfl
theorem x_retX {f : String} {as vs : CEs} {ks : List String} {Q : (Fl × Ls) → Hh → Prop} : (Gx (evS D C (.retX f as ks vs) ls h) (P := ⟨Q⟩)) = Gx (evEs D C as ls h) (P := ⟨fun xs h1 => Gx (evEs D C vs ls h1) (P := ⟨fun ys h2 => Gx (xR D C f xs ks ys h2) (P := ⟨fun fl h3 => Q (fl, ls) h3⟩)⟩)⟩) := by
  simp only [Gx, evS, evX, Go_bd]
  rfl
theorem x_setX {t : Tg} {f : String} {as vs : CEs} {ks : List String} {Q : (Fl × Ls) → Hh → Prop} : (Gx (evS D C (.setX t f as ks vs) ls h) (P := ⟨Q⟩)) = Gx (evEs D C as ls h) (P := ⟨fun xs h1 => Gx (evEs D C vs ls h1) (P := ⟨fun ys h2 => Gx (xR D C f xs ks ys h2) (P := ⟨fun fl h3 => Gx (setXR D C t ls fl h3) (P := ⟨Q⟩)⟩)⟩)⟩) := by
  simp only [Gx, evS, evX, Go_bd]
  rfl
theorem x_raise {c : String} {e : CE} {Q : (Fl × Ls) → Hh → Prop} : (Gx (evS D C (.raise c e) ls h) (P := ⟨Q⟩)) = Gx (evE D C e ls h) (P := ⟨fun x h1 => Q (.xc c [x], ls) h1⟩) := by simp only [Gx, evS, Go_bd, Go_ok] <;> rfl
theorem x_exO {t : T} {Q : (Fl × Ls) → Hh → Prop} : (Gx (exprR ls (.rt t) h) (P := ⟨Q⟩)) = Q (.nx, ls) h := propext ⟨fun q => q, fun q => q⟩
theorem x_exX {c : String} {fs : List T} {Q : (Fl × Ls) → Hh → Prop} : (Gx (exprR ls (.xc c fs) h) (P := ⟨Q⟩)) = Q (.xc c fs, ls) h := propext ⟨fun q => q, fun q => q⟩
theorem x_stO {t : Tg} {x : T} {Q : (Fl × Ls) → Hh → Prop} : (Gx (setXR D C t ls (.rt x) h) (P := ⟨Q⟩)) = Gx (evG D C t x ls h) (P := ⟨fun l h2 => Q (.nx, l) h2⟩) := by
  simp only [Gx, setXR, Go_bd]
  rfl
theorem x_stX {t : Tg} {c : String} {fs : List T} {Q : (Fl × Ls) → Hh → Prop} : (Gx (setXR D C t ls (.xc c fs) h) (P := ⟨Q⟩)) = Q (.xc c fs, ls) h := propext ⟨fun q => q, fun q => q⟩
theorem x_flO {v : T} {Q : Fl → Hh → Prop} : (Gx (flX (.ok v h)) (P := ⟨Q⟩)) = Q (.rt v) h := propext ⟨fun q => q, fun q => q⟩
theorem x_flE {c : String} {fs : List T} {Q : Fl → Hh → Prop} : (Gx (flX (.exc c fs h)) (P := ⟨Q⟩)) = Q (.xc c fs) h := propext ⟨fun q => q, fun q => q⟩
theorem x_tdO {hs : List (String × String)} {v : T} {Q : T → Hh → Prop} : (Gx (toldT hs (.ok v h)) (P := ⟨Q⟩)) = Q (.tup [.str (Str.ofString "told"), v]) h := propext ⟨fun q => q, fun q => q⟩
theorem x_seqX {ss : CSs} {l : Ls} {c : String} {fs : List T} {Q : (Fl × Ls) → Hh → Prop} : (Gx (seqR D C ss (.xc c fs, l) h) (P := ⟨Q⟩)) = Q (.xc c fs, l) h := propext ⟨fun q => q, fun q => q⟩
theorem x_seqC {ss : CSs} {l : Ls} {Q : (Fl × Ls) → Hh → Prop} : (Gx (seqR D C ss (.ct, l) h) (P := ⟨Q⟩)) = Q (.ct, l) h := propext ⟨fun q => q, fun q => q⟩
theorem x_finR {l : Ls} {t : T} {Q : T → Hh → Prop} : (Gx (finR (.rt t, l) h) (P := ⟨Q⟩)) = Q t h := propext ⟨fun q => q, fun q => q⟩
theorem x_finN {l : Ls} {Q : T → Hh → Prop} : (Gx (finR (.nx, l) h) (P := ⟨Q⟩)) = Q .non h := propext ⟨fun q => q, fun q => q⟩
theorem x_lk {t : T} {Q : T → Hh → Prop} : (Gx (lkR (some (some t)) h) (P := ⟨Q⟩)) = Q t h := propext ⟨fun q => q, fun q => q⟩
theorem x_negR {i : Int} {Q : T → Hh → Prop} : (Gx (negR (.int i) h) (P := ⟨Q⟩)) = Q (.int (-i)) h := propext ⟨fun q => q, fun q => q⟩
theorem x_negB {i : Bool} {Q : T → Hh → Prop} : (Gx (negR (.bl i) h) (P := ⟨Q⟩)) = Q (.int (-(b2I i))) h := propext ⟨fun q => q, fun q => q⟩
theorem x_notR {i : Bool} {Q : T → Hh → Prop} : (Gx (notR (.bl i) h) (P := ⟨Q⟩)) = Q (.bl (!i)) h := propext ⟨fun q => q, fun q => q⟩
theorem x_cnd {α : Type} {b : Bool} {r1 r2 : R α} {Q : α → Hh → Prop} : (Gx (cndR (.bl b) r1 r2) (P := ⟨Q⟩)) = IfX b (P := ⟨Gx r1 (P := ⟨Q⟩), Gx r2 (P := ⟨Q⟩)⟩) := by
  cases b
  · exact ifx_f.symm
  · exact ifx_t.symm
theorem x_oiR {i : Int} {Q : Option Int → Hh → Prop} : (Gx (oiR (.int i) h) (P := ⟨Q⟩)) = Q (some i) h := propext ⟨fun q => q, fun q => q⟩
theorem x_opt {α : Type} {v : α} {Q : α → Hh → Prop} : (Gx (optR (some v) h) (P := ⟨Q⟩)) = Q v h := propext ⟨fun q => q, fun q => q⟩
theorem x_ob {v : Bool} {Q : T → Hh → Prop} : (Gx (obR (some v) h) (P := ⟨Q⟩)) = Q (.bl v) h := propext ⟨fun q => q, fun q => q⟩
theorem x_r1 {i : Int} {Q : (List T × Wt) → Hh → Prop} : (Gx (r1R (.int i) h) (P := ⟨Q⟩)) = (rgOk 0 i = true ∧ Q (rangeT 0 i, []) h) := by
  simp only [Gx, r1R]
  by_cases hc : rgOk 0 i = true
  · rw [if_pos hc]
    exact propext ⟨fun q => ⟨hc, q⟩, fun q => q.2⟩
  · rw [if_neg hc]
    exact propext ⟨fun q => q.elim, fun q => absurd q.1 hc⟩
theorem x_r2 {i j : Int} {Q : (List T × Wt) → Hh → Prop} : (Gx (r2R (.int i) (.int j) h) (P := ⟨Q⟩)) = (rgOk i j = true ∧ Q (rangeT i j, []) h) := by
  simp only [Gx, r2R]
  by_cases hc : rgOk i j = true
  · rw [if_pos hc]
    exact propext ⟨fun q => ⟨hc, q⟩, fun q => q.2⟩
  · rw [if_neg hc]
    exact propext ⟨fun q => q.elim, fun q => absurd q.1 hc⟩
theorem x_r3 {i j : Int} {Q : (List T × Wt) → Hh → Prop} : (Gx (r3R (.int i) (.int j) (.int (-1)) h) (P := ⟨Q⟩)) = (rgOk i j = true ∧ Q (rangeC i (-1) (i - j).toNat, []) h) := by
  simp only [Gx, r3R]
  by_cases hc : rgOk i j = true
  · rw [if_pos hc]
    exact propext ⟨fun q => ⟨hc, q⟩, fun q => q.2⟩
  · rw [if_neg hc]
    exact propext ⟨fun q => q.elim, fun q => absurd q.1 hc⟩
theorem x_enumT {xs : List T} {Q : (List T × Wt) → Hh → Prop} : (Gx (enumR (.tup xs) h) (P := ⟨Q⟩)) = Q (enumT 0 xs, []) h := propext ⟨fun q => q, fun q => q⟩
theorem x_valT {xs : List T} {Q : (List T × Wt) → Hh → Prop} : (Gx (valR (.tup xs) h) (P := ⟨Q⟩)) = Q (xs, []) h := propext ⟨fun q => q, fun q => q⟩
theorem x_valF {xs : List T} {Q : (List T × Wt) → Hh → Prop} : (Gx (valR (.fz xs) h) (P := ⟨Q⟩)) = Q (xs, [(.fz xs, xs)]) h := propext ⟨fun q => q, fun q => q⟩
/-- an object that must be a list, a dict -/
def lstX {α : Type} (o : Option O) (f : List T → R α) : R α := match o with
  | some (.lst xs) => f xs
  | _ => .bad
def dkX {α : Type} (o : Option O) (f : List (KT × T) → R α) : R α := match o with
  | some (.dK xs) => f xs
  | _ => .bad
theorem x_lst' {α : Type} {xs : List T} {f : List T → R α} {Q : α → Hh → Prop} : (Gx (lstX (some (.lst xs)) f) (P := ⟨Q⟩)) = Gx (f xs) (P := ⟨Q⟩) := propext ⟨fun q => q, fun q => q⟩
theorem x_dk' {α : Type} {xs : List (KT × T)} {f : List (KT × T) → R α} {Q : α → Hh → Prop} : (Gx (dkX (some (.dK xs)) f) (P := ⟨Q⟩)) = Gx (f xs) (P := ⟨Q⟩) := propext ⟨fun q => q, fun q => q⟩
theorem lstX_eq {α : Type} (r : Nat) (f : List T → R α) : lstX h[r]? f = match mutL h r with | some xs => f xs | none => .bad := by
  unfold lstX mutL
  cases h[r]? with
  | none => rfl
  | some o => cases o <;> rfl

theorem x_valL {r : Nat} {Q : (List T × Wt) → Hh → Prop} : (Gx (valR (.ref r) h) (P := ⟨Q⟩)) = Gx (lstX h[r]? fun xs => .ok (xs, [(.ref r, xs)]) h) (P := ⟨Q⟩) := by
  congr 1
  unfold valR lsT mutL lstX
  try dsimp only
  cases h[r]? with
  | none => rfl
  | some o => cases o <;> rfl
theorem x_enumL {r : Nat} {Q : (List T × Wt) → Hh → Prop} : (Gx (enumR (.ref r) h) (P := ⟨Q⟩)) = Gx (lstX h[r]? fun xs => .ok (enumT 0 xs, [(.ref r, xs)]) h) (P := ⟨Q⟩) := by
  congr 1
  unfold enumR lsT mutL lstX
  try dsimp only
  cases h[r]? with
  | none => rfl
  | some o => cases o <;> rfl
noncomputable def mthO (D : Tbl) (C : String → List T → Hh → R T) (m : Mth) (as : CEs) (ls : Ls) (r : Nat) (h : Hh) (o : Option O) : R T :=
  if (match o with | some (.lst _) => some "list" | some (.dK _) => some "dict" | some (.ins c) => some c | none => none) = some m.ty then (evEs D C as ls h).bd fun ys h2 => mthT m (.ref r) ys h2 else .bad
theorem x_mthL {m : Mth} {as : CEs} {r : Nat} {Q : T → Hh → Prop} : (Gx (mthR D C m as ls (.ref r) h) (P := ⟨Q⟩)) = Gx (mthO D C m as ls r h h[r]?) (P := ⟨Q⟩) := propext ⟨fun q => q, fun q => q⟩
theorem x_mth_append {as : CEs} {r : Nat} {xs : List T} {Q : T → Hh → Prop} : (Gx (mthO D C .append as ls r h (some (.lst xs))) (P := ⟨Q⟩)) = Gx (evEs D C as ls h) (P := ⟨fun ys h2 => Gx (mthT .append (.ref r) ys h2) (P := ⟨Q⟩)⟩) := by
  unfold mthO
  rw [if_pos (show some "list" = some Mth.append.ty from rfl)]
  exact gx_bd _ _ _
theorem x_mth_extend {as : CEs} {r : Nat} {xs : List T} {Q : T → Hh → Prop} : (Gx (mthO D C .extend as ls r h (some (.lst xs))) (P := ⟨Q⟩)) = Gx (evEs D C as ls h) (P := ⟨fun ys h2 => Gx (mthT .extend (.ref r) ys h2) (P := ⟨Q⟩)⟩) := by
  unfold mthO
  rw [if_pos (show some "list" = some Mth.extend.ty from rfl)]
  exact gx_bd _ _ _
theorem x_mth_pop {as : CEs} {r : Nat} {xs : List T} {Q : T → Hh → Prop} : (Gx (mthO D C .pop as ls r h (some (.lst xs))) (P := ⟨Q⟩)) = Gx (evEs D C as ls h) (P := ⟨fun ys h2 => Gx (mthT .pop (.ref r) ys h2) (P := ⟨Q⟩)⟩) := by
  unfold mthO
  rw [if_pos (show some "list" = some Mth.pop.ty from rfl)]
  exact gx_bd _ _ _
theorem x_mth_get {as : CEs} {r : Nat} {xs : List (KT × T)} {Q : T → Hh → Prop} : (Gx (mthO D C .get as ls r h (some (.dK xs))) (P := ⟨Q⟩)) = Gx (evEs D C as ls h) (P := ⟨fun ys h2 => Gx (mthT .get (.ref r) ys h2) (P := ⟨Q⟩)⟩) := by
  unfold mthO
  rw [if_pos (show some "dict" = some Mth.get.ty from rfl)]
  exact gx_bd _ _ _
theorem x_newT {xs : List T} {Q : T → Hh → Prop} : (Gx (newT h xs) (P := ⟨Q⟩)) = (xs.length ≤ 16777216 ∧ Q (.tup xs) h) := by
  simp only [Gx, newT]
  by_cases hc : xs.length ≤ 16777216
  · rw [if_pos hc]
    exact propext ⟨fun q => ⟨hc, q⟩, fun q => q.2⟩
  · rw [if_neg hc]
    exact propext ⟨fun q => q.elim, fun q => absurd q.1 hc⟩
theorem x_newL {xs : List T} {Q : T → Hh → Prop} : (Gx (newL h xs) (P := ⟨Q⟩)) = (xs.length ≤ 16777216 ∧ Q (.ref h.length) (h ++ [.lst xs])) := by
  simp only [Gx, newL]
  by_cases hc : xs.length ≤ 16777216
  · rw [if_pos hc]
    exact propext ⟨fun q => ⟨hc, q⟩, fun q => q.2⟩
  · rw [if_neg hc]
    exact propext ⟨fun q => q.elim, fun q => absurd q.1 hc⟩
theorem x_dicR {ts vs : List T} {Q : T → Hh → Prop} : (Gx (dicR (ts, vs) h) (P := ⟨Q⟩)) = Gx (optR ((keysT ts).bind fun ks => mergeKT [] ks vs) h) (P := ⟨fun kvs h1 => Q (.ref h1.length) (h1 ++ [.dK kvs])⟩) := by
  simp only [Gx, dicR]
  cases keysT ts with
  | none => rfl
  | some ks =>
    dsimp only [Option.bind]
    cases mergeKT [] ks vs <;> rfl
theorem x_add {i j : Int} {Q : T → Hh → Prop} : (Gx (binT .add (.int i) (.int j) h) (P := ⟨Q⟩)) = Q (.int (i + j)) h := propext ⟨fun q => q, fun q => q⟩
theorem x_sub {i j : Int} {Q : T → Hh → Prop} : (Gx (binT .sub (.int i) (.int j) h) (P := ⟨Q⟩)) = Q (.int (i - j)) h := propext ⟨fun q => q, fun q => q⟩
theorem x_addB {i : Bool} {j : Int} {Q : T → Hh → Prop} : (Gx (binT .add (.bl i) (.int j) h) (P := ⟨Q⟩)) = Q (.int (b2I i + j)) h := propext ⟨fun q => q, fun q => q⟩
theorem x_subB {i : Bool} {j : Int} {Q : T → Hh → Prop} : (Gx (binT .sub (.bl i) (.int j) h) (P := ⟨Q⟩)) = Q (.int (b2I i - j)) h := propext ⟨fun q => q, fun q => q⟩
theorem x_mul {i j : Int} {Q : T → Hh → Prop} : (Gx (binT .mul (.int i) (.int j) h) (P := ⟨Q⟩)) = (CMulB i j = true ∧ Q (.int (i * j)) h) := by
  simp only [Gx, binT, intOp]
  by_cases hc : CMulB i j = true
  · rw [if_pos hc]
    exact propext ⟨fun q => ⟨hc, q⟩, fun q => q.2⟩
  · rw [if_neg hc]
    exact propext ⟨fun q => q.elim, fun q => absurd q.1 hc⟩
theorem x_fdiv {i j : Int} {Q : T → Hh → Prop} : (Gx (binT .fdiv (.int i) (.int j) h) (P := ⟨Q⟩)) = (CDivB i j = true ∧ Q (.int (i / j)) h) := by
  simp only [Gx, binT, intOp]
  by_cases hc : CDivB i j = true
  · rw [if_pos hc]
    exact propext ⟨fun q => ⟨hc, q⟩, fun q => q.2⟩
  · rw [if_neg hc]
    exact propext ⟨fun q => q.elim, fun q => absurd q.1 hc⟩
theorem x_mod {i j : Int} {Q : T → Hh → Prop} : (Gx (binT .mod (.int i) (.int j) h) (P := ⟨Q⟩)) = (0 < j ∧ Q (.int (i % j)) h) := by
  simp only [Gx, binT, intOp]
  by_cases hc : 0 < j
  · rw [if_pos hc]
    exact propext ⟨fun q => ⟨hc, q⟩, fun q => q.2⟩
  · rw [if_neg hc]
    exact propext ⟨fun q => q.elim, fun q => absurd q.1 hc⟩
theorem x_pow {i j : Int} {Q : T → Hh → Prop} : (Gx (binT .pow (.int i) (.int j) h) (P := ⟨Q⟩)) = (CPowB i j = true ∧ Q (.int (i ^ j.toNat)) h) := by
  simp only [Gx, binT, intOp]
  by_cases hc : CPowB i j = true
  · rw [if_pos hc]
    exact propext ⟨fun q => ⟨hc, q⟩, fun q => q.2⟩
  · rw [if_neg hc]
    exact propext ⟨fun q => q.elim, fun q => absurd q.1 hc⟩
theorem x_tadd {xs ys : List T} {Q : T → Hh → Prop} : (Gx (binT .add (.tup xs) (.tup ys) h) (P := ⟨Q⟩)) = ((xs ++ ys).length ≤ 16777216 ∧ Q (.tup (xs ++ ys)) h) := by
  simp only [Gx, binT, newT]
  by_cases hc : (xs ++ ys).length ≤ 16777216
  · rw [if_pos hc]
    exact propext ⟨fun q => ⟨hc, q⟩, fun q => q.2⟩
  · rw [if_neg hc]
    exact propext ⟨fun q => q.elim, fun q => absurd q.1 hc⟩
theorem x_tmul {x : T} {r : List T} {k : Int} {Q : T → Hh → Prop} : (Gx (binT .mul (.tup (x :: r)) (.int k) h) (P := ⟨Q⟩)) = ((1 ≤ k ∧ k ≤ 1000 ∧ (x :: r).length ≤ 1000) ∧ Q (.tup (List.replicate k.toNat (x :: r)).flatten) h) := by
  simp only [Gx, binT]
  by_cases hc : 1 ≤ k ∧ k ≤ 1000 ∧ (x :: r).length ≤ 1000
  · rw [if_pos hc]
    exact propext ⟨fun q => ⟨hc, q⟩, fun q => q.2⟩
  · rw [if_neg hc]
    exact propext ⟨fun q => q.elim, fun q => absurd q.1 hc⟩
theorem x_lmul {a : Nat} {k : Int} {Q : T → Hh → Prop} : (Gx (binT .mul (.ref a) (.int k) h) (P := ⟨Q⟩)) = Gx (lstX h[a]? fun xs => if -(2 ^ 62) ≤ k ∧ k < 2 ^ 62 then newL h (List.replicate k.toNat xs).flatten else .bad) (P := ⟨Q⟩) := by
  congr 1
  unfold binT mutL lstX
  dsimp only
  cases h[a]? with
  | none => rfl
  | some o => cases o <;> rfl
theorem x_ladd {a b : Nat} {Q : T → Hh → Prop} : (Gx (binT .add (.ref a) (.ref b) h) (P := ⟨Q⟩)) = Gx (lstX h[a]? fun xs => lstX h[b]? fun ys => newL h (xs ++ ys)) (P := ⟨Q⟩) := by
  congr 1
  unfold binT mutL lstX
  dsimp only
  cases h[a]? with
  | none => rfl
  | some o =>
    cases o with
    | dK _ => rfl
    | ins _ => rfl
    | lst xs =>
      cases h[b]? with
      | none => rfl
      | some u => cases u <;> rfl
theorem x_lt {i j : Int} {Q : T → Hh → Prop} : (Gx (cmpT .lt (.int i) (.int j) h) (P := ⟨Q⟩)) = Q (.bl (decide (i < j))) h := propext ⟨fun q => q, fun q => q⟩
theorem x_le {i j : Int} {Q : T → Hh → Prop} : (Gx (cmpT .le (.int i) (.int j) h) (P := ⟨Q⟩)) = Q (.bl (decide (i ≤ j))) h := propext ⟨fun q => q, fun q => q⟩
theorem x_gt {i j : Int} {Q : T → Hh → Prop} : (Gx (cmpT .gt (.int i) (.int j) h) (P := ⟨Q⟩)) = Q (.bl (decide (j < i))) h := propext ⟨fun q => q, fun q => q⟩
theorem x_ge {i j : Int} {Q : T → Hh → Prop} : (Gx (cmpT .ge (.int i) (.int j) h) (P := ⟨Q⟩)) = Q (.bl (decide (j ≤ i))) h := propext ⟨fun q => q, fun q => q⟩
def gtO (xs ys : List T) : Option Bool := match intsT xs, intsT ys with
  | some ns, some ms => some (gtI ns ms)
  | _, _ => none
theorem x_gtT {xs ys : List T} {Q : T → Hh → Prop} : (Gx (cmpT .gt (.tup xs) (.tup ys) h) (P := ⟨Q⟩)) = Gx (obR (gtO xs ys) h) (P := ⟨Q⟩) := by
  simp only [Gx, cmpT, numC, gtO]
  cases intsT xs <;> cases intsT ys <;> rfl
theorem x_is {a b : Bool} {Q : T → Hh → Prop} : (Gx (cmpT .is (.bl a) (.bl b) h) (P := ⟨Q⟩)) = Q (.bl (decide (a = b))) h := propext ⟨fun q => q, fun q => q⟩
theorem x_isnt {a b : Bool} {Q : T → Hh → Prop} : (Gx (cmpT .isnt (.bl a) (.bl b) h) (P := ⟨Q⟩)) = Q (.bl (!decide (a = b))) h := propext ⟨fun q => q, fun q => q⟩
theorem x_eq {x y : T} {Q : T → Hh → Prop} : (Gx (cmpT .eq x y h) (P := ⟨Q⟩)) = Gx (obR (eqT h x y) h) (P := ⟨Q⟩) := by
  simp only [Gx, cmpT]
  cases eqT h x y <;> rfl
theorem x_ne {x y : T} {Q : T → Hh → Prop} : (Gx (cmpT .ne x y h) (P := ⟨Q⟩)) = Gx (obR ((eqT h x y).map not) h) (P := ⟨Q⟩) := by
  simp only [Gx, cmpT]
  cases eqT h x y <;> rfl
theorem x_inn {x y : T} {Q : T → Hh → Prop} : (Gx (cmpT .inn x y h) (P := ⟨Q⟩)) = Gx (obR (inO x y h) h) (P := ⟨Q⟩) := by
  simp only [Gx, cmpT]
  cases inO x y h <;> rfl
theorem x_nin {x y : T} {Q : T → Hh → Prop} : (Gx (cmpT .nin x y h) (P := ⟨Q⟩)) = Gx (obR ((inO x y h).map not) h) (P := ⟨Q⟩) := by
  simp only [Gx, cmpT]
  cases inO x y h <;> rfl
theorem x_tix {xs : List T} {k : Int} {Q : T → Hh → Prop} : (Gx (idxT (.tup xs) (.int k) h) (P := ⟨Q⟩)) = Gx (optR (atI xs k) h) (P := ⟨Q⟩) := by
  simp only [Gx, idxT]
  cases atI xs k <;> rfl
def ixX (o : Option O) (i : T) (h : Hh) : R T := match o, i with
  | some (.lst xs), .int k => optR (atI xs k) h
  | some (.dK kvs), i => optR (i.kt.bind fun k => lookK kvs k) h
  | _, _ => .bad
theorem x_rix {r : Nat} {i : T} {Q : T → Hh → Prop} : (Gx (idxT (.ref r) i h) (P := ⟨Q⟩)) = Gx (ixX h[r]? i h) (P := ⟨Q⟩) := by
  congr 1
  unfold idxT ixX
  dsimp only
  cases h[r]? with
  | none => cases i <;> rfl
  | some o =>
    cases o with
    | lst xs =>
      cases i with
      | int k => dsimp only; cases atI xs k <;> rfl
      | _ => rfl
    | dK kvs =>
      dsimp only
      cases i.kt with
      | none => cases i <;> rfl
      | some k =>
        dsimp only [Option.bind]
        cases lookK kvs k <;> cases i <;> rfl
    | ins _ => cases i <;> rfl
theorem x_ixL {xs : List T} {k : Int} {Q : T → Hh → Prop} : (Gx (ixX (some (.lst xs)) (.int k) h) (P := ⟨Q⟩)) = Gx (optR (atI xs k) h) (P := ⟨Q⟩) := propext ⟨fun q => q, fun q => q⟩
theorem x_ixD {xs : List (KT × T)} {i : T} {Q : T → Hh → Prop} : (Gx (ixX (some (.dK xs)) i h) (P := ⟨Q⟩)) = Gx (optR (i.kt.bind fun k => lookK xs k) h) (P := ⟨Q⟩) := by
  cases i <;> rfl
def stX (r : Nat) (o : Option O) (i v : T) (h : Hh) : R Unit := match o, i with
  | some (.lst xs), .int k => match ixN xs.length k with
    | some j => .ok () (h.set r (.lst (xs.set j v)))
    | none => .bad
  | some (.dK kvs), i => match i.kt with
    | some k => if kvs.length < 16777216 then .ok () (h.set r (.dK (putKT kvs k v))) else .bad
    | none => .bad
  | _, _ => .bad
theorem x_setD {r : Nat} {x v : T} {Q : Unit → Hh → Prop} : (Gx (setT (.ref r) x v h) (P := ⟨Q⟩)) = Gx (stX r h[r]? x v h) (P := ⟨Q⟩) := propext ⟨fun q => q, fun q => q⟩
theorem x_stD {r : Nat} {kvs : List (KT × T)} {x : Str} {v : T} {Q : Unit → Hh → Prop} : (Gx (stX r (some (.dK kvs)) (.str x) v h) (P := ⟨Q⟩)) = (kvs.length < 16777216 ∧ Q () (h.set r (.dK (putKT kvs (.ks x) v)))) := by
  simp only [Gx, stX, T.kt]
  by_cases hc : kvs.length < 16777216
  · rw [if_pos hc]
    exact propext ⟨fun q => ⟨hc, q⟩, fun q => q.2⟩
  · rw [if_neg hc]
    exact propext ⟨fun q => q.elim, fun q => absurd q.1 hc⟩
theorem x_stL {r : Nat} {xs : List T} {k : Int} {v : T} {Q : Unit → Hh → Prop} : (Gx (stX r (some (.lst xs)) (.int k) v h) (P := ⟨Q⟩)) = Gx (optR (ixN xs.length k) h) (P := ⟨fun j h1 => Q () (h1.set r (.lst (xs.set j v)))⟩) := by
  simp only [Gx, stX]
  cases ixN xs.length k <;> rfl
theorem x_app {r : Nat} {x : T} {Q : T → Hh → Prop} : (Gx (mthT .append (.ref r) [x] h) (P := ⟨Q⟩)) = Gx (lstX h[r]? fun xs => if xs.length < 16777216 then .ok .non (h.set r (.lst (xs ++ [x]))) else .bad) (P := ⟨Q⟩) := by
  congr 1
  unfold mthT mutL lstX
  try dsimp only
  cases h[r]? with
  | none => rfl
  | some o => cases o <;> rfl
theorem x_if {α : Type} {c : Prop} [Decidable c] {r : R α} {Q : α → Hh → Prop} : (Gx (if c then r else .bad) (P := ⟨Q⟩)) = (c ∧ Gx r (P := ⟨Q⟩)) := by
  by_cases hc : c
  · rw [if_pos hc]
    exact propext ⟨fun q => ⟨hc, q⟩, fun q => q.2⟩
  · rw [if_neg hc]
    exact propext ⟨fun q => q.elim, fun q => absurd q.1 hc⟩
theorem x_ext {r m : Nat} {Q : T → Hh → Prop} : (Gx (mthT .extend (.ref r) [.ref m] h) (P := ⟨Q⟩)) = Gx (lstX h[r]? fun xs => lstX h[m]? fun ys => if xs.length + ys.length ≤ 16777216 then .ok .non (h.set r (.lst (xs ++ ys))) else .bad) (P := ⟨Q⟩) := by
  congr 1
  unfold mthT mutL lstX
  dsimp only
  cases h[r]? with
  | none => rfl
  | some o =>
    cases o with
    | dK _ => rfl
    | ins _ => rfl
    | lst xs =>
      cases h[m]? with
      | none => rfl
      | some u => cases u <;> rfl
theorem x_pop {r : Nat} {Q : T → Hh → Prop} : (Gx (mthT .pop (.ref r) [] h) (P := ⟨Q⟩)) = Gx (lstX h[r]? fun xs => (optR xs[xs.length - 1]? h).bd fun y h1 => .ok y (h1.set r (.lst xs.dropLast))) (P := ⟨Q⟩) := by
  congr 1
  unfold mthT mutL lstX
  dsimp only
  cases h[r]? with
  | none => rfl
  | some o =>
    cases o with
    | dK _ => rfl
    | ins _ => rfl
    | lst xs =>
      dsimp only
      cases xs[xs.length - 1]? <;> rfl
theorem x_lenT {xs : List T} {Q : T → Hh → Prop} : (Gx (bltT .len [.tup xs] h) (P := ⟨Q⟩)) = Q (.int xs.length) h := propext ⟨fun q => q, fun q => q⟩
def lenX (o : Option O) (h : Hh) : R T := match o with
  | some (.lst xs) => .ok (.int xs.length) h
  | some (.dK xs) => .ok (.int xs.length) h
  | _ => .bad
theorem x_lenR {r : Nat} {Q : T → Hh → Prop} : (Gx (bltT .len [.ref r] h) (P := ⟨Q⟩)) = Gx (lenX h[r]? h) (P := ⟨Q⟩) := propext ⟨fun q => q, fun q => q⟩
theorem x_lenL {xs : List T} {Q : T → Hh → Prop} : (Gx (lenX (some (.lst xs)) h) (P := ⟨Q⟩)) = Q (.int xs.length) h := propext ⟨fun q => q, fun q => q⟩
theorem x_listT {xs : List T} {Q : T → Hh → Prop} : (Gx (bltT .list [.tup xs] h) (P := ⟨Q⟩)) = Gx (newL h xs) (P := ⟨Q⟩) := propext ⟨fun q => q, fun q => q⟩
theorem x_listL {r : Nat} {Q : T → Hh → Prop} : (Gx (bltT .list [.ref r] h) (P := ⟨Q⟩)) = Gx (lstX h[r]? fun xs => newL h xs) (P := ⟨Q⟩) := by
  congr 1
  unfold bltT seqOf lsT mutL lstX
  try dsimp only
  cases h[r]? with
  | none => rfl
  | some o => cases o <;> rfl
theorem x_tupL {r : Nat} {Q : T → Hh → Prop} : (Gx (bltT .tuple [.ref r] h) (P := ⟨Q⟩)) = Gx (lstX h[r]? fun xs => .ok (.tup xs) h) (P := ⟨Q⟩) := by
  congr 1
  unfold bltT lsT mutL lstX
  try dsimp only
  cases h[r]? with
  | none => rfl
  | some o => cases o <;> rfl
theorem x_tupT {xs : List T} {Q : T → Hh → Prop} : (Gx (bltT .tuple [.tup xs] h) (P := ⟨Q⟩)) = Q (.tup xs) h := propext ⟨fun q => q, fun q => q⟩
theorem x_sortT {xs : List T} {Q : T → Hh → Prop} : (Gx (bltT .sorted [.tup xs] h) (P := ⟨Q⟩)) = Gx ((optR (sortT h xs) h).bd fun ys h1 => newL h1 ys) (P := ⟨Q⟩) := by
  congr 1
  unfold bltT seqOf
  dsimp only
  cases sortT h xs <;> rfl
theorem x_sortL {r : Nat} {Q : T → Hh → Prop} : (Gx (bltT .sorted [.ref r] h) (P := ⟨Q⟩)) = Gx (lstX h[r]? fun xs => (optR (sortT h xs) h).bd fun ys h1 => newL h1 ys) (P := ⟨Q⟩) := by
  congr 1
  unfold bltT seqOf lsT mutL lstX
  dsimp only
  cases h[r]? with
  | none => rfl
  | some o =>
    cases o with
    | dK _ => rfl
    | ins _ => rfl
    | lst xs =>
      dsimp only
      cases sortT h xs <;> rfl
theorem x_all {r : Nat} {Q : T → Hh → Prop} : (Gx (bltT .all [.ref r] h) (P := ⟨Q⟩)) = Gx (lstX h[r]? fun xs => (optR (boolsT xs) h).bd fun bs h1 => .ok (.bl (bs.all id)) h1) (P := ⟨Q⟩) := by
  congr 1
  unfold bltT lsT mutL lstX
  dsimp only
  cases h[r]? with
  | none => rfl
  | some o =>
    cases o with
    | dK _ => rfl
    | ins _ => rfl
    | lst xs =>
      dsimp only [Option.bind]
      cases boolsT xs <;> rfl
theorem x_any {r : Nat} {Q : T → Hh → Prop} : (Gx (bltT .any [.ref r] h) (P := ⟨Q⟩)) = Gx (lstX h[r]? fun xs => (optR (boolsT xs) h).bd fun bs h1 => .ok (.bl (bs.any id)) h1) (P := ⟨Q⟩) := by
  congr 1
  unfold bltT lsT mutL lstX
  dsimp only
  cases h[r]? with
  | none => rfl
  | some o =>
    cases o with
    | dK _ => rfl
    | ins _ => rfl
    | lst xs =>
      dsimp only [Option.bind]
      cases boolsT xs <;> rfl
theorem x_sum {r : Nat} {Q : T → Hh → Prop} : (Gx (bltT .sum [.ref r] h) (P := ⟨Q⟩)) = Gx (lstX h[r]? fun xs => (optR (intsT xs) h).bd fun bs h1 => .ok (.int bs.sum) h1) (P := ⟨Q⟩) := by
  congr 1
  unfold bltT lsT mutL lstX
  dsimp only
  cases h[r]? with
  | none => rfl
  | some o =>
    cases o with
    | dK _ => rfl
    | ins _ => rfl
    | lst xs =>
      dsimp only [Option.bind]
      cases intsT xs <;> rfl
theorem x_max2 {i j : Int} {Q : T → Hh → Prop} : (Gx (bltT .max [.int i, .int j] h) (P := ⟨Q⟩)) = Q (.int (if j > i then j else i)) h := propext ⟨fun q => q, fun q => q⟩
theorem x_min2 {i j : Int} {Q : T → Hh → Prop} : (Gx (bltT .min [.int i, .int j] h) (P := ⟨Q⟩)) = Q (.int (if j < i then j else i)) h := propext ⟨fun q => q, fun q => q⟩
theorem x_maxL {r : Nat} {Q : T → Hh → Prop} : (Gx (bltT .max [.ref r] h) (P := ⟨Q⟩)) = Gx (lstX h[r]? fun xs => (optR ((intsT xs).bind maxI) h).bd fun m h1 => .ok (.int m) h1) (P := ⟨Q⟩) := by
  congr 1
  unfold bltT lsT mutL lstX
  dsimp only
  cases h[r]? with
  | none => rfl
  | some o =>
    cases o with
    | dK _ => rfl
    | ins _ => rfl
    | lst xs =>
      dsimp only [Option.bind]
      cases intsT xs with
      | none => rfl
      | some ns =>
        dsimp only [Option.bind]
        cases maxI ns <;> rfl
theorem x_minL {r : Nat} {Q : T → Hh → Prop} : (Gx (bltT .min [.ref r] h) (P := ⟨Q⟩)) = Gx (lstX h[r]? fun xs => (optR ((intsT xs).bind minI) h).bd fun m h1 => .ok (.int m) h1) (P := ⟨Q⟩) := by
  congr 1
  unfold bltT lsT mutL lstX
  dsimp only
  cases h[r]? with
  | none => rfl
  | some o =>
    cases o with
    | dK _ => rfl
    | ins _ => rfl
    | lst xs =>
      dsimp only [Option.bind]
      cases intsT xs with
      | none => rfl
      | some ns =>
        dsimp only [Option.bind]
        cases minI ns <;> rfl
theorem x_abs {i : Int} {Q : T → Hh → Prop} : (Gx (bltT .abs [.int i] h) (P := ⟨Q⟩)) = Q (.int (if i < 0 then -i else i)) h := propext ⟨fun q => q, fun q => q⟩
theorem x_tointB {b : Bool} {Q : T → Hh → Prop} : (Gx (bltT .int [.bl b] h) (P := ⟨Q⟩)) = Q (.int (b2I b)) h := propext ⟨fun q => q, fun q => q⟩
theorem x_toint {i : Int} {Q : T → Hh → Prop} : (Gx (bltT .int [.int i] h) (P := ⟨Q⟩)) = Q (.int i) h := propext ⟨fun q => q, fun q => q⟩
def repX (o : Option PyData) (h : Hh) : R T := match o with
  | some d => if (decide (d.shown.length ≤ 16777216) && d.showable && decide (d.depth ≤ 60)) = true then .ok (.str d.shown) h else .bad
  | none => .bad
theorem x_repr {x : T} {Q : T → Hh → Prop} : (Gx (bltT .repr [x] h) (P := ⟨Q⟩)) = Gx (repX (datR h x) h) (P := ⟨Q⟩) := propext ⟨fun q => q, fun q => q⟩
theorem x_rep {d : PyData} {Q : T → Hh → Prop} : (Gx (repX (some d) h) (P := ⟨Q⟩)) = ((decide (d.shown.length ≤ 16777216) && d.showable && decide (d.depth ≤ 60)) = true ∧ Q (.str d.shown) h) := by
  simp only [Gx, repX]
  by_cases hc : (decide (d.shown.length ≤ 16777216) && d.showable && decide (d.depth ≤ 60)) = true
  · rw [if_pos hc]
    exact propext ⟨fun q => ⟨hc, q⟩, fun q => q.2⟩
  · rw [if_neg hc]
    exact propext ⟨fun q => q.elim, fun q => absurd q.1 hc⟩
theorem x_slcT {xs : List T} {lo hi : Option Int} {Q : T → Hh → Prop} : (Gx (slcT (.tup xs) lo hi h) (P := ⟨Q⟩)) = Q (.tup (cutT xs lo hi)) h := propext ⟨fun q => q, fun q => q⟩
theorem x_slcF {xs : List T} {lo hi : Option Int} {Q : T → Hh → Prop} : (Gx (slcT (.fz xs) lo hi h) (P := ⟨Q⟩)) = Gx (newL h (cutT xs lo hi)) (P := ⟨Q⟩) := propext ⟨fun q => q, fun q => q⟩
theorem x_slcL {r : Nat} {lo hi : Option Int} {Q : T → Hh → Prop} : (Gx (slcT (.ref r) lo hi h) (P := ⟨Q⟩)) = Gx (lstX h[r]? fun xs => newL h (cutT xs lo hi)) (P := ⟨Q⟩) := by
  congr 1
  unfold slcT lsT mutL lstX
  try dsimp only
  cases h[r]? with
  | none => rfl
  | some o => cases o <;> rfl
theorem x_revL {r : Nat} {Q : T → Hh → Prop} : (Gx (revT (.ref r) h) (P := ⟨Q⟩)) = Gx (lstX h[r]? fun xs => newL h xs.reverse) (P := ⟨Q⟩) := by
  congr 1
  unfold revT lsT mutL lstX
  try dsimp only
  cases h[r]? with
  | none => rfl
  | some o => cases o <;> rfl
theorem x_revT {xs : List T} {Q : T → Hh → Prop} : (Gx (revT (.tup xs) h) (P := ⟨Q⟩)) = Q (.tup xs.reverse) h := propext ⟨fun q => q, fun q => q⟩
theorem x_strB {b : Bool} {Q : T → Hh → Prop} : (Gx (bltT .str [.bl b] h) (P := ⟨Q⟩)) = Q (.str (if b then "True" else "False")) h := propext ⟨fun q => q, fun q => q⟩
theorem x_strI {i : Int} {Q : T → Hh → Prop} : (Gx (bltT .str [.int i] h) (P := ⟨Q⟩)) = (i.natAbs.log2 < 1920 ∧ Q (.str (toString i)) h) := by
  simp only [Gx, bltT]
  by_cases hc : i.natAbs.log2 < 1920
  · rw [if_pos hc]
    exact propext ⟨fun q => ⟨hc, q⟩, fun q => q.2⟩
  · rw [if_neg hc]
    exact propext ⟨fun q => q.elim, fun q => absurd q.1 hc⟩
theorem x_lsetT {xs : List T} {Q : T → Hh → Prop} : (Gx (lsetT h (.tup xs)) (P := ⟨Q⟩)) = Gx (optR (intsT xs) h) (P := ⟨fun ns h1 => Gx (if ns.length < 1000 then .ok (.int (sdd ns).length) h1 else .bad) (P := ⟨Q⟩)⟩) := by
  unfold lsetT seqOf
  dsimp only [Option.bind_some]
  cases intsT xs <;> rfl
theorem x_ssetL {r : Nat} {Q : T → Hh → Prop} : (Gx (ssetT h (.ref r)) (P := ⟨Q⟩)) = Gx (lstX h[r]? fun xs => (optR (intsT xs) h).bd fun ns h1 => if ns.length < 64 then newL h1 ((sdd ns).map T.int) else .bad) (P := ⟨Q⟩) := by
  congr 1
  unfold ssetT lsT mutL lstX
  dsimp only
  cases h[r]? with
  | none => rfl
  | some o =>
    cases o with
    | dK _ => rfl
    | ins _ => rfl
    | lst xs =>
      dsimp only [Option.bind]
      cases intsT xs <;> rfl
theorem x_isi_int {i : Int} {ts : List String} {Q : T → Hh → Prop} : (Gx (isiR ts (.int i) h) (P := ⟨Q⟩)) = Q (.bl (ts.any (isiT1 "int"))) h := propext ⟨fun q => q, fun q => q⟩
theorem x_isi_bool {i : Bool} {ts : List String} {Q : T → Hh → Prop} : (Gx (isiR ts (.bl i) h) (P := ⟨Q⟩)) = Q (.bl (ts.any (isiT1 "bool"))) h := propext ⟨fun q => q, fun q => q⟩
theorem x_isi_NoneType  {ts : List String} {Q : T → Hh → Prop} : (Gx (isiR ts (.non) h) (P := ⟨Q⟩)) = Q (.bl (ts.any (isiT1 "NoneType"))) h := propext ⟨fun q => q, fun q => q⟩
theorem x_isi_str {i : Str} {ts : List String} {Q : T → Hh → Prop} : (Gx (isiR ts (.str i) h) (P := ⟨Q⟩)) = Q (.bl (ts.any (isiT1 "str"))) h := propext ⟨fun q => q, fun q => q⟩
theorem x_isi_tuple {i : List T} {ts : List String} {Q : T → Hh → Prop} : (Gx (isiR ts (.tup i) h) (P := ⟨Q⟩)) = Q (.bl (ts.any (isiT1 "tuple"))) h := propext ⟨fun q => q, fun q => q⟩
theorem x_isi_list {i : List T} {ts : List String} {Q : T → Hh → Prop} : (Gx (isiR ts (.fz i) h) (P := ⟨Q⟩)) = Q (.bl (ts.any (isiT1 "list"))) h := propext ⟨fun q => q, fun q => q⟩
end
theorem ty_NoneType_int : isiT1 "NoneType" "int" = false := by decide +kernel
theorem ty_NoneType_bool : isiT1 "NoneType" "bool" = false := by decide +kernel
theorem ty_NoneType_str : isiT1 "NoneType" "str" = false := by decide +kernel
theorem ty_NoneType_list : isiT1 "NoneType" "list" = false := by decide +kernel
theorem ty_NoneType_tuple : isiT1 "NoneType" "tuple" = false := by decide +kernel
theorem ty_NoneType_dict : isiT1 "NoneType" "dict" = false := by decide +kernel
theorem ty_int_int : isiT1 "int" "int" = true := by decide +kernel
theorem ty_int_bool : isiT1 "int" "bool" = false := by decide +kernel
theorem ty_int_str : isiT1 "int" "str" = false := by decide +kernel
theorem ty_int_list : isiT1 "int" "list" = false := by decide +kernel
theorem ty_int_tuple : isiT1 "int" "tuple" = false := by decide +kernel
theorem ty_int_dict : isiT1 "int" "dict" = false := by decide +kernel
theorem ty_bool_int : isiT1 "bool" "int" = true := by decide +kernel
theorem ty_bool_bool : isiT1 "bool" "bool" = true := by decide +kernel
theorem ty_bool_str : isiT1 "bool" "str" = false := by decide +kernel
theorem ty_bool_list : isiT1 "bool" "list" = false := by decide +kernel
theorem ty_bool_tuple : isiT1 "bool" "tuple" = false := by decide +kernel
theorem ty_bool_dict : isiT1 "bool" "dict" = false := by decide +kernel
theorem ty_str_int : isiT1 "str" "int" = false := by decide +kernel
theorem ty_str_bool : isiT1 "str" "bool" = false := by decide +kernel
theorem ty_str_str : isiT1 "str" "str" = true := by decide +kernel
theorem ty_str_list : isiT1 "str" "list" = false := by decide +kernel
theorem ty_str_tuple : isiT1 "str" "tuple" = false := by decide +kernel
theorem ty_str_dict : isiT1 "str" "dict" = false := by decide +kernel
theorem ty_tuple_int : isiT1 "tuple" "int" = false := by decide +kernel
theorem ty_tuple_bool : isiT1 "tuple" "bool" = false := by decide +kernel
theorem ty_tuple_str : isiT1 "tuple" "str" = false := by decide +kernel
theorem ty_tuple_list : isiT1 "tuple" "list" = false := by decide +kernel
theorem ty_tuple_tuple : isiT1 "tuple" "tuple" = true := by decide +kernel
theorem ty_tuple_dict : isiT1 "tuple" "dict" = false := by decide +kernel
theorem ty_list_int : isiT1 "list" "int" = false := by decide +kernel
theorem ty_list_bool : isiT1 "list" "bool" = false := by decide +kernel
theorem ty_list_str : isiT1 "list" "str" = false := by decide +kernel
theorem ty_list_list : isiT1 "list" "list" = true := by decide +kernel
theorem ty_list_tuple : isiT1 "list" "tuple" = false := by decide +kernel
theorem ty_list_dict : isiT1 "list" "dict" = false := by decide +kernel
theorem ty_dict_int : isiT1 "dict" "int" = false := by decide +kernel
theorem ty_dict_bool : isiT1 "dict" "bool" = false := by decide +kernel
theorem ty_dict_str : isiT1 "dict" "str" = false := by decide +kernel
theorem ty_dict_list : isiT1 "dict" "list" = false := by decide +kernel
theorem ty_dict_tuple : isiT1 "dict" "tuple" = false := by decide +kernel
theorem ty_dict_dict : isiT1 "dict" "dict" = true := by decide +kernel
theorem at_0 {α : Type} {a : α} {l : List α} : atI (a :: l) 0 = some a := by
  unfold atI
  have : ixN (a :: l).length 0 = some 0 := by
    unfold ixN
    simp
  rw [this]
  rfl
theorem atI_some {α : Type} {l : List α} {k : Int} {j : Nat} (e : k = j) {a : α} (h : l[j]? = some a) : atI l k = some a := by
  have hj := (List.getElem?_eq_some_iff.mp h).1
  unfold atI
  have : ixN l.length k = some j := by
    unfold ixN
    subst e
    simp
    omega
  rw [this]
  exact h
theorem at_1 {α : Type} {a b : α} {l : List α} : atI (a :: b :: l) 1 = some b := atI_some (j := 1) rfl rfl
theorem at_2 {α : Type} {a b c : α} {l : List α} : atI (a :: b :: c :: l) 2 = some c := atI_some (j := 2) rfl rfl
theorem at_3 {α : Type} {a b c d : α} {l : List α} : atI (a :: b :: c :: d :: l) 3 = some d := atI_some (j := 3) rfl rfl
theorem at_4 {α : Type} {a b c d e : α} {l : List α} : atI (a :: b :: c :: d :: e :: l) 4 = some e := atI_some (j := 4) rfl rfl
theorem call_gx {D : Tbl} {n : Nat} {f : String} {ps N : List String} {body : CSs} {as : List T} {h : Hh} {Q : T → Hh → Prop} (e : D.fn f = some ⟨ps, N, body⟩) (l : as.length = ps.length)
    (g : Gx (evSs D (callN D n) body (as.map some ++ List.replicate (N.length - as.length) none) h) (P := ⟨fun p h => Gx (finR p h) (P := ⟨Q⟩)⟩)) : Gx (callN D (n + 1) f as h) (P := ⟨Q⟩) := by
  unfold callN
  rw [e]
  dsimp only
  rw [if_pos l]
  show Go _ _
  rw [Go_fin]
  refine Go.mono g fun p h1 q => ?_
  obtain ⟨f, l⟩ := p
  cases f <;> exact q
/-- a call that raises -/
def XcQ (c : String) (fs : List T) (r : Hh → Prop) (p : Fl × Ls) (h : Hh) : Prop := p.1 = .xc c fs ∧ r h
theorem x_xcq {c : String} {fs : List T} {r : Hh → Prop} {l : Ls} {h : Hh} : XcQ c fs r (.xc c fs, l) h = r h := propext ⟨fun q => q.2, fun q => ⟨rfl, q⟩⟩
theorem call_xc {D : Tbl} {n : Nat} {f : String} {ps N : List String} {body : CSs} {as : List T} {h : Hh} {c : String} {fs : List T} {r : Hh → Prop} (e : D.fn f = some ⟨ps, N, body⟩) (l : as.length = ps.length)
    (g : Gx (evSs D (callN D n) body (as.map some ++ List.replicate (N.length - as.length) none) h) (P := ⟨fun p h => XcQ c fs r p h⟩)) : ∃ h1, callN D (n + 1) f as h = .exc c fs h1 ∧ r h1 := by
  obtain ⟨⟨f, l2⟩, h1, e1, q, k⟩ := gx_ex g
  dsimp only at q
  subst q
  refine ⟨h1, ?_, k⟩
  unfold callN
  rw [e]
  dsimp only
  rw [if_pos l]
  show fin (evSs D (callN D n) body (as.map some ++ List.replicate (N.length - as.length) none) h) = _
  rw [e1]
  rfl
end MP

set_option Elab.async false
set_option linter.all false
set_option maxRecDepth 100000
/-! MiniPy, part W: data without objects -/
namespace MP
open PySem L2
abbrev pdat (t : T) : Option PyData := T.dat (fun _ => none) t
abbrev pdats (t : List T) : Option (List PyData) := T.dats (fun _ => none) t
mutual
theorem pdat_any (f : Nat → Option PyData) : ∀ (t : T) (d : PyData), pdat t = some d → T.dat f t = some d
  | .non, d, e => e
  | .bl b, d, e => e
  | .int i, d, e => e
  | .str x, d, e => e
  | .tup xs, d, e => by
    unfold pdat T.dat at e
    cases q : pdats xs with
    | none => rw [show T.dats (fun _ => none) xs = none from q] at e; cases e
    | some ds =>
      rw [show T.dats (fun _ => none) xs = some ds from q] at e
      unfold T.dat
      rw [pdats_any f xs ds q]
      exact e
  | .fz xs, d, e => by
    unfold pdat T.dat at e
    cases q : pdats xs with
    | none => rw [show T.dats (fun _ => none) xs = none from q] at e; cases e
    | some ds =>
      rw [show T.dats (fun _ => none) xs = some ds from q] at e
      unfold T.dat
      rw [pdats_any f xs ds q]
      exact e
  | .ref n, d, e => by cases e
  | .fn n, d, e => by cases e
theorem pdats_any (f : Nat → Option PyData) : ∀ (t : List T) (d : List PyData), pdats t = some d → T.dats f t = some d
  | [], d, e => e
  | x :: xs, d, e => by
    unfold pdats T.dats at e
    cases q : pdat x with
    | none => rw [show T.dat (fun _ => none) x = none from q] at e; cases e
    | some dx =>
      rw [show T.dat (fun _ => none) x = some dx from q] at e
      cases q2 : pdats xs with
      | none => rw [show T.dats (fun _ => none) xs = none from q2] at e; cases e
      | some ds =>
        rw [show T.dats (fun _ => none) xs = some ds from q2] at e
        unfold T.dats
        rw [pdat_any f x dx q, pdats_any f xs ds q2]
        exact e
end
section
variable {h : Hh}
theorem dat_p {t : T} {d : PyData} (e : pdat t = some d) : dat h t = some d := pdat_any _ t d e
theorem dats_p {t : List T} {d : List PyData} (e : pdats t = some d) : dats h t = some d := pdats_any _ t d e
theorem dat_l {r : Nat} {xs : List T} {ds : List PyData} (e : h[r]? = some (.lst xs)) (p : pdats xs = some ds) : dat h (.ref r) = some (.list ds) := by
  show refD (11 + 1) h r = _
  unfold refD
  rw [e]
  dsimp only
  rw [pdats_any _ xs ds p]
  rfl
theorem pdats_map {α : Type} (enc : α → T) (key : α → PyData) : ∀ (L : List α), (∀ a ∈ L, pdat (enc a) = some (key a)) → pdats (L.map enc) = some (L.map key)
  | [], _ => rfl
  | a :: L, hp => by
    show T.dats _ (enc a :: L.map enc) = _
    unfold T.dats
    rw [show T.dat (fun _ => none) (enc a) = some (key a) from hp a List.mem_cons_self, show T.dats (fun _ => none) (L.map enc) = some (L.map key) from pdats_map enc key L fun b hb => hp b (List.mem_cons_of_mem _ hb)]
    rfl
theorem pdat_tup {xs : List T} {ds : List PyData} (e : pdats xs = some ds) : pdat (.tup xs) = some (.tuple ds) := by
  show T.dat _ _ = _
  unfold T.dat
  rw [show T.dats (fun _ => none) xs = some ds from e]
  rfl
theorem pdats_ints (L : List Int) : pdats (L.map T.int) = some (L.map PyData.int) := pdats_map T.int PyData.int L fun _ _ => rfl
theorem dats_len {f : Nat → Option PyData} : ∀ {xs : List T} {ds : List PyData}, T.dats f xs = some ds → ds.length = xs.length
  | [], ds, e => by
    unfold T.dats at e
    cases e
    rfl
  | x :: xs, ds, e => by
    unfold T.dats at e
    split at e
    · cases q : T.dats f xs with
      | none => rw [q] at e; cases e
      | some es =>
        rw [q] at e
        cases e
        rw [List.length_cons, List.length_cons, dats_len q]
    · cases e
theorem eqvAll_em {ds es : List PyData} (h : ds = [] ∨ es = []) : PyData.eqvAll ds es = decide (ds.length = es.length) := by
  rcases h with rfl | rfl
  · cases es <;> simp [PyData.eqvAll]
  · cases ds <;> simp [PyData.eqvAll]
theorem em_of {xs ys : List T} {ds es : List PyData} (l1 : ds.length = xs.length) (l2 : es.length = ys.length) (h : (xs.isEmpty || ys.isEmpty) = true) : PyData.eqvAll ds es = decide (xs.length = ys.length) := by
  rw [eqvAll_em, l1, l2]
  rw [Bool.or_eq_true, List.isEmpty_iff, List.isEmpty_iff] at h
  rcases h with rfl | rfl
  · exact .inl (List.eq_nil_of_length_eq_zero l1)
  · exact .inr (List.eq_nil_of_length_eq_zero l2)
theorem dat_tupD {xs : List T} {d : PyData} (e : dat h (.tup xs) = some d) : ∃ ds, d = .tuple ds ∧ ds.length = xs.length := by
  unfold dat T.dat at e
  cases q : T.dats (refD 12 h) xs with
  | none => rw [q] at e; cases e
  | some ds =>
    rw [q] at e
    cases e
    exact ⟨ds, rfl, dats_len q⟩
theorem dat_refD {a : Nat} {xs : List T} {d : PyData} (m : mutL h a = some xs) (e : dat h (.ref a) = some d) : ∃ ds, d = .list ds ∧ ds.length = xs.length := by
  unfold dat T.dat refD at e
  unfold mutL at m
  split at m
  · rename_i ys eq
    cases m
    rw [eq] at e
    dsimp only at e
    cases q : T.dats (refD 11 h) xs with
    | none => rw [q] at e; cases e
    | some ds =>
      rw [q] at e
      cases e
      exact ⟨ds, rfl, dats_len q⟩
  · cases m
theorem emT_dat {x y : T} {d e : PyData} {b : Bool} (h1 : dat h x = some d) (h2 : dat h y = some e) (hb : emT h x y = some b) : PyData.eqv d e = b := by
  unfold emT at hb
  split at hb
  · split at hb
    · rename_i hc
      cases hb
      obtain ⟨ds, rfl, l1⟩ := dat_tupD h1
      obtain ⟨es, rfl, l2⟩ := dat_tupD h2
      rw [PyData.eqv]
      exact em_of l1 l2 hc
    · cases hb
  · split at hb
    · rename_i m1 m2
      split at hb
      · rename_i hc
        cases hb
        obtain ⟨ds, rfl, l1⟩ := dat_refD m1 h1
        obtain ⟨es, rfl, l2⟩ := dat_refD m2 h2
        rw [PyData.eqv]
        exact em_of l1 l2 hc
      · cases hb
    · cases hb
  · cases hb
theorem eqT_em {x y : T} {b : Bool} (hb : emT h x y = some b) : eqT h x y = some b := by
  have : strQ x y = none := by
    cases x <;> first | rfl | skip
    cases hb
  unfold eqT
  rw [this, hb]
theorem eqT_ss {a b : Str} : eqT h (.str a) (.str b) = some (decide (a = b)) := Eq.trans rfl rfl
theorem eqT_nilT {xs : List T} : eqT h (.tup xs) (.tup []) = some xs.isEmpty := eqT_em (by
  unfold emT
  simp only [List.isEmpty_nil, Bool.or_true, if_true]
  cases xs <;> simp)
theorem eqT_nilL {r k : Nat} {xs : List T} (e1 : h[r]? = some (.lst xs)) (e2 : h[k]? = some (.lst [])) : eqT h (.ref r) (.ref k) = some xs.isEmpty := eqT_em (by
  unfold emT mutL
  dsimp only
  rw [e1, e2]
  simp only [List.isEmpty_nil, Bool.or_true, if_true]
  cases xs <;> simp)
theorem eqT_of {x y : T} {d e : PyData} (h1 : dat h x = some d) (h2 : dat h y = some e) (s1 : SeqAt.shaped d = true) (s2 : SeqAt.shaped e = true) : eqT h x y = some (PyData.eqv d e) := by
  cases hq : strQ x y with
  | some b => ?_
  | none => ?_
  · unfold strQ at hq
    split at hq
    · cases hq
      cases h1
      cases h2
      rw [eqT_ss]
      rename_i a b
      show some (decide (a = b)) = some (a == b)
      by_cases e : a = b
      · rw [decide_eq_true e, e, beq_self_eq_true]
      · rw [decide_eq_false e, beq_eq_false_iff_ne.mpr e]
    · cases hq
  cases hb : emT h x y with
  | some b => rw [eqT_em hb, emT_dat h1 h2 hb]
  | none => ?_
  unfold eqT
  rw [hq, hb]
  dsimp only
  unfold eqD
  rw [h1, h2]
  dsimp only
  rw [s1, s2]
  rfl
theorem inT_of {x : T} {ys : List T} {d : PyData} {ds : List PyData} (h1 : dat h x = some d) (h2 : dats h ys = some ds) (s1 : SeqAt.shaped d = true) (s2 : SeqAt.shaped (.list ds) = true) : inT h x ys = some (ds.any fun z => PyData.eqv z d) := by
  unfold inT
  rw [h1, h2]
  dsimp only
  rw [s1, s2]
  rfl
theorem canLay_map {α : Type} (key : α → PyData) : ∀ (L : List α), (∀ a ∈ L, (key a).canLay0 = true) → PyData.canLayAll0 (L.map key) = true
  | [], _ => rfl
  | a :: L, hp => by
    show ((key a).canLay0 && PyData.canLayAll0 (L.map key)) = true
    rw [hp a List.mem_cons_self, canLay_map key L fun b hb => hp b (List.mem_cons_of_mem _ hb)]
    rfl
theorem depth_map {α : Type} (key : α → PyData) (n : Nat) : ∀ (L : List α), (∀ a ∈ L, (key a).depth ≤ n) → PyData.depthAll (L.map key) ≤ n
  | [], _ => Nat.zero_le _
  | a :: L, hp => by
    show max (key a).depth (PyData.depthAll (L.map key)) ≤ n
    have h1 := hp a List.mem_cons_self
    have h2 := depth_map key n L fun b hb => hp b (List.mem_cons_of_mem _ hb)
    omega
theorem shaped_of {d : PyData} (h1 : d.canLay0 = true) (h2 : d.depth ≤ 64) : SeqAt.shaped d = true := by
  unfold SeqAt.shaped
  rw [h1, decide_eq_true h2]
  rfl
theorem shaped_l {α : Type} (key : α → PyData) (L : List α) (h1 : ∀ a ∈ L, (key a).canLay0 = true) (h2 : ∀ a ∈ L, (key a).depth ≤ 63) : SeqAt.shaped (.list (L.map key)) = true :=
  shaped_of (canLay_map key L h1) (by
    show PyData.depthAll _ + 1 ≤ 64
    have := depth_map key 63 L h2
    omega)
theorem shaped_t {α : Type} (key : α → PyData) (L : List α) (h1 : ∀ a ∈ L, (key a).canLay0 = true) (h2 : ∀ a ∈ L, (key a).depth ≤ 63) : SeqAt.shaped (.tuple (L.map key)) = true :=
  shaped_of (canLay_map key L h1) (by
    show PyData.depthAll _ + 1 ≤ 64
    have := depth_map key 63 L h2
    omega)
theorem shaped_ints (L : List Int) : SeqAt.shaped (.list (L.map PyData.int)) = true := shaped_l PyData.int L (fun _ _ => rfl) (fun _ _ => Nat.zero_le _)
theorem eqv_ints : ∀ L M : List Int, PyData.eqvAll (L.map PyData.int) (M.map PyData.int) = decide (L = M)
  | [], [] => rfl
  | [], _ :: _ => rfl
  | _ :: _, [] => rfl
  | a :: L, b :: M => by
    show ((a == b) && PyData.eqvAll (L.map PyData.int) (M.map PyData.int)) = _
    rw [eqv_ints L M]
    by_cases e : a = b
    · subst e
      simp
    · have : (a == b) = false := beq_eq_false_iff_ne.mpr e
      rw [this]
      simp [e]
theorem any_ints (x : Int) : ∀ L : List Int, ((L.map PyData.int).any fun z => PyData.eqv z (.int x)) = decide (x ∈ L)
  | [] => by simp
  | a :: L => by
    rw [List.map_cons, List.any_cons, any_ints x L]
    show ((a == x) || _) = _
    by_cases e : a = x
    · subst e
      simp
    · have : (a == x) = false := beq_eq_false_iff_ne.mpr e
      rw [this]
      have e' : ¬ x = a := fun z => e z.symm
      simp [e']
/-- a list of ints against the empty one -/
theorem eqT_empty {α : Type} {r k : Nat} {enc : α → T} {key : α → PyData} {L : List α} (e1 : h[r]? = some (.lst (L.map enc))) (e2 : h[k]? = some (.lst [])) (hp : ∀ a ∈ L, pdat (enc a) = some (key a)) (h1 : ∀ a ∈ L, (key a).canLay0 = true) (h2 : ∀ a ∈ L, (key a).depth ≤ 63) :
    eqT h (.ref r) (.ref k) = some L.isEmpty := by
  rw [eqT_of (dat_l e1 (pdats_map enc key L hp)) (dat_l e2 rfl) (shaped_l key L h1 h2) rfl]
  cases L <;> rfl
theorem eqT_ints0 {r k : Nat} {L : List Int} (e1 : h[r]? = some (.lst (L.map T.int))) (e2 : h[k]? = some (.lst [])) : eqT h (.ref r) (.ref k) = some L.isEmpty := eqT_empty e1 e2 (fun _ _ => rfl) (fun _ _ => rfl) (fun _ _ => Nat.zero_le _)
theorem inO_ints {r : Nat} {L : List Int} {x : Int} (e : h[r]? = some (.lst (L.map T.int))) : inO (.int x) (.ref r) h = some (decide (x ∈ L)) := by
  unfold inO
  dsimp only
  rw [e]
  dsimp only
  rw [inT_of (dat_p (d := .int x) rfl) (dats_p (pdats_ints L)) rfl (shaped_ints L), any_ints]
theorem inO_intt {L : List Int} {x : Int} : inO (.int x) (.tup (L.map T.int)) h = some (decide (x ∈ L)) := by
  unfold inO
  dsimp only
  have : ((T.int x).flat && (L.map T.int).all T.flat) = true := by
    simp [T.flat]
  rw [if_pos this, inT_of (dat_p (d := .int x) rfl) (dats_p (pdats_ints L)) rfl (shaped_ints L), any_ints]
theorem intsT_map : ∀ L : List Int, intsT (L.map T.int) = some L
  | [] => rfl
  | a :: L => by
    show (intsT (L.map T.int)).map (a :: ·) = _
    rw [intsT_map L]
    rfl
theorem boolsT_map : ∀ L : List Bool, boolsT (L.map T.bl) = some L
  | [] => rfl
  | a :: L => by
    show (boolsT (L.map T.bl)).map (a :: ·) = _
    rw [boolsT_map L]
    rfl
/-! ### sorting -/
theorem dataLe_trans {β : Type} (k : β → PyData) (a b c : β) (h1 : W.dataLe false k a b = true) (h2 : W.dataLe false k b c = true) : W.dataLe false k a c = true :=
  (PySem.W.sortLe_total _ _ _).trans a b c h1 h2
theorem dataLe_tot {β : Type} (k : β → PyData) (a b : β) : (W.dataLe false k a b || W.dataLe false k b a) = true := by
  rw [Bool.or_eq_true]
  exact (PySem.W.sortLe_total _ _ _).total a b
theorem zip_maps {α β γ : Type} (f : α → β) (g : α → γ) : ∀ L : List α, (L.map f).zip (L.map g) = L.map fun a => (f a, g a)
  | [] => rfl
  | a :: L => by
    rw [List.map_cons, List.map_cons, List.zip_cons_cons, zip_maps f g L]
    rfl
/-- sorted, by the key -/
def srt {α : Type} (key : α → PyData) (L : List α) : List α := L.mergeSort (W.dataLe false key)
theorem sortT_map {α : Type} {enc : α → T} {key : α → PyData} {L : List α} (hp : ∀ a ∈ L, pdat (enc a) = some (key a)) (hs : sortable (L.map key) = true) (hl : L.length ≤ 16777216) : sortT h (L.map enc) = some ((srt key L).map enc) := by
  unfold sortT
  rw [dats_p (pdats_map enc key L hp)]
  dsimp only
  rw [if_pos ⟨hs, by rw [List.length_map]; exact hl⟩, zip_maps]
  unfold sortP srt
  rw [← List.map_mergeSort (r := W.dataLe false key) (s := W.dataLe false fun p : T × PyData => p.2) (f := fun a => (enc a, key a)) (fun a _ b _ => rfl), List.map_map]
  rfl
theorem srt_perm {α : Type} (key : α → PyData) (L : List α) : (srt key L).Perm L := List.mergeSort_perm _ _
theorem srt_pw {α : Type} (key : α → PyData) (L : List α) : (srt key L).Pairwise fun a b => W.dataLe false key a b = true :=
  List.pairwise_mergeSort (fun a b c => dataLe_trans key a b c) (fun a b => dataLe_tot key a b) L
theorem srt_srt {α : Type} (key : α → PyData) (L : List α) : srt key (srt key L) = srt key L := List.mergeSort_of_pairwise (srt_pw key L)
theorem srt_len {α : Type} (key : α → PyData) (L : List α) : (srt key L).length = L.length := (srt_perm key L).length_eq
theorem srt_mem {α : Type} (key : α → PyData) {L : List α} {a : α} : a ∈ srt key L ↔ a ∈ L := (srt_perm key L).mem_iff
theorem sortable_of {ds : List PyData} (h1 : ∀ d ∈ ds, ∀ e ∈ ds, W.alike d e = true) (h2 : (∀ d ∈ ds, (match d with | .tuple (_ :: _) => true | _ => false) = true) ∨ ∀ d ∈ ds, (match d with | .none => false | .tuple _ => false | _ => true) = true) (h3 : ∀ d ∈ ds, d.depth ≤ 60) : sortable ds = true := by
  unfold sortable
  simp only [Bool.and_eq_true, Bool.or_eq_true, List.all_eq_true, decide_eq_true_eq]
  exact ⟨⟨h1, h2⟩, h3⟩
theorem sortable_ints (L : List Int) : sortable (L.map PyData.int) = true := by
  refine sortable_of (fun d hd e he => ?_) (.inr fun d hd => ?_) (fun d hd => ?_)
  · obtain ⟨i, _, rfl⟩ := List.mem_map.mp hd
    obtain ⟨j, _, rfl⟩ := List.mem_map.mp he
    simp [W.alike]
  · obtain ⟨i, _, rfl⟩ := List.mem_map.mp hd
    rfl
  · obtain ⟨i, _, rfl⟩ := List.mem_map.mp hd
    exact Nat.zero_le _
theorem srt_ints_le (L : List Int) : (srt PyData.int L).Pairwise (· ≤ ·) := by
  refine (srt_pw PyData.int L).imp fun {a b} e => ?_
  have z := W.dataLe_int (fun i : Int => i)
  rw [show W.dataLe false PyData.int = _ from z] at e
  exact of_decide_eq_true e
theorem sortT_ints {L : List Int} (hl : L.length ≤ 16777216) : sortT h (L.map T.int) = some ((srt PyData.int L).map T.int) := sortT_map (fun _ _ => rfl) (sortable_ints L) hl
end
end MP
namespace MP
open PySem L2
theorem eqT_int {h : Hh} {i j : Int} : eqT h (.int i) (.int j) = some (decide (i = j)) := by
  rw [eqT_of (d := .int i) (e := .int j) rfl rfl rfl rfl]
  rfl
theorem nat_2 : ((2 : Nat) : Int) = 2 := rfl
theorem nat_3 : ((3 : Nat) : Int) = 3 := rfl
theorem nat_0 : ((0 : Nat) : Int) = 0 := rfl
theorem nat_1 : ((1 : Nat) : Int) = 1 := rfl
theorem nat_4 : ((4 : Nat) : Int) = 4 := rfl
theorem nat_5 : ((5 : Nat) : Int) = 5 := rfl
theorem nat_6 : ((6 : Nat) : Int) = 6 := rfl
end MP

set_option Elab.async false
set_option linter.all false
set_option maxRecDepth 100000
/-! MiniPy, part X: loops, comprehensions -/
namespace MP
open PySem L2
section
variable {D : Tbl} {C : String → List T → Hh → R T} {ls : Ls} {h : Hh} {Q : T → Hh → Prop}
theorem take_succ {α : Type} {xs : List α} {i : Nat} {x : α} (e : xs[i]? = some x) : xs.take (i + 1) = xs.take i ++ [x] := by
  rw [List.take_add_one, e]
  rfl
/-- behind a loop's body -/
def LoopK (J : Ls → Hh → Prop) (Q : Fl × Ls → Hh → Prop) : Fl × Ls → Hh → Prop := fun p h => match p.1 with
  | .nx => J p.2 h
  | .ct => J p.2 h
  | .bk => Q (.nx, p.2) h
  | .rt t => Q (.rt t, p.2) h
  | .xc c fs => Q (.xc c fs, p.2) h
section
variable {J : Ls → Hh → Prop} {Q : Fl × Ls → Hh → Prop} {l : Ls} {t : T}
theorem x_loopN : LoopK J Q (.nx, l) h = J l h := propext ⟨fun q => q, fun q => q⟩
theorem x_loopC : LoopK J Q (.ct, l) h = J l h := propext ⟨fun q => q, fun q => q⟩
theorem x_loopB : LoopK J Q (.bk, l) h = Q (.nx, l) h := propext ⟨fun q => q, fun q => q⟩
theorem x_loopR : LoopK J Q (.rt t, l) h = Q (.rt t, l) h := propext ⟨fun q => q, fun q => q⟩
theorem x_loopX {c : String} {fs : List T} : LoopK J Q (.xc c fs, l) h = Q (.xc c fs, l) h := propext ⟨fun q => q, fun q => q⟩
theorem gx_for {t : Tg} {body : CSs} {xs : List T} {w : Wt} (J : Nat → Ls → Hh → Prop) (h0 : J 0 ls h) (hw : ∀ i l h, J i l h → ∀ p ∈ w, lsT h p.1 = some p.2)
    (hs : ∀ i x l h, xs[i]? = some x → J i l h → Gx (evG D C t x l h) (P := ⟨fun l1 h1 => Gx (evSs D C body l1 h1) (P := ⟨LoopK (J (i + 1)) Q⟩)⟩)) (hd : ∀ l h, J xs.length l h → Q (.nx, l) h) : Gx (forR D C t body ls (xs, w) h) (P := ⟨Q⟩) := by
  refine for_go J h0 hw (fun i x l h hi hj => ?_) hd
  refine Go.mono (hs i x l h hi hj) fun l1 h1 g => Go.mono g fun p h2 q => ?_
  obtain ⟨f, l⟩ := p
  cases f <;> exact q
def WhlK (J : Nat → Ls → Hh → Prop) (m : Nat) : Ls → Hh → Prop := fun l h => ∃ k, k < m ∧ J k l h
theorem gx_whl {c : CE} {body : CSs} (J : Nat → Ls → Hh → Prop) (m : Nat) (h0 : J m ls h) (hs : ∀ m l h, J m l h → Gx (evE D C c l h) (P := ⟨fun b h1 => Gx (cndR b (.ok true h1) (.ok false h1)) (P := ⟨fun b h1 => IfX b (P := ⟨Gx (evSs D C body l h1) (P := ⟨LoopK (WhlK J m) Q⟩), Q (.nx, l) h1⟩)⟩)⟩)) :
    Gx (whlR D C c body ls h) (P := ⟨Q⟩) := by
  refine while_go J (fun m l h hj => ?_) h0
  refine Go.mono (hs m l h hj) fun b h1 g => ?_
  match b, g with
  | .bl true, g =>
    refine .inr ⟨rfl, Go.mono (g.1 rfl) fun p h2 q => ?_⟩
    obtain ⟨f, l⟩ := p
    cases f <;> exact q
  | .bl false, g => exact .inl ⟨rfl, g.2 rfl⟩
  | .non, g => exact g.elim
  | .int _, g => exact g.elim
  | .str _, g => exact g.elim
  | .tup _, g => exact g.elim
  | .fz _, g => exact g.elim
  | .ref _, g => exact g.elim
  | .fn _, g => exact g.elim
end
theorem gx_comp {own : List Nat} {tg : Tg} {c : CO} {elt : CE} {xs : List T} {w : Wt} (J : Nat → List T → Hh → Prop) (h0 : J 0 [] h) (hw : ∀ i a h, J i a h → ∀ p ∈ w, lsT h p.1 = some p.2)
    (hs : ∀ i x a h, xs[i]? = some x → J i a h → Gx (evG D C tg x (wipeL ls own) h) (P := ⟨fun l1 h1 => Gx (evC D C c l1 h1) (P := ⟨fun b h2 => Gx (cndR b (.ok true h2) (.ok false h2)) (P := ⟨fun b h2 => IfX b (P := ⟨a.length < 16777216 ∧ Gx (evE D C elt l1 h2) (P := ⟨fun y h3 => J (i + 1) (a ++ [y]) h3⟩), J (i + 1) a h2⟩)⟩)⟩)⟩))
    (hd : ∀ a h, J xs.length a h → Q (.ref h.length) (h ++ [.lst a])) : Gx (compR D C own tg c elt ls (xs, w) h) (P := ⟨Q⟩) := by
  refine comp_go J h0 hw (fun i x a h hi hj => ?_) hd
  refine Go.mono (hs i x a h hi hj) fun l1 h1 g => Go.mono g fun b h2 g => ?_
  match b, g with
  | .bl true, g => exact .inr ⟨rfl, (g.1 rfl).1, (g.1 rfl).2⟩
  | .bl false, g => exact .inl ⟨rfl, g.2 rfl⟩
  | .non, g => exact g.elim
  | .int _, g => exact g.elim
  | .str _, g => exact g.elim
  | .tup _, g => exact g.elim
  | .fz _, g => exact g.elim
  | .ref _, g => exact g.elim
  | .fn _, g => exact g.elim
theorem comp_map {own : List Nat} {tg : Tg} {elt : CE} {xs : List T} {w : Wt} (f : T → T) (J : Hh → Prop) (h0 : J h) (hl : xs.length ≤ 16777216) (hw : ∀ h, J h → ∀ p ∈ w, lsT h p.1 = some p.2)
    (hs : ∀ x h, x ∈ xs → J h → Gx (evG D C tg x (wipeL ls own) h) (P := ⟨fun l1 h1 => Gx (evE D C elt l1 h1) (P := ⟨fun y h3 => y = f x ∧ J h3⟩)⟩)) (hd : ∀ h, J h → Q (.ref h.length) (h ++ [.lst (xs.map f)])) : Gx (compR D C own tg .no elt ls (xs, w) h) (P := ⟨Q⟩) := by
  refine gx_comp (fun i a h => a = (xs.take i).map f ∧ J h) ⟨rfl, h0⟩ (fun i a h hj => hw h hj.2) (fun i x a h hi hj => ?_) (fun a h hj => ?_)
  · refine gx_mono (hs x h (List.mem_of_getElem? hi) hj.2) fun l1 h1 g => ?_
    rw [x_cno, x_cnd, ifx_t, gx_ok, ifx_t]
    refine ⟨?_, gx_mono g fun y h3 q => ⟨?_, q.2⟩⟩
    · have := (List.getElem?_eq_some_iff.mp hi).1
      rw [hj.1, List.length_map, List.length_take]
      omega
    · rw [take_succ hi, List.map_append, hj.1, q.1]
      rfl
  · rw [hj.1, List.take_of_length_le (Nat.le_refl _)]
    exact hd h hj.2
theorem comp_filter {own : List Nat} {tg : Tg} {c elt : CE} {xs : List T} {w : Wt} (f : T → T) (p : T → Bool) (J : Hh → Prop) (h0 : J h) (hl : xs.length ≤ 16777216) (hw : ∀ h, J h → ∀ p ∈ w, lsT h p.1 = some p.2)
    (hs : ∀ x h, x ∈ xs → J h → Gx (evG D C tg x (wipeL ls own) h) (P := ⟨fun l1 h1 => Gx (evE D C c l1 h1) (P := ⟨fun b h2 => b = .bl (p x) ∧ J h2 ∧ (p x = true → Gx (evE D C elt l1 h2) (P := ⟨fun y h3 => y = f x ∧ J h3⟩))⟩)⟩))
    (hd : ∀ h, J h → Q (.ref h.length) (h ++ [.lst ((xs.filter p).map f)])) : Gx (compR D C own tg (.so c) elt ls (xs, w) h) (P := ⟨Q⟩) := by
  refine gx_comp (fun i a h => a = ((xs.take i).filter p).map f ∧ J h) ⟨rfl, h0⟩ (fun i a h hj => hw h hj.2) (fun i x a h hi hj => ?_) (fun a h hj => ?_)
  · refine gx_mono (hs x h (List.mem_of_getElem? hi) hj.2) fun l1 h1 g => ?_
    rw [x_cso]
    refine gx_mono g fun b h2 q => ?_
    obtain ⟨rfl, j2, g2⟩ := q
    have hlen : a.length < 16777216 := by
      have := (List.getElem?_eq_some_iff.mp hi).1
      have h1 := List.length_filter_le p (xs.take i)
      have : (xs.take i).length = i := by rw [List.length_take]; omega
      rw [hj.1, List.length_map]
      omega
    rw [x_cnd]
    cases z : p x with
    | true =>
      rw [ifx_t, gx_ok, ifx_t]
      refine ⟨hlen, gx_mono (g2 z) fun y h3 q => ⟨?_, q.2⟩⟩
      rw [take_succ hi, List.filter_append, List.map_append, hj.1, q.1]
      simp [z]
    | false =>
      rw [ifx_f, gx_ok, ifx_f]
      refine ⟨?_, j2⟩
      rw [take_succ hi, List.filter_append, List.map_append, hj.1]
      simp [z]
  · rw [hj.1, List.take_of_length_le (Nat.le_refl _)]
    exact hd h hj.2
end
theorem at_end {h : Hh} {o : O} : (h ++ [o])[h.length]? = some o := by simp
theorem at_old {h : Hh} {o u : O} {r : Nat} (e : h[r]? = some u) : (h ++ [o])[r]? = some u := by
  rw [List.getElem?_append_left (List.getElem?_eq_some_iff.mp e).1]
  exact e
theorem at_set {h : Hh} {o u : O} {r : Nat} (e : h[r]? = some u) : (h.set r o)[r]? = some o := List.getElem?_set_self (List.getElem?_eq_some_iff.mp e).1
theorem at_setn {h : Hh} {o u : O} {r k : Nat} (e : h[r]? = some u) (ne : k ≠ r) : (h.set k o)[r]? = some u := by
  rw [List.getElem?_set_ne ne]
  exact e
theorem lt_of_at {h : Hh} {u : O} {r : Nat} (e : h[r]? = some u) : r < h.length := (List.getElem?_eq_some_iff.mp e).1
theorem bools_t {α : Type} (L : List α) : boolsT (L.map fun _ => T.bl true) = some (L.map fun _ => true) := by
  have z := boolsT_map (L.map fun _ => true)
  rw [List.map_map] at z
  exact z
theorem all_t {α : Type} (L : List α) : (L.map fun _ => true).all id = true := by simp
end MP
namespace MP
open PySem L2
theorem at_end1 {h : Hh} {a b : O} : (h ++ [a] ++ [b])[h.length]? = some a := at_old at_end
theorem at_end2 {h : Hh} {a b c : O} : (h ++ [a] ++ [b] ++ [c])[h.length]? = some a := at_old at_end1
theorem at_end3 {h : Hh} {a b c d : O} : (h ++ [a] ++ [b] ++ [c] ++ [d])[h.length]? = some a := at_old at_end2
mutual
theorem eqv_refl : ∀ d : PyData, d.canLay0 = true → PyData.eqv d d = true
  | .none, _ => rfl
  | .bool b, _ => beq_self_eq_true b
  | .int i, _ => beq_self_eq_true i
  | .str x, _ => beq_self_eq_true x
  | .list xs, h => eqvAll_refl xs h
  | .tuple xs, h => eqvAll_refl xs h
  | .dict _, h => by cases h
theorem eqvAll_refl : ∀ d : List PyData, PyData.canLayAll0 d = true → PyData.eqvAll d d = true
  | [], _ => rfl
  | x :: xs, h => by
    obtain ⟨h1, h2⟩ := Bool.and_eq_true_iff.mp (show (x.canLay0 && PyData.canLayAll0 xs) = true from h)
    show (PyData.eqv x x && PyData.eqvAll xs xs) = true
    rw [eqv_refl x h1, eqvAll_refl xs h2]
    rfl
end
theorem eqT_same {h : Hh} {x y : T} {d : PyData} (h1 : dat h x = some d) (h2 : dat h y = some d) (s : SeqAt.shaped d = true) : eqT h x y = some true := by
  rw [eqT_of h1 h2 s s, eqv_refl d (SeqAt.canLay_of_shaped s)]
end MP
namespace MP
theorem insU_len (k : Int) : ∀ l : List Int, (insU k l).length ≤ l.length + 1
  | [] => Nat.le_refl _
  | j :: r => by
    unfold insU
    split
    · simp
    · split
      · simp
      · have := insU_len k r
        simp only [List.length_cons]
        omega
theorem sdd_len : ∀ l : List Int, (sdd l).length ≤ l.length
  | [] => Nat.le_refl _
  | j :: r => by
    have h1 := insU_len j (sdd r)
    have h2 := sdd_len r
    show (insU j (sdd r)).length ≤ r.length + 1
    omega
end MP

set_option Elab.async false
set_option linter.all false
set_option maxRecDepth 100000
/-! MiniPy, part Y: the laws' deck of drawn figures -/
namespace MP
open PySem L2
theorem cmulL {i j : Int} (h : -18446744073709551616 < i ∧ i < 18446744073709551616) : CMulB i j = true := by
  unfold CMulB
  simp
  omega
theorem cmulR {i j : Int} (h : -18446744073709551616 < j ∧ j < 18446744073709551616) : CMulB i j = true := by
  unfold CMulB
  simp
  omega
theorem cdiv_ok {i j : Int} (h : 0 < j ∧ j < 1073741824) : CDivB i j = true := by
  unfold CDivB
  simp
  omega
theorem cpow_ok {i j : Int} (h : (0 ≤ j ∧ j ≤ 1000000) ∧ i.natAbs < 2 ^ 64) : CPowB i j = true := by
  unfold CPowB
  simp
  omega
theorem rgOk_of {i j : Int} (h : (0 ≤ i + 1000000 ∧ i < 1000000) ∧ 0 ≤ j + 1000000 ∧ j < 1000000) : rgOk i j = true := by
  unfold rgOk
  simp
  omega
theorem cutT_map {α β : Type} (f : α → β) (L : List α) (lo hi : Option Int) : cutT (L.map f) lo hi = (cutT L lo hi).map f := by
  unfold cutT
  simp [List.map_take, List.map_drop]
theorem cutT_len {α : Type} (L : List α) (lo hi : Option Int) : (cutT L lo hi).length ≤ L.length := by
  unfold cutT
  simp
  omega
/-- the deck's dict -/
def dk (c : Nat) (m t : Int) : List (KT × T) := [(.ks (Str.ofString "cells"), .ref c), (.ks (Str.ofString "mixed"), .int m), (.ks (Str.ofString "turn"), .int t)]
section
variable {c : Nat} {m t u : Int}
theorem dk_c : ((T.str (Str.ofString "cells")).kt.bind fun k => lookK (dk c m t) k) = some (.ref c) := Eq.trans rfl rfl
theorem dk_m : ((T.str (Str.ofString "mixed")).kt.bind fun k => lookK (dk c m t) k) = some (.int m) := Eq.trans rfl rfl
theorem dk_t : ((T.str (Str.ofString "turn")).kt.bind fun k => lookK (dk c m t) k) = some (.int t) := Eq.trans rfl rfl
theorem dk_put : putKT (dk c m t) (.ks (Str.ofString "turn")) (.int u) = dk c m u := Eq.trans rfl rfl
theorem dk_len : (dk c m t).length = 3 := Eq.trans rfl rfl
theorem dk_new : ((keysT [.str (Str.ofString "cells"), .str (Str.ofString "mixed"), .str (Str.ofString "turn")]).bind fun ks => mergeKT [] ks [.ref c, .int m, .int t]) = some (dk c m t) := Eq.trans rfl rfl
end
structure Deck (h : Hh) (r c : Nat) : Prop where
  ex : ∃ (L : List Int) (m t : Int), h[r]? = some (.dK (dk c m t)) ∧ h[c]? = some (.lst (L.map T.int)) ∧ L.length ≤ 63
  ne : r ≠ c
theorem Deck.keep {h h' : Hh} {r c : Nat} (d : Deck h r c) (k : Keep [] h h') : Deck h' r c := by
  obtain ⟨L, m, t, h1, h2, h3⟩ := d.ex
  exact ⟨⟨L, m, t, k.at_ r _ (by simp) h1, k.at_ c _ (by simp) h2, h3⟩, d.ne⟩
theorem Deck.r_lt {h : Hh} {r c : Nat} (d : Deck h r c) : r < h.length := by
  obtain ⟨L, m, t, h1, h2, _⟩ := d.ex
  exact lt_of_at h1
theorem Deck.c_lt {h : Hh} {r c : Nat} (d : Deck h r c) : c < h.length := by
  obtain ⟨L, m, t, h1, h2, _⟩ := d.ex
  exact lt_of_at h2
/-- fresh objects are none of the deck's -/
theorem Deck.not_in {h : Hh} {r c k : Nat} (d : Deck h r c) (hk : h.length ≤ k) : k ∉ [r, c] := by
  have := d.r_lt
  have := d.c_lt
  simp
  omega
theorem Keep.fr {h h1 : Hh} {S : List Nat} {n : Nat} {o : O} (a : Keep S h h1) (hn : n ∈ S) : Keep S h (h1.set n o) := a.trans (.set hn)
theorem Keep.lstS {S : List Nat} {h h1 : Hh} {n : Nat} {o : O} (a : Keep S h h1) (hn : n ∉ S) (e : h[n]? = some o) : h1[n]? = some o := a.at_ n _ hn e
end MP

set_option Elab.async false
set_option linter.all false
set_option maxRecDepth 100000
/-! MiniPy, part Z: the deck with «draws», values of any kind, sorted ties -/
namespace MP
open PySem L2
/-- the deck's dict -/
def dq (c : Nat) (m t : Int) : List (KT × T) := [(.ks (Str.ofString "cells"), .ref c), (.ks (Str.ofString "mixed"), .int m), (.ks (Str.ofString "draws"), .int t)]
section
variable {c : Nat} {m t u : Int}
theorem dq_c : ((T.str (Str.ofString "cells")).kt.bind fun k => lookK (dq c m t) k) = some (.ref c) := Eq.trans rfl rfl
theorem dq_m : ((T.str (Str.ofString "mixed")).kt.bind fun k => lookK (dq c m t) k) = some (.int m) := Eq.trans rfl rfl
theorem dq_t : ((T.str (Str.ofString "draws")).kt.bind fun k => lookK (dq c m t) k) = some (.int t) := Eq.trans rfl rfl
theorem dq_put : putKT (dq c m t) (.ks (Str.ofString "draws")) (.int u) = dq c m u := Eq.trans rfl rfl
theorem dq_len : (dq c m t).length = 3 := Eq.trans rfl rfl
theorem dq_new : ((keysT [.str (Str.ofString "cells"), .str (Str.ofString "mixed"), .str (Str.ofString "draws")]).bind fun ks => mergeKT [] ks [.ref c, .int m, .int t]) = some (dq c m t) := Eq.trans rfl rfl
end
structure Dq (h : Hh) (r c : Nat) : Prop where
  ex : ∃ (L : List Int) (m t : Int), h[r]? = some (.dK (dq c m t)) ∧ h[c]? = some (.lst (L.map T.int)) ∧ L.length ≤ 63
  ne : r ≠ c
section
variable {h h' : Hh} {r c k : Nat}
theorem Dq.keep (d : Dq h r c) (k : Keep [] h h') : Dq h' r c := by
  obtain ⟨L, m, t, h1, h2, h3⟩ := d.ex
  exact ⟨⟨L, m, t, k.at_ r _ (by simp) h1, k.at_ c _ (by simp) h2, h3⟩, d.ne⟩
theorem Dq.r_lt (d : Dq h r c) : r < h.length := by
  obtain ⟨L, m, t, h1, h2, _⟩ := d.ex
  exact lt_of_at h1
theorem Dq.c_lt (d : Dq h r c) : c < h.length := by
  obtain ⟨L, m, t, h1, h2, _⟩ := d.ex
  exact lt_of_at h2
theorem Dq.not_in (d : Dq h r c) (hk : h.length ≤ k) : k ∉ [r, c] := by
  have := d.r_lt
  have := d.c_lt
  simp
  omega
/-- a store that is none of the deck's -/
theorem Dq.set {o : O} (d : Dq h r c) (hk : k ∉ [r, c]) : Dq (h.set k o) r c := by
  obtain ⟨L, m, t, h1, h2, h3⟩ := d.ex
  simp at hk
  exact ⟨⟨L, m, t, at_setn h1 hk.1, at_setn h2 hk.2, h3⟩, d.ne⟩
theorem Keep.nin {S : List Nat} (a : Keep S h h') (hn : k ∉ S) {o : O} (e : h[k]? = some o) : h'[k]? = some o := a.at_ k _ hn e
end
/-! ### values of any kind -/
def isT : T → Bool
  | .tup _ => true
  | _ => false
def isN : T → Bool
  | .int _ => true
  | .bl _ => true
  | _ => false
def isB : T → Bool
  | .bl _ => true
  | _ => false
def isI : T → Bool
  | .int _ => true
  | _ => false
def isS : T → Bool
  | .str _ => true
  | _ => false
/-- what isinstance tells of it -/
def Knd (h : Hh) (v : T) : Prop := ∃ nm, typeN h v = some nm ∧ isiT1 nm "tuple" = isT v ∧ isiT1 nm "int" = isN v ∧ isiT1 nm "bool" = isB v ∧ isiT1 nm "str" = isS v
inductive OkV (S : List Nat) (k : Nat) (h : Hh) : T → Prop
  | non : OkV S k h .non
  | bl (b : Bool) : OkV S k h (.bl b)
  | int (i : Int) : i.natAbs < 2 ^ (400 + k) → OkV S k h (.int i)
  | str (x : Str) : OkV S k h (.str x)
  | tup (xs : List T) : xs.length ≤ 300 + k → (∀ x ∈ xs, OkV S k h x) → OkV S k h (.tup xs)
  | ref (n : Nat) (o : O) : n ∉ S → h[n]? = some o → (∀ c, o = .ins c → c = "Yard") → OkV S k h (.ref n)
section
variable {S : List Nat} {k j : Nat} {h h' : Hh} {v : T}
theorem OkV.keep (kp : Keep S h h') (o : OkV S k h v) : OkV S k h' v := by
  induction o with
  | non => exact .non
  | bl b => exact .bl b
  | int i q => exact .int i q
  | str x => exact .str x
  | tup xs l _ ih => exact .tup xs l ih
  | ref n o hn e hc => exact .ref n o hn (kp.at_ n o hn e) hc
theorem OkV.up (hk : k ≤ j) (o : OkV S k h v) : OkV S j h v := by
  induction o with
  | non => exact .non
  | bl b => exact .bl b
  | int i q => exact .int i (Nat.lt_of_lt_of_le q (Nat.pow_le_pow_right (by decide) (by omega)))
  | str x => exact .str x
  | tup xs l _ ih => exact .tup xs (by omega) ih
  | ref n o hn e hc => exact .ref n o hn e hc
theorem knd_ty : ∀ nm ∈ ["NoneType", "bool", "int", "str", "tuple", "list", "dict", "Yard"], isiT1 nm "tuple" = (nm == "tuple") ∧ isiT1 nm "int" = (nm == "int" || nm == "bool") ∧ isiT1 nm "bool" = (nm == "bool") := by decide +kernel
theorem OkV.knd (o : OkV S k h v) : Knd h v := by
  cases o with
  | non => exact ⟨_, rfl, by decide +kernel, by decide +kernel, by decide +kernel, by decide +kernel⟩
  | bl b => exact ⟨_, rfl, by show isiT1 "bool" "tuple" = false; decide +kernel, by show isiT1 "bool" "int" = true; decide +kernel, by show isiT1 "bool" "bool" = true; decide +kernel, by show isiT1 "bool" "str" = false; decide +kernel⟩
  | int i q => exact ⟨_, rfl, by show isiT1 "int" "tuple" = false; decide +kernel, by show isiT1 "int" "int" = true; decide +kernel, by show isiT1 "int" "bool" = false; decide +kernel, by show isiT1 "int" "str" = false; decide +kernel⟩
  | str x => exact ⟨_, rfl, by show isiT1 "str" "tuple" = false; decide +kernel, by show isiT1 "str" "int" = false; decide +kernel, by show isiT1 "str" "bool" = false; decide +kernel, by show isiT1 "str" "str" = true; decide +kernel⟩
  | tup xs l _ => exact ⟨_, rfl, by show isiT1 "tuple" "tuple" = true; decide +kernel, by show isiT1 "tuple" "int" = false; decide +kernel, by show isiT1 "tuple" "bool" = false; decide +kernel, by show isiT1 "tuple" "str" = false; decide +kernel⟩
  | ref n o hn e hc =>
    have z : ∀ nm, nm ∈ ["list", "dict", "Yard"] → typeN h (.ref n) = some nm → Knd h (.ref n) := fun nm hm et => by
      refine ⟨nm, et, ?_⟩
      show isiT1 nm "tuple" = false ∧ isiT1 nm "int" = false ∧ isiT1 nm "bool" = false ∧ isiT1 nm "str" = false
      simp only [List.mem_cons, List.not_mem_nil, or_false] at hm
      rcases hm with rfl | rfl | rfl <;> decide +kernel
    cases o with
    | lst xs => exact z "list" (by simp) (by unfold typeN; dsimp only; rw [e])
    | dK xs => exact z "dict" (by simp) (by unfold typeN; dsimp only; rw [e])
    | ins c =>
      cases hc c rfl
      exact z "Yard" (by simp) (by unfold typeN; dsimp only; rw [e])
theorem isi_t {Q : T → Hh → Prop} (kn : Knd h v) : (Gx (isiR ["tuple"] v h) (P := ⟨Q⟩)) = Q (.bl (isT v)) h := by
  obtain ⟨nm, e, h1, h2, h3, h4⟩ := kn
  unfold isiR
  rw [e]
  dsimp only
  rw [List.any_cons, List.any_nil, Bool.or_false, h1, gx_ok]
theorem isi_i {Q : T → Hh → Prop} (kn : Knd h v) : (Gx (isiR ["int"] v h) (P := ⟨Q⟩)) = Q (.bl (isN v)) h := by
  obtain ⟨nm, e, h1, h2, h3, h4⟩ := kn
  unfold isiR
  rw [e]
  dsimp only
  rw [List.any_cons, List.any_nil, Bool.or_false, h2, gx_ok]
theorem isi_b {Q : T → Hh → Prop} (kn : Knd h v) : (Gx (isiR ["bool"] v h) (P := ⟨Q⟩)) = Q (.bl (isB v)) h := by
  obtain ⟨nm, e, h1, h2, h3, h4⟩ := kn
  unfold isiR
  rw [e]
  dsimp only
  rw [List.any_cons, List.any_nil, Bool.or_false, h3, gx_ok]
theorem isi_s {Q : T → Hh → Prop} (kn : Knd h v) : (Gx (isiR ["str"] v h) (P := ⟨Q⟩)) = Q (.bl (isS v)) h := by
  obtain ⟨nm, e, h1, h2, h3, h4⟩ := kn
  unfold isiR
  rw [e]
  dsimp only
  rw [List.any_cons, List.any_nil, Bool.or_false, h4, gx_ok]
theorem isS_ex (e : isS v = true) : ∃ x, v = .str x := by
  cases v <;> first | exact ⟨_, rfl⟩ | cases e
theorem isT_ex (e : isT v = true) : ∃ xs, v = .tup xs := by
  cases v <;> first | exact ⟨_, rfl⟩ | cases e
theorem isI_ex (e : isI v = true) : ∃ i, v = .int i := by
  cases v <;> first | exact ⟨_, rfl⟩ | cases e
theorem OkV.items {xs : List T} (o : OkV S k h (.tup xs)) : ∀ x ∈ xs, OkV S k h x := by
  cases o with
  | tup _ l a => exact a
theorem OkV.len {xs : List T} (o : OkV S k h (.tup xs)) : xs.length ≤ 300 + k := by
  cases o with
  | tup _ l a => exact l
/-! ### what can be done with them -/
theorem cut_mem {α : Type} {xs : List α} {lo hi : Option Int} {x : α} (h : x ∈ cutT xs lo hi) : x ∈ xs := by
  unfold cutT at h
  exact List.mem_of_mem_drop (List.mem_of_mem_take h)
theorem OkV.cut {xs : List T} (o : OkV S k h (.tup xs)) (lo hi : Option Int) : OkV S k h (.tup (cutT xs lo hi)) :=
  .tup _ (Nat.le_trans (cutT_len xs lo hi) o.len) fun x hx => o.items x (cut_mem hx)
theorem OkV.rev {xs : List T} (o : OkV S k h (.tup xs)) : OkV S k h (.tup xs.reverse) :=
  .tup _ (by rw [List.length_reverse]; exact o.len) fun x hx => o.items x (List.mem_reverse.mp hx)
end
theorem eqT_bl1 {h : Hh} {b : Bool} : eqT h (.bl b) (.int 1) = some b := by
  rw [eqT_of (d := .bool b) (e := .int 1) rfl rfl rfl rfl]
  cases b <;> simp [PyData.eqv]
theorem cut_to {α : Type} {xs : List α} {a : Int} (h0 : 0 ≤ a) : (cutT xs none (some a)).length = min a.toNat xs.length := by
  unfold cutT HT.sIx
  simp only [List.length_take, List.length_drop]
  rw [if_neg (by omega)]
  omega
theorem cut_from {α : Type} {xs : List α} {a : Int} (h0 : 0 ≤ a) : (cutT xs (some a) none).length = xs.length - a.toNat := by
  unfold cutT HT.sIx
  simp only [List.length_take, List.length_drop]
  rw [if_neg (by omega)]
  omega
theorem ixN_ok {m : Nat} {a : Int} (h : 0 ≤ a ∧ a < m) : ixN m a = some a.toNat := by
  unfold ixN
  rw [if_pos h.1, if_pos h.2]
section
variable {h : Hh} {k : Nat} {S : List Nat}
theorem OkV.add {xs ys : List T} (o1 : OkV S k h (.tup xs)) (o2 : ∀ y ∈ ys, OkV S (k + 1) h y) (hl : xs.length + ys.length ≤ 300 + (k + 1)) : OkV S (k + 1) h (.tup (xs ++ ys)) :=
  .tup _ (by rw [List.length_append]; exact hl) fun x hx => by
    rcases List.mem_append.mp hx with z | z
    · exact (o1.items x z).up (Nat.le_succ _)
    · exact o2 x z
theorem mem10 {α : Type} {P : α → Prop} {a b c d e f g i j l : α} (h1 : P a) (h2 : P b) (h3 : P c) (h4 : P d) (h5 : P e) (h6 : P f) (h7 : P g) (h8 : P i) (h9 : P j) (h10 : P l) : ∀ x ∈ [a, b, c, d, e, f, g, i, j, l], P x := by
  intro x hx
  simp only [List.mem_cons, List.not_mem_nil, or_false] at hx
  rcases hx with q | q | q | q | q | q | q | q | q | q <;> (rw [q]; assumption)
theorem mem7 {α : Type} {P : α → Prop} {a b c d e f g : α} (h1 : P a) (h2 : P b) (h3 : P c) (h4 : P d) (h5 : P e) (h6 : P f) (h7 : P g) : ∀ x ∈ [a, b, c, d, e, f, g], P x := by
  intro x hx
  simp only [List.mem_cons, List.not_mem_nil, or_false] at hx
  rcases hx with q | q | q | q | q | q | q <;> (rw [q]; assumption)
theorem pow_1 {k : Nat} : 2 ^ (400 + (k + 1)) = 2 ^ (400 + k) * 2 := by
  rw [show 400 + (k + 1) = 400 + k + 1 by omega, Nat.pow_succ]
theorem pow_big {k : Nat} : 2 ^ 400 ≤ 2 ^ (400 + k) := Nat.pow_le_pow_right (by decide) (by omega)
theorem OkV.one {v : T} (o : OkV S k h v) : OkV S (k + 1) h (.tup [v]) :=
  .tup _ (by simp; omega) fun x hx => by
    rw [List.mem_singleton.mp hx]
    exact o.up (Nat.le_succ _)
theorem OkV.small {i : Int} (hi : i.natAbs < 2 ^ 200) : OkV S k h (.int i) :=
  .int _ (Nat.lt_of_lt_of_le (Nat.lt_of_lt_of_le hi (Nat.pow_le_pow_right (by decide) (by decide))) (pow_big (k := k)))
end
abbrev sOk (x : Str) : Bool := (PyData.str x).canLay0
theorem shaped_str {x : Str} (h : sOk x = true) : SeqAt.shaped (.str x) = true := shaped_of h (Nat.zero_le _)
theorem eqT_str {h : Hh} {a b : Str} (ha : sOk a = true) (hb : sOk b = true) : eqT h (.str a) (.str b) = some (decide (a = b)) := by
  rw [eqT_of (d := .str a) (e := .str b) rfl rfl (shaped_str ha) (shaped_str hb), PyData.eqv]
  by_cases e : a = b
  · rw [e, decide_eq_true rfl]
    exact congrArg some (beq_self_eq_true b)
  · rw [decide_eq_false e]
    exact congrArg some (beq_eq_false_iff_ne.mpr e)
theorem any_strs (x : Str) : ∀ L : List Str, ((L.map PyData.str).any fun z => PyData.eqv z (.str x)) = decide (x ∈ L)
  | [] => rfl
  | a :: L => by
    rw [List.map_cons, List.any_cons, any_strs x L, PyData.eqv]
    by_cases e : a = x
    · rw [e, show (x == x) = true from beq_self_eq_true x, Bool.true_or, decide_eq_true List.mem_cons_self]
    · rw [show (a == x) = false from beq_eq_false_iff_ne.mpr e, Bool.false_or]
      by_cases m : x ∈ L
      · rw [decide_eq_true m, decide_eq_true (List.mem_cons_of_mem _ m)]
      · rw [decide_eq_false m, decide_eq_false fun z => (List.mem_cons.mp z).elim (fun y => e y.symm) m]
theorem inO_strt {h : Hh} {L : List Str} {x : Str} (hx : sOk x = true) (hL : L.all sOk = true) : inO (.str x) (.tup (L.map T.str)) h = some (decide (x ∈ L)) := by
  have e : (T.flat (.str x) && (L.map T.str).all T.flat) = true := by
    rw [List.all_map, Bool.and_eq_true]
    exact ⟨rfl, List.all_eq_true.mpr fun _ _ => rfl⟩
  unfold inO
  dsimp only
  rw [if_pos e, inT_of (d := .str x) (ds := L.map PyData.str) rfl (dats_p (pdats_map T.str PyData.str L fun _ _ => rfl)) (shaped_str hx) (shaped_l PyData.str L (fun a ha => List.all_eq_true.mp hL a ha) (fun _ _ => Nat.zero_le _)), any_strs]
/-! ### ties -/
abbrev Tie := Int × Int × Int
def tieT (t : Tie) : T := .tup [.int t.1, .int t.2.1, .int t.2.2]
def tieD (t : Tie) : PyData := .tuple [.int t.1, .int t.2.1, .int t.2.2]
def tieI (t : Tie) : List Int := [t.1, t.2.1, t.2.2]
theorem sortable_ties (L : List Tie) : sortable (L.map tieD) = true := by
  refine sortable_of (fun d hd e he => ?_) (.inl fun d hd => ?_) (fun d hd => ?_)
  · obtain ⟨i, _, rfl⟩ := List.mem_map.mp hd
    obtain ⟨j, _, rfl⟩ := List.mem_map.mp he
    simp [W.alike, W.alikeAll, tieD]
  · obtain ⟨i, _, rfl⟩ := List.mem_map.mp hd
    rfl
  · obtain ⟨i, _, rfl⟩ := List.mem_map.mp hd
    show (1 : Nat) ≤ 60
    decide
theorem dataLe_tie (a b : Tie) : W.dataLe false tieD a b = !gtI (tieI a) (tieI b) := by
  obtain ⟨a1, a2, a3⟩ := a
  obtain ⟨b1, b2, b3⟩ := b
  show (!PyProof.Rows.lexLt PyProof.Rows.itemOrd (W.keyToks (tieD (b1, b2, b3))) (W.keyToks (tieD (a1, a2, a3)))) = _
  congr 1
  show PyProof.Rows.lexLt PyProof.Rows.itemOrd (W.keyToksAll [.int b1, .int b2, .int b3]) (W.keyToksAll [.int a1, .int a2, .int a3]) = gtI [a1, a2, a3] [b1, b2, b3]
  simp only [W.keyToksAll, W.keyToks, List.cons_append, List.nil_append, PyProof.Rows.lexLt, PyProof.Rows.itemLt, gtI]
  by_cases h1 : a1 = b1
  · subst h1
    by_cases h2 : a2 = b2
    · subst h2
      by_cases h3 : a3 = b3
      · subst h3
        simp
      · have : a3 < b3 ∨ b3 < a3 := by omega
        rcases this with h | h <;> simp [h3, h, Int.lt_asymm h]
    · have : a2 < b2 ∨ b2 < a2 := by omega
      rcases this with h | h <;> simp [h2, h, Int.lt_asymm h]
  · have : a1 < b1 ∨ b1 < a1 := by omega
    rcases this with h | h <;> simp [h1, h, Int.lt_asymm h]
theorem eqv_ties : ∀ L M : List Tie, PyData.eqvAll (L.map tieD) (M.map tieD) = decide (L = M)
  | [], [] => by simp [PyData.eqvAll]
  | [], _ :: _ => by simp [PyData.eqvAll]
  | _ :: _, [] => by simp [PyData.eqvAll]
  | a :: L, b :: M => by
    rw [List.map_cons, List.map_cons, PyData.eqvAll, eqv_ties L M]
    obtain ⟨a1, a2, a3⟩ := a
    obtain ⟨b1, b2, b3⟩ := b
    simp only [tieD, PyData.eqv, PyData.eqvAll]
    rw [Bool.eq_iff_iff]
    simp [and_assoc]
/-- in order: no tie is greater than the next one -/
def ordB : List Tie → Bool
  | a :: b :: r => !gtI (tieI a) (tieI b) && ordB (b :: r)
  | _ => true
theorem ordB_pw : ∀ L : List Tie, ordB L = true ↔ L.Pairwise fun a b => W.dataLe false tieD a b = true
  | [] => by simp [ordB]
  | [a] => by simp [ordB]
  | a :: b :: r => by
    have ih := ordB_pw (b :: r)
    unfold ordB
    rw [Bool.and_eq_true, ih, ← dataLe_tie]
    constructor
    · rintro ⟨h1, h2⟩
      refine List.pairwise_cons.mpr ⟨fun c hc => ?_, h2⟩
      rcases List.mem_cons.mp hc with rfl | hc
      · exact h1
      · exact dataLe_trans tieD a b c h1 ((List.pairwise_cons.mp h2).1 c hc)
    · intro h
      obtain ⟨h1, h2⟩ := List.pairwise_cons.mp h
      exact ⟨h1 b List.mem_cons_self, h2⟩
theorem srt_ord (L : List Tie) : decide (L = srt tieD L) = ordB L := by
  rw [Bool.eq_iff_iff, decide_eq_true_eq, ordB_pw]
  constructor
  · intro h
    rw [h]
    exact srt_pw tieD L
  · intro h
    exact (List.mergeSort_of_pairwise h).symm
theorem ordB_srt (L : List Tie) : ordB (srt tieD L) = true := (ordB_pw _).mpr (srt_pw tieD L)
theorem sortT_ties {h : Hh} {L : List Tie} (hl : L.length ≤ 16777216) : sortT h (L.map tieT) = some ((srt tieD L).map tieT) := sortT_map (enc := tieT) (key := tieD) (fun _ _ => rfl) (sortable_ties L) hl
theorem eqT_ties {h : Hh} {a b : Nat} {L M : List Tie} (e1 : h[a]? = some (.lst (L.map tieT))) (e2 : h[b]? = some (.lst (M.map tieT))) : eqT h (.ref a) (.ref b) = some (decide (L = M)) := by
  rw [eqT_of (dat_l e1 (pdats_map tieT tieD L fun _ _ => rfl)) (dat_l e2 (pdats_map tieT tieD M fun _ _ => rfl)) (shaped_l tieD L (fun _ _ => rfl) (fun _ _ => by show (1 : Nat) ≤ 63; decide)) (shaped_l tieD M (fun _ _ => rfl) (fun _ _ => by show (1 : Nat) ≤ 63; decide))]
  congr 1
  rw [PyData.eqv]
  exact eqv_ties L M
end MP

set_option Elab.async false
set_option linter.all false
set_option maxRecDepth 100000
/-! MiniPy: values of any kind that repr can show -/
namespace MP
open PySem L2
/-- ints below 2 ^ K, texts of true signs -/
def kOk (K : Nat) : KT → Bool
  | .ki i => decide (i.natAbs.log2 < K)
  | .ks x => sOk x
mutual
/-- v reads as d over objects that are none of S -/
inductive Rd (K : Nat) (S : List Nat) (h : Hh) : T → PyData → Prop
  | non : Rd K S h .non .none
  | bl (b : Bool) : Rd K S h (.bl b) (.bool b)
  | int (i : Int) : i.natAbs.log2 < K → Rd K S h (.int i) (.int i)
  | str (x : Str) : sOk x = true → Rd K S h (.str x) (.str x)
  | tup {xs : List T} {ds : List PyData} : Rds K S h xs ds → Rd K S h (.tup xs) (.tuple ds)
  | lst {n : Nat} {xs : List T} {ds : List PyData} : n ∉ S → h[n]? = some (.lst xs) → Rds K S h xs ds → Rd K S h (.ref n) (.list ds)
  | dk {n : Nat} {kvs : List (KT × T)} {ds : List PyData} : n ∉ S → h[n]? = some (.dK kvs) → (∀ p ∈ kvs, kOk K p.1 = true) → Rds K S h (kvs.map (·.2)) ds → Rd K S h (.ref n) (.dict ((kvs.map fun p => p.1.d).zip ds))
inductive Rds (K : Nat) (S : List Nat) (h : Hh) : List T → List PyData → Prop
  | nil : Rds K S h [] []
  | cons {x : T} {d : PyData} {xs : List T} {ds : List PyData} : Rd K S h x d → Rds K S h xs ds → Rds K S h (x :: xs) (d :: ds)
end
mutual
/-- how deep objects lie in objects -/
def rdp : PyData → Nat
  | .list xs => 1 + rdps xs
  | .tuple xs => rdps xs
  | .dict kvs => 1 + rdpk kvs
  | _ => 0
def rdps : List PyData → Nat
  | [] => 0
  | x :: xs => max (rdp x) (rdps xs)
def rdpk : List (PyData × PyData) → Nat
  | [] => 0
  | (_, v) :: r => max (rdp v) (rdpk r)
end
section
variable {K J : Nat} {S : List Nat} {h h' : Hh}
mutual
theorem Rd.keep (kp : Keep S h h') : ∀ {v : T} {d : PyData}, Rd K S h v d → Rd K S h' v d
  | _, _, .non => .non
  | _, _, .bl b => .bl b
  | _, _, .int i q => .int i q
  | _, _, .str x q => .str x q
  | _, _, .tup r => .tup (r.keep kp)
  | _, _, .lst hn e r => .lst hn (kp.at_ _ _ hn e) (r.keep kp)
  | _, _, .dk hn e q r => .dk hn (kp.at_ _ _ hn e) q (r.keep kp)
theorem Rds.keep (kp : Keep S h h') : ∀ {v : List T} {d : List PyData}, Rds K S h v d → Rds K S h' v d
  | _, _, .nil => .nil
  | _, _, .cons a b => .cons (a.keep kp) (b.keep kp)
end
theorem kOk.up (hk : K ≤ J) {k : KT} (o : kOk K k = true) : kOk J k = true := by
  cases k with
  | ki i =>
    have : decide (i.natAbs.log2 < K) = true := o
    have : i.natAbs.log2 < K := by simpa using this
    show decide (i.natAbs.log2 < J) = true
    simp
    omega
  | ks x => exact o
mutual
theorem Rd.up (hk : K ≤ J) : ∀ {v : T} {d : PyData}, Rd K S h v d → Rd J S h v d
  | _, _, .non => .non
  | _, _, .bl b => .bl b
  | _, _, .int i q => .int i (Nat.lt_of_lt_of_le q hk)
  | _, _, .str x q => .str x q
  | _, _, .tup r => .tup (r.up hk)
  | _, _, .lst hn e r => .lst hn e (r.up hk)
  | _, _, .dk hn e q r => .dk hn e (fun p hp => (q p hp |> kOk.up hk)) (r.up hk)
theorem Rds.up (hk : K ≤ J) : ∀ {v : List T} {d : List PyData}, Rds K S h v d → Rds J S h v d
  | _, _, .nil => .nil
  | _, _, .cons a b => .cons (a.up hk) (b.up hk)
end
theorem Rds.len : ∀ {xs : List T} {ds : List PyData}, Rds K S h xs ds → ds.length = xs.length
  | _, _, .nil => rfl
  | _, _, .cons _ b => by rw [List.length_cons, List.length_cons, b.len]
theorem rdpk_zip : ∀ {ks : List PyData} {ds : List PyData}, ds.length = ks.length → rdpk (ks.zip ds) = rdps ds
  | [], [], _ => by simp [rdpk, rdps]
  | [], _ :: _, h => by simp at h
  | _ :: _, [], h => by simp at h
  | k :: ks, d :: ds, h => by
    rw [List.zip_cons_cons, rdpk, rdps, rdpk_zip (by simpa using h)]
mutual
theorem Rd.rd : ∀ {v : T} {d : PyData} (n : Nat), Rd K S h v d → rdp d ≤ n → T.dat (refR n h) v = some d
  | _, _, _, .non, _ => rfl
  | _, _, _, .bl b, _ => rfl
  | _, _, _, .int i q, _ => rfl
  | _, _, _, .str x q, _ => rfl
  | _, _, n, .tup r, hn => by
    unfold rdp at hn
    unfold T.dat
    rw [r.rd n hn]
    rfl
  | _, _, n, .lst hs e r, hn => by
    unfold rdp at hn
    match n, hn with
    | n + 1, hn =>
      show refR (n + 1) h _ = _
      unfold refR
      rw [e]
      dsimp only
      rw [r.rd n (by omega)]
      rfl
    | 0, hn => omega
  | _, _, n, .dk hs e q r, hn => by
    unfold rdp at hn
    rw [rdpk_zip (by rw [r.len, List.length_map, List.length_map])] at hn
    match n, hn with
    | n + 1, hn =>
      show refR (n + 1) h _ = _
      unfold refR
      rw [e]
      dsimp only
      rw [r.rd n (by omega)]
      rfl
    | 0, hn => omega
theorem Rds.rd : ∀ {v : List T} {d : List PyData} (n : Nat), Rds K S h v d → rdps d ≤ n → T.dats (refR n h) v = some d
  | _, _, _, .nil, _ => rfl
  | _, _, n, .cons a b, hn => by
    unfold rdps at hn
    unfold T.dats
    rw [a.rd n (by omega), b.rd n (by omega)]
    rfl
end
theorem Rd.datR {v : T} {d : PyData} (r : Rd K S h v d) (hn : rdp d ≤ 12) : datR h v = some d := r.rd 12 hn
theorem str_cps {x : Str} (hx : sOk x = true) : (x.cps.toList.all fun c => decide (c < 16 ^ 8)) = true := by
  have e : x.cps.all (· < 0x110000) = true := hx
  rw [List.all_eq_true]
  intro c hc
  have := Array.all_eq_true_iff_forall_mem.mp e c (by simpa using hc)
  simp at this ⊢
  omega
theorem int_short {i : Int} (h : i.natAbs.log2 < K) : (PyData.shown (.int i)).length ≤ K + 1 := by
  simp only [PyData.shown]
  have e := int_text_length_le (k := K) (by omega) h
  rw [ofString_length]
  exact e
theorem kd_short {k : KT} (o : kOk K k = true) : k.d.leavesShort (K + 1) = true ∧ (K ≤ 1920 → k.d.showable = true) := by
  cases k with
  | ki i =>
    have o2 : decide (i.natAbs.log2 < K) = true := o
    have o3 : i.natAbs.log2 < K := by simpa using o2
    refine ⟨?_, fun hk => ?_⟩
    · simp only [KT.d, PyData.leavesShort, decide_eq_true_eq]
      exact int_short o3
    · simp only [KT.d, PyData.showable, decide_eq_true_eq]
      omega
  | ks x =>
    refine ⟨?_, fun _ => by simp only [KT.d, PyData.showable]⟩
    simp only [KT.d, PyData.leavesShort]
    exact str_cps o
theorem kv_short : ∀ (kvs : List (KT × T)) (ds : List PyData), ds.length = kvs.length → (∀ p ∈ kvs, kOk K p.1 = true) → PyData.leavesShortAll (K + 1) ds = true → PyData.leavesShortKv (K + 1) ((kvs.map fun p => p.1.d).zip ds) = true
  | [], [], _, _, _ => by simp only [List.map_nil, List.zip_nil_left, PyData.leavesShortKv]
  | [], _ :: _, h, _, _ => by simp at h
  | _ :: _, [], h, _, _ => by simp at h
  | p :: kvs, d :: ds, h, hk, hd => by
    simp only [PyData.leavesShortAll, Bool.and_eq_true] at hd
    rw [List.map_cons, List.zip_cons_cons]
    simp only [PyData.leavesShortKv, (kd_short (hk p List.mem_cons_self)).1, hd.1, kv_short kvs ds (by simpa using h) (fun q hq => hk q (List.mem_cons_of_mem _ hq)) hd.2, Bool.and_self]
theorem kv_show (hK : K ≤ 1920) : ∀ (kvs : List (KT × T)) (ds : List PyData), ds.length = kvs.length → (∀ p ∈ kvs, kOk K p.1 = true) → PyData.showableAll ds = true → PyData.showableKv ((kvs.map fun p => p.1.d).zip ds) = true
  | [], [], _, _, _ => by simp only [List.map_nil, List.zip_nil_left, PyData.showableKv]
  | [], _ :: _, h, _, _ => by simp at h
  | _ :: _, [], h, _, _ => by simp at h
  | p :: kvs, d :: ds, h, hk, hd => by
    simp only [PyData.showableAll, Bool.and_eq_true] at hd
    rw [List.map_cons, List.zip_cons_cons]
    simp only [PyData.showableKv, (kd_short (hk p List.mem_cons_self)).2 hK, hd.1, kv_show hK kvs ds (by simpa using h) (fun q hq => hk q (List.mem_cons_of_mem _ hq)) hd.2, Bool.and_self]
mutual
theorem Rd.short : ∀ {v : T} {d : PyData}, Rd K S h v d → d.leavesShort (K + 1) = true ∧ (K ≤ 1920 → d.showable = true)
  | _, _, .non => ⟨by simp only [PyData.leavesShort], fun _ => by simp only [PyData.showable]⟩
  | _, _, .bl b => ⟨by simp only [PyData.leavesShort], fun _ => by simp only [PyData.showable]⟩
  | _, _, .int i q => ⟨by simp only [PyData.leavesShort, decide_eq_true_eq]; exact int_short q, fun hk => by simp only [PyData.showable, decide_eq_true_eq]; omega⟩
  | _, _, .str x q => ⟨by simp only [PyData.leavesShort]; exact str_cps q, fun _ => by simp only [PyData.showable]⟩
  | _, _, .tup r => ⟨by simp only [PyData.leavesShort]; exact r.short.1, fun hk => by simp only [PyData.showable]; exact r.short.2 hk⟩
  | _, _, .lst hs e r => ⟨by simp only [PyData.leavesShort]; exact r.short.1, fun hk => by simp only [PyData.showable]; exact r.short.2 hk⟩
  | _, _, .dk hs e q r => ⟨by simp only [PyData.leavesShort]; exact kv_short _ _ (by rw [r.len, List.length_map]) q r.short.1, fun hk => by simp only [PyData.showable]; exact kv_show hk _ _ (by rw [r.len, List.length_map]) q (r.short.2 hk)⟩
theorem Rds.short : ∀ {v : List T} {d : List PyData}, Rds K S h v d → PyData.leavesShortAll (K + 1) d = true ∧ (K ≤ 1920 → PyData.showableAll d = true)
  | _, _, .nil => ⟨by simp only [PyData.leavesShortAll], fun _ => by simp only [PyData.showableAll]⟩
  | _, _, .cons a b => ⟨by simp only [PyData.leavesShortAll, a.short.1, b.short.1, Bool.and_self], fun hk => by simp only [PyData.showableAll, a.short.2 hk, b.short.2 hk, Bool.and_self]⟩
end
/-- what repr asks -/
theorem Rd.fits {v : T} {d : PyData} (r : Rd 340 S h v d) (hd : d.depth ≤ 60) (hw : d.weight ≤ 48000) : (decide (d.shown.length ≤ 16777216) && d.showable && decide (d.depth ≤ 60)) = true := by
  have h1 := PyData.shown_le 341 (by decide) d r.short.1
  have h2 : (341 + 2) * d.weight ≤ 343 * 48000 := Nat.mul_le_mul (by decide) hw
  rw [Bool.and_eq_true, Bool.and_eq_true, decide_eq_true_eq, decide_eq_true_eq]
  exact ⟨⟨by omega, r.short.2 (by decide)⟩, hd⟩
theorem Rd.knd {v : T} {d : PyData} (r : Rd K S h v d) : OkV S 2000000 h v → Knd h v := fun o => o.knd
end
theorem datR_p {h : Hh} {t : T} {d : PyData} (e : pdat t = some d) : datR h t = some d := pdat_any _ t d e
theorem rgBig {i j : Int} (h : (-1000000000 ≤ i ∧ i ≤ 1000000000) ∧ -1000000000 ≤ j ∧ j ≤ 1000000000) : rgOk i j = true := by
  unfold rgOk
  simp
  omega
/-! ### lists of things -/
section
variable {K : Nat} {S : List Nat} {h : Hh}
theorem Rds.get : ∀ {xs : List T} {ds : List PyData}, Rds K S h xs ds → ∀ {i : Nat} {x : T}, xs[i]? = some x → ∃ d, ds[i]? = some d ∧ Rd K S h x d
  | _, _, .nil, _, _, e => by simp at e
  | _, _, .cons a b, 0, _, e => by
    simp at e
    subst e
    exact ⟨_, rfl, a⟩
  | _, _, .cons a b, i + 1, _, e => by
    obtain ⟨d, h1, h2⟩ := b.get (i := i) (by simpa using e)
    exact ⟨d, by simpa using h1, h2⟩
theorem Rds.mem {xs : List T} {ds : List PyData} (r : Rds K S h xs ds) {x : T} (hx : x ∈ xs) : ∃ d ∈ ds, Rd K S h x d := by
  obtain ⟨i, hi⟩ := List.getElem?_of_mem hx
  obtain ⟨d, h1, h2⟩ := r.get hi
  exact ⟨d, List.mem_of_getElem? h1, h2⟩
theorem Rds.app : ∀ {xs ys : List T} {ds es : List PyData}, Rds K S h xs ds → Rds K S h ys es → Rds K S h (xs ++ ys) (ds ++ es)
  | _, _, _, _, .nil, b => b
  | _, _, _, _, .cons a r, b => .cons a (r.app b)
theorem Rds.drop : ∀ {xs : List T} {ds : List PyData}, Rds K S h xs ds → ∀ n, Rds K S h (xs.drop n) (ds.drop n)
  | _, _, .nil, n => by simp; exact .nil
  | _, _, .cons a b, 0 => .cons a b
  | _, _, .cons a b, n + 1 => by simpa using b.drop n
theorem Rds.take : ∀ {xs : List T} {ds : List PyData}, Rds K S h xs ds → ∀ n, Rds K S h (xs.take n) (ds.take n)
  | _, _, .nil, n => by simp; exact .nil
  | _, _, .cons a b, 0 => by simp; exact .nil
  | _, _, .cons a b, n + 1 => by simpa using .cons a (b.take n)
theorem Rds.cut {xs : List T} {ds : List PyData} (r : Rds K S h xs ds) (lo hi : Option Int) : Rds K S h (cutT xs lo hi) (cutT ds lo hi) := by
  unfold cutT
  rw [r.len]
  exact (r.drop _).take _
theorem Rds.one {x : T} {d : PyData} (r : Rd K S h x d) : Rds K S h [x] [d] := .cons r .nil
theorem Rds.rev : ∀ {xs : List T} {ds : List PyData}, Rds K S h xs ds → Rds K S h xs.reverse ds.reverse
  | _, _, .nil => .nil
  | _, _, .cons a b => by
    rw [List.reverse_cons, List.reverse_cons]
    exact b.rev.app (.one a)
theorem Rds.set : ∀ {xs : List T} {ds : List PyData}, Rds K S h xs ds → ∀ (i : Nat) {x : T} {d : PyData}, Rd K S h x d → Rds K S h (xs.set i x) (ds.set i d)
  | _, _, .nil, i, _, _, _ => by simp; exact .nil
  | _, _, .cons a b, 0, _, _, r => .cons r b
  | _, _, .cons a b, i + 1, _, _, r => .cons a (b.set i r)
theorem wa_app : ∀ (a b : List PyData), PyData.weightAll (a ++ b) = PyData.weightAll a + PyData.weightAll b
  | [], b => by simp [PyData.weightAll]
  | x :: a, b => by rw [List.cons_append, PyData.weightAll, PyData.weightAll, wa_app a b]; omega
theorem wa_mem : ∀ {a : List PyData} {d : PyData}, d ∈ a → d.weight + 1 ≤ PyData.weightAll a
  | [], _, h => by cases h
  | x :: a, d, h => by
    rw [PyData.weightAll]
    rcases List.mem_cons.mp h with z | z
    · rw [z]; omega
    · have := wa_mem z
      omega
theorem wa_drop : ∀ (a : List PyData) (n : Nat), PyData.weightAll (a.drop n) ≤ PyData.weightAll a
  | [], n => by simp
  | x :: a, 0 => by simp
  | x :: a, n + 1 => by
    have := wa_drop a n
    simp only [List.drop_succ_cons, PyData.weightAll]
    omega
theorem wa_take : ∀ (a : List PyData) (n : Nat), PyData.weightAll (a.take n) ≤ PyData.weightAll a
  | [], n => by simp
  | x :: a, 0 => by simp [PyData.weightAll]
  | x :: a, n + 1 => by
    have := wa_take a n
    simp only [List.take_succ_cons, PyData.weightAll]
    omega
theorem wa_cut (a : List PyData) (lo hi : Option Int) : PyData.weightAll (cutT a lo hi) ≤ PyData.weightAll a := by
  unfold cutT
  exact Nat.le_trans (wa_take _ _) (wa_drop _ _)
theorem wa_rev : ∀ (a : List PyData), PyData.weightAll a.reverse = PyData.weightAll a
  | [] => rfl
  | x :: a => by
    rw [List.reverse_cons, wa_app, wa_rev a]
    simp [PyData.weightAll]
    omega
theorem wa_set : ∀ (a : List PyData) (i : Nat) (d : PyData), PyData.weightAll (a.set i d) ≤ PyData.weightAll a + d.weight
  | [], i, d => by simp
  | x :: a, 0, d => by simp only [List.set_cons_zero, PyData.weightAll]; omega
  | x :: a, i + 1, d => by
    have := wa_set a i d
    simp only [List.set_cons_succ, PyData.weightAll]
    omega
/-- a bound of all items -/
theorem da_le {a : List PyData} {n : Nat} : (∀ d ∈ a, d.depth ≤ n) → PyData.depthAll a ≤ n := by
  induction a with
  | nil => intro _; simp [PyData.depthAll]
  | cons x a ih =>
    intro q
    rw [PyData.depthAll]
    have := q x List.mem_cons_self
    have := ih fun d hd => q d (List.mem_cons_of_mem _ hd)
    omega
theorem da_mem {a : List PyData} {d : PyData} (hd : d ∈ a) : d.depth ≤ PyData.depthAll a := by
  induction a with
  | nil => cases hd
  | cons x a ih =>
    rw [PyData.depthAll]
    rcases List.mem_cons.mp hd with z | z
    · rw [z]; omega
    · have := ih z
      omega
theorem rp_le {a : List PyData} {n : Nat} : (∀ d ∈ a, rdp d ≤ n) → rdps a ≤ n := by
  induction a with
  | nil => intro _; simp [rdps]
  | cons x a ih =>
    intro q
    rw [rdps]
    have := q x List.mem_cons_self
    have := ih fun d hd => q d (List.mem_cons_of_mem _ hd)
    omega
theorem rp_mem {a : List PyData} {d : PyData} (hd : d ∈ a) : rdp d ≤ rdps a := by
  induction a with
  | nil => cases hd
  | cons x a ih =>
    rw [rdps]
    rcases List.mem_cons.mp hd with z | z
    · rw [z]; omega
    · have := ih z
      omega
end
/-! ### values with bounds: ints below 2 ^ K, depth, depth of objects, weight -/
structure Bd (D R W : Nat) (d : PyData) : Prop where
  dp : d.depth ≤ D
  rp : rdp d ≤ R
  wt : d.weight ≤ W
def RV (S : List Nat) (h : Hh) (K D R W : Nat) (v : T) : Prop := ∃ d, Rd K S h v d ∧ Bd D R W d
/-- a list of them, weights added up -/
def RVs (S : List Nat) (h : Hh) (K D R W : Nat) (xs : List T) : Prop := ∃ ds, Rds K S h xs ds ∧ (∀ d ∈ ds, d.depth ≤ D ∧ rdp d ≤ R) ∧ PyData.weightAll ds ≤ W
section
variable {S : List Nat} {h h' : Hh} {K D R W K2 D2 R2 W2 : Nat} {v : T} {xs ys : List T}
theorem RV.up (r : RV S h K D R W v) (h1 : K ≤ K2) (h2 : D ≤ D2) (h3 : R ≤ R2) (h4 : W ≤ W2) : RV S h K2 D2 R2 W2 v := by
  obtain ⟨d, a, b⟩ := r
  exact ⟨d, a.up h1, ⟨Nat.le_trans b.dp h2, Nat.le_trans b.rp h3, Nat.le_trans b.wt h4⟩⟩
theorem RV.keep (kp : Keep S h h') (r : RV S h K D R W v) : RV S h' K D R W v := by
  obtain ⟨d, a, b⟩ := r
  exact ⟨d, a.keep kp, b⟩
theorem RVs.up (r : RVs S h K D R W xs) (h1 : K ≤ K2) (h2 : D ≤ D2) (h3 : R ≤ R2) (h4 : W ≤ W2) : RVs S h K2 D2 R2 W2 xs := by
  obtain ⟨d, a, b, c⟩ := r
  exact ⟨d, a.up h1, fun e he => ⟨Nat.le_trans (b e he).1 h2, Nat.le_trans (b e he).2 h3⟩, Nat.le_trans c h4⟩
theorem RVs.keep (kp : Keep S h h') (r : RVs S h K D R W xs) : RVs S h' K D R W xs := by
  obtain ⟨d, a, b⟩ := r
  exact ⟨d, a.keep kp, b⟩
theorem RV.items (r : RV S h K (D + 1) R W (.tup xs)) : RVs S h K D R W xs := by
  obtain ⟨d, a, b⟩ := r
  cases a with
  | tup r =>
    rename_i ds
    have h1 := b.dp
    have h2 := b.rp
    have h3 := b.wt
    simp only [PyData.depth] at h1
    simp only [rdp] at h2
    simp only [PyData.weight] at h3
    exact ⟨ds, r, fun e he => ⟨by have := da_mem he; omega, by have := rp_mem he; omega⟩, h3⟩
theorem RVs.tup (r : RVs S h K D R W xs) : RV S h K (D + 1) R W (.tup xs) := by
  obtain ⟨ds, a, b, c⟩ := r
  refine ⟨.tuple ds, .tup a, ⟨?_, ?_, ?_⟩⟩
  · simp only [PyData.depth]
    have := da_le fun d hd => (b d hd).1
    omega
  · simp only [rdp]
    exact rp_le fun d hd => (b d hd).2
  · simpa only [PyData.weight] using c
theorem RVs.lst {n : Nat} (hn : n ∉ S) (e : h[n]? = some (.lst xs)) (r : RVs S h K D R W xs) : RV S h K (D + 1) (R + 1) W (.ref n) := by
  obtain ⟨ds, a, b, c⟩ := r
  refine ⟨.list ds, .lst hn e a, ⟨?_, ?_, ?_⟩⟩
  · simp only [PyData.depth]
    have := da_le fun d hd => (b d hd).1
    omega
  · simp only [rdp]
    have := rp_le fun d hd => (b d hd).2
    omega
  · simpa only [PyData.weight] using c
theorem RVs.nil : RVs S h K D R 0 [] := ⟨[], .nil, fun _ h => (by cases h), by simp [PyData.weightAll]⟩
theorem RVs.cons {x : T} (a : RV S h K D R W x) (b : RVs S h K D R W2 xs) : RVs S h K D R (W + 1 + W2) (x :: xs) := by
  obtain ⟨d, a1, a2⟩ := a
  obtain ⟨ds, b1, b2, b3⟩ := b
  refine ⟨d :: ds, .cons a1 b1, fun e he => ?_, ?_⟩
  · rcases List.mem_cons.mp he with z | z
    · rw [z]; exact ⟨a2.dp, a2.rp⟩
    · exact b2 e z
  · rw [PyData.weightAll]
    have := a2.wt
    omega
theorem RVs.app (a : RVs S h K D R W xs) (b : RVs S h K D R W2 ys) : RVs S h K D R (W + W2) (xs ++ ys) := by
  obtain ⟨ds, a1, a2, a3⟩ := a
  obtain ⟨es, b1, b2, b3⟩ := b
  refine ⟨ds ++ es, a1.app b1, fun e he => ?_, ?_⟩
  · rcases List.mem_append.mp he with z | z
    · exact a2 e z
    · exact b2 e z
  · rw [wa_app]; omega
theorem RVs.cut (a : RVs S h K D R W xs) (lo hi : Option Int) : RVs S h K D R W (cutT xs lo hi) := by
  obtain ⟨ds, a1, a2, a3⟩ := a
  exact ⟨_, a1.cut lo hi, fun e he => a2 e (cut_mem he), Nat.le_trans (wa_cut ds lo hi) a3⟩
theorem RVs.rev (a : RVs S h K D R W xs) : RVs S h K D R W xs.reverse := by
  obtain ⟨ds, a1, a2, a3⟩ := a
  exact ⟨_, a1.rev, fun e he => a2 e (List.mem_reverse.mp he), by rw [wa_rev]; exact a3⟩
theorem RVs.get (a : RVs S h K D R W xs) {i : Nat} {x : T} (e : xs[i]? = some x) : RV S h K D R W x := by
  obtain ⟨ds, a1, a2, a3⟩ := a
  obtain ⟨d, e1, e2⟩ := a1.get e
  have hm := List.mem_of_getElem? e1
  have := wa_mem hm
  exact ⟨d, e2, ⟨(a2 d hm).1, (a2 d hm).2, by omega⟩⟩
theorem RVs.set (a : RVs S h K D R W xs) {i : Nat} {x : T} (r : RV S h K D R W2 x) : RVs S h K D R (W + W2) (xs.set i x) := by
  obtain ⟨ds, a1, a2, a3⟩ := a
  obtain ⟨d, b1, b2⟩ := r
  refine ⟨_, a1.set i b1, fun e he => ?_, ?_⟩
  · rcases List.mem_or_eq_of_mem_set he with z | z
    · exact a2 e z
    · rw [z]; exact ⟨b2.dp, b2.rp⟩
  · have := wa_set ds i d
    have := b2.wt
    omega
theorem RVs.len (a : RVs S h K D R W xs) : xs.length ≤ W := by
  obtain ⟨ds, a1, a2, a3⟩ := a
  rw [← a1.len]
  have : ∀ l : List PyData, l.length ≤ PyData.weightAll l := fun l => by
    induction l with
    | nil => simp
    | cons x l ih => simp only [List.length_cons, PyData.weightAll]; omega
  have := this ds
  omega
theorem RV.non : RV S h K D R W .non := ⟨_, .non, by simp only [PyData.depth]; omega, by simp only [rdp]; omega, by simp only [PyData.weight]; omega⟩
theorem RV.bl {b : Bool} : RV S h K D R W (.bl b) := ⟨_, .bl b, by simp only [PyData.depth]; omega, by simp only [rdp]; omega, by simp only [PyData.weight]; omega⟩
theorem RV.int {i : Int} (hi : i.natAbs.log2 < K) (hw : K ≤ W) : RV S h K D R W (.int i) := ⟨_, .int i hi, by simp only [PyData.depth]; omega, by simp only [rdp]; omega, by simp only [PyData.weight]; split <;> omega⟩
theorem RV.str {x : Str} (hx : sOk x = true) (hw : x.length ≤ W) : RV S h K D R W (.str x) := ⟨_, .str x hx, by simp only [PyData.depth]; omega, by simp only [rdp]; omega, by simp only [PyData.weight]; exact hw⟩
/-! what the looks ask -/
mutual
theorem Rd.okv : ∀ {v : T} {d : PyData}, Rd K S h v d → K ≤ 1000000 → d.weight ≤ 1000000 → OkV S 1000000 h v
  | _, _, .non, _, _ => .non
  | _, _, .bl b, _, _ => .bl b
  | _, _, .int i q, hK, _ => .int i (Nat.lt_of_lt_of_le (Nat.lt_log2_self (n := i.natAbs)) (Nat.pow_le_pow_right (by decide) (by omega)))
  | _, _, .str x q, _, _ => .str x
  | _, _, .tup r, hK, hw => by
    simp only [PyData.weight] at hw
    refine .tup _ ?_ (r.okvs hK hw)
    have := RVs.len (S := S) (h := h) (K := K) (D := PyData.depthAll _) (R := rdps _) ⟨_, r, fun d hd => ⟨da_mem hd, rp_mem hd⟩, Nat.le_refl _⟩
    omega
  | _, _, .lst hn e r, _, _ => .ref _ _ hn e fun c z => by cases z
  | _, _, .dk hn e q r, _, _ => .ref _ _ hn e fun c z => by cases z
theorem Rds.okvs : ∀ {v : List T} {d : List PyData}, Rds K S h v d → K ≤ 1000000 → PyData.weightAll d ≤ 1000000 → ∀ x ∈ v, OkV S 1000000 h x
  | _, _, .nil, _, _, _, hx => by cases hx
  | _, _, .cons a b, hK, hw, x, hx => by
    simp only [PyData.weightAll] at hw
    rcases List.mem_cons.mp hx with z | z
    · rw [z]; exact a.okv hK (by omega)
    · exact b.okvs hK (by omega) x z
end
theorem RV.okv (r : RV S h K D R W v) (hK : K ≤ 1000000) (hW : W ≤ 1000000) : OkV S 1000000 h v := by
  obtain ⟨d, a, b⟩ := r
  exact a.okv hK (Nat.le_trans b.wt hW)
theorem RV.knd (r : RV S h K D R W v) (hK : K ≤ 1000000) (hW : W ≤ 1000000) : Knd h v := (r.okv hK hW).knd
/-- repr of a thing that can be shown: the same text in whatever heap keeps it -/
theorem RV.repr (r : RV S h 340 D R W v) (hD : D ≤ 60) (hR : R ≤ 12) (hW : W ≤ 48000) : ∃ d, (∀ h', Keep S h h' → datR h' v = some d) ∧ (decide (d.shown.length ≤ 16777216) && d.showable && decide (d.depth ≤ 60)) = true := by
  obtain ⟨d, a, b⟩ := r
  exact ⟨d, fun h' kp => (a.keep kp).datR (Nat.le_trans b.rp hR), a.fits (Nat.le_trans b.dp hD) (Nat.le_trans b.wt hW)⟩
theorem RV.intS {i : Int} {j : Nat} (hi : i.natAbs < 2 ^ j) (h0 : 0 < j) (hK : j ≤ K) (hW : j ≤ W) : RV S h K D R W (.int i) := by
  have hl : i.natAbs.log2 < j := by
    by_cases z : i.natAbs = 0
    · rw [z]
      exact h0
    · exact (Nat.log2_lt z).mpr hi
  refine ⟨_, .int i (by omega), by simp only [PyData.depth]; omega, by simp only [rdp]; omega, ?_⟩
  simp only [PyData.weight]
  split <;> omega
theorem RV.num {i : Int} (r : RV S h K D R W (.int i)) : i.natAbs.log2 < K ∧ (i = 0 ∨ i.natAbs.log2 + 1 ≤ W) := by
  obtain ⟨d, a, b⟩ := r
  cases a with
  | int _ q =>
    refine ⟨q, ?_⟩
    have := b.wt
    simp only [PyData.weight] at this
    split at this
    · rename_i z
      exact .inl (by simpa using z)
    · exact .inr (by omega)
theorem RV.one {v : T} (r : RV S h K D R W v) : RVs S h K D R (W + 1) [v] := RVs.cons r RVs.nil
/-- a dict of two -/
theorem RV.dic {n : Nat} {a b : T} {ka kb : KT} {wa wb : Nat} (hn : n ∉ S) (e : h[n]? = some (.dK [(ka, a), (kb, b)])) (qa : kOk K ka = true) (qb : kOk K kb = true) (la : ka.d.weight ≤ wa) (lb : kb.d.weight ≤ wb) (oa : RV S h K D R W a) (ob : RV S h K D R W2 b) :
    RV S h K (D + 1) (R + 1) (W + W2 + wa + wb + 4) (.ref n) := by
  obtain ⟨d1, a1, a2⟩ := oa
  obtain ⟨d2, b1, b2⟩ := ob
  have hr : Rds K S h ([(ka, a), (kb, b)].map (·.2)) [d1, d2] := .cons a1 (.cons b1 .nil)
  refine ⟨_, .dk hn e (fun p hp => ?_) hr, ?_, ?_, ?_⟩
  · simp only [List.mem_cons, List.not_mem_nil, or_false] at hp
    rcases hp with rfl | rfl
    · exact qa
    · exact qb
  · have k1 : ka.d.depth = 0 := by cases ka <;> simp only [KT.d, PyData.depth]
    have k2 : kb.d.depth = 0 := by cases kb <;> simp only [KT.d, PyData.depth]
    have := a2.dp
    have := b2.dp
    simp only [List.map_cons, List.map_nil, List.zip_cons_cons, List.zip_nil_left, PyData.depth, PyData.depthKv, k1, k2]
    omega
  · have := a2.rp
    have := b2.rp
    simp only [List.map_cons, List.map_nil, List.zip_cons_cons, List.zip_nil_left, rdp, rdpk]
    omega
  · have := a2.wt
    have := b2.wt
    simp only [List.map_cons, List.map_nil, List.zip_cons_cons, List.zip_nil_left, PyData.weight, PyData.weightKv]
    omega
theorem len_eq {a : Int} {n : Nat} (h0 : 0 ≤ a) (hl : a ≤ n) : HT.sIx n n (some a) = a.toNat ∧ HT.sIx n 0 (some a) = a.toNat := by
  unfold HT.sIx
  constructor <;> (dsimp only; rw [if_neg (by omega)]; omega)
theorem cut_lo {α : Type} {xs : List α} {a : Int} (h0 : 0 ≤ a) (hl : a ≤ xs.length) : cutT xs none (some a) = xs.take a.toNat := by
  unfold cutT
  rw [(len_eq h0 hl).1]
  simp [HT.sIx]
theorem cut_hi {α : Type} {xs : List α} {a : Int} (h0 : 0 ≤ a) (hl : a ≤ xs.length) : cutT xs (some a) none = xs.drop a.toNat := by
  unfold cutT
  rw [(len_eq h0 hl).2]
  have e : HT.sIx xs.length xs.length none = xs.length := rfl
  rw [e, List.take_of_length_le (by rw [List.length_drop]; omega)]
/-- at the place a stands an item of the weight w: put another one in its place, or ahead of it, or leave it out, or double it -/
theorem RVs.at_ {a : Int} (r : RVs S h K D R W xs) (ha : 0 ≤ a ∧ a < xs.length) : ∃ w, w + 1 ≤ W ∧ RV S h K D R w (xs[a.toNat]'(by omega)) ∧ RVs S h K D R (W - w - 1) (cutT xs none (some a) ++ cutT xs (some (a + 1)) none) ∧
    (∀ {S2 : List Nat} {h2 : Hh} {K3 D3 R3 W3 : Nat} {x : T}, RVs S2 h2 K3 D3 R3 W xs → RVs S2 h2 K3 D3 R3 (W - w - 1) (cutT xs none (some a) ++ cutT xs (some (a + 1)) none) → RV S2 h2 K3 D3 R3 W3 x → RVs S2 h2 K3 D3 R3 (W - w + W3) (cutT xs none (some a) ++ [x] ++ cutT xs (some (a + 1)) none)) := by
  obtain ⟨ds, a1, a2, a3⟩ := r
  have hl := a1.len
  have e1 : xs[a.toNat]? = some (xs[a.toNat]'(by omega)) := List.getElem?_eq_getElem (by omega)
  obtain ⟨d, f1, f2⟩ := a1.get e1
  have hm := List.mem_of_getElem? f1
  have c1 : cutT xs none (some a) = xs.take a.toNat := cut_lo ha.1 (by omega)
  have c2 : cutT xs (some (a + 1)) none = xs.drop (a.toNat + 1) := by rw [cut_hi (by omega) (by omega)]; congr 1; omega
  have sp : PyData.weightAll ds = PyData.weightAll (ds.take a.toNat) + (d.weight + 1) + PyData.weightAll (ds.drop (a.toNat + 1)) := by
    have hlt := (List.getElem?_eq_some_iff.mp f1).1
    have e : ds = ds.take a.toNat ++ d :: ds.drop (a.toNat + 1) := by
      have e2 := List.take_append_drop a.toNat ds
      rw [List.drop_eq_getElem_cons hlt, (List.getElem?_eq_some_iff.mp f1).2] at e2
      exact e2.symm
    rw [congrArg PyData.weightAll e, wa_app, PyData.weightAll]
    omega
  have wq : d.weight + 1 ≤ W := by omega
  have both : ∀ e ∈ ds.take a.toNat ++ ds.drop (a.toNat + 1), e ∈ ds := fun e he => by
    rcases List.mem_append.mp he with z | z
    · exact List.mem_of_mem_take z
    · exact List.mem_of_mem_drop z
  refine ⟨d.weight, wq, ⟨d, f2, (a2 d hm).1, (a2 d hm).2, Nat.le_refl _⟩, ?_, ?_⟩
  · rw [c1, c2]
    exact ⟨_, (a1.take _).app (a1.drop _), fun e he => a2 e (both e he), by rw [wa_app]; omega⟩
  · intro S2 h2 K3 D3 R3 W3 x q1 q2 q3
    rw [c1, c2] at q2 ⊢
    obtain ⟨es, b1, b2, b3⟩ := q2
    obtain ⟨dx, x1, x2⟩ := q3
    have ln : (xs.take a.toNat).length = a.toNat := by rw [List.length_take]; omega
    have tk := b1.take a.toNat
    have dr := b1.drop a.toNat
    rw [show (xs.take a.toNat ++ xs.drop (a.toNat + 1)).take a.toNat = xs.take a.toNat by rw [List.take_append_of_le_length (by omega)]; exact List.take_of_length_le (by omega)] at tk
    rw [show (xs.take a.toNat ++ xs.drop (a.toNat + 1)).drop a.toNat = xs.drop (a.toNat + 1) by rw [List.drop_append_of_le_length (by omega), List.drop_of_length_le (by omega), List.nil_append]] at dr
    refine ⟨_, (tk.app (.one x1)).app dr, fun e he => ?_, ?_⟩
    · rcases List.mem_append.mp he with z | z
      · rcases List.mem_append.mp z with y | y
        · exact b2 e (List.mem_of_mem_take y)
        · rw [List.mem_singleton.mp y]
          exact ⟨x2.dp, x2.rp⟩
      · exact b2 e (List.mem_of_mem_drop z)
    · have e3 : PyData.weightAll es = PyData.weightAll (es.take a.toNat) + PyData.weightAll (es.drop a.toNat) := by rw [← wa_app, List.take_append_drop]
      rw [wa_app, wa_app]
      have := x2.wt
      simp only [PyData.weightAll]
      omega
end
section
variable {S : List Nat} {h h' : Hh} {K D R W W2 : Nat} {v : T} {xs ys : List T}
theorem RV.items1 (r : RV S h K D R W (.tup xs)) : ∃ E, D = E + 1 ∧ RVs S h K E R W xs := by
  cases D with
  | zero =>
    obtain ⟨d, a, b⟩ := r
    cases a with
    | tup r =>
      have := b.dp
      simp only [PyData.depth] at this
      omega
  | succ E => exact ⟨E, rfl, r.items⟩
/-- one thing more at a place -/
theorem RVs.ins {a : Int} {x : T} (r : RVs S h K D R W xs) (ha : 0 ≤ a ∧ a ≤ xs.length) (q : RV S h K D R W2 x) : RVs S h K D R (W + W2 + 1) (cutT xs none (some a) ++ [x] ++ cutT xs (some a) none) := by
  rw [cut_lo ha.1 ha.2, cut_hi ha.1 ha.2]
  obtain ⟨ds, a1, a2, a3⟩ := r
  obtain ⟨d, b1, b2⟩ := q
  refine ⟨_, ((a1.take _).app (.one b1)).app (a1.drop _), fun e he => ?_, ?_⟩
  · rcases List.mem_append.mp he with z | z
    · rcases List.mem_append.mp z with y | y
      · exact a2 e (List.mem_of_mem_take y)
      · rw [List.mem_singleton.mp y]
        exact ⟨b2.dp, b2.rp⟩
    · exact a2 e (List.mem_of_mem_drop z)
  · have e3 : PyData.weightAll ds = PyData.weightAll (ds.take a.toNat) + PyData.weightAll (ds.drop a.toNat) := by rw [← wa_app, List.take_append_drop]
    rw [wa_app, wa_app]
    have := b2.wt
    simp only [PyData.weightAll]
    omega
end
theorem eqT_sr {h : Hh} {x : Str} : eqT h (.str x) (.str x) = some true := by rw [eqT_ss, decide_eq_true rfl]
theorem sOk_of (s : String) : sOk (Str.ofString s) = true := by
  show (Str.ofString s).cps.all (· < 0x110000) = true
  rw [Str.ofString_eq_toList]
  rw [Array.all_eq_true_iff_forall_mem]
  intro c hc
  have hc2 : c ∈ s.toList.map Char.toNat := by simpa using hc
  obtain ⟨ch, _, rfl⟩ := List.mem_map.mp hc2
  have v := ch.valid
  simp only [decide_eq_true_eq]
  show ch.val.toNat < 0x110000
  rcases v with v | v
  · exact Nat.lt_trans v (by decide)
  · exact v.2
theorem len_of (s : String) : (Str.ofString s).length = s.length := ofString_length s
end MP

set_option Elab.async false
set_option linter.all false
set_option maxRecDepth 100000
/-! MiniPy: the compact text of the law's defs, as mp.py printed it -/
namespace K02
open PySem MP

def topS (i : Nat) : Stmt := PySem.Challenge.pw_manydeep_k02_webs_led_by_renamings.main.body.getD i (.Pass ⟨0, 0, 0, 0⟩)
@[reducible] def y_is_integer : CSs := (.cons (.ret (.and (.cons (.isiT (.var 0) ["int"]) (.cons (.not (.isiT (.var 0) ["bool"])) .nil)))) .nil)
def d_is_integer : FD := { ps := ["thing"], N := ["thing"], body := y_is_integer }
@[reducible] def y_is_between : CSs := (.cons (.ret (.and (.cons (.call "is_integer" (.cons (.var 0) .nil)) (.cons (.chn .le .le (.var 1) (.var 0) (.var 2)) .nil)))) .nil)
def d_is_between : FD := { ps := ["thing", "least", "most"], N := ["thing", "least", "most"], body := y_is_between }
@[reducible] def y_is_place : CSs := (.cons (.ret (.call "is_between" (.cons (.var 1) (.cons (.int 0) (.cons (.bin .sub (.idx (.var 0) (.int 0)) (.int 1)) .nil))))) .nil)
def d_is_place : FD := { ps := ["web", "thing"], N := ["web", "thing"], body := y_is_place }
@[reducible] def y_is_tie : CSs := (.cons (.iff (.or (.cons (.not (.isiT (.var 1) ["tuple"])) (.cons (.cmp .ne (.blt .len (.cons (.var 1) .nil)) (.int 3)) (.cons (.not (.call "is_between" (.cons (.idx (.var 1) (.int 2)) (.cons (.int 0) (.cons (.bin .sub (.glob "KINDS") (.int 1)) .nil))))) .nil)))) (.cons (.ret (.bl false)) .nil) .nil) (.cons (.ret (.and (.cons (.call "is_between" (.cons (.idx (.var 1) (.int 0)) (.cons (.int 0) (.cons (.bin .sub (.var 0) (.int 1)) .nil)))) (.cons (.call "is_between" (.cons (.idx (.var 1) (.int 1)) (.cons (.int 0) (.cons (.bin .sub (.var 0) (.int 1)) .nil)))) (.cons (.cmp .ne (.idx (.var 1) (.int 0)) (.idx (.var 1) (.int 1))) .nil))))) .nil))
def d_is_tie : FD := { ps := ["places", "thing"], N := ["places", "thing"], body := y_is_tie }
@[reducible] def y_is_web_value : CSs := (.cons (.iff (.or (.cons (.not (.isiT (.var 0) ["tuple"])) (.cons (.cmp .ne (.blt .len (.cons (.var 0) .nil)) (.int 2)) (.cons (.not (.call "is_integer" (.cons (.idx (.var 0) (.int 0)) .nil))) (.cons (.cmp .lt (.idx (.var 0) (.int 0)) (.int 1)) .nil))))) (.cons (.ret (.bl false)) .nil) .nil) (.cons (.iff (.or (.cons (.not (.isiT (.idx (.var 0) (.int 1)) ["tuple"])) (.cons (.not (.blt .all (.cons (.comp [1] (.var 1) (.val (.idx (.var 0) (.int 1))) .no (.call "is_tie" (.cons (.idx (.var 0) (.int 0)) (.cons (.var 1) .nil)))) .nil))) .nil))) (.cons (.ret (.bl false)) .nil) .nil) (.cons (.ret (.cmp .eq (.blt .list (.cons (.idx (.var 0) (.int 1)) .nil)) (.blt .sorted (.cons (.idx (.var 0) (.int 1)) .nil)))) .nil)))
def d_is_web_value : FD := { ps := ["thing"], N := ["thing", "tie"], body := y_is_web_value }
@[reducible] def y_need_web : CSs := (.cons (.iff (.not (.call "is_web_value" (.cons (.var 0) .nil))) (.cons (.raise "BadWeb" (.var 0)) .nil) .nil) .nil)
def d_need_web : FD := { ps := ["web"], N := ["web"], body := y_need_web }
@[reducible] def y_is_renaming : CSs := (.cons (.iff (.or (.cons (.not (.isiT (.var 1) ["tuple"])) (.cons (.cmp .ne (.blt .len (.cons (.var 1) .nil)) (.idx (.var 0) (.int 0))) (.cons (.not (.blt .all (.cons (.comp [2] (.var 2) (.val (.var 1)) .no (.call "is_place" (.cons (.var 0) (.cons (.var 2) .nil)))) .nil))) .nil)))) (.cons (.ret (.bl false)) .nil) .nil) (.cons (.ret (.cmp .eq (.lset (.var 1)) (.idx (.var 0) (.int 0)))) .nil))
def d_is_renaming : FD := { ps := ["web", "thing"], N := ["web", "thing", "place"], body := y_is_renaming }
@[reducible] def y_led_web : CSs := (.cons (.set (.var 2) (.comp [3, 4, 5] (.tup (.cons (.var 3) (.cons (.var 4) (.cons (.var 5) .nil)))) (.val (.idx (.var 0) (.int 1))) .no (.tup (.cons (.idx (.var 1) (.var 3)) (.cons (.idx (.var 1) (.var 4)) (.cons (.var 5) .nil)))))) (.cons (.ret (.tup (.cons (.idx (.var 0) (.int 0)) (.cons (.blt .tuple (.cons (.blt .sorted (.cons (.var 2) .nil)) .nil)) .nil)))) .nil))
def d_led_web : FD := { ps := ["web", "renaming"], N := ["web", "renaming", "ties", "tail", "head", "kind"], body := y_led_web }
@[reducible] def y_led : CSs := (.cons (.exprX "need_web" (.cons (.var 0) .nil) [] .nil) (.cons (.iff (.not (.call "is_renaming" (.cons (.var 0) (.cons (.var 1) .nil)))) (.cons (.raise "BadRenaming" (.var 1)) .nil) .nil) (.cons (.ret (.call "led_web" (.cons (.var 0) (.cons (.var 1) .nil)))) .nil)))
def d_led : FD := { ps := ["web", "renaming"], N := ["web", "renaming"], body := y_led }
@[reducible] def y__law_deck : CSs := (.cons (.set (.var 1) (.int 10893217)) (.cons (.for (.var 2) (.val (.slc (.var 0) .no (.so (.int 63)))) (.cons (.set (.var 1) (.bin .mod (.blt .int (.cons (.bin .add (.bin .add (.bin .mul (.var 1) (.int 69621)) (.bin .mod (.blt .int (.cons (.var 2) .nil)) (.int 2147483629))) (.int 63)) .nil)) (.int 2147483587))) .nil)) (.cons (.ret (.dic (.cons (.str "cells") (.rev (.blt .list (.cons (.slc (.var 0) .no (.so (.int 63))) .nil))) (.cons (.str "mixed") (.var 1) (.cons (.str "draws") (.int 0) .nil))))) .nil)))
def d__law_deck : FD := { ps := ["_law_script"], N := ["_law_script", "_law_mixed", "_law_cell"], body := y__law_deck }
@[reducible] def y__law_draw : CSs := (.cons (.set (.sub (.var 0) (.str "draws")) (.bin .add (.idx (.var 0) (.str "draws")) (.int 1))) (.cons (.set (.var 2) (.bin .add (.idx (.var 0) (.str "mixed")) (.bin .mul (.int 61473) (.idx (.var 0) (.str "draws"))))) (.cons (.iff (.cmp .ne (.idx (.var 0) (.str "cells")) (.lst .nil)) (.cons (.set (.var 3) (.mth .pop (.idx (.var 0) (.str "cells")) .nil)) (.cons (.iff (.cmp .ge (.var 3) (.bin .pow (.int 10) (.int 18))) (.cons (.expr (.mth .append (.idx (.var 0) (.str "cells")) (.cons (.bin .fdiv (.var 3) (.blt .max (.cons (.int 2) (.cons (.var 1) .nil)))) .nil))) (.cons (.ret (.bin .mod (.blt .int (.cons (.var 3) .nil)) (.var 1))) .nil)) .nil) (.cons (.set (.var 2) (.bin .add (.var 2) (.bin .mod (.blt .int (.cons (.var 3) .nil)) (.int 2147483629)))) .nil))) .nil) (.cons (.set (.var 2) (.bin .mod (.blt .int (.cons (.bin .add (.bin .mul (.var 2) (.int 39373)) (.int 63)) .nil)) (.int 2147483647))) (.cons (.set (.var 2) (.bin .mod (.blt .int (.cons (.bin .add (.bin .add (.bin .mul (.var 2) (.var 2)) (.bin .mul (.int 52713) (.idx (.var 0) (.str "draws")))) (.int 49)) .nil)) (.int 2147483587))) (.cons (.set (.var 2) (.bin .mod (.blt .int (.cons (.bin .mul (.var 2) (.int 40692)) .nil)) (.int 2147483563))) (.cons (.ret (.bin .mod (.blt .int (.cons (.bin .fdiv (.var 2) (.int 64)) .nil)) (.var 1))) .nil)))))))
def d__law_draw : FD := { ps := ["_law_deck_here", "_law_many"], N := ["_law_deck_here", "_law_many", "_law_number", "_law_cell"], body := y__law_draw }
@[reducible] def y__law_pick : CSs := (.cons (.ret (.idx (.var 1) (.call "_law_draw" (.cons (.var 0) (.cons (.blt .len (.cons (.var 1) .nil)) .nil))))) .nil)
def d__law_pick : FD := { ps := ["_law_deck_here", "_law_some"], N := ["_law_deck_here", "_law_some"], body := y__law_pick }
@[reducible] def y__law_is_integer : CSs := (.cons (.ret (.and (.cons (.isiT (.var 0) ["int"]) (.cons (.not (.isiT (.var 0) ["bool"])) .nil)))) .nil)
def d__law_is_integer : FD := { ps := ["_law_thing"], N := ["_law_thing"], body := y__law_is_integer }
@[reducible] def y__law_any : CSs := (.cons (.set (.var 2) (.call "_law_draw" (.cons (.var 0) (.cons (.int 8) .nil)))) (.cons (.iff (.cmp .lt (.var 2) (.int 2)) (.cons (.ret (.call "_law_pick" (.cons (.var 0) (.cons (.lst (.cons (.int 0) (.cons (.int 1) (.cons (.neg (.int 1)) (.cons (.int 2) (.cons (.int 3) (.cons (.neg (.int 4)) (.cons (.int 7) (.cons (.bin .pow (.int 10) (.int 60)) (.cons (.bin .mul (.neg (.bin .pow (.int 10) (.int 60))) (.bin .pow (.int 10) (.int 39))) .nil)))))))))) .nil)))) .nil) .nil) (.cons (.iff (.cmp .eq (.var 2) (.int 2)) (.cons (.ret (.call "_law_pick" (.cons (.var 0) (.cons (.lst (.cons (.str "") (.cons (.str "0") (.cons (.str "places 2") (.cons (.str "growth") (.cons (.str "a") (.cons (.str "~") (.cons (.str "()") (.cons (.str "1") .nil))))))))) .nil)))) .nil) .nil) (.cons (.iff (.cmp .eq (.var 2) (.int 3)) (.cons (.ret (.call "_law_pick" (.cons (.var 0) (.cons (.lst (.cons (.bl true) (.cons (.bl false) (.cons .non .nil)))) .nil)))) .nil) .nil) (.cons (.set (.var 3) (.ite (.cmp .gt (.var 1) (.int 0)) (.comp [4] (.var 4) (.rng1 (.call "_law_draw" (.cons (.var 0) (.cons (.int 4) .nil)))) .no (.call "_law_any" (.cons (.var 0) (.cons (.bin .sub (.var 1) (.int 1)) .nil)))) (.lst .nil))) (.cons (.iff (.cmp .eq (.var 2) (.int 4)) (.cons (.ret (.var 3)) .nil) .nil) (.cons (.ret (.ite (.cmp .eq (.var 2) (.int 5)) (.dic (.cons (.str "n") (.var 3) (.cons (.int 1) (.blt .len (.cons (.var 3) .nil)) .nil))) (.blt .tuple (.cons (.var 3) .nil)))) .nil)))))))
def d__law_any : FD := { ps := ["_law_deck_here", "_law_deep"], N := ["_law_deck_here", "_law_deep", "_law_way", "_law_some", "_law_turn"], body := y__law_any }
@[reducible] def y__law_odd : CSs := (.cons (.iff (.cmp .eq (.call "_law_draw" (.cons (.var 0) (.cons (.int 4) .nil))) (.int 0)) (.cons (.ret (.call "_law_any" (.cons (.var 0) (.cons (.int 2) .nil)))) .nil) .nil) (.cons (.iff (.isiT (.var 1) ["int"]) (.cons (.ret (.call "_law_pick" (.cons (.var 0) (.cons (.lst (.cons (.int 0) (.cons (.bin .add (.var 1) (.int 1)) (.cons (.bin .sub (.var 1) (.int 1)) (.cons (.neg (.var 1)) (.cons (.cmp .eq (.var 1) (.int 1)) (.cons (.blt .str (.cons (.var 1) .nil)) (.cons (.tup (.cons (.var 1) .nil)) (.cons (.lst (.cons (.var 1) .nil)) (.cons (.int 3) (.cons (.bin .pow (.int 10) (.int 40)) .nil))))))))))) .nil)))) .nil) .nil) (.cons (.iff (.isiT (.var 1) ["tuple"]) (.cons (.ret (.call "_law_pick" (.cons (.var 0) (.cons (.lst (.cons (.blt .list (.cons (.var 1) .nil)) (.cons (.rev (.var 1)) (.cons (.slc (.var 1) (.so (.int 1)) .no) (.cons (.bin .add (.var 1) (.slc (.var 1) .no (.so (.int 1)))) (.cons (.tup (.cons (.var 1) .nil)) (.cons (.bin .add (.var 1) (.tup (.cons (.int 0) .nil))) (.cons (.tup .nil) .nil)))))))) .nil)))) .nil) .nil) (.cons (.ret .non) .nil))))
def d__law_odd : FD := { ps := ["_law_deck_here", "_law_thing"], N := ["_law_deck_here", "_law_thing"], body := y__law_odd }
@[reducible] def y__law_bent : CSs := (.cons (.iff (.or (.cons (.not (.isiT (.var 1) ["tuple"])) (.cons (.cmp .eq (.var 1) (.tup .nil)) (.cons (.cmp .eq (.var 2) (.int 0)) (.cons (.cmp .eq (.call "_law_draw" (.cons (.var 0) (.cons (.int 6) .nil))) (.int 0)) .nil))))) (.cons (.ret (.call "_law_odd" (.cons (.var 0) (.cons (.var 1) .nil)))) .nil) .nil) (.cons (.set (.tup (.cons (.var 3) (.cons (.var 4) (.cons (.var 5) .nil)))) (.tup (.cons (.call "_law_draw" (.cons (.var 0) (.cons (.int 8) .nil))) (.cons (.call "_law_draw" (.cons (.var 0) (.cons (.blt .len (.cons (.var 1) .nil)) .nil))) (.cons (.call "_law_draw" (.cons (.var 0) (.cons (.blt .len (.cons (.var 1) .nil)) .nil))) .nil))))) (.cons (.iff (.cmp .eq (.var 3) (.int 0)) (.cons (.ret (.bin .add (.slc (.var 1) .no (.so (.var 4))) (.slc (.var 1) (.so (.bin .add (.var 4) (.int 1))) .no))) .nil) .nil) (.cons (.iff (.cmp .eq (.var 3) (.int 1)) (.cons (.ret (.bin .add (.slc (.var 1) .no (.so (.bin .add (.var 4) (.int 1)))) (.slc (.var 1) (.so (.var 4)) .no))) .nil) .nil) (.cons (.iff (.cmp .eq (.var 3) (.int 2)) (.cons (.set (.var 6) (.blt .list (.cons (.var 1) .nil))) (.cons (.set (.tup (.cons (.sub (.var 6) (.var 4)) (.cons (.sub (.var 6) (.var 5)) .nil))) (.tup (.cons (.idx (.var 1) (.var 5)) (.cons (.idx (.var 1) (.var 4)) .nil)))) (.cons (.ret (.blt .tuple (.cons (.var 6) .nil))) .nil))) .nil) (.cons (.iff (.cmp .eq (.var 3) (.int 3)) (.cons (.ret (.bin .add (.bin .add (.slc (.var 1) .no (.so (.var 4))) (.tup (.cons (.call "_law_odd" (.cons (.var 0) (.cons (.idx (.var 1) (.var 4)) .nil))) .nil))) (.slc (.var 1) (.so (.var 4)) .no))) .nil) .nil) (.cons (.ret (.bin .add (.bin .add (.slc (.var 1) .no (.so (.var 4))) (.tup (.cons (.call "_law_bent" (.cons (.var 0) (.cons (.idx (.var 1) (.var 4)) (.cons (.bin .sub (.var 2) (.int 1)) .nil)))) .nil))) (.slc (.var 1) (.so (.bin .add (.var 4) (.int 1))) .no))) .nil)))))))
def d__law_bent : FD := { ps := ["_law_deck_here", "_law_thing", "_law_deep"], N := ["_law_deck_here", "_law_thing", "_law_deep", "_law_way", "_law_at", "_law_other", "_law_some"], body := y__law_bent }
@[reducible] def y__law_is_tie : CSs := (.cons (.iff (.or (.cons (.not (.isiT (.var 1) ["tuple"])) (.cons (.cmp .ne (.blt .len (.cons (.var 1) .nil)) (.int 3)) (.cons (.cmp .ne (.comp [2] (.var 2) (.val (.var 1)) (.so (.not (.call "_law_is_integer" (.cons (.var 2) .nil)))) (.var 2)) (.lst .nil)) .nil)))) (.cons (.ret (.bl false)) .nil) .nil) (.cons (.ret (.and (.cons (.chn .le .lt (.int 0) (.idx (.var 1) (.int 0)) (.var 0)) (.cons (.chn .le .lt (.int 0) (.idx (.var 1) (.int 1)) (.var 0)) (.cons (.cmp .ne (.idx (.var 1) (.int 0)) (.idx (.var 1) (.int 1))) (.cons (.chn .le .le (.int 0) (.idx (.var 1) (.int 2)) (.int 2)) .nil)))))) .nil))
def d__law_is_tie : FD := { ps := ["_law_n", "_law_thing"], N := ["_law_n", "_law_thing", "_law_it"], body := y__law_is_tie }
@[reducible] def y__law_is_web : CSs := (.cons (.iff (.or (.cons (.not (.isiT (.var 0) ["tuple"])) (.cons (.cmp .ne (.blt .len (.cons (.var 0) .nil)) (.int 2)) (.cons (.not (.call "_law_is_integer" (.cons (.idx (.var 0) (.int 0)) .nil))) (.cons (.cmp .lt (.idx (.var 0) (.int 0)) (.int 1)) .nil))))) (.cons (.ret (.bl false)) .nil) .nil) (.cons (.iff (.or (.cons (.not (.isiT (.idx (.var 0) (.int 1)) ["tuple"])) (.cons (.cmp .ne (.comp [2] (.var 2) (.val (.idx (.var 0) (.int 1))) (.so (.not (.call "_law_is_tie" (.cons (.idx (.var 0) (.int 0)) (.cons (.var 2) .nil))))) (.var 2)) (.lst .nil)) .nil))) (.cons (.ret (.bl false)) .nil) .nil) (.cons (.ret (.cmp .eq (.comp [1] (.var 1) (.rng2 (.int 1) (.blt .len (.cons (.idx (.var 0) (.int 1)) .nil))) (.so (.cmp .gt (.idx (.idx (.var 0) (.int 1)) (.bin .sub (.var 1) (.int 1))) (.idx (.idx (.var 0) (.int 1)) (.var 1)))) (.var 1)) (.lst .nil))) .nil)))
def d__law_is_web : FD := { ps := ["_law_thing"], N := ["_law_thing", "_law_at", "_law_tie_here"], body := y__law_is_web }
@[reducible] def y__law_tie : CSs := (.cons (.set (.tup (.cons (.var 3) (.cons (.var 4) .nil))) (.tup (.cons (.call "_law_draw" (.cons (.var 0) (.cons (.var 1) .nil))) (.cons (.call "_law_draw" (.cons (.var 0) (.cons (.bin .sub (.var 1) (.int 1)) .nil))) .nil)))) (.cons (.ret (.tup (.cons (.var 3) (.cons (.ite (.cmp .lt (.var 4) (.var 3)) (.var 4) (.bin .add (.var 4) (.int 1))) (.cons (.call "_law_draw" (.cons (.var 0) (.cons (.var 2) .nil))) .nil))))) .nil))
def d__law_tie : FD := { ps := ["_law_deck_here", "_law_n", "_law_kinds"], N := ["_law_deck_here", "_law_n", "_law_kinds", "_law_a", "_law_b"], body := y__law_tie }
@[reducible] def y__law_web : CSs := (.cons (.set (.var 4) (.comp [5] (.var 5) (.rng1 (.ite (.cmp .gt (.var 1) (.int 1)) (.var 3) (.int 0))) .no (.call "_law_tie" (.cons (.var 0) (.cons (.var 1) (.cons (.var 2) .nil)))))) (.cons (.iff (.and (.cons (.cmp .gt (.blt .len (.cons (.var 4) .nil)) (.int 1)) (.cons (.cmp .eq (.call "_law_draw" (.cons (.var 0) (.cons (.int 4) .nil))) (.int 0)) .nil))) (.cons (.set (.sub (.var 4) (.int 0)) (.idx (.var 4) (.neg (.int 1)))) .nil) .nil) (.cons (.ret (.tup (.cons (.var 1) (.cons (.blt .tuple (.cons (.blt .sorted (.cons (.var 4) .nil)) .nil)) .nil)))) .nil)))
def d__law_web : FD := { ps := ["_law_deck_here", "_law_n", "_law_kinds", "_law_many"], N := ["_law_deck_here", "_law_n", "_law_kinds", "_law_many", "_law_ties", "_law_turn"], body := y__law_web }
@[reducible] def y__law_order : CSs := (.cons (.set (.tup (.cons (.var 3) (.cons (.var 4) .nil))) (.tup (.cons (.rngL (.rng1 (.var 1))) (.cons (.lst .nil) .nil)))) (.cons (.for (.var 2) (.rng1 (.var 1)) (.cons (.expr (.mth .append (.var 4) (.cons (.mth .pop (.var 3) (.cons (.call "_law_draw" (.cons (.var 0) (.cons (.blt .len (.cons (.var 3) .nil)) .nil))) .nil)) .nil))) .nil)) (.cons (.ret (.blt .tuple (.cons (.var 4) .nil))) .nil)))
def d__law_order : FD := { ps := ["_law_deck_here", "_law_n"], N := ["_law_deck_here", "_law_n", "_law_turn", "_law_left", "_law_found"], body := y__law_order }
@[reducible] def y__law_led : CSs := (.cons (.ret (.tup (.cons (.idx (.var 0) (.int 0)) (.cons (.blt .tuple (.cons (.blt .sorted (.cons (.comp [2, 3, 4] (.tup (.cons (.var 2) (.cons (.var 3) (.cons (.var 4) .nil)))) (.val (.idx (.var 0) (.int 1))) .no (.tup (.cons (.idx (.var 1) (.var 2)) (.cons (.idx (.var 1) (.var 3)) (.cons (.var 4) .nil))))) .nil)) .nil)) .nil)))) .nil)
def d__law_led : FD := { ps := ["_law_web_here", "_law_renaming"], N := ["_law_web_here", "_law_renaming", "_law_a", "_law_b", "_law_c"], body := y__law_led }
@[reducible] def y__law_is_renaming : CSs := (.cons (.iff (.or (.cons (.not (.isiT (.var 1) ["tuple"])) (.cons (.cmp .ne (.blt .len (.cons (.var 1) .nil)) (.var 0)) (.cons (.cmp .ne (.comp [2] (.var 2) (.val (.var 1)) (.so (.not (.call "_law_is_integer" (.cons (.var 2) .nil)))) (.var 2)) (.lst .nil)) .nil)))) (.cons (.ret (.bl false)) .nil) .nil) (.cons (.ret (.cmp .eq (.blt .sorted (.cons (.var 1) .nil)) (.rngL (.rng1 (.var 0))))) .nil))
def d__law_is_renaming : FD := { ps := ["_law_n", "_law_thing"], N := ["_law_n", "_law_thing", "_law_it"], body := y__law_is_renaming }
@[reducible] def y__law_is_right : CSs := (.cons (.iff (.and (.cons (.call "_law_is_web" (.cons (.var 0) .nil)) (.cons (.or (.cons (.cmp .gt (.idx (.var 0) (.int 0)) (.int 14)) (.cons (.cmp .gt (.blt .len (.cons (.idx (.var 0) (.int 1)) .nil)) (.int 24)) .nil))) .nil))) (.cons (.ret (.bl true)) .nil) .nil) (.cons (.set (.var 2) (.blt .repr (.cons (.tup (.cons (.var 0) (.cons (.var 1) .nil))) .nil))) (.cons (.iff (.not (.call "_law_is_web" (.cons (.var 0) .nil))) (.cons (.set (.var 5) (.tup (.cons (.str "web") (.cons (.var 0) .nil)))) .nil) (.cons (.iff (.not (.call "_law_is_renaming" (.cons (.idx (.var 0) (.int 0)) (.cons (.var 1) .nil)))) (.cons (.set (.var 5) (.tup (.cons (.str "renaming") (.cons (.var 1) .nil)))) .nil) (.cons (.set (.var 5) (.tup (.cons (.str "told") (.cons (.call "_law_led" (.cons (.var 0) (.cons (.var 1) .nil))) .nil)))) .nil)) .nil)) (.cons (.set (.var 3) (.told "_law_told" "led" [0, 1] [] [])) (.cons (.set (.var 4) (.told "_law_told" "led" [] ["renaming", "web"] [1, 0])) (.cons (.ret (.and (.cons (.cmp .eq (.blt .repr (.cons (.tup (.cons (.var 3) (.cons (.var 4) .nil))) .nil)) (.blt .repr (.cons (.tup (.cons (.var 5) (.cons (.var 5) .nil))) .nil))) (.cons (.cmp .eq (.blt .repr (.cons (.tup (.cons (.var 0) (.cons (.var 1) .nil))) .nil)) (.var 2)) .nil)))) .nil))))))
def d__law_is_right : FD := { ps := ["_law_web_here", "_law_renaming"], N := ["_law_web_here", "_law_renaming", "_law_before", "_law_one", "_law_other", "_law_due", "<repr>", "<lambda>"], body := y__law_is_right }
@[reducible] def y_law : CSs := (.cons (.set (.var 1) (.call "_law_deck" (.cons (.var 0) .nil))) (.cons (.set (.var 2) (.bin .add (.int 1) (.call "_law_draw" (.cons (.var 1) (.cons (.int 14) .nil))))) (.cons (.set (.var 3) (.call "_law_web" (.cons (.var 1) (.cons (.var 2) (.cons (.int 3) (.cons (.call "_law_draw" (.cons (.var 1) (.cons (.ite (.cmp .eq (.call "_law_draw" (.cons (.var 1) (.cons (.int 4) .nil))) (.int 0)) (.int 25) (.int 8)) .nil))) .nil)))))) (.cons (.set (.tup (.cons (.var 5) (.cons (.var 6) .nil))) (.tup (.cons (.call "_law_order" (.cons (.var 1) (.cons (.var 2) .nil))) (.cons (.call "_law_order" (.cons (.var 1) (.cons (.var 2) .nil))) .nil)))) (.cons (.set (.tup (.cons (.var 7) (.cons (.var 8) .nil))) (.tup (.cons (.bin .mul (.lst (.cons (.int 0) .nil)) (.var 2)) (.cons (.blt .tuple (.cons (.comp [10] (.var 10) (.val (.var 5)) .no (.idx (.var 6) (.var 10))) .nil)) .nil)))) (.cons (.for (.tup (.cons (.var 9) (.cons (.var 10) .nil))) (.enum (.var 5)) (.cons (.set (.sub (.var 7) (.var 10)) (.var 9)) .nil)) (.cons (.iff (.cmp .ne (.blt .repr (.cons (.tup (.cons (.call "led" (.cons (.var 3) (.cons (.var 5) .nil))) (.cons (.callK "led" .nil ["web", "renaming"] (.cons (.var 3) (.cons (.rngT (.rng1 (.var 2))) .nil))) .nil))) .nil)) (.blt .repr (.cons (.tup (.cons (.call "_law_led" (.cons (.var 3) (.cons (.var 5) .nil))) (.cons (.var 3) .nil))) .nil))) (.cons (.ret (.bl false)) .nil) .nil) (.cons (.iff (.cmp .ne (.blt .repr (.cons (.tup (.cons (.call "led" (.cons (.call "led" (.cons (.var 3) (.cons (.var 5) .nil))) (.cons (.blt .tuple (.cons (.var 7) .nil)) .nil))) (.cons (.call "led" (.cons (.call "led" (.cons (.var 3) (.cons (.var 5) .nil))) (.cons (.var 6) .nil))) .nil))) .nil)) (.blt .repr (.cons (.tup (.cons (.var 3) (.cons (.call "led" (.cons (.var 3) (.cons (.var 8) .nil))) .nil))) .nil))) (.cons (.ret (.bl false)) .nil) .nil) (.cons (.for (.var 4) (.rng1 (.int 8)) (.cons (.set (.var 11) (.call "_law_pick" (.cons (.var 1) (.cons (.lst (.cons (.slc (.var 5) .no (.so (.neg (.int 1)))) (.cons (.bin .add (.var 5) (.tup (.cons (.var 2) .nil))) (.cons (.blt .list (.cons (.var 5) .nil)) (.cons (.bin .add (.slc (.var 5) .no (.so (.neg (.int 1)))) (.slc (.var 5) .no (.so (.int 1)))) (.cons (.bin .mul (.tup (.cons (.bl true) .nil)) (.var 2)) (.cons (.rev (.var 5)) (.cons (.var 2) (.cons .non (.cons (.tup .nil) (.cons (.bin .mul (.tup (.cons (.int 0) .nil)) (.var 2)) (.cons (.bin .mul (.tup (.cons (.int 1) .nil)) (.var 2)) .nil)))))))))))) .nil)))) (.cons (.set (.var 12) (.ite (.cmp .eq (.call "_law_draw" (.cons (.var 1) (.cons (.int 2) .nil))) (.int 0)) (.var 11) (.call "_law_bent" (.cons (.var 1) (.cons (.var 5) (.cons (.int 2) .nil)))))) (.cons (.set (.var 13) (.ite (.cmp .eq (.call "_law_draw" (.cons (.var 1) (.cons (.int 3) .nil))) (.int 0)) (.call "_law_bent" (.cons (.var 1) (.cons (.var 3) (.cons (.int 4) .nil)))) (.var 3))) (.cons (.iff (.or (.cons (.not (.call "_law_is_right" (.cons (.var 13) (.cons (.var 12) .nil)))) (.cons (.not (.call "_law_is_right" (.cons (.var 13) (.cons (.var 5) .nil)))) .nil))) (.cons (.ret (.bl false)) .nil) .nil) .nil))))) (.cons (.ret (.and (.cons (.call "_law_is_right" (.cons (.call "_law_any" (.cons (.var 1) (.cons (.int 3) .nil))) (.cons (.call "_law_any" (.cons (.var 1) (.cons (.int 2) .nil))) .nil))) (.cons (.call "_law_is_right" (.cons (.tup (.cons (.var 2) (.cons (.blt .list (.cons (.idx (.var 3) (.int 1)) .nil)) .nil))) (.cons (.blt .list (.cons (.var 5) .nil)) .nil))) (.cons (.call "_law_is_right" (.cons (.var 3) (.cons (.var 5) .nil))) .nil))))) .nil))))))))))
def d_law : FD := { ps := ["_law_script"], N := ["_law_script", "_law_deck_here", "_law_n", "_law_web_here", "_law_turn", "_law_one", "_law_other", "_law_back", "_law_both", "_law_at", "_law_place", "_law_odd_here", "_law_thing", "_law_near", "<repr>"], body := y_law }
def fs : List (String × FD) := [("is_integer", d_is_integer), ("is_between", d_is_between), ("is_place", d_is_place), ("is_tie", d_is_tie), ("is_web_value", d_is_web_value), ("need_web", d_need_web), ("is_renaming", d_is_renaming), ("led_web", d_led_web), ("led", d_led), ("_law_deck", d__law_deck), ("_law_draw", d__law_draw), ("_law_pick", d__law_pick), ("_law_is_integer", d__law_is_integer), ("_law_any", d__law_any), ("_law_odd", d__law_odd), ("_law_bent", d__law_bent), ("_law_is_tie", d__law_is_tie), ("_law_is_web", d__law_is_web), ("_law_tie", d__law_tie), ("_law_web", d__law_web), ("_law_order", d__law_order), ("_law_led", d__law_led), ("_law_is_renaming", d__law_is_renaming), ("_law_is_right", d__law_is_right), ("law", d_law)]
def gs : List (String × T) := [("KINDS", .int 3)]
def kw : List (String × Nat × List String) := [("led", 0, ["renaming", "web"]), ("led", 0, ["web", "renaming"])]
def nw : List (String × String) := []
def td : List (String × List (String × String)) := [("_law_told", [("BadWeb", "web"), ("BadRenaming", "renaming")])]
def xs : List (String × String) := [("BadWeb", "thing"), ("BadRenaming", "thing")]
abbrev D : Tbl := tblOf fs gs kw nw td xs
theorem s__law_told : L2.FnScope ["_law_deed", "e"] ["_law_deed"] (L2.defScope (topS 30)) := ⟨rfl, rfl, rfl, by decide +kernel, rfl, by decide +kernel, by decide +kernel⟩
def hf__law_told : List (String × String × String) := [("BadWeb", "web", "thing"), ("BadRenaming", "renaming", "thing")]
theorem tb__law_told : toldB "_law_deed" "e" hf__law_told (L2.defScope (topS 30)) (L2.defBody (topS 30)) = true := by decide +kernel
theorem b__law_told : ∀ (kV doc pm : Value) (an : Option Addr) (cdv ct : Value) (us : List Value), us.length = (["_law_deed"] : List Str).length → bindArgs (fnT "_law_told" (topS 30) kV doc pm an cdv ct) ⟨us, []⟩ = pure ((["_law_deed"] : List Str).zip us) := fun _ _ _ _ _ _ us hl => match us, hl with | [_], _ => rfl
theorem gg_KINDS {C : String → List T → Hh → R T} {ls : Ls} {h : Hh} {Q : T → Hh → Prop} : (Gx (evE D C (.glob "KINDS") ls h) (P := ⟨Q⟩)) = Q (.int 3) h := propext ⟨fun q => q, fun q => q⟩
theorem f_is_integer : D.fn "is_integer" = some d_is_integer := rfl
theorem s_is_integer : L2.FnScope (d_is_integer.N.map Str.ofString) (d_is_integer.ps.map Str.ofString) (L2.defScope (topS 6)) := ⟨rfl, rfl, rfl, by decide +kernel, rfl, by decide +kernel, by decide +kernel⟩
theorem c_is_integer : chkSs D (d_is_integer.N.map Str.ofString) d_is_integer.body (L2.defScope (topS 6)) (L2.defScope (topS 6)) (L2.defBody (topS 6)) = true := by decide +kernel
theorem b_is_integer : ∀ (kV doc pm : Value) (an : Option Addr) (cdv ct : Value) (us : List Value), us.length = (d_is_integer.ps.map Str.ofString).length → bindArgs (fnT "is_integer" (topS 6) kV doc pm an cdv ct) ⟨us, []⟩ = pure ((d_is_integer.ps.map Str.ofString).zip us) := fun _ _ _ _ _ _ us hl => match us, hl with | [_], _ => rfl
theorem k_is_integer : ∀ (kV doc pm : Value) (an : Option Addr) (cdv ct : Value), ∀ m ks, ("is_integer", m, ks) ∈ D.kw → KwOk (fnT "is_integer" (topS 6) kV doc pm an cdv ct) d_is_integer.ps m ks := by
  intro kV doc pm an cdv ct m ks h
  exact kw_no (by decide +kernel) h
theorem f_is_between : D.fn "is_between" = some d_is_between := rfl
theorem s_is_between : L2.FnScope (d_is_between.N.map Str.ofString) (d_is_between.ps.map Str.ofString) (L2.defScope (topS 7)) := ⟨rfl, rfl, rfl, by decide +kernel, rfl, by decide +kernel, by decide +kernel⟩
theorem c_is_between : chkSs D (d_is_between.N.map Str.ofString) d_is_between.body (L2.defScope (topS 7)) (L2.defScope (topS 7)) (L2.defBody (topS 7)) = true := by decide +kernel
theorem b_is_between : ∀ (kV doc pm : Value) (an : Option Addr) (cdv ct : Value) (us : List Value), us.length = (d_is_between.ps.map Str.ofString).length → bindArgs (fnT "is_between" (topS 7) kV doc pm an cdv ct) ⟨us, []⟩ = pure ((d_is_between.ps.map Str.ofString).zip us) := fun _ _ _ _ _ _ us hl => match us, hl with | [_, _, _], _ => rfl
theorem k_is_between : ∀ (kV doc pm : Value) (an : Option Addr) (cdv ct : Value), ∀ m ks, ("is_between", m, ks) ∈ D.kw → KwOk (fnT "is_between" (topS 7) kV doc pm an cdv ct) d_is_between.ps m ks := by
  intro kV doc pm an cdv ct m ks h
  exact kw_no (by decide +kernel) h
theorem f_is_place : D.fn "is_place" = some d_is_place := rfl
theorem s_is_place : L2.FnScope (d_is_place.N.map Str.ofString) (d_is_place.ps.map Str.ofString) (L2.defScope (topS 8)) := ⟨rfl, rfl, rfl, by decide +kernel, rfl, by decide +kernel, by decide +kernel⟩
theorem c_is_place : chkSs D (d_is_place.N.map Str.ofString) d_is_place.body (L2.defScope (topS 8)) (L2.defScope (topS 8)) (L2.defBody (topS 8)) = true := by decide +kernel
theorem b_is_place : ∀ (kV doc pm : Value) (an : Option Addr) (cdv ct : Value) (us : List Value), us.length = (d_is_place.ps.map Str.ofString).length → bindArgs (fnT "is_place" (topS 8) kV doc pm an cdv ct) ⟨us, []⟩ = pure ((d_is_place.ps.map Str.ofString).zip us) := fun _ _ _ _ _ _ us hl => match us, hl with | [_, _], _ => rfl
theorem k_is_place : ∀ (kV doc pm : Value) (an : Option Addr) (cdv ct : Value), ∀ m ks, ("is_place", m, ks) ∈ D.kw → KwOk (fnT "is_place" (topS 8) kV doc pm an cdv ct) d_is_place.ps m ks := by
  intro kV doc pm an cdv ct m ks h
  exact kw_no (by decide +kernel) h
theorem f_is_tie : D.fn "is_tie" = some d_is_tie := rfl
theorem s_is_tie : L2.FnScope (d_is_tie.N.map Str.ofString) (d_is_tie.ps.map Str.ofString) (L2.defScope (topS 9)) := ⟨rfl, rfl, rfl, by decide +kernel, rfl, by decide +kernel, by decide +kernel⟩
theorem c_is_tie : chkSs D (d_is_tie.N.map Str.ofString) d_is_tie.body (L2.defScope (topS 9)) (L2.defScope (topS 9)) (L2.defBody (topS 9)) = true := by decide +kernel
theorem b_is_tie : ∀ (kV doc pm : Value) (an : Option Addr) (cdv ct : Value) (us : List Value), us.length = (d_is_tie.ps.map Str.ofString).length → bindArgs (fnT "is_tie" (topS 9) kV doc pm an cdv ct) ⟨us, []⟩ = pure ((d_is_tie.ps.map Str.ofString).zip us) := fun _ _ _ _ _ _ us hl => match us, hl with | [_, _], _ => rfl
theorem k_is_tie : ∀ (kV doc pm : Value) (an : Option Addr) (cdv ct : Value), ∀ m ks, ("is_tie", m, ks) ∈ D.kw → KwOk (fnT "is_tie" (topS 9) kV doc pm an cdv ct) d_is_tie.ps m ks := by
  intro kV doc pm an cdv ct m ks h
  exact kw_no (by decide +kernel) h
theorem f_is_web_value : D.fn "is_web_value" = some d_is_web_value := rfl
theorem s_is_web_value : L2.FnScope (d_is_web_value.N.map Str.ofString) (d_is_web_value.ps.map Str.ofString) (L2.defScope (topS 10)) := ⟨rfl, rfl, rfl, by decide +kernel, rfl, by decide +kernel, by decide +kernel⟩
theorem c_is_web_value : chkSs D (d_is_web_value.N.map Str.ofString) d_is_web_value.body (L2.defScope (topS 10)) (L2.defScope (topS 10)) (L2.defBody (topS 10)) = true := by decide +kernel
theorem b_is_web_value : ∀ (kV doc pm : Value) (an : Option Addr) (cdv ct : Value) (us : List Value), us.length = (d_is_web_value.ps.map Str.ofString).length → bindArgs (fnT "is_web_value" (topS 10) kV doc pm an cdv ct) ⟨us, []⟩ = pure ((d_is_web_value.ps.map Str.ofString).zip us) := fun _ _ _ _ _ _ us hl => match us, hl with | [_], _ => rfl
theorem k_is_web_value : ∀ (kV doc pm : Value) (an : Option Addr) (cdv ct : Value), ∀ m ks, ("is_web_value", m, ks) ∈ D.kw → KwOk (fnT "is_web_value" (topS 10) kV doc pm an cdv ct) d_is_web_value.ps m ks := by
  intro kV doc pm an cdv ct m ks h
  exact kw_no (by decide +kernel) h
theorem f_need_web : D.fn "need_web" = some d_need_web := rfl
theorem s_need_web : L2.FnScope (d_need_web.N.map Str.ofString) (d_need_web.ps.map Str.ofString) (L2.defScope (topS 11)) := ⟨rfl, rfl, rfl, by decide +kernel, rfl, by decide +kernel, by decide +kernel⟩
theorem c_need_web : chkSs D (d_need_web.N.map Str.ofString) d_need_web.body (L2.defScope (topS 11)) (L2.defScope (topS 11)) (L2.defBody (topS 11)) = true := by decide +kernel
theorem b_need_web : ∀ (kV doc pm : Value) (an : Option Addr) (cdv ct : Value) (us : List Value), us.length = (d_need_web.ps.map Str.ofString).length → bindArgs (fnT "need_web" (topS 11) kV doc pm an cdv ct) ⟨us, []⟩ = pure ((d_need_web.ps.map Str.ofString).zip us) := fun _ _ _ _ _ _ us hl => match us, hl with | [_], _ => rfl
theorem k_need_web : ∀ (kV doc pm : Value) (an : Option Addr) (cdv ct : Value), ∀ m ks, ("need_web", m, ks) ∈ D.kw → KwOk (fnT "need_web" (topS 11) kV doc pm an cdv ct) d_need_web.ps m ks := by
  intro kV doc pm an cdv ct m ks h
  exact kw_no (by decide +kernel) h
theorem f_is_renaming : D.fn "is_renaming" = some d_is_renaming := rfl
theorem s_is_renaming : L2.FnScope (d_is_renaming.N.map Str.ofString) (d_is_renaming.ps.map Str.ofString) (L2.defScope (topS 13)) := ⟨rfl, rfl, rfl, by decide +kernel, rfl, by decide +kernel, by decide +kernel⟩
theorem c_is_renaming : chkSs D (d_is_renaming.N.map Str.ofString) d_is_renaming.body (L2.defScope (topS 13)) (L2.defScope (topS 13)) (L2.defBody (topS 13)) = true := by decide +kernel
theorem b_is_renaming : ∀ (kV doc pm : Value) (an : Option Addr) (cdv ct : Value) (us : List Value), us.length = (d_is_renaming.ps.map Str.ofString).length → bindArgs (fnT "is_renaming" (topS 13) kV doc pm an cdv ct) ⟨us, []⟩ = pure ((d_is_renaming.ps.map Str.ofString).zip us) := fun _ _ _ _ _ _ us hl => match us, hl with | [_, _], _ => rfl
theorem k_is_renaming : ∀ (kV doc pm : Value) (an : Option Addr) (cdv ct : Value), ∀ m ks, ("is_renaming", m, ks) ∈ D.kw → KwOk (fnT "is_renaming" (topS 13) kV doc pm an cdv ct) d_is_renaming.ps m ks := by
  intro kV doc pm an cdv ct m ks h
  exact kw_no (by decide +kernel) h
theorem f_led_web : D.fn "led_web" = some d_led_web := rfl
theorem s_led_web : L2.FnScope (d_led_web.N.map Str.ofString) (d_led_web.ps.map Str.ofString) (L2.defScope (topS 14)) := ⟨rfl, rfl, rfl, by decide +kernel, rfl, by decide +kernel, by decide +kernel⟩
theorem c_led_web : chkSs D (d_led_web.N.map Str.ofString) d_led_web.body (L2.defScope (topS 14)) (L2.defScope (topS 14)) (L2.defBody (topS 14)) = true := by decide +kernel
theorem b_led_web : ∀ (kV doc pm : Value) (an : Option Addr) (cdv ct : Value) (us : List Value), us.length = (d_led_web.ps.map Str.ofString).length → bindArgs (fnT "led_web" (topS 14) kV doc pm an cdv ct) ⟨us, []⟩ = pure ((d_led_web.ps.map Str.ofString).zip us) := fun _ _ _ _ _ _ us hl => match us, hl with | [_, _], _ => rfl
theorem k_led_web : ∀ (kV doc pm : Value) (an : Option Addr) (cdv ct : Value), ∀ m ks, ("led_web", m, ks) ∈ D.kw → KwOk (fnT "led_web" (topS 14) kV doc pm an cdv ct) d_led_web.ps m ks := by
  intro kV doc pm an cdv ct m ks h
  exact kw_no (by decide +kernel) h
theorem f_led : D.fn "led" = some d_led := rfl
theorem s_led : L2.FnScope (d_led.N.map Str.ofString) (d_led.ps.map Str.ofString) (L2.defScope (topS 15)) := ⟨rfl, rfl, rfl, by decide +kernel, rfl, by decide +kernel, by decide +kernel⟩
theorem c_led : chkSs D (d_led.N.map Str.ofString) d_led.body (L2.defScope (topS 15)) (L2.defScope (topS 15)) (L2.defBody (topS 15)) = true := by decide +kernel
theorem b_led : ∀ (kV doc pm : Value) (an : Option Addr) (cdv ct : Value) (us : List Value), us.length = (d_led.ps.map Str.ofString).length → bindArgs (fnT "led" (topS 15) kV doc pm an cdv ct) ⟨us, []⟩ = pure ((d_led.ps.map Str.ofString).zip us) := fun _ _ _ _ _ _ us hl => match us, hl with | [_, _], _ => rfl
theorem k_led : ∀ (kV doc pm : Value) (an : Option Addr) (cdv ct : Value), ∀ m ks, ("led", m, ks) ∈ D.kw → KwOk (fnT "led" (topS 15) kV doc pm an cdv ct) d_led.ps m ks := by
  intro kV doc pm an cdv ct m ks h
  rcases List.mem_cons.mp h with h | h
  · obtain ⟨rfl, rfl⟩ := Prod.mk.inj (congrArg Prod.snd h)
    intro us ws zs h1 h2 e
    match us, ws, h1, h2 with
    | [], [b0, b1], _, _ =>
      have e2 : some [b1, b0] = some zs := e
      cases e2
      rfl
  rcases List.mem_cons.mp h with h | h
  · obtain ⟨rfl, rfl⟩ := Prod.mk.inj (congrArg Prod.snd h)
    intro us ws zs h1 h2 e
    match us, ws, h1, h2 with
    | [], [b0, b1], _, _ =>
      have e2 : some [b0, b1] = some zs := e
      cases e2
      rfl
  exact absurd h List.not_mem_nil
theorem f__law_deck : D.fn "_law_deck" = some d__law_deck := rfl
theorem s__law_deck : L2.FnScope (d__law_deck.N.map Str.ofString) (d__law_deck.ps.map Str.ofString) (L2.defScope (topS 17)) := ⟨rfl, rfl, rfl, by decide +kernel, rfl, by decide +kernel, by decide +kernel⟩
theorem c__law_deck : chkSs D (d__law_deck.N.map Str.ofString) d__law_deck.body (L2.defScope (topS 17)) (L2.defScope (topS 17)) (L2.defBody (topS 17)) = true := by decide +kernel
theorem b__law_deck : ∀ (kV doc pm : Value) (an : Option Addr) (cdv ct : Value) (us : List Value), us.length = (d__law_deck.ps.map Str.ofString).length → bindArgs (fnT "_law_deck" (topS 17) kV doc pm an cdv ct) ⟨us, []⟩ = pure ((d__law_deck.ps.map Str.ofString).zip us) := fun _ _ _ _ _ _ us hl => match us, hl with | [_], _ => rfl
theorem k__law_deck : ∀ (kV doc pm : Value) (an : Option Addr) (cdv ct : Value), ∀ m ks, ("_law_deck", m, ks) ∈ D.kw → KwOk (fnT "_law_deck" (topS 17) kV doc pm an cdv ct) d__law_deck.ps m ks := by
  intro kV doc pm an cdv ct m ks h
  exact kw_no (by decide +kernel) h
theorem f__law_draw : D.fn "_law_draw" = some d__law_draw := rfl
theorem s__law_draw : L2.FnScope (d__law_draw.N.map Str.ofString) (d__law_draw.ps.map Str.ofString) (L2.defScope (topS 18)) := ⟨rfl, rfl, rfl, by decide +kernel, rfl, by decide +kernel, by decide +kernel⟩
theorem c__law_draw : chkSs D (d__law_draw.N.map Str.ofString) d__law_draw.body (L2.defScope (topS 18)) (L2.defScope (topS 18)) (L2.defBody (topS 18)) = true := by decide +kernel
theorem b__law_draw : ∀ (kV doc pm : Value) (an : Option Addr) (cdv ct : Value) (us : List Value), us.length = (d__law_draw.ps.map Str.ofString).length → bindArgs (fnT "_law_draw" (topS 18) kV doc pm an cdv ct) ⟨us, []⟩ = pure ((d__law_draw.ps.map Str.ofString).zip us) := fun _ _ _ _ _ _ us hl => match us, hl with | [_, _], _ => rfl
theorem k__law_draw : ∀ (kV doc pm : Value) (an : Option Addr) (cdv ct : Value), ∀ m ks, ("_law_draw", m, ks) ∈ D.kw → KwOk (fnT "_law_draw" (topS 18) kV doc pm an cdv ct) d__law_draw.ps m ks := by
  intro kV doc pm an cdv ct m ks h
  exact kw_no (by decide +kernel) h
theorem f__law_pick : D.fn "_law_pick" = some d__law_pick := rfl
theorem s__law_pick : L2.FnScope (d__law_pick.N.map Str.ofString) (d__law_pick.ps.map Str.ofString) (L2.defScope (topS 19)) := ⟨rfl, rfl, rfl, by decide +kernel, rfl, by decide +kernel, by decide +kernel⟩
theorem c__law_pick : chkSs D (d__law_pick.N.map Str.ofString) d__law_pick.body (L2.defScope (topS 19)) (L2.defScope (topS 19)) (L2.defBody (topS 19)) = true := by decide +kernel
theorem b__law_pick : ∀ (kV doc pm : Value) (an : Option Addr) (cdv ct : Value) (us : List Value), us.length = (d__law_pick.ps.map Str.ofString).length → bindArgs (fnT "_law_pick" (topS 19) kV doc pm an cdv ct) ⟨us, []⟩ = pure ((d__law_pick.ps.map Str.ofString).zip us) := fun _ _ _ _ _ _ us hl => match us, hl with | [_, _], _ => rfl
theorem k__law_pick : ∀ (kV doc pm : Value) (an : Option Addr) (cdv ct : Value), ∀ m ks, ("_law_pick", m, ks) ∈ D.kw → KwOk (fnT "_law_pick" (topS 19) kV doc pm an cdv ct) d__law_pick.ps m ks := by
  intro kV doc pm an cdv ct m ks h
  exact kw_no (by decide +kernel) h
theorem f__law_is_integer : D.fn "_law_is_integer" = some d__law_is_integer := rfl
theorem s__law_is_integer : L2.FnScope (d__law_is_integer.N.map Str.ofString) (d__law_is_integer.ps.map Str.ofString) (L2.defScope (topS 20)) := ⟨rfl, rfl, rfl, by decide +kernel, rfl, by decide +kernel, by decide +kernel⟩
theorem c__law_is_integer : chkSs D (d__law_is_integer.N.map Str.ofString) d__law_is_integer.body (L2.defScope (topS 20)) (L2.defScope (topS 20)) (L2.defBody (topS 20)) = true := by decide +kernel
theorem b__law_is_integer : ∀ (kV doc pm : Value) (an : Option Addr) (cdv ct : Value) (us : List Value), us.length = (d__law_is_integer.ps.map Str.ofString).length → bindArgs (fnT "_law_is_integer" (topS 20) kV doc pm an cdv ct) ⟨us, []⟩ = pure ((d__law_is_integer.ps.map Str.ofString).zip us) := fun _ _ _ _ _ _ us hl => match us, hl with | [_], _ => rfl
theorem k__law_is_integer : ∀ (kV doc pm : Value) (an : Option Addr) (cdv ct : Value), ∀ m ks, ("_law_is_integer", m, ks) ∈ D.kw → KwOk (fnT "_law_is_integer" (topS 20) kV doc pm an cdv ct) d__law_is_integer.ps m ks := by
  intro kV doc pm an cdv ct m ks h
  exact kw_no (by decide +kernel) h
theorem f__law_any : D.fn "_law_any" = some d__law_any := rfl
theorem s__law_any : L2.FnScope (d__law_any.N.map Str.ofString) (d__law_any.ps.map Str.ofString) (L2.defScope (topS 21)) := ⟨rfl, rfl, rfl, by decide +kernel, rfl, by decide +kernel, by decide +kernel⟩
theorem c__law_any : chkSs D (d__law_any.N.map Str.ofString) d__law_any.body (L2.defScope (topS 21)) (L2.defScope (topS 21)) (L2.defBody (topS 21)) = true := by decide +kernel
theorem b__law_any : ∀ (kV doc pm : Value) (an : Option Addr) (cdv ct : Value) (us : List Value), us.length = (d__law_any.ps.map Str.ofString).length → bindArgs (fnT "_law_any" (topS 21) kV doc pm an cdv ct) ⟨us, []⟩ = pure ((d__law_any.ps.map Str.ofString).zip us) := fun _ _ _ _ _ _ us hl => match us, hl with | [_, _], _ => rfl
theorem k__law_any : ∀ (kV doc pm : Value) (an : Option Addr) (cdv ct : Value), ∀ m ks, ("_law_any", m, ks) ∈ D.kw → KwOk (fnT "_law_any" (topS 21) kV doc pm an cdv ct) d__law_any.ps m ks := by
  intro kV doc pm an cdv ct m ks h
  exact kw_no (by decide +kernel) h
theorem f__law_odd : D.fn "_law_odd" = some d__law_odd := rfl
theorem s__law_odd : L2.FnScope (d__law_odd.N.map Str.ofString) (d__law_odd.ps.map Str.ofString) (L2.defScope (topS 22)) := ⟨rfl, rfl, rfl, by decide +kernel, rfl, by decide +kernel, by decide +kernel⟩
theorem c__law_odd : chkSs D (d__law_odd.N.map Str.ofString) d__law_odd.body (L2.defScope (topS 22)) (L2.defScope (topS 22)) (L2.defBody (topS 22)) = true := by decide +kernel
theorem b__law_odd : ∀ (kV doc pm : Value) (an : Option Addr) (cdv ct : Value) (us : List Value), us.length = (d__law_odd.ps.map Str.ofString).length → bindArgs (fnT "_law_odd" (topS 22) kV doc pm an cdv ct) ⟨us, []⟩ = pure ((d__law_odd.ps.map Str.ofString).zip us) := fun _ _ _ _ _ _ us hl => match us, hl with | [_, _], _ => rfl
theorem k__law_odd : ∀ (kV doc pm : Value) (an : Option Addr) (cdv ct : Value), ∀ m ks, ("_law_odd", m, ks) ∈ D.kw → KwOk (fnT "_law_odd" (topS 22) kV doc pm an cdv ct) d__law_odd.ps m ks := by
  intro kV doc pm an cdv ct m ks h
  exact kw_no (by decide +kernel) h
theorem f__law_bent : D.fn "_law_bent" = some d__law_bent := rfl
theorem s__law_bent : L2.FnScope (d__law_bent.N.map Str.ofString) (d__law_bent.ps.map Str.ofString) (L2.defScope (topS 23)) := ⟨rfl, rfl, rfl, by decide +kernel, rfl, by decide +kernel, by decide +kernel⟩
theorem c__law_bent : chkSs D (d__law_bent.N.map Str.ofString) d__law_bent.body (L2.defScope (topS 23)) (L2.defScope (topS 23)) (L2.defBody (topS 23)) = true := by decide +kernel
theorem b__law_bent : ∀ (kV doc pm : Value) (an : Option Addr) (cdv ct : Value) (us : List Value), us.length = (d__law_bent.ps.map Str.ofString).length → bindArgs (fnT "_law_bent" (topS 23) kV doc pm an cdv ct) ⟨us, []⟩ = pure ((d__law_bent.ps.map Str.ofString).zip us) := fun _ _ _ _ _ _ us hl => match us, hl with | [_, _, _], _ => rfl
theorem k__law_bent : ∀ (kV doc pm : Value) (an : Option Addr) (cdv ct : Value), ∀ m ks, ("_law_bent", m, ks) ∈ D.kw → KwOk (fnT "_law_bent" (topS 23) kV doc pm an cdv ct) d__law_bent.ps m ks := by
  intro kV doc pm an cdv ct m ks h
  exact kw_no (by decide +kernel) h
theorem f__law_is_tie : D.fn "_law_is_tie" = some d__law_is_tie := rfl
theorem s__law_is_tie : L2.FnScope (d__law_is_tie.N.map Str.ofString) (d__law_is_tie.ps.map Str.ofString) (L2.defScope (topS 24)) := ⟨rfl, rfl, rfl, by decide +kernel, rfl, by decide +kernel, by decide +kernel⟩
theorem c__law_is_tie : chkSs D (d__law_is_tie.N.map Str.ofString) d__law_is_tie.body (L2.defScope (topS 24)) (L2.defScope (topS 24)) (L2.defBody (topS 24)) = true := by decide +kernel
theorem b__law_is_tie : ∀ (kV doc pm : Value) (an : Option Addr) (cdv ct : Value) (us : List Value), us.length = (d__law_is_tie.ps.map Str.ofString).length → bindArgs (fnT "_law_is_tie" (topS 24) kV doc pm an cdv ct) ⟨us, []⟩ = pure ((d__law_is_tie.ps.map Str.ofString).zip us) := fun _ _ _ _ _ _ us hl => match us, hl with | [_, _], _ => rfl
theorem k__law_is_tie : ∀ (kV doc pm : Value) (an : Option Addr) (cdv ct : Value), ∀ m ks, ("_law_is_tie", m, ks) ∈ D.kw → KwOk (fnT "_law_is_tie" (topS 24) kV doc pm an cdv ct) d__law_is_tie.ps m ks := by
  intro kV doc pm an cdv ct m ks h
  exact kw_no (by decide +kernel) h
theorem f__law_is_web : D.fn "_law_is_web" = some d__law_is_web := rfl
theorem s__law_is_web : L2.FnScope (d__law_is_web.N.map Str.ofString) (d__law_is_web.ps.map Str.ofString) (L2.defScope (topS 25)) := ⟨rfl, rfl, rfl, by decide +kernel, rfl, by decide +kernel, by decide +kernel⟩
theorem c__law_is_web : chkSs D (d__law_is_web.N.map Str.ofString) d__law_is_web.body (L2.defScope (topS 25)) (L2.defScope (topS 25)) (L2.defBody (topS 25)) = true := by decide +kernel
theorem b__law_is_web : ∀ (kV doc pm : Value) (an : Option Addr) (cdv ct : Value) (us : List Value), us.length = (d__law_is_web.ps.map Str.ofString).length → bindArgs (fnT "_law_is_web" (topS 25) kV doc pm an cdv ct) ⟨us, []⟩ = pure ((d__law_is_web.ps.map Str.ofString).zip us) := fun _ _ _ _ _ _ us hl => match us, hl with | [_], _ => rfl
theorem k__law_is_web : ∀ (kV doc pm : Value) (an : Option Addr) (cdv ct : Value), ∀ m ks, ("_law_is_web", m, ks) ∈ D.kw → KwOk (fnT "_law_is_web" (topS 25) kV doc pm an cdv ct) d__law_is_web.ps m ks := by
  intro kV doc pm an cdv ct m ks h
  exact kw_no (by decide +kernel) h
theorem f__law_tie : D.fn "_law_tie" = some d__law_tie := rfl
theorem s__law_tie : L2.FnScope (d__law_tie.N.map Str.ofString) (d__law_tie.ps.map Str.ofString) (L2.defScope (topS 26)) := ⟨rfl, rfl, rfl, by decide +kernel, rfl, by decide +kernel, by decide +kernel⟩
theorem c__law_tie : chkSs D (d__law_tie.N.map Str.ofString) d__law_tie.body (L2.defScope (topS 26)) (L2.defScope (topS 26)) (L2.defBody (topS 26)) = true := by decide +kernel
theorem b__law_tie : ∀ (kV doc pm : Value) (an : Option Addr) (cdv ct : Value) (us : List Value), us.length = (d__law_tie.ps.map Str.ofString).length → bindArgs (fnT "_law_tie" (topS 26) kV doc pm an cdv ct) ⟨us, []⟩ = pure ((d__law_tie.ps.map Str.ofString).zip us) := fun _ _ _ _ _ _ us hl => match us, hl with | [_, _, _], _ => rfl
theorem k__law_tie : ∀ (kV doc pm : Value) (an : Option Addr) (cdv ct : Value), ∀ m ks, ("_law_tie", m, ks) ∈ D.kw → KwOk (fnT "_law_tie" (topS 26) kV doc pm an cdv ct) d__law_tie.ps m ks := by
  intro kV doc pm an cdv ct m ks h
  exact kw_no (by decide +kernel) h
theorem f__law_web : D.fn "_law_web" = some d__law_web := rfl
theorem s__law_web : L2.FnScope (d__law_web.N.map Str.ofString) (d__law_web.ps.map Str.ofString) (L2.defScope (topS 27)) := ⟨rfl, rfl, rfl, by decide +kernel, rfl, by decide +kernel, by decide +kernel⟩
theorem c__law_web : chkSs D (d__law_web.N.map Str.ofString) d__law_web.body (L2.defScope (topS 27)) (L2.defScope (topS 27)) (L2.defBody (topS 27)) = true := by decide +kernel
theorem b__law_web : ∀ (kV doc pm : Value) (an : Option Addr) (cdv ct : Value) (us : List Value), us.length = (d__law_web.ps.map Str.ofString).length → bindArgs (fnT "_law_web" (topS 27) kV doc pm an cdv ct) ⟨us, []⟩ = pure ((d__law_web.ps.map Str.ofString).zip us) := fun _ _ _ _ _ _ us hl => match us, hl with | [_, _, _, _], _ => rfl
theorem k__law_web : ∀ (kV doc pm : Value) (an : Option Addr) (cdv ct : Value), ∀ m ks, ("_law_web", m, ks) ∈ D.kw → KwOk (fnT "_law_web" (topS 27) kV doc pm an cdv ct) d__law_web.ps m ks := by
  intro kV doc pm an cdv ct m ks h
  exact kw_no (by decide +kernel) h
theorem f__law_order : D.fn "_law_order" = some d__law_order := rfl
theorem s__law_order : L2.FnScope (d__law_order.N.map Str.ofString) (d__law_order.ps.map Str.ofString) (L2.defScope (topS 28)) := ⟨rfl, rfl, rfl, by decide +kernel, rfl, by decide +kernel, by decide +kernel⟩
theorem c__law_order : chkSs D (d__law_order.N.map Str.ofString) d__law_order.body (L2.defScope (topS 28)) (L2.defScope (topS 28)) (L2.defBody (topS 28)) = true := by decide +kernel
theorem b__law_order : ∀ (kV doc pm : Value) (an : Option Addr) (cdv ct : Value) (us : List Value), us.length = (d__law_order.ps.map Str.ofString).length → bindArgs (fnT "_law_order" (topS 28) kV doc pm an cdv ct) ⟨us, []⟩ = pure ((d__law_order.ps.map Str.ofString).zip us) := fun _ _ _ _ _ _ us hl => match us, hl with | [_, _], _ => rfl
theorem k__law_order : ∀ (kV doc pm : Value) (an : Option Addr) (cdv ct : Value), ∀ m ks, ("_law_order", m, ks) ∈ D.kw → KwOk (fnT "_law_order" (topS 28) kV doc pm an cdv ct) d__law_order.ps m ks := by
  intro kV doc pm an cdv ct m ks h
  exact kw_no (by decide +kernel) h
theorem f__law_led : D.fn "_law_led" = some d__law_led := rfl
theorem s__law_led : L2.FnScope (d__law_led.N.map Str.ofString) (d__law_led.ps.map Str.ofString) (L2.defScope (topS 29)) := ⟨rfl, rfl, rfl, by decide +kernel, rfl, by decide +kernel, by decide +kernel⟩
theorem c__law_led : chkSs D (d__law_led.N.map Str.ofString) d__law_led.body (L2.defScope (topS 29)) (L2.defScope (topS 29)) (L2.defBody (topS 29)) = true := by decide +kernel
theorem b__law_led : ∀ (kV doc pm : Value) (an : Option Addr) (cdv ct : Value) (us : List Value), us.length = (d__law_led.ps.map Str.ofString).length → bindArgs (fnT "_law_led" (topS 29) kV doc pm an cdv ct) ⟨us, []⟩ = pure ((d__law_led.ps.map Str.ofString).zip us) := fun _ _ _ _ _ _ us hl => match us, hl with | [_, _], _ => rfl
theorem k__law_led : ∀ (kV doc pm : Value) (an : Option Addr) (cdv ct : Value), ∀ m ks, ("_law_led", m, ks) ∈ D.kw → KwOk (fnT "_law_led" (topS 29) kV doc pm an cdv ct) d__law_led.ps m ks := by
  intro kV doc pm an cdv ct m ks h
  exact kw_no (by decide +kernel) h
theorem f__law_is_renaming : D.fn "_law_is_renaming" = some d__law_is_renaming := rfl
theorem s__law_is_renaming : L2.FnScope (d__law_is_renaming.N.map Str.ofString) (d__law_is_renaming.ps.map Str.ofString) (L2.defScope (topS 31)) := ⟨rfl, rfl, rfl, by decide +kernel, rfl, by decide +kernel, by decide +kernel⟩
theorem c__law_is_renaming : chkSs D (d__law_is_renaming.N.map Str.ofString) d__law_is_renaming.body (L2.defScope (topS 31)) (L2.defScope (topS 31)) (L2.defBody (topS 31)) = true := by decide +kernel
theorem b__law_is_renaming : ∀ (kV doc pm : Value) (an : Option Addr) (cdv ct : Value) (us : List Value), us.length = (d__law_is_renaming.ps.map Str.ofString).length → bindArgs (fnT "_law_is_renaming" (topS 31) kV doc pm an cdv ct) ⟨us, []⟩ = pure ((d__law_is_renaming.ps.map Str.ofString).zip us) := fun _ _ _ _ _ _ us hl => match us, hl with | [_, _], _ => rfl
theorem k__law_is_renaming : ∀ (kV doc pm : Value) (an : Option Addr) (cdv ct : Value), ∀ m ks, ("_law_is_renaming", m, ks) ∈ D.kw → KwOk (fnT "_law_is_renaming" (topS 31) kV doc pm an cdv ct) d__law_is_renaming.ps m ks := by
  intro kV doc pm an cdv ct m ks h
  exact kw_no (by decide +kernel) h
theorem f__law_is_right : D.fn "_law_is_right" = some d__law_is_right := rfl
theorem s__law_is_right : L2.FnScope (d__law_is_right.N.map Str.ofString) (d__law_is_right.ps.map Str.ofString) (L2.defScope (topS 32)) := ⟨rfl, rfl, rfl, by decide +kernel, rfl, by decide +kernel, by decide +kernel⟩
theorem c__law_is_right : chkSs D (d__law_is_right.N.map Str.ofString) d__law_is_right.body (L2.defScope (topS 32)) (L2.defScope (topS 32)) (L2.defBody (topS 32)) = true := by decide +kernel
theorem b__law_is_right : ∀ (kV doc pm : Value) (an : Option Addr) (cdv ct : Value) (us : List Value), us.length = (d__law_is_right.ps.map Str.ofString).length → bindArgs (fnT "_law_is_right" (topS 32) kV doc pm an cdv ct) ⟨us, []⟩ = pure ((d__law_is_right.ps.map Str.ofString).zip us) := fun _ _ _ _ _ _ us hl => match us, hl with | [_, _], _ => rfl
theorem k__law_is_right : ∀ (kV doc pm : Value) (an : Option Addr) (cdv ct : Value), ∀ m ks, ("_law_is_right", m, ks) ∈ D.kw → KwOk (fnT "_law_is_right" (topS 32) kV doc pm an cdv ct) d__law_is_right.ps m ks := by
  intro kV doc pm an cdv ct m ks h
  exact kw_no (by decide +kernel) h
theorem f_law : D.fn "law" = some d_law := rfl
theorem s_law : L2.FnScope (d_law.N.map Str.ofString) (d_law.ps.map Str.ofString) (L2.defScope (topS 33)) := ⟨rfl, rfl, rfl, by decide +kernel, rfl, by decide +kernel, by decide +kernel⟩
theorem c_law : chkSs D (d_law.N.map Str.ofString) d_law.body (L2.defScope (topS 33)) (L2.defScope (topS 33)) (L2.defBody (topS 33)) = true := by decide +kernel
theorem b_law : ∀ (kV doc pm : Value) (an : Option Addr) (cdv ct : Value) (us : List Value), us.length = (d_law.ps.map Str.ofString).length → bindArgs (fnT "law" (topS 33) kV doc pm an cdv ct) ⟨us, []⟩ = pure ((d_law.ps.map Str.ofString).zip us) := fun _ _ _ _ _ _ us hl => match us, hl with | [_], _ => rfl
theorem k_law : ∀ (kV doc pm : Value) (an : Option Addr) (cdv ct : Value), ∀ m ks, ("law", m, ks) ∈ D.kw → KwOk (fnT "law" (topS 33) kV doc pm an cdv ct) d_law.ps m ks := by
  intro kV doc pm an cdv ct m ks h
  exact kw_no (by decide +kernel) h
theorem kr_led_0 {C : String → List T → Hh → R T} {b0 b1 : T} {h : Hh} {Q : T → Hh → Prop} : (Gx (kwR D C "led" [] [b0, b1] ["renaming", "web"] h) (P := ⟨Q⟩)) = Gx (C "led" [b1, b0] h) (P := ⟨Q⟩) := propext ⟨fun q => q, fun q => q⟩
theorem kr_led_1 {C : String → List T → Hh → R T} {b0 b1 : T} {h : Hh} {Q : T → Hh → Prop} : (Gx (kwR D C "led" [] [b0, b1] ["web", "renaming"] h) (P := ⟨Q⟩)) = Gx (C "led" [b0, b1] h) (P := ⟨Q⟩) := propext ⟨fun q => q, fun q => q⟩
theorem xr_need_web_1 {C : String → List T → Hh → R T} {a0 : T} {h : Hh} {Q : Fl → Hh → Prop} : (Gx (xR D C "need_web" [a0] [] [] h) (P := ⟨Q⟩)) = Gx (flX (C "need_web" [a0] h)) (P := ⟨Q⟩) := propext ⟨fun q => q, fun q => q⟩
abbrev hs__law_told : List (String × String) := [("BadWeb", "web"), ("BadRenaming", "renaming")]
theorem tx__law_told_BadWeb {x : T} {h : Hh} {Q : T → Hh → Prop} : (Gx (toldT hs__law_told (.exc "BadWeb" [x] h)) (P := ⟨Q⟩)) = Q (.tup [.str (Str.ofString "web"), x]) h := propext ⟨fun q => q, fun q => q⟩
theorem tx__law_told_BadRenaming {x : T} {h : Hh} {Q : T → Hh → Prop} : (Gx (toldT hs__law_told (.exc "BadRenaming" [x] h)) (P := ⟨Q⟩)) = Q (.tup [.str (Str.ofString "renaming"), x]) h := propext ⟨fun q => q, fun q => q⟩
theorem td_led_1 {C : String → List T → Hh → R T} {b0 b1 : T} {h : Hh} {Q : T → Hh → Prop} : (Gx (tdR D C "_law_told" "led" (some []) ["renaming", "web"] (some [b0, b1]) h) (P := ⟨Q⟩)) = Gx (toldT hs__law_told (C "led" [b1, b0] h)) (P := ⟨Q⟩) := propext ⟨fun q => q, fun q => q⟩
theorem td_led_2 {C : String → List T → Hh → R T} {a0 a1 : T} {h : Hh} {Q : T → Hh → Prop} : (Gx (tdR D C "_law_told" "led" (some [a0, a1]) [] (some []) h) (P := ⟨Q⟩)) = Gx (toldT hs__law_told (C "led" [a0, a1] h)) (P := ⟨Q⟩) := propext ⟨fun q => q, fun q => q⟩
end K02

set_option Elab.async false
set_option linter.all false
set_option maxRecDepth 100000
namespace K02
open PySem MP L2
local macro_rules
  | `(tactic| simp_arith) => `(tactic| simp only [↓x_var, ↓x_int, ↓x_bl, ↓x_non, ↓x_str, ↓x_bin, ↓x_cmp, ↓x_idx, ↓x_neg, ↓x_not, ↓x_isN, ↓x_isnN, ↓x_rev, ↓x_gl0, ↓x_glc, ↓x_gl1, ↓x_sset, ↓x_lset, ↓x_isiT, ↓x_chn, ↓x_ite, ↓x_and, ↓x_or, ↓x_and1, ↓x_or1, ↓x_and2, ↓x_or2, ↓x_tup, ↓x_lst, ↓x_dic, ↓x_slc, ↓x_call, ↓x_new, ↓x_callK, ↓x_blt, ↓x_mth, ↓x_rngL, ↓x_rngT, ↓x_comp, ↓x_told, ↓x_enil, ↓x_econs, ↓x_kv0, ↓x_kv, ↓x_ono, ↓x_oso, ↓x_cno, ↓x_cso, ↓x_val, ↓x_rng1, ↓x_rng2, ↓x_rng3, ↓x_enum, ↓x_gvar, ↓x_gtup, ↓x_gtupR, ↓x_gsub, ↓x_gnil, ↓x_gcons, ↓x_snil, ↓x_scons, ↓x_pass, ↓x_expr, ↓x_ret, ↓x_retN, ↓x_set, ↓x_aug, ↓x_augO, ↓x_augA, ↓x_augS, ↓x_iff, ↓x_for, ↓x_whl, ↓x_brk, ↓x_cnt, ↓x_seqN, ↓x_seqR, ↓x_seqB, ↓x_exprX, ↓x_retX, ↓x_setX, ↓x_raise, ↓x_exO, ↓x_exX, ↓x_stO, ↓x_stX, ↓x_flO, ↓x_flE, ↓x_tdO, ↓x_seqX, ↓x_seqC, ↓x_finR, ↓x_finN, ↓x_lk, ↓x_negR, ↓x_negB, ↓x_notR, ↓x_cnd, ↓x_oiR, ↓x_opt, ↓x_ob, ↓x_r1, ↓x_r2, ↓x_r3, ↓x_enumT, ↓x_valT, ↓x_valF, ↓x_lst', ↓x_dk', ↓x_valL, ↓x_enumL, ↓x_mthL, ↓x_mth_append, ↓x_mth_extend, ↓x_mth_pop, ↓x_mth_get, ↓x_newT, ↓x_newL, ↓x_dicR, ↓x_add, ↓x_sub, ↓x_addB, ↓x_subB, ↓x_mul, ↓x_fdiv, ↓x_mod, ↓x_pow, ↓x_tadd, ↓x_tmul, ↓x_ladd, ↓x_lt, ↓x_le, ↓x_gt, ↓x_ge, ↓x_gtT, ↓x_is, ↓x_isnt, ↓x_eq, ↓x_ne, ↓x_inn, ↓x_nin, ↓x_tix, ↓x_rix, ↓x_ixL, ↓x_ixD, ↓x_setD, ↓x_stD, ↓x_stL, ↓x_app, ↓x_if, ↓x_ext, ↓x_pop, ↓x_lenT, ↓x_lenR, ↓x_lenL, ↓x_listT, ↓x_listL, ↓x_tupL, ↓x_tupT, ↓x_sortT, ↓x_sortL, ↓x_all, ↓x_any, ↓x_sum, ↓x_max2, ↓x_min2, ↓x_maxL, ↓x_minL, ↓x_abs, ↓x_tointB, ↓x_toint, ↓x_repr, ↓x_rep, ↓x_slcT, ↓x_slcF, ↓x_slcL, ↓x_revL, ↓x_revT, ↓x_strB, ↓x_strI, ↓x_lsetT, ↓x_ssetL, ↓x_isi_int, ↓x_isi_bool, ↓x_isi_NoneType, ↓x_isi_str, ↓x_isi_tuple, ↓x_isi_list, ↓x_xcq, ↓gx_bd, ↓gx_ok, ↓x_loopN, ↓x_loopC, ↓x_loopB, ↓x_loopR, ↓x_loopX, ty_NoneType_int, ty_NoneType_bool, ty_NoneType_str, ty_NoneType_list, ty_NoneType_tuple, ty_NoneType_dict, ty_int_int, ty_int_bool, ty_int_str, ty_int_list, ty_int_tuple, ty_int_dict, ty_bool_int, ty_bool_bool, ty_bool_str, ty_bool_list, ty_bool_tuple, ty_bool_dict, ty_str_int, ty_str_bool, ty_str_str, ty_str_list, ty_str_tuple, ty_str_dict, ty_tuple_int, ty_tuple_bool, ty_tuple_str, ty_tuple_list, ty_tuple_tuple, ty_tuple_dict, ty_list_int, ty_list_bool, ty_list_str, ty_list_list, ty_list_tuple, ty_list_dict, ty_dict_int, ty_dict_bool, ty_dict_str, ty_dict_list, ty_dict_tuple, ty_dict_dict, at_0, at_1, at_2, at_3, at_4, nat_0, nat_1, nat_2, nat_3, nat_4, nat_5, nat_6, at_end, at_end1, at_end2, at_end3, bools_t, all_t, Nat.reduceLT, Nat.reduceLeDiff, Int.reduceLT, Int.reduceLE, Int.reduceAdd, Int.reduceSub, Int.reduceMul, Int.reducePow, Int.reduceToNat, Int.reduceNeg, ifx_t, ifx_f, ifx_n, gx_ok, eqT_int, List.getElem?_cons_zero, List.getElem?_cons_succ, List.set_cons_zero, List.set_cons_succ, List.map_cons, List.map_nil, List.nil_append, List.cons_append, List.replicate_succ, List.replicate_zero, List.length_cons, List.length_nil, List.any_cons, List.any_nil, Nat.reduceAdd, Nat.reduceSub, Bool.or_false, Bool.or_true, Bool.false_or, Bool.true_or, Bool.not_true, Bool.not_false, Option.map_some, Option.bind_some, decide_true, decide_false, true_and, and_true, wipeL, ↓gg_KINDS, ↓kr_led_0, ↓kr_led_1, ↓xr_need_web_1, ↓tx__law_told_BadWeb, ↓tx__law_told_BadRenaming, ↓td_led_1, ↓td_led_2])
  | `(tactic| simp_arith [$es,*]) => `(tactic| simp only [↓x_var, ↓x_int, ↓x_bl, ↓x_non, ↓x_str, ↓x_bin, ↓x_cmp, ↓x_idx, ↓x_neg, ↓x_not, ↓x_isN, ↓x_isnN, ↓x_rev, ↓x_gl0, ↓x_glc, ↓x_gl1, ↓x_sset, ↓x_lset, ↓x_isiT, ↓x_chn, ↓x_ite, ↓x_and, ↓x_or, ↓x_and1, ↓x_or1, ↓x_and2, ↓x_or2, ↓x_tup, ↓x_lst, ↓x_dic, ↓x_slc, ↓x_call, ↓x_new, ↓x_callK, ↓x_blt, ↓x_mth, ↓x_rngL, ↓x_rngT, ↓x_comp, ↓x_told, ↓x_enil, ↓x_econs, ↓x_kv0, ↓x_kv, ↓x_ono, ↓x_oso, ↓x_cno, ↓x_cso, ↓x_val, ↓x_rng1, ↓x_rng2, ↓x_rng3, ↓x_enum, ↓x_gvar, ↓x_gtup, ↓x_gtupR, ↓x_gsub, ↓x_gnil, ↓x_gcons, ↓x_snil, ↓x_scons, ↓x_pass, ↓x_expr, ↓x_ret, ↓x_retN, ↓x_set, ↓x_aug, ↓x_augO, ↓x_augA, ↓x_augS, ↓x_iff, ↓x_for, ↓x_whl, ↓x_brk, ↓x_cnt, ↓x_seqN, ↓x_seqR, ↓x_seqB, ↓x_exprX, ↓x_retX, ↓x_setX, ↓x_raise, ↓x_exO, ↓x_exX, ↓x_stO, ↓x_stX, ↓x_flO, ↓x_flE, ↓x_tdO, ↓x_seqX, ↓x_seqC, ↓x_finR, ↓x_finN, ↓x_lk, ↓x_negR, ↓x_negB, ↓x_notR, ↓x_cnd, ↓x_oiR, ↓x_opt, ↓x_ob, ↓x_r1, ↓x_r2, ↓x_r3, ↓x_enumT, ↓x_valT, ↓x_valF, ↓x_lst', ↓x_dk', ↓x_valL, ↓x_enumL, ↓x_mthL, ↓x_mth_append, ↓x_mth_extend, ↓x_mth_pop, ↓x_mth_get, ↓x_newT, ↓x_newL, ↓x_dicR, ↓x_add, ↓x_sub, ↓x_addB, ↓x_subB, ↓x_mul, ↓x_fdiv, ↓x_mod, ↓x_pow, ↓x_tadd, ↓x_tmul, ↓x_ladd, ↓x_lt, ↓x_le, ↓x_gt, ↓x_ge, ↓x_gtT, ↓x_is, ↓x_isnt, ↓x_eq, ↓x_ne, ↓x_inn, ↓x_nin, ↓x_tix, ↓x_rix, ↓x_ixL, ↓x_ixD, ↓x_setD, ↓x_stD, ↓x_stL, ↓x_app, ↓x_if, ↓x_ext, ↓x_pop, ↓x_lenT, ↓x_lenR, ↓x_lenL, ↓x_listT, ↓x_listL, ↓x_tupL, ↓x_tupT, ↓x_sortT, ↓x_sortL, ↓x_all, ↓x_any, ↓x_sum, ↓x_max2, ↓x_min2, ↓x_maxL, ↓x_minL, ↓x_abs, ↓x_tointB, ↓x_toint, ↓x_repr, ↓x_rep, ↓x_slcT, ↓x_slcF, ↓x_slcL, ↓x_revL, ↓x_revT, ↓x_strB, ↓x_strI, ↓x_lsetT, ↓x_ssetL, ↓x_isi_int, ↓x_isi_bool, ↓x_isi_NoneType, ↓x_isi_str, ↓x_isi_tuple, ↓x_isi_list, ↓x_xcq, ↓gx_bd, ↓gx_ok, ↓x_loopN, ↓x_loopC, ↓x_loopB, ↓x_loopR, ↓x_loopX, ty_NoneType_int, ty_NoneType_bool, ty_NoneType_str, ty_NoneType_list, ty_NoneType_tuple, ty_NoneType_dict, ty_int_int, ty_int_bool, ty_int_str, ty_int_list, ty_int_tuple, ty_int_dict, ty_bool_int, ty_bool_bool, ty_bool_str, ty_bool_list, ty_bool_tuple, ty_bool_dict, ty_str_int, ty_str_bool, ty_str_str, ty_str_list, ty_str_tuple, ty_str_dict, ty_tuple_int, ty_tuple_bool, ty_tuple_str, ty_tuple_list, ty_tuple_tuple, ty_tuple_dict, ty_list_int, ty_list_bool, ty_list_str, ty_list_list, ty_list_tuple, ty_list_dict, ty_dict_int, ty_dict_bool, ty_dict_str, ty_dict_list, ty_dict_tuple, ty_dict_dict, at_0, at_1, at_2, at_3, at_4, nat_0, nat_1, nat_2, nat_3, nat_4, nat_5, nat_6, at_end, at_end1, at_end2, at_end3, bools_t, all_t, Nat.reduceLT, Nat.reduceLeDiff, Int.reduceLT, Int.reduceLE, Int.reduceAdd, Int.reduceSub, Int.reduceMul, Int.reducePow, Int.reduceToNat, Int.reduceNeg, ifx_t, ifx_f, ifx_n, gx_ok, eqT_int, List.getElem?_cons_zero, List.getElem?_cons_succ, List.set_cons_zero, List.set_cons_succ, List.map_cons, List.map_nil, List.nil_append, List.cons_append, List.replicate_succ, List.replicate_zero, List.length_cons, List.length_nil, List.any_cons, List.any_nil, Nat.reduceAdd, Nat.reduceSub, Bool.or_false, Bool.or_true, Bool.false_or, Bool.true_or, Bool.not_true, Bool.not_false, Option.map_some, Option.bind_some, decide_true, decide_false, true_and, and_true, wipeL, ↓gg_KINDS, ↓kr_led_0, ↓kr_led_1, ↓xr_need_web_1, ↓tx__law_told_BadWeb, ↓tx__law_told_BadRenaming, ↓td_led_1, ↓td_led_2, $es,*])
theorem of_gx {r : R T} {b : T} {h : Hh} (g : Gx r (P := ⟨fun a h1 => a = b ∧ Keep [] h h1⟩)) : ∃ h', r = .ok b h' ∧ Keep [] h h' := by
  obtain ⟨a, h1, e, rfl, k⟩ := gx_ex g
  exact ⟨h1, e, k⟩
theorem of_gx0 {r : R T} {b : T} {h : Hh} (g : Gx r (P := ⟨fun a h1 => a = b ∧ h1 = h⟩)) : r = .ok b h := by
  obtain ⟨a, h1, e, rfl, rfl⟩ := gx_ex g
  exact e
def GoodTie (n k : Int) (t : Tie) : Prop := (0 ≤ t.1 ∧ t.1 < n) ∧ (0 ≤ t.2.1 ∧ t.2.1 < n) ∧ t.1 ≠ t.2.1 ∧ 0 ≤ t.2.2 ∧ t.2.2 < k
def btwB (v : T) (a b : Int) : Bool := match v with
  | .int i => decide (a ≤ i) && decide (i ≤ b)
  | _ => false
def neB (x y : T) : Bool := match x, y with
  | .int a, .int b => !decide (a = b)
  | _, _ => false
def tieB (n : Int) (v : T) : Bool := match v with
  | .tup [x, y, z] => btwB z 0 2 && btwB x 0 (n - 1) && btwB y 0 (n - 1) && neB x y
  | _ => false
theorem btwB_ex {v : T} {a b : Int} (e : btwB v a b = true) : ∃ i, v = .int i ∧ a ≤ i ∧ i ≤ b := by
  cases v <;> first | cases e | skip
  rename_i i
  have e2 : (decide (a ≤ i) && decide (i ≤ b)) = true := e
  rw [Bool.and_eq_true, decide_eq_true_eq, decide_eq_true_eq] at e2
  exact ⟨i, rfl, e2⟩
theorem tieB_ex {n : Int} {v : T} (e : tieB n v = true) : ∃ t, v = tieT t ∧ GoodTie n 3 t := by
  unfold tieB at e
  split at e
  · rename_i x y z
    rw [Bool.and_eq_true, Bool.and_eq_true, Bool.and_eq_true] at e
    obtain ⟨⟨⟨h1, h2⟩, h3⟩, h4⟩ := e
    obtain ⟨a, rfl, q1⟩ := btwB_ex h2
    obtain ⟨b, rfl, q2⟩ := btwB_ex h3
    obtain ⟨c, rfl, q3⟩ := btwB_ex h1
    have h5 : (!decide (a = b)) = true := h4
    simp at h5
    exact ⟨(a, b, c), rfl, ⟨q1.1, by show a < n; omega⟩, ⟨q2.1, by show b < n; omega⟩, h5, q3.1, by show c < 3; omega⟩
  · cases e
theorem tieB_of {n : Int} {t : Tie} (g : GoodTie n 3 t) : tieB n (tieT t) = true := by
  obtain ⟨a, b, c⟩ := t
  obtain ⟨h1, h2, h3, h4⟩ := g
  dsimp only at h1 h2 h3 h4
  show ((decide (0 ≤ c) && decide (c ≤ 2)) && (decide (0 ≤ a) && decide (a ≤ n - 1)) && (decide (0 ≤ b) && decide (b ≤ n - 1)) && !decide (a = b)) = true
  simp
  omega
def untie : T → Tie
  | .tup [.int a, .int b, .int c] => (a, b, c)
  | _ => (0, 0, 0)
def webB : T → Bool
  | .tup [.int n, .tup ts] => decide (1 ≤ n) && ts.all (tieB n) && ordB (ts.map untie)
  | _ => false
theorem unties {n : Int} {ts : List T} (e : ts.all (tieB n) = true) : ts = (ts.map untie).map tieT ∧ ∀ t ∈ ts.map untie, GoodTie n 3 t := by
  induction ts with
  | nil => exact ⟨rfl, fun _ h => by cases h⟩
  | cons v ts ih =>
    rw [List.all_cons, Bool.and_eq_true] at e
    obtain ⟨t, rfl, g⟩ := tieB_ex e.1
    obtain ⟨h1, h2⟩ := ih e.2
    refine ⟨?_, fun s hs => ?_⟩
    · rw [List.map_cons, List.map_cons, ← h1]
      rfl
    · rcases List.mem_cons.mp hs with rfl | hs
      · exact g
      · exact h2 s hs
theorem ties_all {n : Int} {L : List Tie} (h : ∀ t ∈ L, GoodTie n 3 t) : (L.map tieT).all (tieB n) = true := by
  rw [List.all_map, List.all_eq_true]
  exact fun t ht => tieB_of (h t ht)
theorem untie_map (L : List Tie) : (L.map tieT).map untie = L := by
  rw [List.map_map]
  exact List.map_id'' (fun t => rfl) L
section
variable {h : Hh} {n : Nat} {v : T} {S : List Nat} {k : Nat}
theorem isint (kn : Knd h v) : callN D (n + 1) "is_integer" [v] h = .ok (.bl (isI v)) h := by
  refine of_gx0 ?_
  refine call_gx f_is_integer rfl ?_
  simp_arith [isi_i kn, isi_b kn]
  refine ifx_cs (fun e => ?_) (fun e => ?_)
  · simp_arith [isi_i kn, isi_b kn]
    cases v <;> first | rfl | cases e
  · simp_arith
    cases v <;> first | rfl | cases e
theorem lint (kn : Knd h v) : callN D (n + 1) "_law_is_integer" [v] h = .ok (.bl (isI v)) h := by
  refine of_gx0 ?_
  refine call_gx f__law_is_integer rfl ?_
  simp_arith [isi_i kn, isi_b kn]
  refine ifx_cs (fun e => ?_) (fun e => ?_)
  · simp_arith [isi_i kn, isi_b kn]
    cases v <;> first | rfl | cases e
  · simp_arith
    cases v <;> first | rfl | cases e
theorem btw {a b : Int} (kn : Knd h v) : callN D (n + 2) "is_between" [v, .int a, .int b] h = .ok (.bl (btwB v a b)) h := by
  refine of_gx0 ?_
  refine call_gx f_is_between rfl ?_
  cases e : isI v with
  | false =>
    simp_arith [isint kn, e]
    cases v <;> first | rfl | cases e
  | true =>
    obtain ⟨i, rfl⟩ := isI_ex e
    simp_arith [isint kn, e]
    refine ifx_by (fun q => ?_) (fun q => ?_)
    · simp_arith
      show T.bl _ = T.bl (decide (a ≤ i) && decide (i ≤ b))
      rw [decide_eq_true q, Bool.true_and]
    · simp_arith
      show T.bl _ = T.bl (decide (a ≤ i) && decide (i ≤ b))
      rw [decide_eq_false q, Bool.false_and]
theorem three {α : Type} {xs : List α} (h : (xs.length : Int) = 3) : ∃ x y z, xs = [x, y, z] := by
  match xs, h with
  | [x, y, z], _ => exact ⟨x, y, z, rfl⟩
  | [], h => simp at h
  | [_], h => simp at h
  | [_, _], h => simp at h
  | _ :: _ :: _ :: _ :: r, h => simp at h; omega
theorem two {α : Type} {xs : List α} (h : (xs.length : Int) = 2) : ∃ x y, xs = [x, y] := by
  match xs, h with
  | [x, y], _ => exact ⟨x, y, rfl⟩
  | [], h => simp at h
  | [_], h => simp at h
  | _ :: _ :: _ :: r, h => simp at h; omega
theorem tieB_no {n : Int} {xs : List T} (h : ¬ (xs.length : Int) = 3) : tieB n (.tup xs) = false := by
  unfold tieB
  split
  · rename_i e
    cases e
    exact absurd rfl h
  · rfl
theorem istie {m : Int} (o : OkV S k h v) : callN D (n + 3) "is_tie" [.int m, v] h = .ok (.bl (tieB m v)) h := by
  refine of_gx0 ?_
  refine call_gx f_is_tie rfl ?_
  cases e : isT v with
  | false =>
    simp_arith [isi_t o.knd, e]
    cases v <;> first | rfl | cases e
  | true =>
    obtain ⟨xs, rfl⟩ := isT_ex e
    simp_arith [isi_t o.knd, e]
    refine ifx_by (fun q => ?_) (fun q => ?_)
    · obtain ⟨x, y, z, rfl⟩ := three q
      have ox := (o.items x (by simp)).knd
      have oy := (o.items y (by simp)).knd
      have oz := (o.items z (by simp)).knd
      simp_arith [btw (n := n) oz]
      refine ifx_cs (fun q1 => ?_) (fun q1 => ?_)
      · simp_arith [btw (n := n) ox]
        refine ifx_cs (fun q2 => ?_) (fun q2 => ?_)
        · simp_arith [btw (n := n) oy]
          refine ifx_cs (fun q3 => ?_) (fun q3 => ?_)
          · obtain ⟨a, rfl, _⟩ := btwB_ex q2
            obtain ⟨b, rfl, _⟩ := btwB_ex q3
            simp_arith
            unfold tieB
            dsimp only
            rw [q1, q2, q3]
            rfl
          · simp_arith
            unfold tieB
            dsimp only
            rw [q1, q2, q3]
            rfl
        · simp_arith
          unfold tieB
          dsimp only
          rw [q1, q2]
          rfl
      · simp_arith
        unfold tieB
        dsimp only
        rw [q1]
        rfl
    · simp_arith
      rw [tieB_no q]
end
end K02



set_option Elab.async false
set_option linter.all false
set_option maxRecDepth 100000
namespace K02
open PySem MP L2
local macro_rules
  | `(tactic| simp_arith) => `(tactic| simp only [↓x_var, ↓x_int, ↓x_bl, ↓x_non, ↓x_str, ↓x_bin, ↓x_cmp, ↓x_idx, ↓x_neg, ↓x_not, ↓x_isN, ↓x_isnN, ↓x_rev, ↓x_gl0, ↓x_glc, ↓x_gl1, ↓x_sset, ↓x_lset, ↓x_isiT, ↓x_chn, ↓x_ite, ↓x_and, ↓x_or, ↓x_and1, ↓x_or1, ↓x_and2, ↓x_or2, ↓x_tup, ↓x_lst, ↓x_dic, ↓x_slc, ↓x_call, ↓x_new, ↓x_callK, ↓x_blt, ↓x_mth, ↓x_rngL, ↓x_rngT, ↓x_comp, ↓x_told, ↓x_enil, ↓x_econs, ↓x_kv0, ↓x_kv, ↓x_ono, ↓x_oso, ↓x_cno, ↓x_cso, ↓x_val, ↓x_rng1, ↓x_rng2, ↓x_rng3, ↓x_enum, ↓x_gvar, ↓x_gtup, ↓x_gtupR, ↓x_gsub, ↓x_gnil, ↓x_gcons, ↓x_snil, ↓x_scons, ↓x_pass, ↓x_expr, ↓x_ret, ↓x_retN, ↓x_set, ↓x_aug, ↓x_augO, ↓x_augA, ↓x_augS, ↓x_iff, ↓x_for, ↓x_whl, ↓x_brk, ↓x_cnt, ↓x_seqN, ↓x_seqR, ↓x_seqB, ↓x_exprX, ↓x_retX, ↓x_setX, ↓x_raise, ↓x_exO, ↓x_exX, ↓x_stO, ↓x_stX, ↓x_flO, ↓x_flE, ↓x_tdO, ↓x_seqX, ↓x_seqC, ↓x_finR, ↓x_finN, ↓x_lk, ↓x_negR, ↓x_negB, ↓x_notR, ↓x_cnd, ↓x_oiR, ↓x_opt, ↓x_ob, ↓x_r1, ↓x_r2, ↓x_r3, ↓x_enumT, ↓x_valT, ↓x_valF, ↓x_lst', ↓x_dk', ↓x_valL, ↓x_enumL, ↓x_mthL, ↓x_mth_append, ↓x_mth_extend, ↓x_mth_pop, ↓x_mth_get, ↓x_newT, ↓x_newL, ↓x_dicR, ↓x_add, ↓x_sub, ↓x_addB, ↓x_subB, ↓x_mul, ↓x_fdiv, ↓x_mod, ↓x_pow, ↓x_tadd, ↓x_tmul, ↓x_ladd, ↓x_lt, ↓x_le, ↓x_gt, ↓x_ge, ↓x_gtT, ↓x_is, ↓x_isnt, ↓x_eq, ↓x_ne, ↓x_inn, ↓x_nin, ↓x_tix, ↓x_rix, ↓x_ixL, ↓x_ixD, ↓x_setD, ↓x_stD, ↓x_stL, ↓x_app, ↓x_if, ↓x_ext, ↓x_pop, ↓x_lenT, ↓x_lenR, ↓x_lenL, ↓x_listT, ↓x_listL, ↓x_tupL, ↓x_tupT, ↓x_sortT, ↓x_sortL, ↓x_all, ↓x_any, ↓x_sum, ↓x_max2, ↓x_min2, ↓x_maxL, ↓x_minL, ↓x_abs, ↓x_tointB, ↓x_toint, ↓x_repr, ↓x_rep, ↓x_slcT, ↓x_slcF, ↓x_slcL, ↓x_revL, ↓x_revT, ↓x_strB, ↓x_strI, ↓x_lsetT, ↓x_ssetL, ↓x_isi_int, ↓x_isi_bool, ↓x_isi_NoneType, ↓x_isi_str, ↓x_isi_tuple, ↓x_isi_list, ↓x_xcq, ↓gx_bd, ↓gx_ok, ↓x_loopN, ↓x_loopC, ↓x_loopB, ↓x_loopR, ↓x_loopX, ty_NoneType_int, ty_NoneType_bool, ty_NoneType_str, ty_NoneType_list, ty_NoneType_tuple, ty_NoneType_dict, ty_int_int, ty_int_bool, ty_int_str, ty_int_list, ty_int_tuple, ty_int_dict, ty_bool_int, ty_bool_bool, ty_bool_str, ty_bool_list, ty_bool_tuple, ty_bool_dict, ty_str_int, ty_str_bool, ty_str_str, ty_str_list, ty_str_tuple, ty_str_dict, ty_tuple_int, ty_tuple_bool, ty_tuple_str, ty_tuple_list, ty_tuple_tuple, ty_tuple_dict, ty_list_int, ty_list_bool, ty_list_str, ty_list_list, ty_list_tuple, ty_list_dict, ty_dict_int, ty_dict_bool, ty_dict_str, ty_dict_list, ty_dict_tuple, ty_dict_dict, at_0, at_1, at_2, at_3, at_4, nat_0, nat_1, nat_2, nat_3, nat_4, nat_5, nat_6, at_end, at_end1, at_end2, at_end3, bools_t, all_t, Nat.reduceLT, Nat.reduceLeDiff, Int.reduceLT, Int.reduceLE, Int.reduceAdd, Int.reduceSub, Int.reduceMul, Int.reducePow, Int.reduceToNat, Int.reduceNeg, ifx_t, ifx_f, ifx_n, gx_ok, eqT_int, List.getElem?_cons_zero, List.getElem?_cons_succ, List.set_cons_zero, List.set_cons_succ, List.map_cons, List.map_nil, List.nil_append, List.cons_append, List.replicate_succ, List.replicate_zero, List.length_cons, List.length_nil, List.any_cons, List.any_nil, Nat.reduceAdd, Nat.reduceSub, Bool.or_false, Bool.or_true, Bool.false_or, Bool.true_or, Bool.not_true, Bool.not_false, Option.map_some, Option.bind_some, decide_true, decide_false, true_and, and_true, wipeL, ↓gg_KINDS, ↓kr_led_0, ↓kr_led_1, ↓xr_need_web_1, ↓tx__law_told_BadWeb, ↓tx__law_told_BadRenaming, ↓td_led_1, ↓td_led_2])
  | `(tactic| simp_arith [$es,*]) => `(tactic| simp only [↓x_var, ↓x_int, ↓x_bl, ↓x_non, ↓x_str, ↓x_bin, ↓x_cmp, ↓x_idx, ↓x_neg, ↓x_not, ↓x_isN, ↓x_isnN, ↓x_rev, ↓x_gl0, ↓x_glc, ↓x_gl1, ↓x_sset, ↓x_lset, ↓x_isiT, ↓x_chn, ↓x_ite, ↓x_and, ↓x_or, ↓x_and1, ↓x_or1, ↓x_and2, ↓x_or2, ↓x_tup, ↓x_lst, ↓x_dic, ↓x_slc, ↓x_call, ↓x_new, ↓x_callK, ↓x_blt, ↓x_mth, ↓x_rngL, ↓x_rngT, ↓x_comp, ↓x_told, ↓x_enil, ↓x_econs, ↓x_kv0, ↓x_kv, ↓x_ono, ↓x_oso, ↓x_cno, ↓x_cso, ↓x_val, ↓x_rng1, ↓x_rng2, ↓x_rng3, ↓x_enum, ↓x_gvar, ↓x_gtup, ↓x_gtupR, ↓x_gsub, ↓x_gnil, ↓x_gcons, ↓x_snil, ↓x_scons, ↓x_pass, ↓x_expr, ↓x_ret, ↓x_retN, ↓x_set, ↓x_aug, ↓x_augO, ↓x_augA, ↓x_augS, ↓x_iff, ↓x_for, ↓x_whl, ↓x_brk, ↓x_cnt, ↓x_seqN, ↓x_seqR, ↓x_seqB, ↓x_exprX, ↓x_retX, ↓x_setX, ↓x_raise, ↓x_exO, ↓x_exX, ↓x_stO, ↓x_stX, ↓x_flO, ↓x_flE, ↓x_tdO, ↓x_seqX, ↓x_seqC, ↓x_finR, ↓x_finN, ↓x_lk, ↓x_negR, ↓x_negB, ↓x_notR, ↓x_cnd, ↓x_oiR, ↓x_opt, ↓x_ob, ↓x_r1, ↓x_r2, ↓x_r3, ↓x_enumT, ↓x_valT, ↓x_valF, ↓x_lst', ↓x_dk', ↓x_valL, ↓x_enumL, ↓x_mthL, ↓x_mth_append, ↓x_mth_extend, ↓x_mth_pop, ↓x_mth_get, ↓x_newT, ↓x_newL, ↓x_dicR, ↓x_add, ↓x_sub, ↓x_addB, ↓x_subB, ↓x_mul, ↓x_fdiv, ↓x_mod, ↓x_pow, ↓x_tadd, ↓x_tmul, ↓x_ladd, ↓x_lt, ↓x_le, ↓x_gt, ↓x_ge, ↓x_gtT, ↓x_is, ↓x_isnt, ↓x_eq, ↓x_ne, ↓x_inn, ↓x_nin, ↓x_tix, ↓x_rix, ↓x_ixL, ↓x_ixD, ↓x_setD, ↓x_stD, ↓x_stL, ↓x_app, ↓x_if, ↓x_ext, ↓x_pop, ↓x_lenT, ↓x_lenR, ↓x_lenL, ↓x_listT, ↓x_listL, ↓x_tupL, ↓x_tupT, ↓x_sortT, ↓x_sortL, ↓x_all, ↓x_any, ↓x_sum, ↓x_max2, ↓x_min2, ↓x_maxL, ↓x_minL, ↓x_abs, ↓x_tointB, ↓x_toint, ↓x_repr, ↓x_rep, ↓x_slcT, ↓x_slcF, ↓x_slcL, ↓x_revL, ↓x_revT, ↓x_strB, ↓x_strI, ↓x_lsetT, ↓x_ssetL, ↓x_isi_int, ↓x_isi_bool, ↓x_isi_NoneType, ↓x_isi_str, ↓x_isi_tuple, ↓x_isi_list, ↓x_xcq, ↓gx_bd, ↓gx_ok, ↓x_loopN, ↓x_loopC, ↓x_loopB, ↓x_loopR, ↓x_loopX, ty_NoneType_int, ty_NoneType_bool, ty_NoneType_str, ty_NoneType_list, ty_NoneType_tuple, ty_NoneType_dict, ty_int_int, ty_int_bool, ty_int_str, ty_int_list, ty_int_tuple, ty_int_dict, ty_bool_int, ty_bool_bool, ty_bool_str, ty_bool_list, ty_bool_tuple, ty_bool_dict, ty_str_int, ty_str_bool, ty_str_str, ty_str_list, ty_str_tuple, ty_str_dict, ty_tuple_int, ty_tuple_bool, ty_tuple_str, ty_tuple_list, ty_tuple_tuple, ty_tuple_dict, ty_list_int, ty_list_bool, ty_list_str, ty_list_list, ty_list_tuple, ty_list_dict, ty_dict_int, ty_dict_bool, ty_dict_str, ty_dict_list, ty_dict_tuple, ty_dict_dict, at_0, at_1, at_2, at_3, at_4, nat_0, nat_1, nat_2, nat_3, nat_4, nat_5, nat_6, at_end, at_end1, at_end2, at_end3, bools_t, all_t, Nat.reduceLT, Nat.reduceLeDiff, Int.reduceLT, Int.reduceLE, Int.reduceAdd, Int.reduceSub, Int.reduceMul, Int.reducePow, Int.reduceToNat, Int.reduceNeg, ifx_t, ifx_f, ifx_n, gx_ok, eqT_int, List.getElem?_cons_zero, List.getElem?_cons_succ, List.set_cons_zero, List.set_cons_succ, List.map_cons, List.map_nil, List.nil_append, List.cons_append, List.replicate_succ, List.replicate_zero, List.length_cons, List.length_nil, List.any_cons, List.any_nil, Nat.reduceAdd, Nat.reduceSub, Bool.or_false, Bool.or_true, Bool.false_or, Bool.true_or, Bool.not_true, Bool.not_false, Option.map_some, Option.bind_some, decide_true, decide_false, true_and, and_true, wipeL, ↓gg_KINDS, ↓kr_led_0, ↓kr_led_1, ↓xr_need_web_1, ↓tx__law_told_BadWeb, ↓tx__law_told_BadRenaming, ↓td_led_1, ↓td_led_2, $es,*])
theorem boolsT_f {α : Type} (p : α → Bool) (g : α → T) (hg : ∀ a, g a = .bl (p a)) : ∀ L : List α, boolsT (L.map g) = some (L.map p)
  | [] => rfl
  | a :: L => by
    rw [List.map_cons, hg]
    show (boolsT (L.map g)).map (p a :: ·) = _
    rw [boolsT_f p g hg L]
    rfl
theorem all_id {α : Type} (p : α → Bool) : ∀ L : List α, (L.map p).all id = L.all p
  | [] => rfl
  | a :: L => by rw [List.map_cons, List.all_cons, List.all_cons, all_id p L]; rfl
theorem ordB_iff : ∀ L : List Tie, ordB L = true ↔ ∀ i a b, L[i]? = some a → L[i + 1]? = some b → gtI (tieI a) (tieI b) = false
  | [] => by simp [ordB]
  | [a] => by simp [ordB]
  | a :: b :: r => by
    have ih := ordB_iff (b :: r)
    unfold ordB
    rw [Bool.and_eq_true, ih]
    constructor
    · rintro ⟨h1, h2⟩ i x y hx hy
      cases i with
      | zero =>
        simp at hx hy
        subst hx hy
        simpa using h1
      | succ i => exact h2 i x y (by simpa using hx) (by simpa using hy)
    · intro h
      refine ⟨?_, fun i x y hx hy => h (i + 1) x y (by simpa using hx) (by simpa using hy)⟩
      have := h 0 a b rfl rfl
      simp [this]
/-- the places at which the order breaks -/
def brk (L : List Tie) (v : T) : Bool := match v with
  | .int i => gtI (tieI (L.getD (i - 1).toNat (0, 0, 0))) (tieI (L.getD i.toNat (0, 0, 0)))
  | _ => false
theorem brk_none (L : List Tie) : ((rangeT 1 L.length).filter (brk L)).isEmpty = ordB L := by
  rw [Bool.eq_iff_iff, List.isEmpty_iff, List.filter_eq_nil_iff, ordB_iff]
  constructor
  · intro h i a b ha hb
    have hb1 := (List.getElem?_eq_some_iff.mp hb).1
    have hm : T.int ((i : Int) + 1) ∈ rangeT 1 L.length := by
      unfold rangeT
      refine List.mem_map.mpr ⟨i, List.mem_range.mpr (by omega), ?_⟩
      rw [Int.add_comm]
    have z := h _ hm
    unfold brk at z
    dsimp only at z
    have e1 : ((i : Int) + 1 - 1).toNat = i := by omega
    have e2 : ((i : Int) + 1).toNat = i + 1 := by omega
    rw [e1, e2, List.getD_eq_getElem?_getD, List.getD_eq_getElem?_getD, ha, hb] at z
    simpa using z
  · intro h x hx
    unfold rangeT at hx
    obtain ⟨i, hi, rfl⟩ := List.mem_map.mp hx
    have hl := List.mem_range.mp hi
    have hl2 : i + 1 < L.length := by omega
    have z := h i L[i] L[i + 1] (List.getElem?_eq_getElem (by omega)) (List.getElem?_eq_getElem hl2)
    unfold brk
    dsimp only
    have e1 : ((1 : Int) + (i : Nat) - 1).toNat = i := by omega
    have e2 : ((1 : Int) + (i : Nat)).toNat = i + 1 := by omega
    rw [e1, e2, List.getD_eq_getElem?_getD, List.getD_eq_getElem?_getD, List.getElem?_eq_getElem (show i < L.length by omega), List.getElem?_eq_getElem hl2]
    simpa using z
theorem intsT_tie (t : Tie) : gtO [.int t.1, .int t.2.1, .int t.2.2] [.int u.1, .int u.2.1, .int u.2.2] = some (gtI (tieI t) (tieI u)) := rfl
section
variable {h : Hh} {n : Nat} {v : T} {S : List Nat} {k : Nat}
theorem ltie {m : Int} (o : OkV S k h v) : ∃ h', callN D (n + 2) "_law_is_tie" [.int m, v] h = .ok (.bl (tieB m v)) h' ∧ Keep [] h h' := by
  refine of_gx ?_
  refine call_gx f__law_is_tie rfl ?_
  cases e : isT v with
  | false =>
    simp_arith [isi_t o.knd, e]
    exact ⟨(by cases v <;> first | rfl | cases e), .refl⟩
  | true =>
    obtain ⟨xs, rfl⟩ := isT_ex e
    simp_arith [isi_t o.knd, e]
    refine ifx_by (fun q => ?_) (fun q => ?_)
    · obtain ⟨x, y, z, rfl⟩ := three q
      simp_arith
      refine comp_filter id (fun w => !isI w) (fun h' => h' = h) rfl (by simp) (fun _ _ p hp => by simp at hp) (fun w h1 hw hj => ?_) (fun h1 hj => ?_)
      · subst hj
        simp_arith [lint (n := n) (o.items w hw).knd, id]
        exact fun _ => trivial
      · subst hj
        rw [List.map_id]
        simp_arith [Nat.zero_le]
        rw [eqT_nilL at_end1 at_end]
        simp_arith
        have ei : (List.filter (fun w => !isI w) [x, y, z]).isEmpty = (isI x && (isI y && isI z)) := by
          rw [List.filter_cons, List.filter_cons, List.filter_cons]
          cases isI x <;> cases isI y <;> cases isI z <;> rfl
        rw [ei]
        have kp : ∀ {u w : O}, Keep [] h1 (h1 ++ [u] ++ [w]) := ((Keep.app _).trans (Keep.app _))
        refine ifx_cs (fun q1 => ?_) (fun q1 => ?_)
        · rw [Bool.and_eq_true, Bool.and_eq_true] at q1
          obtain ⟨a, rfl⟩ := isI_ex q1.1
          obtain ⟨b, rfl⟩ := isI_ex q1.2.1
          obtain ⟨c, rfl⟩ := isI_ex q1.2.2
          repeat' (first | (refine ifx_by (fun q => ?_) (fun q => ?_)) | simp_arith)
          all_goals refine ⟨congrArg T.bl ?_, kp⟩
          all_goals show _ = ((decide (0 ≤ c) && decide (c ≤ 2)) && (decide (0 ≤ a) && decide (a ≤ m - 1)) && (decide (0 ≤ b) && decide (b ≤ m - 1)) && !decide (a = b))
          all_goals rw [Bool.eq_iff_iff]
          all_goals simp
          all_goals omega
        · simp_arith
          refine ⟨congrArg T.bl ?_, kp⟩
          unfold tieB
          dsimp only
          cases e1 : isI x with
          | false => rw [show btwB x 0 (m - 1) = false by cases x <;> first | rfl | cases e1]; simp
          | true =>
            cases e2 : isI y with
            | false => rw [show btwB y 0 (m - 1) = false by cases y <;> first | rfl | cases e2]; simp
            | true =>
              cases e3 : isI z with
              | false => rw [show btwB z 0 2 = false by cases z <;> first | rfl | cases e3]; simp
              | true => rw [e1, e2, e3] at q1; cases q1
    · simp_arith
      exact ⟨by rw [tieB_no q], .refl⟩
theorem webB_no {xs : List T} (h : ¬ (xs.length : Int) = 2) : webB (.tup xs) = false := by
  unfold webB
  split
  · rename_i e
    cases e
    exact absurd rfl h
  · rfl
theorem webB_no1 {x y : T} (h : isI x = false) : webB (.tup [x, y]) = false := by
  cases x <;> first | rfl | cases h
theorem webB_no2 {m : Int} {y : T} (h : isT y = false) : webB (.tup [.int m, y]) = false := by
  cases y <;> first | rfl | cases h
theorem web (hk : k ≤ 10000000) (o : OkV S k h v) : ∃ h', callN D (n + 4) "is_web_value" [v] h = .ok (.bl (webB v)) h' ∧ Keep [] h h' := by
  refine of_gx ?_
  refine call_gx f_is_web_value rfl ?_
  cases e : isT v with
  | false =>
    simp_arith [isi_t o.knd, e]
    exact ⟨(by cases v <;> first | rfl | cases e), .refl⟩
  | true =>
    obtain ⟨xs, rfl⟩ := isT_ex e
    simp_arith [isi_t o.knd, e]
    refine ifx_by (fun q => ?_) (fun q => ?_)
    · obtain ⟨x, y, rfl⟩ := two q
      have ox := o.items x (by simp)
      have oy := o.items y (by simp)
      cases e1 : isI x with
      | false =>
        simp_arith [isint (n := n + 2) ox.knd, e1]
        exact ⟨by rw [webB_no1 e1], .refl⟩
      | true =>
        obtain ⟨m, rfl⟩ := isI_ex e1
        simp_arith [isint (n := n + 2) ox.knd, e1]
        refine ifx_by (fun q1 => ?_) (fun q1 => ?_)
        · simp_arith
          refine ⟨congrArg T.bl ?_, .refl⟩
          unfold webB
          split
          · rename_i e2
            cases e2
            rw [decide_eq_false (by omega)]
            rfl
          · rfl
        · cases e2 : isT y with
          | false =>
            simp_arith [isi_t oy.knd, e2]
            exact ⟨by rw [webB_no2 e2], .refl⟩
          | true =>
            obtain ⟨ts, rfl⟩ := isT_ex e2
            have ol := oy.len
            simp_arith [isi_t oy.knd, e2]
            refine comp_map (fun t => .bl (tieB m t)) (fun h' => h' = h) rfl (by omega) (fun _ _ p hp => by simp at hp) (fun x h1 hx hj => ?_) (fun h1 hj => ?_)
            · subst hj
              simp_arith [istie (n := n) (oy.items x hx)]
            · subst hj
              simp_arith [boolsT_f (tieB m) (fun t => T.bl (tieB m t)) (fun _ => rfl), all_id]
              refine ifx_cs (fun q2 => ?_) (fun q2 => ?_)
              · obtain ⟨et, gt⟩ := unties q2
                generalize hL : ts.map untie = L at et gt
                have ll : L.length ≤ 16777216 := by rw [← hL, List.length_map]; omega
                subst et
                simp_arith [fun hh => sortT_ties (h := hh) ll, List.length_map, srt_len, ll]
                rw [eqT_ties at_end1 at_end]
                simp_arith
                refine ⟨congrArg T.bl ?_, (((Keep.app _).trans (Keep.app _)).trans (Keep.app _))⟩
                rw [srt_ord]
                unfold webB
                dsimp only
                rw [untie_map, q2, decide_eq_true (by omega)]
                rfl
              · simp_arith
                refine ⟨congrArg T.bl ?_, Keep.app _⟩
                unfold webB
                dsimp only
                rw [q2]
                simp
    · simp_arith
      exact ⟨by rw [webB_no q], .refl⟩
theorem lweb (hk : k ≤ 10000000) (o : OkV S k h v) : ∃ h', callN D (n + 3) "_law_is_web" [v] h = .ok (.bl (webB v)) h' ∧ Keep [] h h' := by
  refine of_gx ?_
  refine call_gx f__law_is_web rfl ?_
  cases e : isT v with
  | false =>
    simp_arith [isi_t o.knd, e]
    exact ⟨(by cases v <;> first | rfl | cases e), .refl⟩
  | true =>
    obtain ⟨xs, rfl⟩ := isT_ex e
    simp_arith [isi_t o.knd, e]
    refine ifx_by (fun q => ?_) (fun q => ?_)
    · obtain ⟨x, y, rfl⟩ := two q
      have ox := o.items x (by simp)
      have oy := o.items y (by simp)
      cases e1 : isI x with
      | false =>
        simp_arith [lint (n := n + 1) ox.knd, e1]
        exact ⟨by rw [webB_no1 e1], .refl⟩
      | true =>
        obtain ⟨m, rfl⟩ := isI_ex e1
        simp_arith [lint (n := n + 1) ox.knd, e1]
        refine ifx_by (fun q1 => ?_) (fun q1 => ?_)
        · simp_arith
          refine ⟨congrArg T.bl ?_, .refl⟩
          unfold webB
          split
          · rename_i e2
            cases e2
            rw [decide_eq_false (by omega)]
            rfl
          · rfl
        · cases e2 : isT y with
          | false =>
            simp_arith [isi_t oy.knd, e2]
            exact ⟨by rw [webB_no2 e2], .refl⟩
          | true =>
            obtain ⟨ts, rfl⟩ := isT_ex e2
            have ol := oy.len
            simp_arith [isi_t oy.knd, e2]
            refine comp_filter id (fun t => !tieB m t) (fun h' => Keep [] h h') .refl (by omega) (fun _ _ p hp => by simp at hp) (fun x h1 hx hj => ?_) (fun h1 hj => ?_)
            · obtain ⟨h2, e3, k3⟩ := ltie (n := n) (m := m) ((oy.items x hx).keep hj.nil)
              simp_arith [e3, id]
              exact ⟨hj.trans k3, fun _ => hj.trans k3⟩
            · rw [List.map_id]
              simp_arith [Nat.zero_le]
              rw [eqT_nilL at_end1 at_end]
              have kp : ∀ {u w : O}, Keep [] h (h1 ++ [u] ++ [w]) := ((hj.trans (Keep.app _)).trans (Keep.app _))
              have ei : (List.filter (fun t => !tieB m t) ts).isEmpty = ts.all (tieB m) := by
                rw [Bool.eq_iff_iff, List.isEmpty_iff, List.filter_eq_nil_iff, List.all_eq_true]
                simp
              rw [ei]
              simp_arith
              refine ifx_cs (fun q2 => ?_) (fun q2 => ?_)
              · have et := (unties q2).1
                have gt := (unties q2).2
                generalize hL : ts.map untie = L at et gt
                have ll : L.length ≤ 300 + k := by rw [← hL, List.length_map]; omega
                subst et
                simp_arith [List.length_map, rgBig (i := 1) (j := L.length) (by omega)]
                refine comp_filter id (brk L) (fun h' => Keep [] h h') kp (by unfold rangeT; simp; omega) (fun _ _ p hp => by simp at hp) (fun x h2 hx hj2 => ?_) (fun h2 hj2 => ?_)
                · unfold rangeT at hx
                  obtain ⟨i, hi, rfl⟩ := List.mem_map.mp hx
                  have hl := List.mem_range.mp hi
                  have hl2 : i + 1 < L.length := by omega
                  have a1 : atI (L.map tieT) ((1 : Int) + (i : Nat) - 1) = some (tieT L[i]) := atI_some (j := i) (by omega) (by rw [List.getElem?_map, List.getElem?_eq_getElem (by omega)]; rfl)
                  have a2 : atI (L.map tieT) ((1 : Int) + (i : Nat)) = some (tieT L[i + 1]) := atI_some (j := i + 1) (by omega) (by rw [List.getElem?_map, List.getElem?_eq_getElem hl2]; rfl)
                  simp_arith [a1, a2]
                  unfold tieT
                  have eb : brk L (.int (1 + (i : Nat))) = gtI (tieI L[i]) (tieI L[i + 1]) := by
                    unfold brk
                    dsimp only
                    have e1 : ((1 : Int) + (i : Nat) - 1).toNat = i := by omega
                    have e2 : ((1 : Int) + (i : Nat)).toNat = i + 1 := by omega
                    rw [e1, e2, List.getD_eq_getElem?_getD, List.getD_eq_getElem?_getD, List.getElem?_eq_getElem (show i < L.length by omega), List.getElem?_eq_getElem hl2]
                    rfl
                  simp_arith [intsT_tie, id]
                  exact ⟨by rw [eb], hj2, fun _ => hj2⟩
                · rw [List.map_id]
                  simp_arith [Nat.zero_le]
                  rw [eqT_nilL at_end1 at_end, brk_none]
                  simp_arith
                  refine ⟨congrArg T.bl ?_, ((hj2.trans (Keep.app _)).trans (Keep.app _))⟩
                  unfold webB
                  dsimp only
                  rw [untie_map, q2, decide_eq_true (by omega)]
                  rfl
              · simp_arith
                refine ⟨congrArg T.bl ?_, kp⟩
                unfold webB
                dsimp only
                rw [q2]
                simp
    · simp_arith
      exact ⟨by rw [webB_no q], .refl⟩
end
abbrev Web := Int × List Tie
def webT (w : Web) : T := .tup [.int w.1, .tup (w.2.map tieT)]
structure GW (w : Web) : Prop where
  n1 : 1 ≤ w.1
  tie : ∀ t ∈ w.2, GoodTie w.1 3 t
  ord : ordB w.2 = true
theorem webB_ex {v : T} (e : webB v = true) : ∃ w, v = webT w ∧ GW w := by
  unfold webB at e
  split at e
  · rename_i m ts
    rw [Bool.and_eq_true, Bool.and_eq_true, decide_eq_true_eq] at e
    have u := unties e.1.2
    exact ⟨(m, ts.map untie), by unfold webT; dsimp only; rw [← u.1], e.1.1, u.2, e.2⟩
  · cases e
theorem webB_of {w : Web} (g : GW w) : webB (webT w) = true := by
  obtain ⟨m, L⟩ := w
  have h1 := g.n1
  have h2 := g.tie
  have h3 := g.ord
  dsimp only at h1 h2 h3
  unfold webT webB
  dsimp only
  rw [untie_map, ties_all h2, h3, decide_eq_true h1]
  rfl
section
variable {h : Hh} {S : List Nat} {k : Nat}
theorem web_len {w : Web} (o : OkV S k h (webT w)) : w.2.length ≤ 300 + k := by
  have := (o.items (.tup (w.2.map tieT)) (by simp)).len
  rwa [List.length_map] at this
theorem x_w0 {w : Web} {h : Hh} {Q : T → Hh → Prop} : (Gx (idxT (webT w) (.int 0) h) (P := ⟨Q⟩)) = Q (.int w.1) h := by
  unfold webT
  rw [x_tix, at_0]
  exact propext ⟨fun q => q, fun q => q⟩
theorem x_w1 {w : Web} {h : Hh} {Q : T → Hh → Prop} : (Gx (idxT (webT w) (.int 1) h) (P := ⟨Q⟩)) = Q (.tup (w.2.map tieT)) h := by
  unfold webT
  rw [x_tix, at_1]
  exact propext ⟨fun q => q, fun q => q⟩
end
end K02


set_option Elab.async false
set_option linter.all false
set_option maxRecDepth 100000
namespace K02
open PySem MP L2
local macro_rules
  | `(tactic| simp_arith) => `(tactic| simp only [↓x_var, ↓x_int, ↓x_bl, ↓x_non, ↓x_str, ↓x_bin, ↓x_cmp, ↓x_idx, ↓x_neg, ↓x_not, ↓x_isN, ↓x_isnN, ↓x_rev, ↓x_gl0, ↓x_glc, ↓x_gl1, ↓x_sset, ↓x_lset, ↓x_isiT, ↓x_chn, ↓x_ite, ↓x_and, ↓x_or, ↓x_and1, ↓x_or1, ↓x_and2, ↓x_or2, ↓x_tup, ↓x_lst, ↓x_dic, ↓x_slc, ↓x_call, ↓x_new, ↓x_callK, ↓x_blt, ↓x_mth, ↓x_rngL, ↓x_rngT, ↓x_comp, ↓x_told, ↓x_enil, ↓x_econs, ↓x_kv0, ↓x_kv, ↓x_ono, ↓x_oso, ↓x_cno, ↓x_cso, ↓x_val, ↓x_rng1, ↓x_rng2, ↓x_rng3, ↓x_enum, ↓x_gvar, ↓x_gtup, ↓x_gtupR, ↓x_gsub, ↓x_gnil, ↓x_gcons, ↓x_snil, ↓x_scons, ↓x_pass, ↓x_expr, ↓x_ret, ↓x_retN, ↓x_set, ↓x_aug, ↓x_augO, ↓x_augA, ↓x_augS, ↓x_iff, ↓x_for, ↓x_whl, ↓x_brk, ↓x_cnt, ↓x_seqN, ↓x_seqR, ↓x_seqB, ↓x_exprX, ↓x_retX, ↓x_setX, ↓x_raise, ↓x_exO, ↓x_exX, ↓x_stO, ↓x_stX, ↓x_flO, ↓x_flE, ↓x_tdO, ↓x_seqX, ↓x_seqC, ↓x_finR, ↓x_finN, ↓x_lk, ↓x_negR, ↓x_negB, ↓x_notR, ↓x_cnd, ↓x_oiR, ↓x_opt, ↓x_ob, ↓x_r1, ↓x_r2, ↓x_r3, ↓x_enumT, ↓x_valT, ↓x_valF, ↓x_lst', ↓x_dk', ↓x_valL, ↓x_enumL, ↓x_mthL, ↓x_mth_append, ↓x_mth_extend, ↓x_mth_pop, ↓x_mth_get, ↓x_newT, ↓x_newL, ↓x_dicR, ↓x_add, ↓x_sub, ↓x_addB, ↓x_subB, ↓x_mul, ↓x_fdiv, ↓x_mod, ↓x_pow, ↓x_tadd, ↓x_tmul, ↓x_ladd, ↓x_lt, ↓x_le, ↓x_gt, ↓x_ge, ↓x_gtT, ↓x_is, ↓x_isnt, ↓x_eq, ↓x_ne, ↓x_inn, ↓x_nin, ↓x_tix, ↓x_rix, ↓x_ixL, ↓x_ixD, ↓x_setD, ↓x_stD, ↓x_stL, ↓x_app, ↓x_if, ↓x_ext, ↓x_pop, ↓x_lenT, ↓x_lenR, ↓x_lenL, ↓x_listT, ↓x_listL, ↓x_tupL, ↓x_tupT, ↓x_sortT, ↓x_sortL, ↓x_all, ↓x_any, ↓x_sum, ↓x_max2, ↓x_min2, ↓x_maxL, ↓x_minL, ↓x_abs, ↓x_tointB, ↓x_toint, ↓x_repr, ↓x_rep, ↓x_slcT, ↓x_slcF, ↓x_slcL, ↓x_revL, ↓x_revT, ↓x_strB, ↓x_strI, ↓x_lsetT, ↓x_ssetL, ↓x_isi_int, ↓x_isi_bool, ↓x_isi_NoneType, ↓x_isi_str, ↓x_isi_tuple, ↓x_isi_list, ↓x_xcq, ↓gx_bd, ↓gx_ok, ↓x_loopN, ↓x_loopC, ↓x_loopB, ↓x_loopR, ↓x_loopX, ty_NoneType_int, ty_NoneType_bool, ty_NoneType_str, ty_NoneType_list, ty_NoneType_tuple, ty_NoneType_dict, ty_int_int, ty_int_bool, ty_int_str, ty_int_list, ty_int_tuple, ty_int_dict, ty_bool_int, ty_bool_bool, ty_bool_str, ty_bool_list, ty_bool_tuple, ty_bool_dict, ty_str_int, ty_str_bool, ty_str_str, ty_str_list, ty_str_tuple, ty_str_dict, ty_tuple_int, ty_tuple_bool, ty_tuple_str, ty_tuple_list, ty_tuple_tuple, ty_tuple_dict, ty_list_int, ty_list_bool, ty_list_str, ty_list_list, ty_list_tuple, ty_list_dict, ty_dict_int, ty_dict_bool, ty_dict_str, ty_dict_list, ty_dict_tuple, ty_dict_dict, at_0, at_1, at_2, at_3, at_4, nat_0, nat_1, nat_2, nat_3, nat_4, nat_5, nat_6, at_end, at_end1, at_end2, at_end3, bools_t, all_t, Nat.reduceLT, Nat.reduceLeDiff, Int.reduceLT, Int.reduceLE, Int.reduceAdd, Int.reduceSub, Int.reduceMul, Int.reducePow, Int.reduceToNat, Int.reduceNeg, ifx_t, ifx_f, ifx_n, gx_ok, eqT_int, List.getElem?_cons_zero, List.getElem?_cons_succ, List.set_cons_zero, List.set_cons_succ, List.map_cons, List.map_nil, List.nil_append, List.cons_append, List.replicate_succ, List.replicate_zero, List.length_cons, List.length_nil, List.any_cons, List.any_nil, Nat.reduceAdd, Nat.reduceSub, Bool.or_false, Bool.or_true, Bool.false_or, Bool.true_or, Bool.not_true, Bool.not_false, Option.map_some, Option.bind_some, decide_true, decide_false, true_and, and_true, wipeL, ↓gg_KINDS, ↓kr_led_0, ↓kr_led_1, ↓xr_need_web_1, ↓tx__law_told_BadWeb, ↓tx__law_told_BadRenaming, ↓td_led_1, ↓td_led_2])
  | `(tactic| simp_arith [$es,*]) => `(tactic| simp only [↓x_var, ↓x_int, ↓x_bl, ↓x_non, ↓x_str, ↓x_bin, ↓x_cmp, ↓x_idx, ↓x_neg, ↓x_not, ↓x_isN, ↓x_isnN, ↓x_rev, ↓x_gl0, ↓x_glc, ↓x_gl1, ↓x_sset, ↓x_lset, ↓x_isiT, ↓x_chn, ↓x_ite, ↓x_and, ↓x_or, ↓x_and1, ↓x_or1, ↓x_and2, ↓x_or2, ↓x_tup, ↓x_lst, ↓x_dic, ↓x_slc, ↓x_call, ↓x_new, ↓x_callK, ↓x_blt, ↓x_mth, ↓x_rngL, ↓x_rngT, ↓x_comp, ↓x_told, ↓x_enil, ↓x_econs, ↓x_kv0, ↓x_kv, ↓x_ono, ↓x_oso, ↓x_cno, ↓x_cso, ↓x_val, ↓x_rng1, ↓x_rng2, ↓x_rng3, ↓x_enum, ↓x_gvar, ↓x_gtup, ↓x_gtupR, ↓x_gsub, ↓x_gnil, ↓x_gcons, ↓x_snil, ↓x_scons, ↓x_pass, ↓x_expr, ↓x_ret, ↓x_retN, ↓x_set, ↓x_aug, ↓x_augO, ↓x_augA, ↓x_augS, ↓x_iff, ↓x_for, ↓x_whl, ↓x_brk, ↓x_cnt, ↓x_seqN, ↓x_seqR, ↓x_seqB, ↓x_exprX, ↓x_retX, ↓x_setX, ↓x_raise, ↓x_exO, ↓x_exX, ↓x_stO, ↓x_stX, ↓x_flO, ↓x_flE, ↓x_tdO, ↓x_seqX, ↓x_seqC, ↓x_finR, ↓x_finN, ↓x_lk, ↓x_negR, ↓x_negB, ↓x_notR, ↓x_cnd, ↓x_oiR, ↓x_opt, ↓x_ob, ↓x_r1, ↓x_r2, ↓x_r3, ↓x_enumT, ↓x_valT, ↓x_valF, ↓x_lst', ↓x_dk', ↓x_valL, ↓x_enumL, ↓x_mthL, ↓x_mth_append, ↓x_mth_extend, ↓x_mth_pop, ↓x_mth_get, ↓x_newT, ↓x_newL, ↓x_dicR, ↓x_add, ↓x_sub, ↓x_addB, ↓x_subB, ↓x_mul, ↓x_fdiv, ↓x_mod, ↓x_pow, ↓x_tadd, ↓x_tmul, ↓x_ladd, ↓x_lt, ↓x_le, ↓x_gt, ↓x_ge, ↓x_gtT, ↓x_is, ↓x_isnt, ↓x_eq, ↓x_ne, ↓x_inn, ↓x_nin, ↓x_tix, ↓x_rix, ↓x_ixL, ↓x_ixD, ↓x_setD, ↓x_stD, ↓x_stL, ↓x_app, ↓x_if, ↓x_ext, ↓x_pop, ↓x_lenT, ↓x_lenR, ↓x_lenL, ↓x_listT, ↓x_listL, ↓x_tupL, ↓x_tupT, ↓x_sortT, ↓x_sortL, ↓x_all, ↓x_any, ↓x_sum, ↓x_max2, ↓x_min2, ↓x_maxL, ↓x_minL, ↓x_abs, ↓x_tointB, ↓x_toint, ↓x_repr, ↓x_rep, ↓x_slcT, ↓x_slcF, ↓x_slcL, ↓x_revL, ↓x_revT, ↓x_strB, ↓x_strI, ↓x_lsetT, ↓x_ssetL, ↓x_isi_int, ↓x_isi_bool, ↓x_isi_NoneType, ↓x_isi_str, ↓x_isi_tuple, ↓x_isi_list, ↓x_xcq, ↓gx_bd, ↓gx_ok, ↓x_loopN, ↓x_loopC, ↓x_loopB, ↓x_loopR, ↓x_loopX, ty_NoneType_int, ty_NoneType_bool, ty_NoneType_str, ty_NoneType_list, ty_NoneType_tuple, ty_NoneType_dict, ty_int_int, ty_int_bool, ty_int_str, ty_int_list, ty_int_tuple, ty_int_dict, ty_bool_int, ty_bool_bool, ty_bool_str, ty_bool_list, ty_bool_tuple, ty_bool_dict, ty_str_int, ty_str_bool, ty_str_str, ty_str_list, ty_str_tuple, ty_str_dict, ty_tuple_int, ty_tuple_bool, ty_tuple_str, ty_tuple_list, ty_tuple_tuple, ty_tuple_dict, ty_list_int, ty_list_bool, ty_list_str, ty_list_list, ty_list_tuple, ty_list_dict, ty_dict_int, ty_dict_bool, ty_dict_str, ty_dict_list, ty_dict_tuple, ty_dict_dict, at_0, at_1, at_2, at_3, at_4, nat_0, nat_1, nat_2, nat_3, nat_4, nat_5, nat_6, at_end, at_end1, at_end2, at_end3, bools_t, all_t, Nat.reduceLT, Nat.reduceLeDiff, Int.reduceLT, Int.reduceLE, Int.reduceAdd, Int.reduceSub, Int.reduceMul, Int.reducePow, Int.reduceToNat, Int.reduceNeg, ifx_t, ifx_f, ifx_n, gx_ok, eqT_int, List.getElem?_cons_zero, List.getElem?_cons_succ, List.set_cons_zero, List.set_cons_succ, List.map_cons, List.map_nil, List.nil_append, List.cons_append, List.replicate_succ, List.replicate_zero, List.length_cons, List.length_nil, List.any_cons, List.any_nil, Nat.reduceAdd, Nat.reduceSub, Bool.or_false, Bool.or_true, Bool.false_or, Bool.true_or, Bool.not_true, Bool.not_false, Option.map_some, Option.bind_some, decide_true, decide_false, true_and, and_true, wipeL, ↓gg_KINDS, ↓kr_led_0, ↓kr_led_1, ↓xr_need_web_1, ↓tx__law_told_BadWeb, ↓tx__law_told_BadRenaming, ↓td_led_1, ↓td_led_2, $es,*])
theorem last_app {α : Type} {l : List α} {a : α} : (l ++ [a])[(l ++ [a]).length - 1]? = some a := by simp
section
variable {h : Hh} {n : Nat}
theorem deck {ns : List Int} (hl : ns.length ≤ 63) : ∃ (h' : Hh) (r c : Nat), callN D (n + 1) "_law_deck" [scr ns] h = .ok (.ref r) h' ∧ Dq h' r c := by
  have z : Gx (callN D (n + 1) "_law_deck" [scr ns] h) (P := ⟨fun a h1 => ∃ r c, a = .ref r ∧ Dq h1 r c⟩) := by
    refine call_gx f__law_deck rfl ?_
    unfold scr
    have sl := cutT_len ns none (some 63)
    simp_arith [cutT_map, List.length_map, show (cutT ns none (some 63)).length ≤ 16777216 by omega]
    refine gx_for (fun i l h1 => ∃ m x, l = [some (.fz (ns.map T.int)), some (.int m), x] ∧ h1 = h ++ [O.lst ((cutT ns none (some 63)).map T.int)]) ⟨_, _, rfl, rfl⟩ ?_ ?_ ?_
    · rintro i l h1 ⟨m, x, rfl, rfl⟩ p hp
      rw [List.mem_singleton.mp hp]
      show mutL _ _ = _
      unfold mutL
      rw [at_end]
    · rintro i x l h1 hx ⟨m, y, rfl, rfl⟩
      rw [List.getElem?_map] at hx
      obtain ⟨k, hk, rfl⟩ := Option.map_eq_some_iff.mp hx
      simp_arith [cmulR (i := m) (j := 69621) (by decide)]
      exact ⟨_, _, rfl⟩
    · rintro l h1 ⟨m, x, rfl, rfl⟩
      have l63 : (cutT ns none (some 63)).length ≤ 16777216 := by omega
      simp_arith [cutT_map, List.length_map, l63, List.length_reverse, MP.dq_new]
      exact ⟨_, _, rfl, ⟨(cutT ns none (some 63)).reverse, _, _, at_end, by rw [List.map_reverse]; exact at_end1, by rw [List.length_reverse]; omega⟩, by simp⟩
  obtain ⟨x, h1, e, r, c, rfl, q⟩ := gx_ex z
  exact ⟨h1, r, c, e, q⟩
set_option maxHeartbeats 1000000 in
theorem draw {r c : Nat} {b : Int} (d : Dq h r c) (hb : 1 ≤ b ∧ b ≤ 100000000) : ∃ (h' : Hh) (v : Int), callN D (n + 1) "_law_draw" [.ref r, .int b] h = .ok (.int v) h' ∧ (0 ≤ v ∧ v < b) ∧ Dq h' r c ∧ Keep [r, c] h h' := by
  have z : Gx (callN D (n + 1) "_law_draw" [.ref r, .int b] h) (P := ⟨fun a h1 => ∃ v, a = .int v ∧ (0 ≤ v ∧ v < b) ∧ Dq h1 r c ∧ Keep [r, c] h h1⟩) := by
    obtain ⟨⟨L, m, t, h1, h2, h63⟩, ne⟩ := d
    have m1 := fun t => cmulL (i := 61473) (j := t) (by decide)
    have m2 := fun t => cmulR (i := t) (j := 39373) (by decide)
    have m3 := fun t => cmulR (i := t) (j := 40692) (by decide)
    have m4 := fun t => cmulL (i := 52713) (j := t) (by decide)
    have m5 := fun t u : Int => cmulL (i := t % 2147483647) (j := u) (by omega)
    have md : ∀ v : Int, 0 ≤ v % b ∧ v % b < b := fun v => ⟨Int.emod_nonneg v (by omega), Int.emod_lt_of_pos v (by omega)⟩
    have r1 : ∀ o, (h.set r o)[r]? = some o := fun o => at_set h1
    have c1 : ∀ o, (h.set r o)[c]? = some (.lst (L.map T.int)) := fun o => at_setn h2 ne
    refine call_gx f__law_draw rfl ?_
    rcases List.eq_nil_or_concat L with rfl | ⟨L2, x, rfl⟩
    · simp_arith [h1, dq_t, dq_put, dq_len, r1, dq_m, dq_c, m1, Nat.zero_le, eqT_ints0 (L := []) (at_old (o := .lst []) (c1 _)) at_end, List.isEmpty_nil, m2, m3, m4, m5, at_old (r1 _), show (0 : Int) < b by omega, show CDivB _ 64 = true from cdiv_ok (by decide), Nat.reduceLT]
      exact ⟨_, rfl, md _, ⟨⟨[], m, t + 1, at_old (r1 _), at_old (c1 _), h63⟩, ne⟩, (Keep.set (by simp)).trans (Keep.app _)⟩
    · rw [List.concat_eq_append] at h2 c1 h63
      rw [List.length_append, List.length_singleton] at h63
      have c2 : ∀ o, (h.set r o ++ [O.lst []])[c]? = some (.lst (L2.map T.int ++ [.int x])) := fun o => at_old (by rw [c1, List.map_append]; rfl)
      have c3 : ∀ o u, ((h.set r o ++ [O.lst []]).set c u)[c]? = some u := fun o u => at_set (c2 o)
      have r3 : ∀ o u, ((h.set r o ++ [O.lst []]).set c u)[r]? = some o := fun o u => at_setn (at_old (r1 o)) ne.symm
      have ml : ∀ x : Int, CDivB x (if b > 2 then b else 2) = true := fun x => cdiv_ok (by split <;> omega)
      have ll := lt_of_at h2
      have kp : ∀ o u, Keep [r, c] h ((h.set r o ++ [O.lst []]).set c u) := fun o u => ((Keep.set (by simp)).trans (Keep.app _)).trans (Keep.set (by simp))
      have l2 : L2.length < 16777216 := by omega
      by_cases hx : 1000000000000000000 ≤ x
      · simp_arith [h1, dq_t, dq_put, dq_len, r1, dq_m, dq_c, m1, Nat.zero_le, eqT_ints0 (L := L2 ++ [x]) (at_old (o := .lst []) (c1 _)) at_end, show (L2 ++ [x]).isEmpty = false by simp, at_old (r1 _), c2, last_app, List.dropLast_concat, cpow_ok (i := 10) (j := 18) (by decide), hx, r3, c3, ml, ↓x_if, List.length_map, l2, show (0 : Int) < b by omega]
        refine ⟨_, rfl, md _, ⟨⟨L2 ++ [x / (if b > 2 then b else 2)], m, t + 1, at_setn (r3 _ _) ne.symm, ?_, ?_⟩, ne⟩, (kp _ _).trans (Keep.set (by simp))⟩
        · rw [List.map_append]
          exact at_set (c3 _ _)
        · rw [List.length_append, List.length_singleton]
          exact h63
      · simp_arith [h1, dq_t, dq_put, dq_len, r1, dq_m, dq_c, m1, Nat.zero_le, eqT_ints0 (L := L2 ++ [x]) (at_old (o := .lst []) (c1 _)) at_end, show (L2 ++ [x]).isEmpty = false by simp, at_old (r1 _), c2, last_app, List.dropLast_concat, cpow_ok (i := 10) (j := 18) (by decide), hx, r3, c3, show (0 : Int) < b by omega, m2, m3, m4, m5, show CDivB _ 64 = true from cdiv_ok (by decide)]
        exact ⟨_, rfl, md _, ⟨⟨L2, m, t + 1, r3 _ _, c3 _ _, by omega⟩, ne⟩, kp _ _⟩
  obtain ⟨x, h1, e, v, rfl, q⟩ := gx_ex z
  exact ⟨h1, v, e, q⟩
/-- one of the things of a list -/
theorem pick {r c s : Nat} {xs : List T} (d : Dq h r c) (hs : h[s]? = some (.lst xs)) (hn : s ∉ [r, c]) (hl : 1 ≤ xs.length ∧ xs.length ≤ 1000) : ∃ (h' : Hh) (x : T), callN D (n + 2) "_law_pick" [.ref r, .ref s] h = .ok x h' ∧ x ∈ xs ∧ Dq h' r c ∧ Keep [r, c] h h' := by
  obtain ⟨h1, v, e, hv, d1, k1⟩ := draw (n := n) (h := h) (b := xs.length) d (by omega)
  have hi : v.toNat < xs.length := by omega
  have ea : atI xs v = some xs[v.toNat] := atI_some (j := v.toNat) (by omega) (List.getElem?_eq_getElem hi)
  have z : Gx (callN D (n + 2) "_law_pick" [.ref r, .ref s] h) (P := ⟨fun a h2 => a = xs[v.toNat] ∧ h2 = h1⟩) := by
    refine call_gx f__law_pick rfl ?_
    simp_arith [hs, e, k1.lstS hn hs, ea]
  obtain ⟨x, h2, e2, rfl, rfl⟩ := gx_ex z
  exact ⟨_, _, e2, List.getElem_mem hi, d1, k1⟩
theorem pickT {r c : Nat} {xs : List T} (d : Dq h r c) (hl : 1 ≤ xs.length ∧ xs.length ≤ 1000) : ∃ (h' : Hh) (x : T), callN D (n + 2) "_law_pick" [.ref r, .tup xs] h = .ok x h' ∧ x ∈ xs ∧ Dq h' r c ∧ Keep [r, c] h h' := by
  obtain ⟨h1, v, e, hv, d1, k1⟩ := draw (n := n) (h := h) (b := xs.length) d (by omega)
  have hi : v.toNat < xs.length := by omega
  have ea : atI xs v = some xs[v.toNat] := atI_some (j := v.toNat) (by omega) (List.getElem?_eq_getElem hi)
  have z : Gx (callN D (n + 2) "_law_pick" [.ref r, .tup xs] h) (P := ⟨fun a h2 => a = xs[v.toNat] ∧ h2 = h1⟩) := by
    refine call_gx f__law_pick rfl ?_
    simp_arith [e, ea]
  obtain ⟨x, h2, e2, rfl, rfl⟩ := gx_ex z
  exact ⟨_, _, e2, List.getElem_mem hi, d1, k1⟩
/-- a new list, of which one is picked -/
theorem pickV {r c k : Nat} {xs : List T} (d : Dq h r c) (hl : 1 ≤ xs.length ∧ xs.length ≤ 1000) (ho : ∀ x ∈ xs, OkV [r, c] k h x) : ∃ (h' : Hh) (x : T), callN D (n + 2) "_law_pick" [.ref r, .ref h.length] (h ++ [.lst xs]) = .ok x h' ∧ OkV [r, c] k h' x ∧ Dq h' r c ∧ Keep [r, c] h h' := by
  obtain ⟨h1, x, e, hx, d1, k1⟩ := pick (n := n) (d.keep (.app [.lst xs])) at_end (d.not_in (Nat.le_refl _)) hl
  have kk := (Keep.app (S := [r, c]) (h := h) [.lst xs]).trans k1
  exact ⟨h1, x, e, (ho x hx).keep kk, d1, kk⟩
theorem range_get {b : Int} {i : Nat} {x : T} (h : (rangeT 0 b)[i]? = some x) : x = .int i ∧ (i : Int) < b := by
  unfold rangeT at h
  rw [List.getElem?_map] at h
  obtain ⟨j, hj, rfl⟩ := Option.map_eq_some_iff.mp h
  have hlt := (List.getElem?_eq_some_iff.mp hj).1
  rw [List.getElem?_range (by simpa using hlt)] at hj
  cases hj
  simp at hlt
  exact ⟨by simp, by omega⟩
theorem range_len {b : Int} : (rangeT 0 b).length = b.toNat := by
  unfold rangeT
  simp
end
end K02


set_option Elab.async false
set_option linter.all false
set_option maxRecDepth 100000
namespace K02
open PySem MP L2
local macro_rules
  | `(tactic| simp_arith) => `(tactic| simp only [↓x_var, ↓x_int, ↓x_bl, ↓x_non, ↓x_str, ↓x_bin, ↓x_cmp, ↓x_idx, ↓x_neg, ↓x_not, ↓x_isN, ↓x_isnN, ↓x_rev, ↓x_gl0, ↓x_glc, ↓x_gl1, ↓x_sset, ↓x_lset, ↓x_isiT, ↓x_chn, ↓x_ite, ↓x_and, ↓x_or, ↓x_and1, ↓x_or1, ↓x_and2, ↓x_or2, ↓x_tup, ↓x_lst, ↓x_dic, ↓x_slc, ↓x_call, ↓x_new, ↓x_callK, ↓x_blt, ↓x_mth, ↓x_rngL, ↓x_rngT, ↓x_comp, ↓x_told, ↓x_enil, ↓x_econs, ↓x_kv0, ↓x_kv, ↓x_ono, ↓x_oso, ↓x_cno, ↓x_cso, ↓x_val, ↓x_rng1, ↓x_rng2, ↓x_rng3, ↓x_enum, ↓x_gvar, ↓x_gtup, ↓x_gtupR, ↓x_gsub, ↓x_gnil, ↓x_gcons, ↓x_snil, ↓x_scons, ↓x_pass, ↓x_expr, ↓x_ret, ↓x_retN, ↓x_set, ↓x_aug, ↓x_augO, ↓x_augA, ↓x_augS, ↓x_iff, ↓x_for, ↓x_whl, ↓x_brk, ↓x_cnt, ↓x_seqN, ↓x_seqR, ↓x_seqB, ↓x_exprX, ↓x_retX, ↓x_setX, ↓x_raise, ↓x_exO, ↓x_exX, ↓x_stO, ↓x_stX, ↓x_flO, ↓x_flE, ↓x_tdO, ↓x_seqX, ↓x_seqC, ↓x_finR, ↓x_finN, ↓x_lk, ↓x_negR, ↓x_negB, ↓x_notR, ↓x_cnd, ↓x_oiR, ↓x_opt, ↓x_ob, ↓x_r1, ↓x_r2, ↓x_r3, ↓x_enumT, ↓x_valT, ↓x_valF, ↓x_lst', ↓x_dk', ↓x_valL, ↓x_enumL, ↓x_mthL, ↓x_mth_append, ↓x_mth_extend, ↓x_mth_pop, ↓x_mth_get, ↓x_newT, ↓x_newL, ↓x_dicR, ↓x_add, ↓x_sub, ↓x_addB, ↓x_subB, ↓x_mul, ↓x_fdiv, ↓x_mod, ↓x_pow, ↓x_tadd, ↓x_tmul, ↓x_ladd, ↓x_lt, ↓x_le, ↓x_gt, ↓x_ge, ↓x_gtT, ↓x_is, ↓x_isnt, ↓x_eq, ↓x_ne, ↓x_inn, ↓x_nin, ↓x_tix, ↓x_rix, ↓x_ixL, ↓x_ixD, ↓x_setD, ↓x_stD, ↓x_stL, ↓x_app, ↓x_if, ↓x_ext, ↓x_pop, ↓x_lenT, ↓x_lenR, ↓x_lenL, ↓x_listT, ↓x_listL, ↓x_tupL, ↓x_tupT, ↓x_sortT, ↓x_sortL, ↓x_all, ↓x_any, ↓x_sum, ↓x_max2, ↓x_min2, ↓x_maxL, ↓x_minL, ↓x_abs, ↓x_tointB, ↓x_toint, ↓x_repr, ↓x_rep, ↓x_slcT, ↓x_slcF, ↓x_slcL, ↓x_revL, ↓x_revT, ↓x_strB, ↓x_strI, ↓x_lsetT, ↓x_ssetL, ↓x_isi_int, ↓x_isi_bool, ↓x_isi_NoneType, ↓x_isi_str, ↓x_isi_tuple, ↓x_isi_list, ↓x_xcq, ↓gx_bd, ↓gx_ok, ↓x_loopN, ↓x_loopC, ↓x_loopB, ↓x_loopR, ↓x_loopX, ty_NoneType_int, ty_NoneType_bool, ty_NoneType_str, ty_NoneType_list, ty_NoneType_tuple, ty_NoneType_dict, ty_int_int, ty_int_bool, ty_int_str, ty_int_list, ty_int_tuple, ty_int_dict, ty_bool_int, ty_bool_bool, ty_bool_str, ty_bool_list, ty_bool_tuple, ty_bool_dict, ty_str_int, ty_str_bool, ty_str_str, ty_str_list, ty_str_tuple, ty_str_dict, ty_tuple_int, ty_tuple_bool, ty_tuple_str, ty_tuple_list, ty_tuple_tuple, ty_tuple_dict, ty_list_int, ty_list_bool, ty_list_str, ty_list_list, ty_list_tuple, ty_list_dict, ty_dict_int, ty_dict_bool, ty_dict_str, ty_dict_list, ty_dict_tuple, ty_dict_dict, at_0, at_1, at_2, at_3, at_4, nat_0, nat_1, nat_2, nat_3, nat_4, nat_5, nat_6, at_end, at_end1, at_end2, at_end3, bools_t, all_t, Nat.reduceLT, Nat.reduceLeDiff, Int.reduceLT, Int.reduceLE, Int.reduceAdd, Int.reduceSub, Int.reduceMul, Int.reducePow, Int.reduceToNat, Int.reduceNeg, ifx_t, ifx_f, ifx_n, gx_ok, eqT_int, List.getElem?_cons_zero, List.getElem?_cons_succ, List.set_cons_zero, List.set_cons_succ, List.map_cons, List.map_nil, List.nil_append, List.cons_append, List.replicate_succ, List.replicate_zero, List.length_cons, List.length_nil, List.any_cons, List.any_nil, Nat.reduceAdd, Nat.reduceSub, Bool.or_false, Bool.or_true, Bool.false_or, Bool.true_or, Bool.not_true, Bool.not_false, Option.map_some, Option.bind_some, decide_true, decide_false, true_and, and_true, wipeL, ↓gg_KINDS, ↓kr_led_0, ↓kr_led_1, ↓xr_need_web_1, ↓tx__law_told_BadWeb, ↓tx__law_told_BadRenaming, ↓td_led_1, ↓td_led_2])
  | `(tactic| simp_arith [$es,*]) => `(tactic| simp only [↓x_var, ↓x_int, ↓x_bl, ↓x_non, ↓x_str, ↓x_bin, ↓x_cmp, ↓x_idx, ↓x_neg, ↓x_not, ↓x_isN, ↓x_isnN, ↓x_rev, ↓x_gl0, ↓x_glc, ↓x_gl1, ↓x_sset, ↓x_lset, ↓x_isiT, ↓x_chn, ↓x_ite, ↓x_and, ↓x_or, ↓x_and1, ↓x_or1, ↓x_and2, ↓x_or2, ↓x_tup, ↓x_lst, ↓x_dic, ↓x_slc, ↓x_call, ↓x_new, ↓x_callK, ↓x_blt, ↓x_mth, ↓x_rngL, ↓x_rngT, ↓x_comp, ↓x_told, ↓x_enil, ↓x_econs, ↓x_kv0, ↓x_kv, ↓x_ono, ↓x_oso, ↓x_cno, ↓x_cso, ↓x_val, ↓x_rng1, ↓x_rng2, ↓x_rng3, ↓x_enum, ↓x_gvar, ↓x_gtup, ↓x_gtupR, ↓x_gsub, ↓x_gnil, ↓x_gcons, ↓x_snil, ↓x_scons, ↓x_pass, ↓x_expr, ↓x_ret, ↓x_retN, ↓x_set, ↓x_aug, ↓x_augO, ↓x_augA, ↓x_augS, ↓x_iff, ↓x_for, ↓x_whl, ↓x_brk, ↓x_cnt, ↓x_seqN, ↓x_seqR, ↓x_seqB, ↓x_exprX, ↓x_retX, ↓x_setX, ↓x_raise, ↓x_exO, ↓x_exX, ↓x_stO, ↓x_stX, ↓x_flO, ↓x_flE, ↓x_tdO, ↓x_seqX, ↓x_seqC, ↓x_finR, ↓x_finN, ↓x_lk, ↓x_negR, ↓x_negB, ↓x_notR, ↓x_cnd, ↓x_oiR, ↓x_opt, ↓x_ob, ↓x_r1, ↓x_r2, ↓x_r3, ↓x_enumT, ↓x_valT, ↓x_valF, ↓x_lst', ↓x_dk', ↓x_valL, ↓x_enumL, ↓x_mthL, ↓x_mth_append, ↓x_mth_extend, ↓x_mth_pop, ↓x_mth_get, ↓x_newT, ↓x_newL, ↓x_dicR, ↓x_add, ↓x_sub, ↓x_addB, ↓x_subB, ↓x_mul, ↓x_fdiv, ↓x_mod, ↓x_pow, ↓x_tadd, ↓x_tmul, ↓x_ladd, ↓x_lt, ↓x_le, ↓x_gt, ↓x_ge, ↓x_gtT, ↓x_is, ↓x_isnt, ↓x_eq, ↓x_ne, ↓x_inn, ↓x_nin, ↓x_tix, ↓x_rix, ↓x_ixL, ↓x_ixD, ↓x_setD, ↓x_stD, ↓x_stL, ↓x_app, ↓x_if, ↓x_ext, ↓x_pop, ↓x_lenT, ↓x_lenR, ↓x_lenL, ↓x_listT, ↓x_listL, ↓x_tupL, ↓x_tupT, ↓x_sortT, ↓x_sortL, ↓x_all, ↓x_any, ↓x_sum, ↓x_max2, ↓x_min2, ↓x_maxL, ↓x_minL, ↓x_abs, ↓x_tointB, ↓x_toint, ↓x_repr, ↓x_rep, ↓x_slcT, ↓x_slcF, ↓x_slcL, ↓x_revL, ↓x_revT, ↓x_strB, ↓x_strI, ↓x_lsetT, ↓x_ssetL, ↓x_isi_int, ↓x_isi_bool, ↓x_isi_NoneType, ↓x_isi_str, ↓x_isi_tuple, ↓x_isi_list, ↓x_xcq, ↓gx_bd, ↓gx_ok, ↓x_loopN, ↓x_loopC, ↓x_loopB, ↓x_loopR, ↓x_loopX, ty_NoneType_int, ty_NoneType_bool, ty_NoneType_str, ty_NoneType_list, ty_NoneType_tuple, ty_NoneType_dict, ty_int_int, ty_int_bool, ty_int_str, ty_int_list, ty_int_tuple, ty_int_dict, ty_bool_int, ty_bool_bool, ty_bool_str, ty_bool_list, ty_bool_tuple, ty_bool_dict, ty_str_int, ty_str_bool, ty_str_str, ty_str_list, ty_str_tuple, ty_str_dict, ty_tuple_int, ty_tuple_bool, ty_tuple_str, ty_tuple_list, ty_tuple_tuple, ty_tuple_dict, ty_list_int, ty_list_bool, ty_list_str, ty_list_list, ty_list_tuple, ty_list_dict, ty_dict_int, ty_dict_bool, ty_dict_str, ty_dict_list, ty_dict_tuple, ty_dict_dict, at_0, at_1, at_2, at_3, at_4, nat_0, nat_1, nat_2, nat_3, nat_4, nat_5, nat_6, at_end, at_end1, at_end2, at_end3, bools_t, all_t, Nat.reduceLT, Nat.reduceLeDiff, Int.reduceLT, Int.reduceLE, Int.reduceAdd, Int.reduceSub, Int.reduceMul, Int.reducePow, Int.reduceToNat, Int.reduceNeg, ifx_t, ifx_f, ifx_n, gx_ok, eqT_int, List.getElem?_cons_zero, List.getElem?_cons_succ, List.set_cons_zero, List.set_cons_succ, List.map_cons, List.map_nil, List.nil_append, List.cons_append, List.replicate_succ, List.replicate_zero, List.length_cons, List.length_nil, List.any_cons, List.any_nil, Nat.reduceAdd, Nat.reduceSub, Bool.or_false, Bool.or_true, Bool.false_or, Bool.true_or, Bool.not_true, Bool.not_false, Option.map_some, Option.bind_some, decide_true, decide_false, true_and, and_true, wipeL, ↓gg_KINDS, ↓kr_led_0, ↓kr_led_1, ↓xr_need_web_1, ↓tx__law_told_BadWeb, ↓tx__law_told_BadRenaming, ↓td_led_1, ↓td_led_2, $es,*])
abbrev anyI : List T := [.int 0, .int 1, .int (-1), .int 2, .int 3, .int (-4), .int 7, .int 1000000000000000000000000000000000000000000000000000000000000, .int (-1000000000000000000000000000000000000000000000000000000000000000000000000000000000000000000000000000)]
abbrev anyS : List T := [.str (Str.ofString ""), .str (Str.ofString "0"), .str (Str.ofString "places 2"), .str (Str.ofString "growth"), .str (Str.ofString "a"), .str (Str.ofString "~"), .str (Str.ofString "()"), .str (Str.ofString "1")]
abbrev anyB : List T := [.bl true, .bl false, .non]
theorem cm_any : CMulB (-1000000000000000000000000000000000000000000000000000000000000) 1000000000000000000000000000000000000000 = true := by decide +kernel
theorem dic_any {a b : T} : ((keysT [.str (Str.ofString "n"), .int 1]).bind fun ks => mergeKT [] ks [a, b]) = some [(.ks (Str.ofString "n"), a), (.ki 1, b)] := Eq.trans rfl rfl
/-- weights of drawn values -/
def wA : Nat → Nat
  | 0 => 400
  | d + 1 => 3 * (wA d + 1) + 20
section
variable {h : Hh} {n : Nat} {S : List Nat}
theorem ok_anyI : ∀ x ∈ anyI, RV S h 335 0 0 400 x := by
  intro x hx
  simp only [anyI, List.mem_cons, List.not_mem_nil, or_false] at hx
  rcases hx with q | q | q | q | q | q | q | q | q <;> (rw [q]; exact .intS (j := 330) (by decide +kernel) (by decide) (by decide) (by decide))
theorem ok_anyS : ∀ x ∈ anyS, RV S h 335 0 0 400 x := by
  intro x hx
  simp only [anyS, List.mem_cons, List.not_mem_nil, or_false] at hx
  rcases hx with q | q | q | q | q | q | q | q <;> (rw [q]; exact .str (sOk_of _) (by rw [len_of]; decide))
theorem ok_anyB : ∀ x ∈ anyB, RV S h 335 0 0 400 x := by
  intro x hx
  simp only [anyB, List.mem_cons, List.not_mem_nil, or_false] at hx
  rcases hx with q | q | q <;> rw [q]
  · exact .bl
  · exact .bl
  · exact .non
theorem pickR {r c K E R W : Nat} {xs : List T} (d : Dq h r c) (hl : 1 ≤ xs.length ∧ xs.length ≤ 1000) (ho : ∀ x ∈ xs, RV [r, c] h K E R W x) : ∃ (h' : Hh) (x : T), callN D (n + 2) "_law_pick" [.ref r, .ref h.length] (h ++ [.lst xs]) = .ok x h' ∧ RV [r, c] h' K E R W x ∧ Dq h' r c ∧ Keep [r, c] h h' := by
  obtain ⟨h1, x, e, hx, d1, k1⟩ := pick (n := n) (d.keep (.app [.lst xs])) at_end (d.not_in (Nat.le_refl _)) hl
  have kk := (Keep.app (S := [r, c]) (h := h) [.lst xs]).trans k1
  exact ⟨h1, x, e, (ho x hx).keep kk, d1, kk⟩
theorem dicR {r c : Nat} {h : Hh} {l m E R W : Nat} {xs : List T} (d : Dq h r c) (hw : RVs [r, c] h 335 E R W xs) (hm : m ≤ 3) : RV [r, c] (h ++ [O.lst xs] ++ [O.dK [(.ks (Str.ofString "n"), .ref h.length), (.ki 1, .int m)]]) 335 (E + 2) (R + 2) (W + 20) (.ref (h ++ [O.lst xs]).length) := by
  have n0 := d.not_in (Nat.le_refl h.length)
  have n1 : (h ++ [O.lst xs]).length ∉ [r, c] := d.not_in (by simp)
  have k1 : Keep [r, c] h (h ++ [O.lst xs]) := .app _
  have k2 : Keep [r, c] (h ++ [O.lst xs]) (h ++ [O.lst xs] ++ [O.dK [(.ks (Str.ofString "n"), .ref h.length), (.ki 1, .int m)]]) := .app _
  have ol := RVs.lst n0 at_end ((hw.keep k1))
  have oi : RV [r, c] (h ++ [O.lst xs]) 335 (E + 1) (R + 1) 3 (.int m) := .intS (j := 3) (by omega) (by decide) (by decide) (by decide)
  refine (RV.dic n1 at_end (show kOk 335 (.ks (Str.ofString "n")) = true from sOk_of "n") (show kOk 335 (.ki 1) = true by decide) (wa := 1) (wb := 1) (by simp only [KT.d, PyData.weight]; exact Nat.le_of_eq (len_of "n")) (by decide) (ol.keep k2) (oi.keep k2)).up (Nat.le_refl _) (Nat.le_refl _) (Nat.le_refl _) (by omega)
set_option maxHeartbeats 1000000 in
theorem any {r c : Nat} : ∀ (deep : Nat) {h : Hh}, Dq h r c → ∃ (h' : Hh) (v : T), callN D (n + 3 + deep) "_law_any" [.ref r, .int deep] h = .ok v h' ∧ RV [r, c] h' 335 (2 * deep + 2) (2 * deep + 2) (wA deep) v ∧ Dq h' r c ∧ Keep [r, c] h h' := by
  intro deep
  induction deep with
  | zero =>
    intro h d
    obtain ⟨h1, w, e1, hw, d1, k1⟩ := draw (n := n + 1) (b := 8) d (by decide)
    have up : ∀ {h : Hh} {v : T}, RV [r, c] h 335 0 0 400 v → RV [r, c] h 335 2 2 400 v := fun o => o.up (Nat.le_refl _) (by decide) (by decide) (Nat.le_refl _)
    have z : Gx (callN D (n + 3) "_law_any" [.ref r, .int (0 : Nat)] h) (P := ⟨fun v h' => RV [r, c] h' 335 2 2 400 v ∧ Dq h' r c ∧ Keep [r, c] h h'⟩) := by
      refine call_gx f__law_any rfl ?_
      simp_arith [e1]
      refine ifx_by (fun q => ?_) (fun q => ?_)
      · obtain ⟨h2, v, e2, o2, d2, k2⟩ := pickR (n := n) (xs := anyI) d1 (by decide) ok_anyI
        simp_arith [cpow_ok (i := 10) (j := 60) (by decide), cpow_ok (i := 10) (j := 39) (by decide), cm_any, e2]
        exact ⟨up o2, d2, k1.trans k2⟩
      · simp_arith
        refine ifx_by (fun q => ?_) (fun q => ?_)
        · obtain ⟨h2, v, e2, o2, d2, k2⟩ := pickR (n := n) (xs := anyS) d1 (by decide) ok_anyS
          simp_arith [e2]
          exact ⟨up o2, d2, k1.trans k2⟩
        · simp_arith
          refine ifx_by (fun q => ?_) (fun q => ?_)
          · obtain ⟨h2, v, e2, o2, d2, k2⟩ := pickR (n := n) (xs := anyB) d1 (by decide) ok_anyB
            simp_arith [e2]
            exact ⟨up o2, d2, k1.trans k2⟩
          · simp_arith [Nat.zero_le]
            have kk := k1.trans (Keep.app (S := [r, c]) [O.lst []])
            have ni := d1.not_in (Nat.le_refl h1.length)
            refine ifx_by (fun q => ?_) (fun q => ?_)
            · simp_arith
              exact ⟨(RVs.lst ni at_end RVs.nil).up (D := 1) (R := 1) (Nat.le_refl _) (by decide) (by decide) (by decide), d1.keep (.app _), kk⟩
            · simp_arith
              refine ifx_by (fun q => ?_) (fun q => ?_)
              · simp_arith [dic_any]
                exact ⟨(dicR (l := 0) (m := 0) d1 (RVs.nil (D := 0) (R := 0)) (by decide)).up (Nat.le_refl _) (by decide) (by decide) (by decide), (d1.keep (.app _)).keep (.app _), kk.trans (.app _)⟩
              · simp_arith
                exact ⟨(RVs.tup RVs.nil).up (D := 1) (R := 0) (Nat.le_refl _) (by decide) (by decide) (by decide), d1.keep (.app _), kk⟩
    obtain ⟨v, h1, e, q⟩ := gx_ex z
    exact ⟨h1, v, e, q⟩
  | succ deep ih =>
    intro h d
    have w0 : 400 ≤ wA deep := by
      clear ih
      induction deep with
      | zero => exact Nat.le_refl _
      | succ d ihd => show 400 ≤ 3 * (wA d + 1) + 20; omega
    have wS : wA (deep + 1) = 3 * (wA deep + 1) + 20 := rfl
    have up : ∀ {h : Hh} {v : T}, RV [r, c] h 335 0 0 400 v → RV [r, c] h 335 (2 * (deep + 1) + 2) (2 * (deep + 1) + 2) (wA (deep + 1)) v := fun o => o.up (Nat.le_refl _) (by omega) (by omega) (by omega)
    obtain ⟨h1, w, e1, hw, d1, k1⟩ := draw (n := n + 2 + deep) (b := 8) d (by decide)
    have z : Gx (callN D (n + 3 + deep + 1) "_law_any" [.ref r, .int ((deep + 1 : Nat) : Int)] h) (P := ⟨fun v h' => RV [r, c] h' 335 (2 * (deep + 1) + 2) (2 * (deep + 1) + 2) (wA (deep + 1)) v ∧ Dq h' r c ∧ Keep [r, c] h h'⟩) := by
      refine call_gx f__law_any rfl ?_
      have e1' : callN D (n + 3 + deep) "_law_draw" [.ref r, .int 8] h = .ok (.int w) h1 := by
        rw [show n + 3 + deep = n + 2 + deep + 1 by omega]
        exact e1
      have lv : n + 3 + deep = n + 1 + deep + 2 := by omega
      simp_arith [e1']
      refine ifx_by (fun q => ?_) (fun q => ?_)
      · obtain ⟨h2, v, e2, o2, d2, k2⟩ := pickR (n := n + 1 + deep) (xs := anyI) d1 (by decide) ok_anyI
        rw [← lv] at e2
        simp_arith [cpow_ok (i := 10) (j := 60) (by decide), cpow_ok (i := 10) (j := 39) (by decide), cm_any, e2]
        exact ⟨up o2, d2, k1.trans k2⟩
      · simp_arith
        refine ifx_by (fun q => ?_) (fun q => ?_)
        · obtain ⟨h2, v, e2, o2, d2, k2⟩ := pickR (n := n + 1 + deep) (xs := anyS) d1 (by decide) ok_anyS
          rw [← lv] at e2
          simp_arith [e2]
          exact ⟨up o2, d2, k1.trans k2⟩
        · simp_arith
          refine ifx_by (fun q => ?_) (fun q => ?_)
          · obtain ⟨h2, v, e2, o2, d2, k2⟩ := pickR (n := n + 1 + deep) (xs := anyB) d1 (by decide) ok_anyB
            rw [← lv] at e2
            simp_arith [e2]
            exact ⟨up o2, d2, k1.trans k2⟩
          · obtain ⟨h2, m, e2, hm, d2, k2⟩ := draw (n := n + 2 + deep) (b := 4) d1 (by decide)
            rw [show n + 2 + deep + 1 = n + 3 + deep by omega] at e2
            simp_arith [show (0 : Int) < ((deep + 1 : Nat) : Int) by omega, e2, rgOk_of (i := 0) (j := m) (by omega)]
            refine gx_comp (fun i a h3 => RVs [r, c] h3 335 (2 * deep + 2) (2 * deep + 2) (i * (wA deep + 1)) a ∧ a.length = i ∧ Dq h3 r c ∧ Keep [r, c] h h3) ⟨RVs.nil.up (Nat.le_refl _) (Nat.le_refl _) (Nat.le_refl _) (Nat.zero_le _), rfl, d2, k1.trans k2⟩ (fun _ _ _ _ p hp => by simp at hp) ?_ ?_
            · intro i x a h3 hx hj
              have hi := (range_get hx).2
              obtain ⟨j1, j2, j3, j4⟩ := hj
              obtain ⟨h4, v, e4, o4, d4, k4⟩ := ih j3
              simp_arith [show (((deep + 1 : Nat) : Int) - 1) = (deep : Int) by omega, e4]
              refine ⟨by omega, ?_, by rw [List.length_append, j2]; rfl, d4, j4.trans k4⟩
              exact ((j1.keep k4).app o4.one).up (Nat.le_refl _) (Nat.le_refl _) (Nat.le_refl _) (by rw [Nat.add_mul]; omega)
            · intro a h3 hj
              obtain ⟨j1, j2, j3, j4⟩ := hj
              rw [range_len] at j2 j1
              have m3 : m.toNat ≤ 3 := by omega
              have j1' := j1.up (W2 := 3 * (wA deep + 1)) (Nat.le_refl _) (Nat.le_refl _) (Nat.le_refl _) (Nat.mul_le_mul_right _ m3)
              simp_arith [Nat.zero_le]
              have kk := j4.trans (Keep.app (S := [r, c]) [O.lst a])
              have ni := j3.not_in (Nat.le_refl h3.length)
              refine ifx_by (fun q => ?_) (fun q => ?_)
              · simp_arith
                exact ⟨(RVs.lst ni at_end (j1'.keep (.app _))).up (Nat.le_refl _) (by omega) (by omega) (by omega), j3.keep (.app _), kk⟩
              · simp_arith
                refine ifx_by (fun q => ?_) (fun q => ?_)
                · simp_arith [dic_any]
                  exact ⟨(dicR (l := 0) j3 j1' (by omega)).up (Nat.le_refl _) (by omega) (by omega) (by omega), (j3.keep (.app _)).keep (.app _), kk.trans (.app _)⟩
                · simp_arith
                  exact ⟨(RVs.tup (j1'.keep (.app _))).up (Nat.le_refl _) (by omega) (by omega) (by omega), j3.keep (.app _), kk⟩
    obtain ⟨v, h1, e, q⟩ := gx_ex z
    exact ⟨h1, v, e, q⟩
end
end K02


set_option Elab.async false
set_option linter.all false
set_option maxRecDepth 100000
namespace K02
open PySem MP L2
local macro_rules
  | `(tactic| simp_arith) => `(tactic| simp only [↓x_var, ↓x_int, ↓x_bl, ↓x_non, ↓x_str, ↓x_bin, ↓x_cmp, ↓x_idx, ↓x_neg, ↓x_not, ↓x_isN, ↓x_isnN, ↓x_rev, ↓x_gl0, ↓x_glc, ↓x_gl1, ↓x_sset, ↓x_lset, ↓x_isiT, ↓x_chn, ↓x_ite, ↓x_and, ↓x_or, ↓x_and1, ↓x_or1, ↓x_and2, ↓x_or2, ↓x_tup, ↓x_lst, ↓x_dic, ↓x_slc, ↓x_call, ↓x_new, ↓x_callK, ↓x_blt, ↓x_mth, ↓x_rngL, ↓x_rngT, ↓x_comp, ↓x_told, ↓x_enil, ↓x_econs, ↓x_kv0, ↓x_kv, ↓x_ono, ↓x_oso, ↓x_cno, ↓x_cso, ↓x_val, ↓x_rng1, ↓x_rng2, ↓x_rng3, ↓x_enum, ↓x_gvar, ↓x_gtup, ↓x_gtupR, ↓x_gsub, ↓x_gnil, ↓x_gcons, ↓x_snil, ↓x_scons, ↓x_pass, ↓x_expr, ↓x_ret, ↓x_retN, ↓x_set, ↓x_aug, ↓x_augO, ↓x_augA, ↓x_augS, ↓x_iff, ↓x_for, ↓x_whl, ↓x_brk, ↓x_cnt, ↓x_seqN, ↓x_seqR, ↓x_seqB, ↓x_exprX, ↓x_retX, ↓x_setX, ↓x_raise, ↓x_exO, ↓x_exX, ↓x_stO, ↓x_stX, ↓x_flO, ↓x_flE, ↓x_tdO, ↓x_seqX, ↓x_seqC, ↓x_finR, ↓x_finN, ↓x_lk, ↓x_negR, ↓x_negB, ↓x_notR, ↓x_cnd, ↓x_oiR, ↓x_opt, ↓x_ob, ↓x_r1, ↓x_r2, ↓x_r3, ↓x_enumT, ↓x_valT, ↓x_valF, ↓x_lst', ↓x_dk', ↓x_valL, ↓x_enumL, ↓x_mthL, ↓x_mth_append, ↓x_mth_extend, ↓x_mth_pop, ↓x_mth_get, ↓x_newT, ↓x_newL, ↓x_dicR, ↓x_add, ↓x_sub, ↓x_addB, ↓x_subB, ↓x_mul, ↓x_fdiv, ↓x_mod, ↓x_pow, ↓x_tadd, ↓x_tmul, ↓x_ladd, ↓x_lt, ↓x_le, ↓x_gt, ↓x_ge, ↓x_gtT, ↓x_is, ↓x_isnt, ↓x_eq, ↓x_ne, ↓x_inn, ↓x_nin, ↓x_tix, ↓x_rix, ↓x_ixL, ↓x_ixD, ↓x_setD, ↓x_stD, ↓x_stL, ↓x_app, ↓x_if, ↓x_ext, ↓x_pop, ↓x_lenT, ↓x_lenR, ↓x_lenL, ↓x_listT, ↓x_listL, ↓x_tupL, ↓x_tupT, ↓x_sortT, ↓x_sortL, ↓x_all, ↓x_any, ↓x_sum, ↓x_max2, ↓x_min2, ↓x_maxL, ↓x_minL, ↓x_abs, ↓x_tointB, ↓x_toint, ↓x_repr, ↓x_rep, ↓x_slcT, ↓x_slcF, ↓x_slcL, ↓x_revL, ↓x_revT, ↓x_strB, ↓x_strI, ↓x_lsetT, ↓x_ssetL, ↓x_isi_int, ↓x_isi_bool, ↓x_isi_NoneType, ↓x_isi_str, ↓x_isi_tuple, ↓x_isi_list, ↓x_xcq, ↓gx_bd, ↓gx_ok, ↓x_loopN, ↓x_loopC, ↓x_loopB, ↓x_loopR, ↓x_loopX, ty_NoneType_int, ty_NoneType_bool, ty_NoneType_str, ty_NoneType_list, ty_NoneType_tuple, ty_NoneType_dict, ty_int_int, ty_int_bool, ty_int_str, ty_int_list, ty_int_tuple, ty_int_dict, ty_bool_int, ty_bool_bool, ty_bool_str, ty_bool_list, ty_bool_tuple, ty_bool_dict, ty_str_int, ty_str_bool, ty_str_str, ty_str_list, ty_str_tuple, ty_str_dict, ty_tuple_int, ty_tuple_bool, ty_tuple_str, ty_tuple_list, ty_tuple_tuple, ty_tuple_dict, ty_list_int, ty_list_bool, ty_list_str, ty_list_list, ty_list_tuple, ty_list_dict, ty_dict_int, ty_dict_bool, ty_dict_str, ty_dict_list, ty_dict_tuple, ty_dict_dict, at_0, at_1, at_2, at_3, at_4, nat_0, nat_1, nat_2, nat_3, nat_4, nat_5, nat_6, at_end, at_end1, at_end2, at_end3, bools_t, all_t, Nat.reduceLT, Nat.reduceLeDiff, Int.reduceLT, Int.reduceLE, Int.reduceAdd, Int.reduceSub, Int.reduceMul, Int.reducePow, Int.reduceToNat, Int.reduceNeg, ifx_t, ifx_f, ifx_n, gx_ok, eqT_int, List.getElem?_cons_zero, List.getElem?_cons_succ, List.set_cons_zero, List.set_cons_succ, List.map_cons, List.map_nil, List.nil_append, List.cons_append, List.replicate_succ, List.replicate_zero, List.length_cons, List.length_nil, List.any_cons, List.any_nil, Nat.reduceAdd, Nat.reduceSub, Bool.or_false, Bool.or_true, Bool.false_or, Bool.true_or, Bool.not_true, Bool.not_false, Option.map_some, Option.bind_some, decide_true, decide_false, true_and, and_true, wipeL, ↓gg_KINDS, ↓kr_led_0, ↓kr_led_1, ↓xr_need_web_1, ↓tx__law_told_BadWeb, ↓tx__law_told_BadRenaming, ↓td_led_1, ↓td_led_2])
  | `(tactic| simp_arith [$es,*]) => `(tactic| simp only [↓x_var, ↓x_int, ↓x_bl, ↓x_non, ↓x_str, ↓x_bin, ↓x_cmp, ↓x_idx, ↓x_neg, ↓x_not, ↓x_isN, ↓x_isnN, ↓x_rev, ↓x_gl0, ↓x_glc, ↓x_gl1, ↓x_sset, ↓x_lset, ↓x_isiT, ↓x_chn, ↓x_ite, ↓x_and, ↓x_or, ↓x_and1, ↓x_or1, ↓x_and2, ↓x_or2, ↓x_tup, ↓x_lst, ↓x_dic, ↓x_slc, ↓x_call, ↓x_new, ↓x_callK, ↓x_blt, ↓x_mth, ↓x_rngL, ↓x_rngT, ↓x_comp, ↓x_told, ↓x_enil, ↓x_econs, ↓x_kv0, ↓x_kv, ↓x_ono, ↓x_oso, ↓x_cno, ↓x_cso, ↓x_val, ↓x_rng1, ↓x_rng2, ↓x_rng3, ↓x_enum, ↓x_gvar, ↓x_gtup, ↓x_gtupR, ↓x_gsub, ↓x_gnil, ↓x_gcons, ↓x_snil, ↓x_scons, ↓x_pass, ↓x_expr, ↓x_ret, ↓x_retN, ↓x_set, ↓x_aug, ↓x_augO, ↓x_augA, ↓x_augS, ↓x_iff, ↓x_for, ↓x_whl, ↓x_brk, ↓x_cnt, ↓x_seqN, ↓x_seqR, ↓x_seqB, ↓x_exprX, ↓x_retX, ↓x_setX, ↓x_raise, ↓x_exO, ↓x_exX, ↓x_stO, ↓x_stX, ↓x_flO, ↓x_flE, ↓x_tdO, ↓x_seqX, ↓x_seqC, ↓x_finR, ↓x_finN, ↓x_lk, ↓x_negR, ↓x_negB, ↓x_notR, ↓x_cnd, ↓x_oiR, ↓x_opt, ↓x_ob, ↓x_r1, ↓x_r2, ↓x_r3, ↓x_enumT, ↓x_valT, ↓x_valF, ↓x_lst', ↓x_dk', ↓x_valL, ↓x_enumL, ↓x_mthL, ↓x_mth_append, ↓x_mth_extend, ↓x_mth_pop, ↓x_mth_get, ↓x_newT, ↓x_newL, ↓x_dicR, ↓x_add, ↓x_sub, ↓x_addB, ↓x_subB, ↓x_mul, ↓x_fdiv, ↓x_mod, ↓x_pow, ↓x_tadd, ↓x_tmul, ↓x_ladd, ↓x_lt, ↓x_le, ↓x_gt, ↓x_ge, ↓x_gtT, ↓x_is, ↓x_isnt, ↓x_eq, ↓x_ne, ↓x_inn, ↓x_nin, ↓x_tix, ↓x_rix, ↓x_ixL, ↓x_ixD, ↓x_setD, ↓x_stD, ↓x_stL, ↓x_app, ↓x_if, ↓x_ext, ↓x_pop, ↓x_lenT, ↓x_lenR, ↓x_lenL, ↓x_listT, ↓x_listL, ↓x_tupL, ↓x_tupT, ↓x_sortT, ↓x_sortL, ↓x_all, ↓x_any, ↓x_sum, ↓x_max2, ↓x_min2, ↓x_maxL, ↓x_minL, ↓x_abs, ↓x_tointB, ↓x_toint, ↓x_repr, ↓x_rep, ↓x_slcT, ↓x_slcF, ↓x_slcL, ↓x_revL, ↓x_revT, ↓x_strB, ↓x_strI, ↓x_lsetT, ↓x_ssetL, ↓x_isi_int, ↓x_isi_bool, ↓x_isi_NoneType, ↓x_isi_str, ↓x_isi_tuple, ↓x_isi_list, ↓x_xcq, ↓gx_bd, ↓gx_ok, ↓x_loopN, ↓x_loopC, ↓x_loopB, ↓x_loopR, ↓x_loopX, ty_NoneType_int, ty_NoneType_bool, ty_NoneType_str, ty_NoneType_list, ty_NoneType_tuple, ty_NoneType_dict, ty_int_int, ty_int_bool, ty_int_str, ty_int_list, ty_int_tuple, ty_int_dict, ty_bool_int, ty_bool_bool, ty_bool_str, ty_bool_list, ty_bool_tuple, ty_bool_dict, ty_str_int, ty_str_bool, ty_str_str, ty_str_list, ty_str_tuple, ty_str_dict, ty_tuple_int, ty_tuple_bool, ty_tuple_str, ty_tuple_list, ty_tuple_tuple, ty_tuple_dict, ty_list_int, ty_list_bool, ty_list_str, ty_list_list, ty_list_tuple, ty_list_dict, ty_dict_int, ty_dict_bool, ty_dict_str, ty_dict_list, ty_dict_tuple, ty_dict_dict, at_0, at_1, at_2, at_3, at_4, nat_0, nat_1, nat_2, nat_3, nat_4, nat_5, nat_6, at_end, at_end1, at_end2, at_end3, bools_t, all_t, Nat.reduceLT, Nat.reduceLeDiff, Int.reduceLT, Int.reduceLE, Int.reduceAdd, Int.reduceSub, Int.reduceMul, Int.reducePow, Int.reduceToNat, Int.reduceNeg, ifx_t, ifx_f, ifx_n, gx_ok, eqT_int, List.getElem?_cons_zero, List.getElem?_cons_succ, List.set_cons_zero, List.set_cons_succ, List.map_cons, List.map_nil, List.nil_append, List.cons_append, List.replicate_succ, List.replicate_zero, List.length_cons, List.length_nil, List.any_cons, List.any_nil, Nat.reduceAdd, Nat.reduceSub, Bool.or_false, Bool.or_true, Bool.false_or, Bool.true_or, Bool.not_true, Bool.not_false, Option.map_some, Option.bind_some, decide_true, decide_false, true_and, and_true, wipeL, ↓gg_KINDS, ↓kr_led_0, ↓kr_led_1, ↓xr_need_web_1, ↓tx__law_told_BadWeb, ↓tx__law_told_BadRenaming, ↓td_led_1, ↓td_led_2, $es,*])
theorem p10 {P : T → Prop} {a b c d e f g i j l : T} (h1 : P a) (h2 : P b) (h3 : P c) (h4 : P d) (h5 : P e) (h6 : P f) (h7 : P g) (h8 : P i) (h9 : P j) (h10 : P l) : ∀ x ∈ [a, b, c, d, e, f, g, i, j, l], P x := mem10 h1 h2 h3 h4 h5 h6 h7 h8 h9 h10
section
variable {h : Hh} {n K E R W : Nat}
set_option maxHeartbeats 1000000 in
theorem odd {r c : Nat} {v : T} (hK : 335 ≤ K ∧ K ≤ 1000) (hW : W ≤ 100000) (d : Dq h r c) (o : RV [r, c] h K E R W v) : ∃ (h' : Hh) (w : T), callN D (n + 6) "_law_odd" [.ref r, v] h = .ok w h' ∧ RV [r, c] h' (K + 1) (E + 7) (R + 7) (2 * W + 4200) w ∧ Dq h' r c ∧ Keep [r, c] h h' := by
  obtain ⟨h1, w, e1, hw, d1, k1⟩ := draw (n := n + 4) (b := 4) d (by decide)
  have z : Gx (callN D (n + 6) "_law_odd" [.ref r, v] h) (P := ⟨fun v h' => RV [r, c] h' (K + 1) (E + 7) (R + 7) (2 * W + 4200) v ∧ Dq h' r c ∧ Keep [r, c] h h'⟩) := by
    refine call_gx f__law_odd rfl ?_
    simp_arith [e1]
    refine ifx_by (fun q => ?_) (fun q => ?_)
    · obtain ⟨h2, x, e2, o2, d2, k2⟩ := any (n := n) 2 d1
      rw [nat_2] at e2
      have w2 : wA 2 = 3692 := by decide
      simp_arith [e2]
      exact ⟨o2.up (by omega) (by omega) (by omega) (by omega), d2, k1.trans k2⟩
    · have o1 := o.keep k1
      have o2 := o1.okv (by omega) (by omega)
      cases o2 with
      | non =>
        simp_arith
        exact ⟨.non, d1, k1⟩
      | str x =>
        simp_arith
        exact ⟨.non, d1, k1⟩
      | ref m ob hn e hc =>
        have kn := o1.knd (by omega) (by omega)
        simp_arith [isi_i kn, isi_t kn, isN, isT]
        exact ⟨.non, d1, k1⟩
      | int i hi =>
        have hlog : i.natAbs.log2 < K := o1.num.1
        have hlt : i.natAbs < 2 ^ K := Nat.lt_of_lt_of_le (Nat.lt_log2_self (n := i.natAbs)) (Nat.pow_le_pow_right (by decide) hlog)
        have hp : 2 ^ (K + 1) = 2 ^ K * 2 := Nat.pow_succ 2 K
        have h200 : 2 ^ 335 ≤ 2 ^ K := Nat.pow_le_pow_right (by decide) hK.1
        have h20 : 10000000000000000000000000000000000000000 ≤ 2 ^ 335 := by decide +kernel
        have sm : ∀ {hh : Hh} {j : Int}, j.natAbs < 2 ^ (K + 1) → RV [r, c] hh (K + 1) (E + 1) (R + 1) (2 * W + 4200) (.int j) := fun {hh j} hj => .intS (j := K + 1) hj (by omega) (Nat.le_refl _) (by omega)
        have oi : RV [r, c] (h1 ++ [O.lst [.int i]]) K E R W (.int i) := o1.keep (.app _)
        obtain ⟨h2, x, e2, o2, d2, k2⟩ := pickR (n := n + 3) (K := K + 1) (E := E + 1) (R := R + 1) (W := 2 * W + 4200) (h := h1 ++ [O.lst [.int i]]) (xs := [.int 0, .int (i + 1), .int (i - 1), .int (-i), .bl (decide (i = 1)), .str (toString i), .tup [.int i], .ref h1.length, .int 3, .int 10000000000000000000000000000000000000000]) (d1.keep (.app _)) (by simp)
          (p10 (sm (by omega)) (sm (by omega)) (sm (by omega)) (sm (by omega)) .bl (.str (sOk_of _) (by
              rw [len_of]
              have := int_text_length_le (a := i) (k := K) (by omega) hlog
              omega)) (RVs.tup (oi.one.up (Nat.le_succ _) (Nat.le_refl _) (Nat.le_succ _) (by omega))) ((RVs.lst (d1.not_in (Nat.le_refl _)) at_end oi.one).up (Nat.le_succ _) (Nat.le_refl _) (Nat.le_refl _) (by omega)) (sm (by omega)) (sm (by omega)))
        simp_arith [Nat.reduceLeDiff, show i.natAbs.log2 < 1920 by omega, cpow_ok (i := 10) (j := 40) (by decide), e2]
        exact ⟨o2.up (Nat.le_refl _) (by omega) (by omega) (Nat.le_refl _), d2, (k1.trans (.app _)).trans k2⟩
      | bl b =>
        have hb : 0 ≤ b2I b ∧ b2I b ≤ 1 := by cases b <;> decide
        have hp : 2 ^ 335 ≤ 2 ^ K := Nat.pow_le_pow_right (by decide) hK.1
        have h20 : 10000000000000000000000000000000000000000 ≤ 2 ^ 335 := by decide +kernel
        have sm : ∀ {hh : Hh} {j : Int}, j.natAbs < 2 ^ K → RV [r, c] hh (K + 1) (E + 1) (R + 1) (2 * W + 4200) (.int j) := fun {hh j} hj => .intS (j := K) hj (by omega) (Nat.le_succ _) (by omega)
        have oi : RV [r, c] (h1 ++ [O.lst [.bl b]]) K E R W (.bl b) := .bl
        obtain ⟨h2, x, e2, o2, d2, k2⟩ := pickR (n := n + 3) (K := K + 1) (E := E + 1) (R := R + 1) (W := 2 * W + 4200) (h := h1 ++ [O.lst [.bl b]]) (xs := [.int 0, .int (b2I b + 1), .int (b2I b - 1), .int (-(b2I b)), .bl b, .str (if b then "True" else "False"), .tup [.bl b], .ref h1.length, .int 3, .int 10000000000000000000000000000000000000000]) (d1.keep (.app _)) (by simp)
          (p10 (sm (by omega)) (sm (by omega)) (sm (by omega)) (sm (by omega)) .bl (.str (by cases b <;> exact sOk_of _) (by
              have : ∀ s : String, s.length ≤ 5 → (Str.ofString s).length ≤ 2 * W + 4200 := fun s hs => by rw [len_of]; omega
              cases b
              · exact this "False" (by decide)
              · exact this "True" (by decide))) (RVs.tup (oi.one.up (Nat.le_succ _) (Nat.le_refl _) (Nat.le_succ _) (by omega))) ((RVs.lst (d1.not_in (Nat.le_refl _)) at_end oi.one).up (Nat.le_succ _) (Nat.le_refl _) (Nat.le_refl _) (by omega)) (sm (by omega)) (sm (by omega)))
        simp_arith [Nat.reduceLeDiff, eqT_bl1, cpow_ok (i := 10) (j := 40) (by decide), e2]
        exact ⟨o2.up (Nat.le_refl _) (by omega) (by omega) (Nat.le_refl _), d2, (k1.trans (.app _)).trans k2⟩
      | tup xs hl ha =>
        obtain ⟨E', rfl, os⟩ := o1.items1
        have ll := os.len
        have ox : RVs [r, c] (h1 ++ [O.lst xs]) (K + 1) E' R W xs := (os.keep (.app _)).up (Nat.le_succ _) (Nat.le_refl _) (Nat.le_refl _) (Nat.le_refl _)
        have c1 := cut_to (xs := xs) (a := 1) (by decide)
        have c2 : (xs ++ cutT xs none (some 1)).length ≤ 16777216 := by rw [List.length_append]; omega
        have c3 : (xs ++ [T.int 0]).length ≤ 16777216 := by rw [List.length_append, List.length_singleton]; omega
        have tu : ∀ {ys : List T} {V : Nat}, RVs [r, c] (h1 ++ [O.lst xs]) (K + 1) E' R V ys → V ≤ 2 * W + 4200 → RV [r, c] (h1 ++ [O.lst xs]) (K + 1) (E' + 1 + 1) (R + 1) (2 * W + 4200) (.tup ys) := fun a hv => (RVs.tup a).up (Nat.le_refl _) (Nat.le_succ _) (Nat.le_succ _) hv
        obtain ⟨h2, x, e2, o2, d2, k2⟩ := pickR (n := n + 3) (K := K + 1) (E := E' + 1 + 1) (R := R + 1) (W := 2 * W + 4200) (h := h1 ++ [O.lst xs]) (xs := [.ref h1.length, .tup xs.reverse, .tup (cutT xs (some 1) none), .tup (xs ++ cutT xs none (some 1)), .tup [.tup xs], .tup (xs ++ [.int 0]), .tup []]) (d1.keep (.app _)) (by simp)
          (mem7 (P := RV [r, c] (h1 ++ [O.lst xs]) (K + 1) (E' + 1 + 1) (R + 1) (2 * W + 4200)) ((RVs.lst (d1.not_in (Nat.le_refl _)) at_end ox).up (Nat.le_refl _) (Nat.le_succ _) (Nat.le_refl _) (by omega)) (tu ox.rev (by omega)) (tu (ox.cut _ _) (by omega)) (tu (ox.app (ox.cut _ _)) (by omega))
            ((RVs.tup (RVs.tup ox).one).up (Nat.le_refl _) (Nat.le_refl _) (Nat.le_succ _) (by omega))
            (tu (ox.app (RV.intS (i := 0) (j := 1) (W := 1) (by decide) (by decide) (by omega) (by decide)).one) (by omega)) (tu RVs.nil (by omega)))
        simp_arith [Nat.reduceLeDiff, Nat.zero_le, show xs.length ≤ 16777216 by omega, c2, c3, e2]
        exact ⟨o2.up (Nat.le_refl _) (by omega) (by omega) (Nat.le_refl _), d2, (k1.trans (.app _)).trans k2⟩
  obtain ⟨v, h1, e, q⟩ := gx_ex z
  exact ⟨h1, v, e, q⟩
theorem cutlen {α : Type} {xs : List α} {a b : Int} (ha : 0 ≤ a ∧ a ≤ xs.length) (hb : 0 ≤ b ∧ b ≤ xs.length) : (cutT xs none (some a)).length + (cutT xs (some b) none).length = a.toNat + (xs.length - b.toNat) := by
  rw [cut_to ha.1, cut_from hb.1]
  omega
end
section
variable {n K : Nat} {r c : Nat}
set_option maxHeartbeats 2000000 in
theorem bent_step (hK : 335 ≤ K ∧ K ≤ 1000) {deep : Nat} (rec : deep ≠ 0 → ∀ {h : Hh} {v : T} {E R W : Nat}, W ≤ 100000 → Dq h r c → RV [r, c] h K E R W v → ∃ (h' : Hh) (w : T), callN D (n + 6 + deep) "_law_bent" [.ref r, v, .int ((deep : Int) - 1)] h = .ok w h' ∧ RV [r, c] h' (K + 1) (E + 7) (R + 7) (3 * W + 4300) w ∧ Dq h' r c ∧ Keep [r, c] h h')
    {h : Hh} {v : T} {E R W : Nat} (hW : W ≤ 100000) (d : Dq h r c) (o : RV [r, c] h K E R W v) : ∃ (h' : Hh) (w : T), callN D (n + 6 + deep + 1) "_law_bent" [.ref r, v, .int deep] h = .ok w h' ∧ RV [r, c] h' (K + 1) (E + 7) (R + 7) (3 * W + 4300) w ∧ Dq h' r c ∧ Keep [r, c] h h' := by
  have dr : ∀ {h : Hh} {b : Int}, Dq h r c → 1 ≤ b ∧ b ≤ 100000000 → ∃ (h' : Hh) (v : Int), callN D (n + 6 + deep) "_law_draw" [.ref r, .int b] h = .ok (.int v) h' ∧ (0 ≤ v ∧ v < b) ∧ Dq h' r c ∧ Keep [r, c] h h' := fun {h b} d hb => by
    have z := draw (n := n + 5 + deep) d hb
    rw [show n + 5 + deep + 1 = n + 6 + deep by omega] at z
    exact z
  have od : ∀ {h : Hh} {v : T} {E R W : Nat}, W ≤ 100000 → Dq h r c → RV [r, c] h K E R W v → ∃ (h' : Hh) (w : T), callN D (n + 6 + deep) "_law_odd" [.ref r, v] h = .ok w h' ∧ RV [r, c] h' (K + 1) (E + 7) (R + 7) (2 * W + 4200) w ∧ Dq h' r c ∧ Keep [r, c] h h' := fun {h v E R W} hW d o => by
    have z := odd (n := n + deep) hK hW d o
    rw [show n + deep + 6 = n + 6 + deep by omega] at z
    exact z
  have z : Gx (callN D (n + 6 + deep + 1) "_law_bent" [.ref r, v, .int deep] h) (P := ⟨fun v h' => RV [r, c] h' (K + 1) (E + 7) (R + 7) (3 * W + 4300) v ∧ Dq h' r c ∧ Keep [r, c] h h'⟩) := by
    refine call_gx f__law_bent rfl ?_
    have w3 : 2 * W + 4200 ≤ 3 * W + 4300 := by omega
    have upo : ∀ {h : Hh} {w : T}, RV [r, c] h (K + 1) (E + 7) (R + 7) (2 * W + 4200) w → RV [r, c] h (K + 1) (E + 7) (R + 7) (3 * W + 4300) w := fun o => o.up (Nat.le_refl _) (Nat.le_refl _) (Nat.le_refl _) w3
    obtain ⟨h1, w1, e1, o1, d1, k1⟩ := od hW d o
    have kn := o.knd (by omega) (by omega)
    cases et : isT v with
    | false =>
      simp_arith [isi_t kn, et, e1]
      exact ⟨upo o1, d1, k1⟩
    | true =>
      obtain ⟨xs, rfl⟩ := isT_ex et
      obtain ⟨E', rfl, os⟩ := o.items1
      have hl := os.len
      simp_arith [eqT_nilT]
      cases en : xs.isEmpty with
      | true =>
        simp_arith [e1]
        exact ⟨upo o1, d1, k1⟩
      | false =>
        have l1 : 1 ≤ xs.length := by
          cases xs with
          | nil => cases en
          | cons a b => simp
        simp_arith
        refine ifx_by (fun q => ?_) (fun q => ?_)
        · simp_arith [e1]
          exact ⟨upo o1, d1, k1⟩
        · obtain ⟨h2, g, e2, hg, d2, k2⟩ := dr (b := 6) d (by decide)
          simp_arith [e2]
          refine ifx_by (fun q2 => ?_) (fun q2 => ?_)
          · obtain ⟨h3, w3, e3, o3, d3, k3⟩ := od hW d2 (o.keep k2)
            simp_arith [e3]
            exact ⟨upo o3, d3, k2.trans k3⟩
          · obtain ⟨h3, way, e3, hw, d3, k3⟩ := dr (b := 8) d2 (by decide)
            obtain ⟨h4, a, e4, ha, d4, k4⟩ := dr (b := xs.length) d3 (by omega)
            obtain ⟨h5, b, e5, hb, d5, k5⟩ := dr (b := xs.length) d4 (by omega)
            have kk := ((k2.trans k3).trans k4).trans k5
            have o5 := os.keep kk
            have ia : atI xs a = some xs[a.toNat] := atI_some (j := a.toNat) (by omega) (List.getElem?_eq_getElem (by omega))
            have ib : atI xs b = some xs[b.toNat] := atI_some (j := b.toNat) (by omega) (List.getElem?_eq_getElem (by omega))
            have cl1 := cutlen (xs := xs) (a := a) (b := a + 1) (by omega) (by omega)
            have cl2 := cutlen (xs := xs) (a := a + 1) (b := a) (by omega) (by omega)
            have cl3 := cutlen (xs := xs) (a := a) (b := a) (by omega) (by omega)
            have tu : ∀ {h : Hh} {ys : List T} {V : Nat}, RVs [r, c] h (K + 1) (E' + 7) (R + 7) V ys → V ≤ 3 * W + 4300 → RV [r, c] h (K + 1) (E' + 1 + 7) (R + 7) (3 * W + 4300) (.tup ys) := fun a hv => (RVs.tup a).up (Nat.le_refl _) (by omega) (Nat.le_refl _) hv
            have u5 : ∀ {h : Hh} {ys : List T} {V : Nat}, RVs [r, c] h K E' R V ys → RVs [r, c] h (K + 1) (E' + 7) (R + 7) V ys := fun a => a.up (Nat.le_succ _) (by omega) (by omega) (Nat.le_refl _)
            have pl : ∀ {w : T} {y : Int}, (y = a ∨ y = a + 1) → (cutT xs none (some a) ++ [w]).length ≤ 16777216 ∧ (cutT xs none (some a) ++ [w] ++ cutT xs (some y) none).length ≤ 16777216 := fun {w y} hy => by
              rw [List.length_append, List.length_append, List.length_append, List.length_singleton]
              rcases hy with rfl | rfl <;> omega
            simp_arith [e3, e4, e5, Nat.reduceLeDiff]
            refine ifx_by (fun q3 => ?_) (fun q3 => ?_)
            · have c1 : (cutT xs none (some a) ++ cutT xs (some (a + 1)) none).length ≤ 16777216 := by rw [List.length_append]; omega
              simp_arith [c1]
              exact ⟨tu ((u5 (o5.cut none (some a))).app (u5 (o5.cut (some (a + 1)) none))) (by omega), d5, kk⟩
            · simp_arith
              refine ifx_by (fun q4 => ?_) (fun q4 => ?_)
              · have c1 : (cutT xs none (some (a + 1)) ++ cutT xs (some a) none).length ≤ 16777216 := by rw [List.length_append]; omega
                simp_arith [c1]
                exact ⟨tu ((u5 (o5.cut none (some (a + 1)))).app (u5 (o5.cut (some a) none))) (by omega), d5, kk⟩
              · simp_arith
                refine ifx_by (fun q5 => ?_) (fun q5 => ?_)
                · have xa : ∀ (ys : List T), ys.length = xs.length → ixN ys.length a = some a.toNat := fun ys hy => ixN_ok (by rw [hy]; exact ha)
                  have xb : ∀ (ys : List T), ys.length = xs.length → ixN ys.length b = some b.toNat := fun ys hy => ixN_ok (by rw [hy]; exact hb)
                  have s1 : ∀ o : O, ((h5 ++ [O.lst xs]).set h5.length o)[h5.length]? = some o := fun o => at_set at_end
                  have s2 : ∀ o u : O, (((h5 ++ [O.lst xs]).set h5.length o).set h5.length u)[h5.length]? = some u := fun o u => at_set (s1 o)
                  simp_arith [show xs.length ≤ 16777216 by omega, ia, ib, Nat.reduceLeDiff, xa xs rfl, s1, xb (xs.set a.toNat xs[b.toNat]) (List.length_set), s2]
                  have n5 := d5.not_in (Nat.le_refl h5.length)
                  have kz : ∀ o u : O, Keep [r, c] h5 (((h5 ++ [O.lst xs]).set h5.length o).set h5.length u) := fun o u => ((Keep.app (S := [r, c]) [O.lst xs]).fresh (Nat.le_refl _)).fresh (Nat.le_refl _)
                  have oa := o5.get (List.getElem?_eq_getElem (show a.toNat < xs.length by omega))
                  have ob := o5.get (List.getElem?_eq_getElem (show b.toNat < xs.length by omega))
                  exact ⟨tu (u5 (((o5.set ob).set oa).keep (kz _ _))) (by omega), ((d5.keep (.app _)).set n5).set n5, kk.trans (kz _ _)⟩
                · simp_arith
                  refine ifx_by (fun q6 => ?_) (fun q6 => ?_)
                  · obtain ⟨w, hw1, hw2, _, _⟩ := o5.at_ ha
                    obtain ⟨h6, w6, e6, o6, d6, k6⟩ := od (by omega) d5 hw2
                    simp_arith [ia, e6, Nat.reduceLeDiff, (pl (w := w6) (.inl rfl)).1, (pl (w := w6) (.inl rfl)).2]
                    exact ⟨tu (RVs.ins (u5 (o5.keep k6)) (by omega) o6) (by omega), d6, kk.trans k6⟩
                  · obtain ⟨w, hw1, hw2, hw3, put⟩ := o5.at_ ha
                    obtain ⟨h6, w6, e6, o6, d6, k6⟩ := rec (by omega) (by omega) d5 hw2
                    simp_arith [ia, e6, Nat.reduceLeDiff, (pl (w := w6) (.inr rfl)).1, (pl (w := w6) (.inr rfl)).2]
                    exact ⟨tu (put (u5 (o5.keep k6)) (u5 (hw3.keep k6)) o6) (by omega), d6, kk.trans k6⟩
  obtain ⟨v, h1, e, q⟩ := gx_ex z
  exact ⟨h1, v, e, q⟩
theorem bent (hK : 335 ≤ K ∧ K ≤ 1000) : ∀ (deep : Nat) {h : Hh} {v : T} {E R W : Nat}, W ≤ 100000 → Dq h r c → RV [r, c] h K E R W v → ∃ (h' : Hh) (w : T), callN D (n + 6 + deep + 1) "_law_bent" [.ref r, v, .int deep] h = .ok w h' ∧ RV [r, c] h' (K + 1) (E + 7) (R + 7) (3 * W + 4300) w ∧ Dq h' r c ∧ Keep [r, c] h h' := by
  intro deep
  induction deep with
  | zero => exact fun hW d o => bent_step hK (fun z => absurd rfl z) hW d o
  | succ deep ih =>
    refine fun hW d o => bent_step hK (fun _ => fun {h v E R W} hW d o => ?_) hW d o
    have z := ih hW d o
    rw [show n + 6 + (deep + 1) = n + 6 + deep + 1 by omega, show (((deep + 1 : Nat) : Int) - 1) = (deep : Int) by omega]
    exact z
end
end K02


set_option Elab.async false
set_option linter.all false
set_option maxRecDepth 100000
namespace K02
open PySem MP L2
local macro_rules
  | `(tactic| simp_arith) => `(tactic| simp only [↓x_var, ↓x_int, ↓x_bl, ↓x_non, ↓x_str, ↓x_bin, ↓x_cmp, ↓x_idx, ↓x_neg, ↓x_not, ↓x_isN, ↓x_isnN, ↓x_rev, ↓x_gl0, ↓x_glc, ↓x_gl1, ↓x_sset, ↓x_lset, ↓x_isiT, ↓x_chn, ↓x_ite, ↓x_and, ↓x_or, ↓x_and1, ↓x_or1, ↓x_and2, ↓x_or2, ↓x_tup, ↓x_lst, ↓x_dic, ↓x_slc, ↓x_call, ↓x_new, ↓x_callK, ↓x_blt, ↓x_mth, ↓x_rngL, ↓x_rngT, ↓x_comp, ↓x_told, ↓x_enil, ↓x_econs, ↓x_kv0, ↓x_kv, ↓x_ono, ↓x_oso, ↓x_cno, ↓x_cso, ↓x_val, ↓x_rng1, ↓x_rng2, ↓x_rng3, ↓x_enum, ↓x_gvar, ↓x_gtup, ↓x_gtupR, ↓x_gsub, ↓x_gnil, ↓x_gcons, ↓x_snil, ↓x_scons, ↓x_pass, ↓x_expr, ↓x_ret, ↓x_retN, ↓x_set, ↓x_aug, ↓x_augO, ↓x_augA, ↓x_augS, ↓x_iff, ↓x_for, ↓x_whl, ↓x_brk, ↓x_cnt, ↓x_seqN, ↓x_seqR, ↓x_seqB, ↓x_exprX, ↓x_retX, ↓x_setX, ↓x_raise, ↓x_exO, ↓x_exX, ↓x_stO, ↓x_stX, ↓x_flO, ↓x_flE, ↓x_tdO, ↓x_seqX, ↓x_seqC, ↓x_finR, ↓x_finN, ↓x_lk, ↓x_negR, ↓x_negB, ↓x_notR, ↓x_cnd, ↓x_oiR, ↓x_opt, ↓x_ob, ↓x_r1, ↓x_r2, ↓x_r3, ↓x_enumT, ↓x_valT, ↓x_valF, ↓x_lst', ↓x_dk', ↓x_valL, ↓x_enumL, ↓x_mthL, ↓x_mth_append, ↓x_mth_extend, ↓x_mth_pop, ↓x_mth_get, ↓x_newT, ↓x_newL, ↓x_dicR, ↓x_add, ↓x_sub, ↓x_addB, ↓x_subB, ↓x_mul, ↓x_fdiv, ↓x_mod, ↓x_pow, ↓x_tadd, ↓x_tmul, ↓x_ladd, ↓x_lt, ↓x_le, ↓x_gt, ↓x_ge, ↓x_gtT, ↓x_is, ↓x_isnt, ↓x_eq, ↓x_ne, ↓x_inn, ↓x_nin, ↓x_tix, ↓x_rix, ↓x_ixL, ↓x_ixD, ↓x_setD, ↓x_stD, ↓x_stL, ↓x_app, ↓x_if, ↓x_ext, ↓x_pop, ↓x_lenT, ↓x_lenR, ↓x_lenL, ↓x_listT, ↓x_listL, ↓x_tupL, ↓x_tupT, ↓x_sortT, ↓x_sortL, ↓x_all, ↓x_any, ↓x_sum, ↓x_max2, ↓x_min2, ↓x_maxL, ↓x_minL, ↓x_abs, ↓x_tointB, ↓x_toint, ↓x_repr, ↓x_rep, ↓x_slcT, ↓x_slcF, ↓x_slcL, ↓x_revL, ↓x_revT, ↓x_strB, ↓x_strI, ↓x_lsetT, ↓x_ssetL, ↓x_isi_int, ↓x_isi_bool, ↓x_isi_NoneType, ↓x_isi_str, ↓x_isi_tuple, ↓x_isi_list, ↓x_xcq, ↓gx_bd, ↓gx_ok, ↓x_loopN, ↓x_loopC, ↓x_loopB, ↓x_loopR, ↓x_loopX, ty_NoneType_int, ty_NoneType_bool, ty_NoneType_str, ty_NoneType_list, ty_NoneType_tuple, ty_NoneType_dict, ty_int_int, ty_int_bool, ty_int_str, ty_int_list, ty_int_tuple, ty_int_dict, ty_bool_int, ty_bool_bool, ty_bool_str, ty_bool_list, ty_bool_tuple, ty_bool_dict, ty_str_int, ty_str_bool, ty_str_str, ty_str_list, ty_str_tuple, ty_str_dict, ty_tuple_int, ty_tuple_bool, ty_tuple_str, ty_tuple_list, ty_tuple_tuple, ty_tuple_dict, ty_list_int, ty_list_bool, ty_list_str, ty_list_list, ty_list_tuple, ty_list_dict, ty_dict_int, ty_dict_bool, ty_dict_str, ty_dict_list, ty_dict_tuple, ty_dict_dict, at_0, at_1, at_2, at_3, at_4, nat_0, nat_1, nat_2, nat_3, nat_4, nat_5, nat_6, at_end, at_end1, at_end2, at_end3, bools_t, all_t, Nat.reduceLT, Nat.reduceLeDiff, Int.reduceLT, Int.reduceLE, Int.reduceAdd, Int.reduceSub, Int.reduceMul, Int.reducePow, Int.reduceToNat, Int.reduceNeg, ifx_t, ifx_f, ifx_n, gx_ok, eqT_int, List.getElem?_cons_zero, List.getElem?_cons_succ, List.set_cons_zero, List.set_cons_succ, List.map_cons, List.map_nil, List.nil_append, List.cons_append, List.replicate_succ, List.replicate_zero, List.length_cons, List.length_nil, List.any_cons, List.any_nil, Nat.reduceAdd, Nat.reduceSub, Bool.or_false, Bool.or_true, Bool.false_or, Bool.true_or, Bool.not_true, Bool.not_false, Option.map_some, Option.bind_some, decide_true, decide_false, true_and, and_true, wipeL, ↓gg_KINDS, ↓kr_led_0, ↓kr_led_1, ↓xr_need_web_1, ↓tx__law_told_BadWeb, ↓tx__law_told_BadRenaming, ↓td_led_1, ↓td_led_2])
  | `(tactic| simp_arith [$es,*]) => `(tactic| simp only [↓x_var, ↓x_int, ↓x_bl, ↓x_non, ↓x_str, ↓x_bin, ↓x_cmp, ↓x_idx, ↓x_neg, ↓x_not, ↓x_isN, ↓x_isnN, ↓x_rev, ↓x_gl0, ↓x_glc, ↓x_gl1, ↓x_sset, ↓x_lset, ↓x_isiT, ↓x_chn, ↓x_ite, ↓x_and, ↓x_or, ↓x_and1, ↓x_or1, ↓x_and2, ↓x_or2, ↓x_tup, ↓x_lst, ↓x_dic, ↓x_slc, ↓x_call, ↓x_new, ↓x_callK, ↓x_blt, ↓x_mth, ↓x_rngL, ↓x_rngT, ↓x_comp, ↓x_told, ↓x_enil, ↓x_econs, ↓x_kv0, ↓x_kv, ↓x_ono, ↓x_oso, ↓x_cno, ↓x_cso, ↓x_val, ↓x_rng1, ↓x_rng2, ↓x_rng3, ↓x_enum, ↓x_gvar, ↓x_gtup, ↓x_gtupR, ↓x_gsub, ↓x_gnil, ↓x_gcons, ↓x_snil, ↓x_scons, ↓x_pass, ↓x_expr, ↓x_ret, ↓x_retN, ↓x_set, ↓x_aug, ↓x_augO, ↓x_augA, ↓x_augS, ↓x_iff, ↓x_for, ↓x_whl, ↓x_brk, ↓x_cnt, ↓x_seqN, ↓x_seqR, ↓x_seqB, ↓x_exprX, ↓x_retX, ↓x_setX, ↓x_raise, ↓x_exO, ↓x_exX, ↓x_stO, ↓x_stX, ↓x_flO, ↓x_flE, ↓x_tdO, ↓x_seqX, ↓x_seqC, ↓x_finR, ↓x_finN, ↓x_lk, ↓x_negR, ↓x_negB, ↓x_notR, ↓x_cnd, ↓x_oiR, ↓x_opt, ↓x_ob, ↓x_r1, ↓x_r2, ↓x_r3, ↓x_enumT, ↓x_valT, ↓x_valF, ↓x_lst', ↓x_dk', ↓x_valL, ↓x_enumL, ↓x_mthL, ↓x_mth_append, ↓x_mth_extend, ↓x_mth_pop, ↓x_mth_get, ↓x_newT, ↓x_newL, ↓x_dicR, ↓x_add, ↓x_sub, ↓x_addB, ↓x_subB, ↓x_mul, ↓x_fdiv, ↓x_mod, ↓x_pow, ↓x_tadd, ↓x_tmul, ↓x_ladd, ↓x_lt, ↓x_le, ↓x_gt, ↓x_ge, ↓x_gtT, ↓x_is, ↓x_isnt, ↓x_eq, ↓x_ne, ↓x_inn, ↓x_nin, ↓x_tix, ↓x_rix, ↓x_ixL, ↓x_ixD, ↓x_setD, ↓x_stD, ↓x_stL, ↓x_app, ↓x_if, ↓x_ext, ↓x_pop, ↓x_lenT, ↓x_lenR, ↓x_lenL, ↓x_listT, ↓x_listL, ↓x_tupL, ↓x_tupT, ↓x_sortT, ↓x_sortL, ↓x_all, ↓x_any, ↓x_sum, ↓x_max2, ↓x_min2, ↓x_maxL, ↓x_minL, ↓x_abs, ↓x_tointB, ↓x_toint, ↓x_repr, ↓x_rep, ↓x_slcT, ↓x_slcF, ↓x_slcL, ↓x_revL, ↓x_revT, ↓x_strB, ↓x_strI, ↓x_lsetT, ↓x_ssetL, ↓x_isi_int, ↓x_isi_bool, ↓x_isi_NoneType, ↓x_isi_str, ↓x_isi_tuple, ↓x_isi_list, ↓x_xcq, ↓gx_bd, ↓gx_ok, ↓x_loopN, ↓x_loopC, ↓x_loopB, ↓x_loopR, ↓x_loopX, ty_NoneType_int, ty_NoneType_bool, ty_NoneType_str, ty_NoneType_list, ty_NoneType_tuple, ty_NoneType_dict, ty_int_int, ty_int_bool, ty_int_str, ty_int_list, ty_int_tuple, ty_int_dict, ty_bool_int, ty_bool_bool, ty_bool_str, ty_bool_list, ty_bool_tuple, ty_bool_dict, ty_str_int, ty_str_bool, ty_str_str, ty_str_list, ty_str_tuple, ty_str_dict, ty_tuple_int, ty_tuple_bool, ty_tuple_str, ty_tuple_list, ty_tuple_tuple, ty_tuple_dict, ty_list_int, ty_list_bool, ty_list_str, ty_list_list, ty_list_tuple, ty_list_dict, ty_dict_int, ty_dict_bool, ty_dict_str, ty_dict_list, ty_dict_tuple, ty_dict_dict, at_0, at_1, at_2, at_3, at_4, nat_0, nat_1, nat_2, nat_3, nat_4, nat_5, nat_6, at_end, at_end1, at_end2, at_end3, bools_t, all_t, Nat.reduceLT, Nat.reduceLeDiff, Int.reduceLT, Int.reduceLE, Int.reduceAdd, Int.reduceSub, Int.reduceMul, Int.reducePow, Int.reduceToNat, Int.reduceNeg, ifx_t, ifx_f, ifx_n, gx_ok, eqT_int, List.getElem?_cons_zero, List.getElem?_cons_succ, List.set_cons_zero, List.set_cons_succ, List.map_cons, List.map_nil, List.nil_append, List.cons_append, List.replicate_succ, List.replicate_zero, List.length_cons, List.length_nil, List.any_cons, List.any_nil, Nat.reduceAdd, Nat.reduceSub, Bool.or_false, Bool.or_true, Bool.false_or, Bool.true_or, Bool.not_true, Bool.not_false, Option.map_some, Option.bind_some, decide_true, decide_false, true_and, and_true, wipeL, ↓gg_KINDS, ↓kr_led_0, ↓kr_led_1, ↓xr_need_web_1, ↓tx__law_told_BadWeb, ↓tx__law_told_BadRenaming, ↓td_led_1, ↓td_led_2, $es,*])
structure GWk (K : Int) (w : Web) : Prop where
  n1 : 1 ≤ w.1
  n9 : w.1 ≤ 100
  tie : ∀ t ∈ w.2, GoodTie w.1 K t
  ord : ordB w.2 = true
  len : w.2.length ≤ 40
theorem GoodTie.up {m k j : Int} {t : Tie} (g : GoodTie m k t) (h : k ≤ j) : GoodTie m j t := ⟨g.1, g.2.1, g.2.2.1, g.2.2.2.1, by have := g.2.2.2.2; omega⟩
theorem GWk.gw {K : Int} {w : Web} (g : GWk K w) (h : K ≤ 3) : GW w := ⟨g.n1, fun t ht => (g.tie t ht).up h, g.ord⟩
theorem GWk.up {K J : Int} {w : Web} (g : GWk K w) (h : K ≤ J) : GWk J w := ⟨g.n1, g.n9, fun t ht => (g.tie t ht).up h, g.ord, g.len⟩
section
variable {h : Hh} {n : Nat} {S : List Nat} {k : Nat}
theorem ok_tie {m K : Int} {t : Tie} (g : GoodTie m K t) (hm : m ≤ 1000) (hK : K ≤ 1000) : OkV S k h (tieT t) := by
  obtain ⟨a, b, c⟩ := t
  obtain ⟨h1, h2, h3, h4⟩ := g
  dsimp only at h1 h2 h3 h4
  have sm : ∀ i : Int, i.natAbs < 2000 → OkV S k h (.int i) := fun i hi => .small (Nat.lt_of_lt_of_le hi (by decide))
  refine .tup _ (by simp; omega) fun x hx => ?_
  simp only [List.mem_cons, List.not_mem_nil, or_false] at hx
  rcases hx with q | q | q <;> (rw [q]; exact sm _ (by omega))
theorem ok_web {K : Int} {w : Web} (g : GWk K w) (hK : K ≤ 1000) : OkV S k h (webT w) := by
  refine .tup _ (by simp; omega) fun x hx => ?_
  have h1 := g.n1
  have h2 := g.n9
  simp only [List.mem_cons, List.not_mem_nil, or_false] at hx
  rcases hx with q | q
  · rw [q]
    exact .small (Nat.lt_of_lt_of_le (show w.1.natAbs < 2000 by omega) (by decide))
  · rw [q]
    have := g.len
    refine .tup _ (by rw [List.length_map]; omega) fun x hx => ?_
    obtain ⟨t, ht, rfl⟩ := List.mem_map.mp hx
    exact ok_tie (g.tie t ht) (by omega) hK
theorem tie {r c : Nat} {m K : Int} (d : Dq h r c) (hm : 2 ≤ m ∧ m ≤ 1000) (hK : 1 ≤ K ∧ K ≤ 1000) : ∃ (h' : Hh) (t : Tie), callN D (n + 2) "_law_tie" [.ref r, .int m, .int K] h = .ok (tieT t) h' ∧ GoodTie m K t ∧ Dq h' r c ∧ Keep [r, c] h h' := by
  obtain ⟨h1, a, e1, ha, d1, k1⟩ := draw (n := n) (b := m) d (by omega)
  obtain ⟨h2, b, e2, hb, d2, k2⟩ := draw (n := n) (b := m - 1) d1 (by omega)
  obtain ⟨h3, x, e3, hx, d3, k3⟩ := draw (n := n) (b := K) d2 (by omega)
  have z : Gx (callN D (n + 2) "_law_tie" [.ref r, .int m, .int K] h) (P := ⟨fun v h' => ∃ t, v = tieT t ∧ GoodTie m K t ∧ Dq h' r c ∧ Keep [r, c] h h'⟩) := by
    refine call_gx f__law_tie rfl ?_
    simp_arith [e1, e2, Nat.reduceLeDiff]
    have kk := (k1.trans k2).trans k3
    refine ifx_by (fun q => ?_) (fun q => ?_)
    · simp_arith [e3, Nat.reduceLeDiff]
      exact ⟨(a, b, x), rfl, ⟨ha, by show 0 ≤ b ∧ b < m; omega, by show a ≠ b; omega, hx⟩, d3, kk⟩
    · simp_arith [e3, Nat.reduceLeDiff]
      exact ⟨(a, b + 1, x), rfl, ⟨ha, by show 0 ≤ b + 1 ∧ b + 1 < m; omega, by show a ≠ b + 1; omega, hx⟩, d3, kk⟩
  obtain ⟨v, h1, e, t, rfl, q⟩ := gx_ex z
  exact ⟨h1, t, e, q⟩
theorem at_last {α : Type} {l : List α} {a : α} : atI (l ++ [a]) (-1) = some a := by
  unfold atI
  have : ixN (l ++ [a]).length (-1) = some l.length := by
    unfold ixN
    simp
    omega
  rw [this]
  simp
set_option maxHeartbeats 1000000 in
theorem webg {r c : Nat} {m K N : Int} (d : Dq h r c) (hm : 1 ≤ m ∧ m ≤ 100) (hK : 1 ≤ K ∧ K ≤ 3) (hN : 0 ≤ N ∧ N ≤ 40) : ∃ (h' : Hh) (w : Web), callN D (n + 3) "_law_web" [.ref r, .int m, .int K, .int N] h = .ok (webT w) h' ∧ GWk K w ∧ w.1 = m ∧ Dq h' r c ∧ Keep [r, c] h h' := by
  have z : Gx (callN D (n + 3) "_law_web" [.ref r, .int m, .int K, .int N] h) (P := ⟨fun v h' => ∃ w, v = webT w ∧ GWk K w ∧ w.1 = m ∧ Dq h' r c ∧ Keep [r, c] h h'⟩) := by
    have comp : ∀ (M : Int), 0 ≤ M ∧ M ≤ 40 → (M ≠ 0 → 2 ≤ m) → ∀ (Q : T → Hh → Prop), (∀ (h' : Hh) (L : List Tie), (∀ t ∈ L, GoodTie m K t) → L.length ≤ 40 → Dq h' r c → Keep [r, c] h h' → Q (.ref h'.length) (h' ++ [.lst (L.map tieT)])) →
        Gx (compR D (callN D (n + 2)) [5] (.var 5) .no (.call "_law_tie" (.cons (.var 0) (.cons (.var 1) (.cons (.var 2) .nil)))) [some (.ref r), some (.int m), some (.int K), some (.int N), none, none] (rangeT 0 M, []) h) (P := ⟨Q⟩) := by
      intro M hM hm2 Q hQ
      refine gx_comp (fun i a h1 => ∃ L : List Tie, a = L.map tieT ∧ (∀ t ∈ L, GoodTie m K t) ∧ L.length = i ∧ Dq h1 r c ∧ Keep [r, c] h h1) ⟨[], rfl, fun _ h => (by cases h), rfl, d, .refl⟩ (fun _ _ _ _ p hp => by simp at hp) ?_ ?_
      · intro i x a h1 hx hj
        obtain ⟨L, ea, q1, q2, q3, q4⟩ := hj
        obtain ⟨ex, hi⟩ := range_get hx
        subst ea ex
        obtain ⟨h2, t, e, ht, d2, k2⟩ := tie (n := n) q3 (m := m) (K := K) (by omega) (by omega)
        simp_arith [e, List.length_map]
        refine ⟨by omega, L ++ [t], by rw [List.map_append]; rfl, fun y hy => ?_, by rw [List.length_append, q2]; rfl, d2, q4.trans k2⟩
        rcases List.mem_append.mp hy with z | z
        · exact q1 y z
        · rw [List.mem_singleton.mp z]
          exact ht
      · intro a h1 hj
        obtain ⟨L, ea, q1, q2, q3, q4⟩ := hj
        subst ea
        rw [range_len] at q2
        exact hQ h1 L q1 (by omega) q3 q4
    refine call_gx f__law_web rfl ?_
    rw [x_scons]
    refine gx_mono (Q := fun p h1 => ∃ (s : Nat) (L : List Tie), p = (.nx, [some (.ref r), some (.int m), some (.int K), some (.int N), some (.ref s), none]) ∧ h.length ≤ s ∧ s ∉ [r, c] ∧ h1[s]? = some (.lst (L.map tieT)) ∧ (∀ t ∈ L, GoodTie m K t) ∧ L.length ≤ 40 ∧ Dq h1 r c ∧ Keep [r, c] h h1) ?_ ?_
    · simp_arith
      refine ifx_by (fun q => ?_) (fun q => ?_)
      · simp_arith [rgOk_of (i := 0) (j := N) (by omega)]
        refine comp N hN (fun _ => by omega) _ fun h' L q1 q2 q3 q4 => ?_
        simp_arith
        exact ⟨h'.length, L, rfl, q4.le, q3.not_in (Nat.le_refl _), at_end, q1, q2, q3.keep (.app _), q4.trans (.app _)⟩
      · simp_arith [rgOk_of (i := 0) (j := 0) (by omega)]
        refine comp 0 (by omega) (fun z => absurd rfl z) _ fun h' L q1 q2 q3 q4 => ?_
        simp_arith
        exact ⟨h'.length, L, rfl, q4.le, q3.not_in (Nat.le_refl _), at_end, q1, q2, q3.keep (.app _), q4.trans (.app _)⟩
    · intro p h1 hp
      obtain ⟨s, L, ep, hs, nn, s1, q1, q2, q3, q4⟩ := hp
      subst ep
      rw [x_seqN, x_scons]
      refine gx_mono (Q := fun p h2 => p = (.nx, [some (.ref r), some (.int m), some (.int K), some (.int N), some (.ref s), none]) ∧ ∃ L : List Tie, h2[s]? = some (.lst (L.map tieT)) ∧ (∀ t ∈ L, GoodTie m K t) ∧ L.length ≤ 40 ∧ Dq h2 r c ∧ Keep [r, c] h h2) ?_ ?_
      · simp_arith [s1, List.length_map]
        refine ifx_by (fun q => ?_) (fun q => ?_)
        · obtain ⟨h3, g, e3, hg, d3, k3⟩ := draw (n := n + 1) (b := 4) q3 (by decide)
          have s3 := k3.nin nn s1
          simp_arith [e3]
          refine ifx_by (fun q5 => ?_) (fun q5 => ?_)
          · rcases List.eq_nil_or_concat L with rfl | ⟨L2, x, rfl⟩
            · simp at q
            · rw [List.concat_eq_append] at s3 q1 q2
              rw [List.map_append] at s3
              have e0 : ixN (L2.map tieT ++ [tieT x]).length 0 = some 0 := ixN_ok (by rw [List.length_append, List.length_singleton]; omega)
              simp_arith [s3, show atI (L2.map tieT ++ [tieT x]) (-1) = some (tieT x) from at_last, e0]
              refine ⟨(L2 ++ [x]).set 0 x, ?_, fun t ht => ?_, by rw [List.length_set]; exact q2, d3.set nn, (q4.trans k3).fresh hs⟩
              · rw [List.map_set, List.map_append]
                exact at_set s3
              · rcases List.mem_or_eq_of_mem_set ht with z | z
                · exact q1 t z
                · rw [z]
                  exact q1 x (by simp)
          · simp_arith
            exact ⟨L, s3, q1, q2, d3, q4.trans k3⟩
        · simp_arith
          exact ⟨L, s1, q1, q2, q3, q4⟩
      · intro p h2 hp
        obtain ⟨ep, L, s2, q1, q2, q3, q4⟩ := hp
        subst ep
        have ll : L.length ≤ 16777216 := by omega
        simp_arith [s2, fun hh => sortT_ties (h := hh) ll, List.length_map, srt_len, ll, Nat.reduceLeDiff]
        exact ⟨(m, srt tieD L), rfl, ⟨hm.1, hm.2, fun t ht => q1 t ((srt_mem _).mp ht), ordB_srt L, by rw [srt_len]; exact q2⟩, rfl, q3.keep (.app _), q4.trans (.app _)⟩
  obtain ⟨v, h1, e, w, rfl, q⟩ := gx_ex z
  exact ⟨h1, w, e, q⟩
theorem rv_tie {m K : Int} {E R : Nat} {t : Tie} (g : GoodTie m K t) (hm : m ≤ 100) (hK : K ≤ 100) : RV S h 335 (E + 1) R 24 (tieT t) := by
  obtain ⟨a, b, c⟩ := t
  obtain ⟨h1, h2, h3, h4⟩ := g
  dsimp only at h1 h2 h3 h4
  have sm : ∀ i : Int, 0 ≤ i ∧ i < 100 → RV S h 335 E R 7 (.int i) := fun i hi => .intS (j := 7) (by omega) (by decide) (by decide) (Nat.le_refl _)
  exact RVs.tup (RVs.cons (sm a (by omega)) (RVs.cons (sm b (by omega)) (sm c (by omega)).one))
theorem rv_ties {m K : Int} {E R : Nat} : ∀ {L : List Tie}, (∀ t ∈ L, GoodTie m K t) → m ≤ 100 → K ≤ 100 → RVs S h 335 (E + 1) R (25 * L.length) (L.map tieT)
  | [], _, _, _ => RVs.nil
  | t :: L, g, hm, hK => (RVs.cons (rv_tie (g t List.mem_cons_self) hm hK) (rv_ties (fun u hu => g u (List.mem_cons_of_mem _ hu)) hm hK)).up (Nat.le_refl _) (Nat.le_refl _) (Nat.le_refl _) (by rw [List.length_cons]; omega)
theorem rv_webN {m K : Int} {E R N : Nat} {L : List Tie} (h1 : 0 ≤ m) (hm : m ≤ 100) (hK : K ≤ 100) (g : ∀ t ∈ L, GoodTie m K t) (hl : L.length ≤ N) : RV S h 335 (E + 3) R (25 * N + 9) (webT (m, L)) := by
  have a : RV S h 335 (E + 2) R 7 (.int m) := .intS (j := 7) (by omega) (by decide) (by decide) (Nat.le_refl _)
  have b := (RVs.tup (rv_ties (S := S) (h := h) (E := E) (R := R) g hm hK)).one
  exact (RVs.tup (RVs.cons a b)).up (Nat.le_refl _) (Nat.le_refl _) (Nat.le_refl _) (by omega)
theorem rv_web {K : Int} {w : Web} (g : GWk K w) (hK : K ≤ 100) : RV S h 335 3 0 1009 (webT w) :=
  rv_webN (E := 0) (N := 40) (by have := g.n1; omega) g.n9 hK g.tie g.len
end
end K02


set_option Elab.async false
set_option linter.all false
set_option maxRecDepth 100000
namespace K02
open PySem MP L2
local macro_rules
  | `(tactic| simp_arith) => `(tactic| simp only [↓x_var, ↓x_int, ↓x_bl, ↓x_non, ↓x_str, ↓x_bin, ↓x_cmp, ↓x_idx, ↓x_neg, ↓x_not, ↓x_isN, ↓x_isnN, ↓x_rev, ↓x_gl0, ↓x_glc, ↓x_gl1, ↓x_sset, ↓x_lset, ↓x_isiT, ↓x_chn, ↓x_ite, ↓x_and, ↓x_or, ↓x_and1, ↓x_or1, ↓x_and2, ↓x_or2, ↓x_tup, ↓x_lst, ↓x_dic, ↓x_slc, ↓x_call, ↓x_new, ↓x_callK, ↓x_blt, ↓x_mth, ↓x_rngL, ↓x_rngT, ↓x_comp, ↓x_told, ↓x_enil, ↓x_econs, ↓x_kv0, ↓x_kv, ↓x_ono, ↓x_oso, ↓x_cno, ↓x_cso, ↓x_val, ↓x_rng1, ↓x_rng2, ↓x_rng3, ↓x_enum, ↓x_gvar, ↓x_gtup, ↓x_gtupR, ↓x_gsub, ↓x_gnil, ↓x_gcons, ↓x_snil, ↓x_scons, ↓x_pass, ↓x_expr, ↓x_ret, ↓x_retN, ↓x_set, ↓x_aug, ↓x_augO, ↓x_augA, ↓x_augS, ↓x_iff, ↓x_for, ↓x_whl, ↓x_brk, ↓x_cnt, ↓x_seqN, ↓x_seqR, ↓x_seqB, ↓x_exprX, ↓x_retX, ↓x_setX, ↓x_raise, ↓x_exO, ↓x_exX, ↓x_stO, ↓x_stX, ↓x_flO, ↓x_flE, ↓x_tdO, ↓x_seqX, ↓x_seqC, ↓x_finR, ↓x_finN, ↓x_lk, ↓x_negR, ↓x_negB, ↓x_notR, ↓x_cnd, ↓x_oiR, ↓x_opt, ↓x_ob, ↓x_r1, ↓x_r2, ↓x_r3, ↓x_enumT, ↓x_valT, ↓x_valF, ↓x_lst', ↓x_dk', ↓x_valL, ↓x_enumL, ↓x_mthL, ↓x_mth_append, ↓x_mth_extend, ↓x_mth_pop, ↓x_mth_get, ↓x_newT, ↓x_newL, ↓x_dicR, ↓x_add, ↓x_sub, ↓x_addB, ↓x_subB, ↓x_mul, ↓x_fdiv, ↓x_mod, ↓x_pow, ↓x_tadd, ↓x_tmul, ↓x_ladd, ↓x_lt, ↓x_le, ↓x_gt, ↓x_ge, ↓x_gtT, ↓x_is, ↓x_isnt, ↓x_eq, ↓x_ne, ↓x_inn, ↓x_nin, ↓x_tix, ↓x_rix, ↓x_ixL, ↓x_ixD, ↓x_setD, ↓x_stD, ↓x_stL, ↓x_app, ↓x_if, ↓x_ext, ↓x_pop, ↓x_lenT, ↓x_lenR, ↓x_lenL, ↓x_listT, ↓x_listL, ↓x_tupL, ↓x_tupT, ↓x_sortT, ↓x_sortL, ↓x_all, ↓x_any, ↓x_sum, ↓x_max2, ↓x_min2, ↓x_maxL, ↓x_minL, ↓x_abs, ↓x_tointB, ↓x_toint, ↓x_repr, ↓x_rep, ↓x_slcT, ↓x_slcF, ↓x_slcL, ↓x_revL, ↓x_revT, ↓x_strB, ↓x_strI, ↓x_lsetT, ↓x_ssetL, ↓x_isi_int, ↓x_isi_bool, ↓x_isi_NoneType, ↓x_isi_str, ↓x_isi_tuple, ↓x_isi_list, ↓x_xcq, ↓gx_bd, ↓gx_ok, ↓x_loopN, ↓x_loopC, ↓x_loopB, ↓x_loopR, ↓x_loopX, ty_NoneType_int, ty_NoneType_bool, ty_NoneType_str, ty_NoneType_list, ty_NoneType_tuple, ty_NoneType_dict, ty_int_int, ty_int_bool, ty_int_str, ty_int_list, ty_int_tuple, ty_int_dict, ty_bool_int, ty_bool_bool, ty_bool_str, ty_bool_list, ty_bool_tuple, ty_bool_dict, ty_str_int, ty_str_bool, ty_str_str, ty_str_list, ty_str_tuple, ty_str_dict, ty_tuple_int, ty_tuple_bool, ty_tuple_str, ty_tuple_list, ty_tuple_tuple, ty_tuple_dict, ty_list_int, ty_list_bool, ty_list_str, ty_list_list, ty_list_tuple, ty_list_dict, ty_dict_int, ty_dict_bool, ty_dict_str, ty_dict_list, ty_dict_tuple, ty_dict_dict, at_0, at_1, at_2, at_3, at_4, nat_0, nat_1, nat_2, nat_3, nat_4, nat_5, nat_6, at_end, at_end1, at_end2, at_end3, bools_t, all_t, Nat.reduceLT, Nat.reduceLeDiff, Int.reduceLT, Int.reduceLE, Int.reduceAdd, Int.reduceSub, Int.reduceMul, Int.reducePow, Int.reduceToNat, Int.reduceNeg, ifx_t, ifx_f, ifx_n, gx_ok, eqT_int, List.getElem?_cons_zero, List.getElem?_cons_succ, List.set_cons_zero, List.set_cons_succ, List.map_cons, List.map_nil, List.nil_append, List.cons_append, List.replicate_succ, List.replicate_zero, List.length_cons, List.length_nil, List.any_cons, List.any_nil, Nat.reduceAdd, Nat.reduceSub, Bool.or_false, Bool.or_true, Bool.false_or, Bool.true_or, Bool.not_true, Bool.not_false, Option.map_some, Option.bind_some, decide_true, decide_false, true_and, and_true, wipeL, ↓gg_KINDS, ↓kr_led_0, ↓kr_led_1, ↓xr_need_web_1, ↓tx__law_told_BadWeb, ↓tx__law_told_BadRenaming, ↓td_led_1, ↓td_led_2])
  | `(tactic| simp_arith [$es,*]) => `(tactic| simp only [↓x_var, ↓x_int, ↓x_bl, ↓x_non, ↓x_str, ↓x_bin, ↓x_cmp, ↓x_idx, ↓x_neg, ↓x_not, ↓x_isN, ↓x_isnN, ↓x_rev, ↓x_gl0, ↓x_glc, ↓x_gl1, ↓x_sset, ↓x_lset, ↓x_isiT, ↓x_chn, ↓x_ite, ↓x_and, ↓x_or, ↓x_and1, ↓x_or1, ↓x_and2, ↓x_or2, ↓x_tup, ↓x_lst, ↓x_dic, ↓x_slc, ↓x_call, ↓x_new, ↓x_callK, ↓x_blt, ↓x_mth, ↓x_rngL, ↓x_rngT, ↓x_comp, ↓x_told, ↓x_enil, ↓x_econs, ↓x_kv0, ↓x_kv, ↓x_ono, ↓x_oso, ↓x_cno, ↓x_cso, ↓x_val, ↓x_rng1, ↓x_rng2, ↓x_rng3, ↓x_enum, ↓x_gvar, ↓x_gtup, ↓x_gtupR, ↓x_gsub, ↓x_gnil, ↓x_gcons, ↓x_snil, ↓x_scons, ↓x_pass, ↓x_expr, ↓x_ret, ↓x_retN, ↓x_set, ↓x_aug, ↓x_augO, ↓x_augA, ↓x_augS, ↓x_iff, ↓x_for, ↓x_whl, ↓x_brk, ↓x_cnt, ↓x_seqN, ↓x_seqR, ↓x_seqB, ↓x_exprX, ↓x_retX, ↓x_setX, ↓x_raise, ↓x_exO, ↓x_exX, ↓x_stO, ↓x_stX, ↓x_flO, ↓x_flE, ↓x_tdO, ↓x_seqX, ↓x_seqC, ↓x_finR, ↓x_finN, ↓x_lk, ↓x_negR, ↓x_negB, ↓x_notR, ↓x_cnd, ↓x_oiR, ↓x_opt, ↓x_ob, ↓x_r1, ↓x_r2, ↓x_r3, ↓x_enumT, ↓x_valT, ↓x_valF, ↓x_lst', ↓x_dk', ↓x_valL, ↓x_enumL, ↓x_mthL, ↓x_mth_append, ↓x_mth_extend, ↓x_mth_pop, ↓x_mth_get, ↓x_newT, ↓x_newL, ↓x_dicR, ↓x_add, ↓x_sub, ↓x_addB, ↓x_subB, ↓x_mul, ↓x_fdiv, ↓x_mod, ↓x_pow, ↓x_tadd, ↓x_tmul, ↓x_ladd, ↓x_lt, ↓x_le, ↓x_gt, ↓x_ge, ↓x_gtT, ↓x_is, ↓x_isnt, ↓x_eq, ↓x_ne, ↓x_inn, ↓x_nin, ↓x_tix, ↓x_rix, ↓x_ixL, ↓x_ixD, ↓x_setD, ↓x_stD, ↓x_stL, ↓x_app, ↓x_if, ↓x_ext, ↓x_pop, ↓x_lenT, ↓x_lenR, ↓x_lenL, ↓x_listT, ↓x_listL, ↓x_tupL, ↓x_tupT, ↓x_sortT, ↓x_sortL, ↓x_all, ↓x_any, ↓x_sum, ↓x_max2, ↓x_min2, ↓x_maxL, ↓x_minL, ↓x_abs, ↓x_tointB, ↓x_toint, ↓x_repr, ↓x_rep, ↓x_slcT, ↓x_slcF, ↓x_slcL, ↓x_revL, ↓x_revT, ↓x_strB, ↓x_strI, ↓x_lsetT, ↓x_ssetL, ↓x_isi_int, ↓x_isi_bool, ↓x_isi_NoneType, ↓x_isi_str, ↓x_isi_tuple, ↓x_isi_list, ↓x_xcq, ↓gx_bd, ↓gx_ok, ↓x_loopN, ↓x_loopC, ↓x_loopB, ↓x_loopR, ↓x_loopX, ty_NoneType_int, ty_NoneType_bool, ty_NoneType_str, ty_NoneType_list, ty_NoneType_tuple, ty_NoneType_dict, ty_int_int, ty_int_bool, ty_int_str, ty_int_list, ty_int_tuple, ty_int_dict, ty_bool_int, ty_bool_bool, ty_bool_str, ty_bool_list, ty_bool_tuple, ty_bool_dict, ty_str_int, ty_str_bool, ty_str_str, ty_str_list, ty_str_tuple, ty_str_dict, ty_tuple_int, ty_tuple_bool, ty_tuple_str, ty_tuple_list, ty_tuple_tuple, ty_tuple_dict, ty_list_int, ty_list_bool, ty_list_str, ty_list_list, ty_list_tuple, ty_list_dict, ty_dict_int, ty_dict_bool, ty_dict_str, ty_dict_list, ty_dict_tuple, ty_dict_dict, at_0, at_1, at_2, at_3, at_4, nat_0, nat_1, nat_2, nat_3, nat_4, nat_5, nat_6, at_end, at_end1, at_end2, at_end3, bools_t, all_t, Nat.reduceLT, Nat.reduceLeDiff, Int.reduceLT, Int.reduceLE, Int.reduceAdd, Int.reduceSub, Int.reduceMul, Int.reducePow, Int.reduceToNat, Int.reduceNeg, ifx_t, ifx_f, ifx_n, gx_ok, eqT_int, List.getElem?_cons_zero, List.getElem?_cons_succ, List.set_cons_zero, List.set_cons_succ, List.map_cons, List.map_nil, List.nil_append, List.cons_append, List.replicate_succ, List.replicate_zero, List.length_cons, List.length_nil, List.any_cons, List.any_nil, Nat.reduceAdd, Nat.reduceSub, Bool.or_false, Bool.or_true, Bool.false_or, Bool.true_or, Bool.not_true, Bool.not_false, Option.map_some, Option.bind_some, decide_true, decide_false, true_and, and_true, wipeL, ↓gg_KINDS, ↓kr_led_0, ↓kr_led_1, ↓xr_need_web_1, ↓tx__law_told_BadWeb, ↓tx__law_told_BadRenaming, ↓td_led_1, ↓td_led_2, $es,*])
local instance kMk : Mkr := noMk
theorem perm_of_sub {α : Type} [DecidableEq α] : ∀ {L M : List α}, L.Nodup → (∀ x ∈ L, x ∈ M) → M.length ≤ L.length → L.Perm M
  | [], M, _, _, hl => by
    have : M = [] := List.eq_nil_of_length_eq_zero (by simpa using hl)
    rw [this]
  | a :: L, M, nd, sub, hl => by
    obtain ⟨na, nd2⟩ := List.nodup_cons.mp nd
    have ha := sub a List.mem_cons_self
    have p := List.perm_cons_erase ha
    refine (List.Perm.cons a (perm_of_sub nd2 (fun x hx => ?_) ?_)).trans p.symm
    · exact (List.mem_erase_of_ne fun e => na (by rw [← e]; exact hx)).mpr (sub x (List.mem_cons_of_mem _ hx))
    · rw [List.length_erase_of_mem ha]
      simp only [List.length_cons] at hl
      omega
/-! ### renamings -/
def rI (n : Nat) : List Int := (List.range n).map fun i => (0 : Int) + (i : Nat)
theorem rangeT_rI (n : Int) : rangeT 0 n = (rI n.toNat).map T.int := by
  unfold rangeT rI
  rw [List.map_map, Int.sub_zero]
  rfl
theorem rI_len (n : Nat) : (rI n).length = n := by simp [rI]
theorem rI_mem {n : Nat} {i : Int} : i ∈ rI n ↔ 0 ≤ i ∧ i < n := by
  unfold rI
  constructor
  · intro h
    obtain ⟨j, hj, rfl⟩ := List.mem_map.mp h
    have := List.mem_range.mp hj
    omega
  · intro h
    exact List.mem_map.mpr ⟨i.toNat, List.mem_range.mpr (by omega), by omega⟩
theorem rI_get {n i : Nat} (h : i < n) : (rI n)[i]? = some (i : Int) := by
  unfold rI
  rw [List.getElem?_map, List.getElem?_range h]
  simp
theorem rI_lt (n : Nat) : (rI n).Pairwise (· < ·) := by
  unfold rI
  rw [List.pairwise_map]
  exact (List.pairwise_lt_range (n := n)).imp fun {a b} h => by omega
theorem rI_nd (n : Nat) : (rI n).Nodup := (rI_lt n).imp fun {a b} h => by omega
theorem srtI_eq {L M : List Int} (h : L.Perm M) : srt PyData.int L = srt PyData.int M := by
  have p : (srt PyData.int L).Perm (srt PyData.int M) := ((srt_perm _ L).trans h).trans (srt_perm _ M).symm
  exact p.eq_of_pairwise (fun a b _ _ h1 h2 => Int.le_antisymm h1 h2) (srt_ints_le L) (srt_ints_le M)
theorem srtI_id {L : List Int} (h : L.Pairwise (· ≤ ·)) : srt PyData.int L = L := by
  exact (srt_perm _ L).eq_of_pairwise (fun a b _ _ h1 h2 => Int.le_antisymm h1 h2) (srt_ints_le L) h
/-- a renaming of n places -/
def RenL (n : Int) (L : List Int) : Prop := L.Perm (rI n.toNat)
theorem srt_ren {n : Int} {L : List Int} : srt PyData.int L = rI n.toNat ↔ RenL n L := by
  constructor
  · intro h
    have := srt_perm PyData.int L
    rw [h] at this
    exact this.symm
  · intro h
    rw [srtI_eq h]
    exact srtI_id ((rI_lt _).imp fun {a b} q => Int.le_of_lt q)
theorem sdd_nd (L : List Int) : (sdd L).Nodup := (sdd_lt L).imp fun {a b} h => Int.ne_of_lt h
theorem ren_sdd {n : Int} {L : List Int} (hn : 0 ≤ n) (hl : (L.length : Int) = n) : (RenL n L) ↔ ((∀ i ∈ L, 0 ≤ i ∧ i < n) ∧ ((sdd L).length : Int) = n) := by
  constructor
  · intro h
    refine ⟨fun i hi => ?_, ?_⟩
    · have := rI_mem.mp (h.mem_iff.mp hi)
      omega
    · have e : sdd L = rI n.toNat := lt_ext (sdd_lt L) (rI_lt _) fun k => by rw [sdd_mem, h.mem_iff]
      rw [e, rI_len]
      omega
  · rintro ⟨h1, h2⟩
    have sub : ∀ k ∈ sdd L, k ∈ L := fun k hk => (sdd_mem L).mp hk
    have p1 : (sdd L).Perm L := perm_of_sub (sdd_nd L) sub (by omega)
    have p2 : (sdd L).Perm (rI n.toNat) := perm_of_sub (sdd_nd L) (fun k hk => rI_mem.mpr (by have := h1 k (sub k hk); omega)) (by rw [rI_len]; omega)
    exact p1.symm.trans p2
def unint : T → Int
  | .int i => i
  | _ => 0
theorem unint_map (L : List Int) : (L.map T.int).map unint = L := by
  rw [List.map_map]
  exact List.map_id'' (fun t => rfl) L
theorem ints_ex : ∀ {xs : List T}, xs.all isI = true → xs = (xs.map unint).map T.int
  | [], _ => rfl
  | x :: xs, h => by
    rw [List.all_cons, Bool.and_eq_true] at h
    obtain ⟨i, rfl⟩ := isI_ex h.1
    rw [List.map_cons, List.map_cons, ← ints_ex h.2]
    rfl
/-- a renaming of m places, among values of any kind -/
def renB (m : Int) (v : T) : Bool := match v with
  | .tup xs => decide ((xs.length : Int) = m) && (xs.all isI && decide (srt PyData.int (xs.map unint) = rI m.toNat))
  | _ => false
theorem renB_ex {m : Int} {v : T} (h : renB m v = true) : ∃ L, v = .tup (L.map T.int) ∧ RenL m L ∧ (L.length : Int) = m := by
  unfold renB at h
  split at h
  · rename_i xs
    rw [Bool.and_eq_true, Bool.and_eq_true, decide_eq_true_eq, decide_eq_true_eq] at h
    exact ⟨xs.map unint, by rw [← ints_ex h.2.1], srt_ren.mp h.2.2, by rw [List.length_map]; exact h.1⟩
  · cases h
theorem renB_of {m : Int} {L : List Int} (h : RenL m L) (hm : 0 ≤ m) : renB m (.tup (L.map T.int)) = true := by
  have hl : (L.length : Int) = m := by rw [h.length_eq, rI_len]; omega
  unfold renB
  dsimp only
  rw [List.length_map, unint_map, decide_eq_true hl, decide_eq_true (srt_ren.mpr h), Bool.true_and, Bool.and_true, List.all_map, List.all_eq_true]
  exact fun _ _ => rfl
theorem btwI {v : T} {a b : Int} : btwB v a b = true → isI v = true := fun h => by
  cases v <;> first | rfl | cases h
theorem btwB_all {m : Int} {xs : List T} (h : xs.all isI = true) : (xs.all fun v => btwB v 0 (m - 1)) = decide (∀ i ∈ xs.map unint, 0 ≤ i ∧ i < m) := by
  rw [Bool.eq_iff_iff, List.all_eq_true, decide_eq_true_eq]
  constructor
  · intro q i hi
    obtain ⟨v, hv, rfl⟩ := List.mem_map.mp hi
    obtain ⟨j, rfl, h1, h2⟩ := btwB_ex (q v hv)
    show 0 ≤ j ∧ j < m
    omega
  · intro q v hv
    obtain ⟨i, rfl⟩ := isI_ex (List.all_eq_true.mp h v hv)
    have := q i (List.mem_map.mpr ⟨_, hv, rfl⟩)
    show (decide (0 ≤ i) && decide (i ≤ m - 1)) = true
    simp
    omega
/-! ### a web led by a renaming -/
def ledT (L : List Int) (t : Tie) : Tie := (L.getD t.1.toNat 0, L.getD t.2.1.toNat 0, t.2.2)
def ledW (w : Web) (L : List Int) : Web := (w.1, srt tieD (w.2.map (ledT L)))
theorem tieD_anti {a b : Tie} (h1 : W.dataLe false tieD a b = true) (h2 : W.dataLe false tieD b a = true) : a = b := by
  rw [dataLe_tie] at h1 h2
  obtain ⟨a1, a2, a3⟩ := a
  obtain ⟨b1, b2, b3⟩ := b
  simp only [tieI, gtI, Bool.not_eq_true'] at h1 h2
  by_cases e1 : a1 = b1
  · subst e1
    by_cases e2 : a2 = b2
    · subst e2
      by_cases e3 : a3 = b3
      · subst e3
        rfl
      · have : a3 < b3 ∨ b3 < a3 := by omega
        rcases this with q | q <;> simp [e3, q, Ne.symm e3, Int.lt_asymm q] at h1 h2
    · have : a2 < b2 ∨ b2 < a2 := by omega
      rcases this with q | q <;> simp [e2, q, Ne.symm e2, Int.lt_asymm q] at h1 h2
  · have : a1 < b1 ∨ b1 < a1 := by omega
    rcases this with q | q <;> simp [e1, q, Ne.symm e1, Int.lt_asymm q] at h1 h2
theorem srt_eq {L M : List Tie} (h : L.Perm M) : srt tieD L = srt tieD M :=
  (((srt_perm _ L).trans h).trans (srt_perm _ M).symm).eq_of_pairwise (fun a b _ _ h1 h2 => tieD_anti h1 h2) (srt_pw tieD L) (srt_pw tieD M)
theorem srt_id {L : List Tie} (h : ordB L = true) : srt tieD L = L :=
  (srt_perm _ L).eq_of_pairwise (fun a b _ _ h1 h2 => tieD_anti h1 h2) (srt_pw tieD L) ((ordB_pw L).mp h)
theorem ren_len {n : Int} {L : List Int} (h : RenL n L) : L.length = n.toNat := by rw [h.length_eq, rI_len]
theorem ren_get {n : Int} {L : List Int} (h : RenL n L) {a : Int} (ha : 0 ≤ a ∧ a < n) : L[a.toNat]? = some (L.getD a.toNat 0) ∧ 0 ≤ L.getD a.toNat 0 ∧ L.getD a.toNat 0 < n := by
  have hl := ren_len h
  have hlt : a.toNat < L.length := by omega
  rw [List.getD_eq_getElem?_getD, List.getElem?_eq_getElem hlt]
  have := rI_mem.mp (h.mem_iff.mp (List.getElem_mem hlt))
  exact ⟨rfl, by simp only [Option.getD_some]; omega, by simp only [Option.getD_some]; omega⟩
theorem ren_ne {n : Int} {L : List Int} (h : RenL n L) {a b : Int} (ha : 0 ≤ a ∧ a < n) (hb : 0 ≤ b ∧ b < n) (ne : a ≠ b) : L.getD a.toNat 0 ≠ L.getD b.toNat 0 := by
  intro e
  have nd : L.Nodup := h.nodup_iff.mpr (rI_nd _)
  have h1 := (ren_get h ha).1
  have h2 := (ren_get h hb).1
  rw [e] at h1
  have := (List.getElem?_inj (List.getElem?_eq_some_iff.mp h1).1 nd).mp (h1.trans h2.symm)
  omega
theorem led_good {n k : Int} {L : List Int} {t : Tie} (h : RenL n L) (g : GoodTie n k t) : GoodTie n k (ledT L t) :=
  ⟨(ren_get h g.1).2, (ren_get h g.2.1).2, ren_ne h g.1 g.2.1 g.2.2.1, g.2.2.2⟩
theorem led_gwk {k : Int} {w : Web} {L : List Int} (h : RenL w.1 L) (g : GWk k w) : GWk k (ledW w L) :=
  ⟨g.n1, g.n9, fun t ht => by
    obtain ⟨u, hu, rfl⟩ := List.mem_map.mp ((srt_mem tieD).mp ht)
    exact led_good h (g.tie u hu), ordB_srt _, by
    show (srt tieD (w.2.map (ledT L))).length ≤ 40
    rw [srt_len, List.length_map]
    exact g.len⟩
theorem led_gw {w : Web} {L : List Int} (h : RenL w.1 L) (g : GW w) : GW (ledW w L) :=
  ⟨g.n1, fun t ht => by
    obtain ⟨u, hu, rfl⟩ := List.mem_map.mp ((srt_mem tieD).mp ht)
    exact led_good h (g.tie u hu), ordB_srt _⟩
/-- one renaming behind the other -/
def both (L M : List Int) : List Int := L.map fun i => M.getD i.toNat 0
theorem getD_both {L M : List Int} {a : Nat} (ha : a < L.length) : (both L M).getD a 0 = M.getD (L.getD a 0).toNat 0 := by
  unfold both
  rw [List.getD_eq_getElem?_getD, List.getD_eq_getElem?_getD (l := L), List.getElem?_map, List.getElem?_eq_getElem ha]
  rfl
theorem led_both {w : Web} {L M : List Int} (h : RenL w.1 L) (g : ∀ t ∈ w.2, GoodTie w.1 3 t) : ledW (ledW w L) M = ledW w (both L M) := by
  show (w.1, srt tieD ((srt tieD (w.2.map (ledT L))).map (ledT M))) = (w.1, srt tieD (w.2.map (ledT (both L M))))
  congr 1
  rw [srt_eq ((srt_perm tieD (w.2.map (ledT L))).map (ledT M)), List.map_map]
  congr 1
  refine List.map_congr_left fun t ht => ?_
  have q := g t ht
  have hl := ren_len h
  have h1 := q.1
  have h2 := q.2.1
  show (M.getD (L.getD t.1.toNat 0).toNat 0, M.getD (L.getD t.2.1.toNat 0).toNat 0, t.2.2) = ((both L M).getD t.1.toNat 0, (both L M).getD t.2.1.toNat 0, t.2.2)
  rw [getD_both (by omega), getD_both (by omega)]
theorem led_id {w : Web} {L : List Int} (h : ∀ a : Int, 0 ≤ a ∧ a < w.1 → L.getD a.toNat 0 = a) (g : ∀ t ∈ w.2, GoodTie w.1 3 t) (o : ordB w.2 = true) : ledW w L = w := by
  show (w.1, srt tieD (w.2.map (ledT L))) = w
  have e : w.2.map (ledT L) = w.2 := by
    rw [List.map_congr_left (g := id) fun t ht => ?_, List.map_id]
    have q := g t ht
    show (L.getD t.1.toNat 0, L.getD t.2.1.toNat 0, t.2.2) = t
    rw [h _ q.1, h _ q.2.1]
  rw [e, srt_id o]
theorem rI_getD {n : Int} {a : Int} (ha : 0 ≤ a ∧ a < n) : (rI n.toNat).getD a.toNat 0 = a := by
  rw [List.getD_eq_getElem?_getD, rI_get (by omega)]
  simp
  omega
end K02


set_option Elab.async false
set_option linter.all false
set_option maxRecDepth 100000
namespace K02
open PySem MP L2
local macro_rules
  | `(tactic| simp_arith) => `(tactic| simp only [↓x_var, ↓x_int, ↓x_bl, ↓x_non, ↓x_str, ↓x_bin, ↓x_cmp, ↓x_idx, ↓x_neg, ↓x_not, ↓x_isN, ↓x_isnN, ↓x_rev, ↓x_gl0, ↓x_glc, ↓x_gl1, ↓x_sset, ↓x_lset, ↓x_isiT, ↓x_chn, ↓x_ite, ↓x_and, ↓x_or, ↓x_and1, ↓x_or1, ↓x_and2, ↓x_or2, ↓x_tup, ↓x_lst, ↓x_dic, ↓x_slc, ↓x_call, ↓x_new, ↓x_callK, ↓x_blt, ↓x_mth, ↓x_rngL, ↓x_rngT, ↓x_comp, ↓x_told, ↓x_enil, ↓x_econs, ↓x_kv0, ↓x_kv, ↓x_ono, ↓x_oso, ↓x_cno, ↓x_cso, ↓x_val, ↓x_rng1, ↓x_rng2, ↓x_rng3, ↓x_enum, ↓x_gvar, ↓x_gtup, ↓x_gtupR, ↓x_gsub, ↓x_gnil, ↓x_gcons, ↓x_snil, ↓x_scons, ↓x_pass, ↓x_expr, ↓x_ret, ↓x_retN, ↓x_set, ↓x_aug, ↓x_augO, ↓x_augA, ↓x_augS, ↓x_iff, ↓x_for, ↓x_whl, ↓x_brk, ↓x_cnt, ↓x_seqN, ↓x_seqR, ↓x_seqB, ↓x_exprX, ↓x_retX, ↓x_setX, ↓x_raise, ↓x_exO, ↓x_exX, ↓x_stO, ↓x_stX, ↓x_flO, ↓x_flE, ↓x_tdO, ↓x_seqX, ↓x_seqC, ↓x_finR, ↓x_finN, ↓x_lk, ↓x_negR, ↓x_negB, ↓x_notR, ↓x_cnd, ↓x_oiR, ↓x_opt, ↓x_ob, ↓x_r1, ↓x_r2, ↓x_r3, ↓x_enumT, ↓x_valT, ↓x_valF, ↓x_lst', ↓x_dk', ↓x_valL, ↓x_enumL, ↓x_mthL, ↓x_mth_append, ↓x_mth_extend, ↓x_mth_pop, ↓x_mth_get, ↓x_newT, ↓x_newL, ↓x_dicR, ↓x_add, ↓x_sub, ↓x_addB, ↓x_subB, ↓x_mul, ↓x_fdiv, ↓x_mod, ↓x_pow, ↓x_tadd, ↓x_tmul, ↓x_ladd, ↓x_lt, ↓x_le, ↓x_gt, ↓x_ge, ↓x_gtT, ↓x_is, ↓x_isnt, ↓x_eq, ↓x_ne, ↓x_inn, ↓x_nin, ↓x_tix, ↓x_rix, ↓x_ixL, ↓x_ixD, ↓x_setD, ↓x_stD, ↓x_stL, ↓x_app, ↓x_if, ↓x_ext, ↓x_pop, ↓x_lenT, ↓x_lenR, ↓x_lenL, ↓x_listT, ↓x_listL, ↓x_tupL, ↓x_tupT, ↓x_sortT, ↓x_sortL, ↓x_all, ↓x_any, ↓x_sum, ↓x_max2, ↓x_min2, ↓x_maxL, ↓x_minL, ↓x_abs, ↓x_tointB, ↓x_toint, ↓x_repr, ↓x_rep, ↓x_slcT, ↓x_slcF, ↓x_slcL, ↓x_revL, ↓x_revT, ↓x_strB, ↓x_strI, ↓x_lsetT, ↓x_ssetL, ↓x_isi_int, ↓x_isi_bool, ↓x_isi_NoneType, ↓x_isi_str, ↓x_isi_tuple, ↓x_isi_list, ↓x_xcq, ↓gx_bd, ↓gx_ok, ↓x_loopN, ↓x_loopC, ↓x_loopB, ↓x_loopR, ↓x_loopX, ty_NoneType_int, ty_NoneType_bool, ty_NoneType_str, ty_NoneType_list, ty_NoneType_tuple, ty_NoneType_dict, ty_int_int, ty_int_bool, ty_int_str, ty_int_list, ty_int_tuple, ty_int_dict, ty_bool_int, ty_bool_bool, ty_bool_str, ty_bool_list, ty_bool_tuple, ty_bool_dict, ty_str_int, ty_str_bool, ty_str_str, ty_str_list, ty_str_tuple, ty_str_dict, ty_tuple_int, ty_tuple_bool, ty_tuple_str, ty_tuple_list, ty_tuple_tuple, ty_tuple_dict, ty_list_int, ty_list_bool, ty_list_str, ty_list_list, ty_list_tuple, ty_list_dict, ty_dict_int, ty_dict_bool, ty_dict_str, ty_dict_list, ty_dict_tuple, ty_dict_dict, at_0, at_1, at_2, at_3, at_4, nat_0, nat_1, nat_2, nat_3, nat_4, nat_5, nat_6, at_end, at_end1, at_end2, at_end3, bools_t, all_t, Nat.reduceLT, Nat.reduceLeDiff, Int.reduceLT, Int.reduceLE, Int.reduceAdd, Int.reduceSub, Int.reduceMul, Int.reducePow, Int.reduceToNat, Int.reduceNeg, ifx_t, ifx_f, ifx_n, gx_ok, eqT_int, List.getElem?_cons_zero, List.getElem?_cons_succ, List.set_cons_zero, List.set_cons_succ, List.map_cons, List.map_nil, List.nil_append, List.cons_append, List.replicate_succ, List.replicate_zero, List.length_cons, List.length_nil, List.any_cons, List.any_nil, Nat.reduceAdd, Nat.reduceSub, Bool.or_false, Bool.or_true, Bool.false_or, Bool.true_or, Bool.not_true, Bool.not_false, Option.map_some, Option.bind_some, decide_true, decide_false, true_and, and_true, wipeL, ↓gg_KINDS, ↓kr_led_0, ↓kr_led_1, ↓xr_need_web_1, ↓tx__law_told_BadWeb, ↓tx__law_told_BadRenaming, ↓td_led_1, ↓td_led_2])
  | `(tactic| simp_arith [$es,*]) => `(tactic| simp only [↓x_var, ↓x_int, ↓x_bl, ↓x_non, ↓x_str, ↓x_bin, ↓x_cmp, ↓x_idx, ↓x_neg, ↓x_not, ↓x_isN, ↓x_isnN, ↓x_rev, ↓x_gl0, ↓x_glc, ↓x_gl1, ↓x_sset, ↓x_lset, ↓x_isiT, ↓x_chn, ↓x_ite, ↓x_and, ↓x_or, ↓x_and1, ↓x_or1, ↓x_and2, ↓x_or2, ↓x_tup, ↓x_lst, ↓x_dic, ↓x_slc, ↓x_call, ↓x_new, ↓x_callK, ↓x_blt, ↓x_mth, ↓x_rngL, ↓x_rngT, ↓x_comp, ↓x_told, ↓x_enil, ↓x_econs, ↓x_kv0, ↓x_kv, ↓x_ono, ↓x_oso, ↓x_cno, ↓x_cso, ↓x_val, ↓x_rng1, ↓x_rng2, ↓x_rng3, ↓x_enum, ↓x_gvar, ↓x_gtup, ↓x_gtupR, ↓x_gsub, ↓x_gnil, ↓x_gcons, ↓x_snil, ↓x_scons, ↓x_pass, ↓x_expr, ↓x_ret, ↓x_retN, ↓x_set, ↓x_aug, ↓x_augO, ↓x_augA, ↓x_augS, ↓x_iff, ↓x_for, ↓x_whl, ↓x_brk, ↓x_cnt, ↓x_seqN, ↓x_seqR, ↓x_seqB, ↓x_exprX, ↓x_retX, ↓x_setX, ↓x_raise, ↓x_exO, ↓x_exX, ↓x_stO, ↓x_stX, ↓x_flO, ↓x_flE, ↓x_tdO, ↓x_seqX, ↓x_seqC, ↓x_finR, ↓x_finN, ↓x_lk, ↓x_negR, ↓x_negB, ↓x_notR, ↓x_cnd, ↓x_oiR, ↓x_opt, ↓x_ob, ↓x_r1, ↓x_r2, ↓x_r3, ↓x_enumT, ↓x_valT, ↓x_valF, ↓x_lst', ↓x_dk', ↓x_valL, ↓x_enumL, ↓x_mthL, ↓x_mth_append, ↓x_mth_extend, ↓x_mth_pop, ↓x_mth_get, ↓x_newT, ↓x_newL, ↓x_dicR, ↓x_add, ↓x_sub, ↓x_addB, ↓x_subB, ↓x_mul, ↓x_fdiv, ↓x_mod, ↓x_pow, ↓x_tadd, ↓x_tmul, ↓x_ladd, ↓x_lt, ↓x_le, ↓x_gt, ↓x_ge, ↓x_gtT, ↓x_is, ↓x_isnt, ↓x_eq, ↓x_ne, ↓x_inn, ↓x_nin, ↓x_tix, ↓x_rix, ↓x_ixL, ↓x_ixD, ↓x_setD, ↓x_stD, ↓x_stL, ↓x_app, ↓x_if, ↓x_ext, ↓x_pop, ↓x_lenT, ↓x_lenR, ↓x_lenL, ↓x_listT, ↓x_listL, ↓x_tupL, ↓x_tupT, ↓x_sortT, ↓x_sortL, ↓x_all, ↓x_any, ↓x_sum, ↓x_max2, ↓x_min2, ↓x_maxL, ↓x_minL, ↓x_abs, ↓x_tointB, ↓x_toint, ↓x_repr, ↓x_rep, ↓x_slcT, ↓x_slcF, ↓x_slcL, ↓x_revL, ↓x_revT, ↓x_strB, ↓x_strI, ↓x_lsetT, ↓x_ssetL, ↓x_isi_int, ↓x_isi_bool, ↓x_isi_NoneType, ↓x_isi_str, ↓x_isi_tuple, ↓x_isi_list, ↓x_xcq, ↓gx_bd, ↓gx_ok, ↓x_loopN, ↓x_loopC, ↓x_loopB, ↓x_loopR, ↓x_loopX, ty_NoneType_int, ty_NoneType_bool, ty_NoneType_str, ty_NoneType_list, ty_NoneType_tuple, ty_NoneType_dict, ty_int_int, ty_int_bool, ty_int_str, ty_int_list, ty_int_tuple, ty_int_dict, ty_bool_int, ty_bool_bool, ty_bool_str, ty_bool_list, ty_bool_tuple, ty_bool_dict, ty_str_int, ty_str_bool, ty_str_str, ty_str_list, ty_str_tuple, ty_str_dict, ty_tuple_int, ty_tuple_bool, ty_tuple_str, ty_tuple_list, ty_tuple_tuple, ty_tuple_dict, ty_list_int, ty_list_bool, ty_list_str, ty_list_list, ty_list_tuple, ty_list_dict, ty_dict_int, ty_dict_bool, ty_dict_str, ty_dict_list, ty_dict_tuple, ty_dict_dict, at_0, at_1, at_2, at_3, at_4, nat_0, nat_1, nat_2, nat_3, nat_4, nat_5, nat_6, at_end, at_end1, at_end2, at_end3, bools_t, all_t, Nat.reduceLT, Nat.reduceLeDiff, Int.reduceLT, Int.reduceLE, Int.reduceAdd, Int.reduceSub, Int.reduceMul, Int.reducePow, Int.reduceToNat, Int.reduceNeg, ifx_t, ifx_f, ifx_n, gx_ok, eqT_int, List.getElem?_cons_zero, List.getElem?_cons_succ, List.set_cons_zero, List.set_cons_succ, List.map_cons, List.map_nil, List.nil_append, List.cons_append, List.replicate_succ, List.replicate_zero, List.length_cons, List.length_nil, List.any_cons, List.any_nil, Nat.reduceAdd, Nat.reduceSub, Bool.or_false, Bool.or_true, Bool.false_or, Bool.true_or, Bool.not_true, Bool.not_false, Option.map_some, Option.bind_some, decide_true, decide_false, true_and, and_true, wipeL, ↓gg_KINDS, ↓kr_led_0, ↓kr_led_1, ↓xr_need_web_1, ↓tx__law_told_BadWeb, ↓tx__law_told_BadRenaming, ↓td_led_1, ↓td_led_2, $es,*])
section
variable {h : Hh} {n : Nat} {v : T} {S : List Nat} {k : Nat}
theorem isplace {w : Web} (kn : Knd h v) : callN D (n + 3) "is_place" [webT w, v] h = .ok (.bl (btwB v 0 (w.1 - 1))) h := by
  refine of_gx0 ?_
  refine call_gx f_is_place rfl ?_
  unfold webT
  simp_arith [btw (n := n) kn]
theorem renB_tup {m : Int} {xs : List T} : renB m (.tup xs) = (decide ((xs.length : Int) = m) && (xs.all isI && decide (srt PyData.int (xs.map unint) = rI m.toNat))) := rfl
theorem isren {w : Web} (g : 1 ≤ w.1) (hw : w.1 < 1000) (o : OkV S k h v) (hk : k ≤ 10000000) : ∃ h', callN D (n + 4) "is_renaming" [webT w, v] h = .ok (.bl (renB w.1 v)) h' ∧ Keep [] h h' := by
  refine of_gx ?_
  refine call_gx f_is_renaming rfl ?_
  cases e : isT v with
  | false =>
    simp_arith [isi_t o.knd, e]
    exact ⟨(by cases v <;> first | rfl | cases e), .refl⟩
  | true =>
    obtain ⟨xs, rfl⟩ := isT_ex e
    have ol := o.len
    simp_arith [isi_t o.knd, e, webT]
    refine ifx_by (fun q => ?_) (fun q => ?_)
    · simp_arith
      refine comp_map (fun t => .bl (btwB t 0 (w.1 - 1))) (fun h' => h' = h) rfl (by omega) (fun _ _ p hp => by simp at hp) (fun x h1 hx hj => ?_) (fun h1 hj => ?_)
      · subst hj
        simp_arith [isplace (n := n) (w := w) (o.items x hx).knd]
      · subst hj
        simp_arith [boolsT_f (fun t => btwB t 0 (w.1 - 1)) (fun t => T.bl (btwB t 0 (w.1 - 1))) (fun _ => rfl), all_id]
        have kp : Keep [] h1 (h1 ++ [O.lst (xs.map fun t => T.bl (btwB t 0 (w.1 - 1)))]) := .app _
        refine ifx_cs (fun q2 => ?_) (fun q2 => ?_)
        · have ai : xs.all isI = true := List.all_eq_true.mpr fun x hx => btwI (List.all_eq_true.mp q2 x hx)
          rw [btwB_all ai, decide_eq_true_eq] at q2
          have ex := ints_ex ai
          generalize hL : xs.map unint = L at q2 ex
          have hl : L.length = xs.length := by rw [← hL, List.length_map]
          have ei : intsT xs = some L := by rw [ex]; exact intsT_map L
          simp_arith [ei, show L.length < 1000 by omega]
          refine ⟨congrArg T.bl ?_, kp⟩
          show decide (((sdd L).length : Int) = w.1) = _
          rw [renB_tup, ai, decide_eq_true q, Bool.true_and, Bool.true_and, hL]
          have z := ren_sdd (n := w.1) (L := L) (by omega) (by omega)
          rw [Bool.eq_iff_iff, decide_eq_true_eq, decide_eq_true_eq, srt_ren, z]
          exact ⟨fun q3 => ⟨q2, q3⟩, fun q3 => q3.2⟩
        · simp_arith
          refine ⟨congrArg T.bl ?_, kp⟩
          rw [renB_tup, decide_eq_true q, Bool.true_and]
          cases ai : xs.all isI with
          | false => rfl
          | true =>
            rw [btwB_all ai, decide_eq_false_iff_not] at q2
            rw [Bool.true_and]
            symm
            rw [decide_eq_false_iff_not]
            intro q3
            refine q2 fun i hi => ?_
            have := rI_mem.mp ((srt_ren.mp q3).mem_iff.mp hi)
            omega
    · simp_arith
      refine ⟨congrArg T.bl ?_, .refl⟩
      rw [renB_tup, decide_eq_false q]
      rfl
theorem lren {m : Int} (g : 1 ≤ m) (hw : m < 1000) (o : OkV S k h v) (hk : k ≤ 10000000) : ∃ h', callN D (n + 2) "_law_is_renaming" [.int m, v] h = .ok (.bl (renB m v)) h' ∧ Keep [] h h' := by
  refine of_gx ?_
  refine call_gx f__law_is_renaming rfl ?_
  cases e : isT v with
  | false =>
    simp_arith [isi_t o.knd, e]
    exact ⟨(by cases v <;> first | rfl | cases e), .refl⟩
  | true =>
    obtain ⟨xs, rfl⟩ := isT_ex e
    have ol := o.len
    simp_arith [isi_t o.knd, e]
    refine ifx_by (fun q => ?_) (fun q => ?_)
    · simp_arith
      refine comp_filter id (fun w => !isI w) (fun h' => h' = h) rfl (by omega) (fun _ _ p hp => by simp at hp) (fun w h1 hw hj => ?_) (fun h1 hj => ?_)
      · subst hj
        simp_arith [lint (n := n) (o.items w hw).knd, id]
        exact fun _ => trivial
      · subst hj
        rw [List.map_id]
        simp_arith [Nat.zero_le]
        rw [eqT_nilL at_end1 at_end]
        simp_arith
        have kp : ∀ {u w : O}, Keep [] h1 (h1 ++ [u] ++ [w]) := ((Keep.app _).trans (Keep.app _))
        have ei : (List.filter (fun w => !isI w) xs).isEmpty = xs.all isI := by
          rw [Bool.eq_iff_iff, List.isEmpty_iff, List.filter_eq_nil_iff, List.all_eq_true]
          simp
        rw [ei]
        refine ifx_cs (fun q2 => ?_) (fun q2 => ?_)
        · have ex := ints_ex q2
          generalize hL : xs.map unint = L at ex
          have hl : L.length = xs.length := by rw [← hL, List.length_map]
          subst ex
          simp_arith [fun hh => sortT_ints (h := hh) (L := L) (by omega), List.length_map, srt_len, show L.length ≤ 16777216 by omega, rgBig (i := 0) (j := m) (by omega), rangeT_rI, rI_len, show m.toNat ≤ 16777216 by omega]
          rw [eqT_of (dat_l at_end1 (pdats_ints _)) (dat_l at_end (pdats_ints _)) (shaped_ints _) (shaped_ints _), PyData.eqv, eqv_ints]
          simp_arith
          refine ⟨congrArg T.bl ?_, (kp.trans (.app _)).trans (.app _)⟩
          show decide (srt PyData.int L = rI m.toNat) = _
          rw [renB_tup, decide_eq_true q, q2, Bool.true_and, Bool.true_and, hL]
        · simp_arith
          refine ⟨congrArg T.bl ?_, kp⟩
          rw [renB_tup, decide_eq_true q, q2]
          rfl
    · simp_arith
      refine ⟨congrArg T.bl ?_, .refl⟩
      rw [renB_tup, decide_eq_false q]
      rfl
theorem at_ren {m : Int} {L : List Int} (r : RenL m L) {a : Int} (ha : 0 ≤ a ∧ a < m) : atI (L.map T.int) a = some (.int (L.getD a.toNat 0)) :=
  atI_some (j := a.toNat) (by omega) (by rw [List.getElem?_map, (ren_get r ha).1]; rfl)
theorem ledweb {w : Web} {L : List Int} (r : RenL w.1 L) (g : ∀ t ∈ w.2, GoodTie w.1 3 t) (hl : w.2.length ≤ 16777216) : ∃ h', callN D (n + 1) "led_web" [webT w, .tup (L.map T.int)] h = .ok (webT (ledW w L)) h' ∧ Keep [] h h' := by
  refine of_gx ?_
  refine call_gx f_led_web rfl ?_
  simp_arith [webT]
  refine comp_map (fun t => tieT (ledT L (untie t))) (fun h' => h' = h) rfl (by rw [List.length_map]; exact hl) (fun _ _ p hp => by simp at hp) (fun x h1 hx hj => ?_) (fun h1 hj => ?_)
  · subst hj
    obtain ⟨t, ht, rfl⟩ := List.mem_map.mp hx
    have q := g t ht
    unfold tieT
    simp_arith [at_ren r q.1, at_ren r q.2.1, Nat.reduceLeDiff]
    rfl
  · subst hj
    have e : (w.2.map tieT).map (fun t => tieT (ledT L (untie t))) = (w.2.map (ledT L)).map tieT := by
      rw [List.map_map, List.map_map]
      rfl
    have l2 : (w.2.map (ledT L)).length ≤ 16777216 := by rw [List.length_map]; exact hl
    rw [e]
    simp_arith [webT, fun hh => sortT_ties (h := hh) l2, List.length_map, srt_len, hl, Nat.reduceLeDiff]
    exact ⟨rfl, (Keep.app _).trans (Keep.app _)⟩
theorem lled {w : Web} {L : List Int} (r : RenL w.1 L) (g : ∀ t ∈ w.2, GoodTie w.1 3 t) (hl : w.2.length ≤ 16777216) : ∃ h', callN D (n + 1) "_law_led" [webT w, .tup (L.map T.int)] h = .ok (webT (ledW w L)) h' ∧ Keep [] h h' := by
  refine of_gx ?_
  refine call_gx f__law_led rfl ?_
  simp_arith [webT]
  refine comp_map (fun t => tieT (ledT L (untie t))) (fun h' => h' = h) rfl (by rw [List.length_map]; exact hl) (fun _ _ p hp => by simp at hp) (fun x h1 hx hj => ?_) (fun h1 hj => ?_)
  · subst hj
    obtain ⟨t, ht, rfl⟩ := List.mem_map.mp hx
    have q := g t ht
    unfold tieT
    simp_arith [at_ren r q.1, at_ren r q.2.1, Nat.reduceLeDiff]
    rfl
  · subst hj
    have e : (w.2.map tieT).map (fun t => tieT (ledT L (untie t))) = (w.2.map (ledT L)).map tieT := by
      rw [List.map_map, List.map_map]
      rfl
    have l2 : (w.2.map (ledT L)).length ≤ 16777216 := by rw [List.length_map]; exact hl
    rw [e]
    simp_arith [fun hh => sortT_ties (h := hh) l2, List.length_map, srt_len, hl, Nat.reduceLeDiff]
    exact ⟨rfl, (Keep.app _).trans (Keep.app _)⟩
/-! ### led: what it returns, or raises -/
theorem needweb (hk : k ≤ 10000000) (o : OkV S k h v) (e : webB v = true) : ∃ h', callN D (n + 5) "need_web" [v] h = .ok .non h' ∧ Keep [] h h' := by
  refine of_gx ?_
  refine call_gx f_need_web rfl ?_
  obtain ⟨h1, e1, k1⟩ := web (n := n) hk o
  simp_arith [e1, e]
  exact k1
theorem needwebX (hk : k ≤ 10000000) (o : OkV S k h v) (e : webB v = false) : ∃ h', callN D (n + 5) "need_web" [v] h = .exc "BadWeb" [v] h' ∧ Keep [] h h' := by
  obtain ⟨h1, e1, k1⟩ := web (n := n) hk o
  refine call_xc f_need_web rfl ?_
  simp_arith [e1, e]
  exact k1
theorem led_web {u : T} (hk : k ≤ 10000000) (o : OkV S k h v) (e : webB v = false) : ∃ h', callN D (n + 6) "led" [v, u] h = .exc "BadWeb" [v] h' ∧ Keep [] h h' := by
  obtain ⟨h1, e1, k1⟩ := needwebX (n := n) hk o e
  refine call_xc f_led rfl ?_
  simp_arith [e1]
  exact k1
theorem led_ren {u : T} {w : Web} (hk : k ≤ 10000000) (g : GW w) (hw : w.1 < 1000) (o : OkV S k h (webT w)) (ou : OkV S k h u) (e : renB w.1 u = false) : ∃ h', callN D (n + 6) "led" [webT w, u] h = .exc "BadRenaming" [u] h' ∧ Keep [] h h' := by
  obtain ⟨h1, e1, k1⟩ := needweb (n := n) hk o (webB_of g)
  obtain ⟨h2, e2, k2⟩ := isren (n := n + 1) g.n1 hw (ou.keep k1.nil) hk
  refine call_xc f_led rfl ?_
  simp_arith [e1, e2, e]
  exact k1.trans k2
theorem led_ok {w : Web} {L : List Int} (hk : k ≤ 10000000) (g : GW w) (hw : w.1 < 1000) (o : OkV S k h (webT w)) (ou : OkV S k h (.tup (L.map T.int))) (r : RenL w.1 L) : ∃ h', callN D (n + 6) "led" [webT w, .tup (L.map T.int)] h = .ok (webT (ledW w L)) h' ∧ Keep [] h h' := by
  have hl := web_len o
  have n1 := g.n1
  obtain ⟨h1, e1, k1⟩ := needweb (n := n) hk o (webB_of g)
  obtain ⟨h2, e2, k2⟩ := isren (n := n + 1) g.n1 hw (ou.keep k1.nil) hk
  obtain ⟨h3, e3, k3⟩ := ledweb (n := n + 4) (h := h2) r g.tie (by omega)
  refine of_gx ?_
  refine call_gx f_led rfl ?_
  simp_arith [e1, e2, renB_of r (by omega), e3]
  exact (k1.trans k2).trans k3
end
end K02


set_option Elab.async false
set_option linter.all false
set_option maxRecDepth 100000
namespace K02
open PySem MP L2
local macro_rules
  | `(tactic| simp_arith) => `(tactic| simp only [↓x_var, ↓x_int, ↓x_bl, ↓x_non, ↓x_str, ↓x_bin, ↓x_cmp, ↓x_idx, ↓x_neg, ↓x_not, ↓x_isN, ↓x_isnN, ↓x_rev, ↓x_gl0, ↓x_glc, ↓x_gl1, ↓x_sset, ↓x_lset, ↓x_isiT, ↓x_chn, ↓x_ite, ↓x_and, ↓x_or, ↓x_and1, ↓x_or1, ↓x_and2, ↓x_or2, ↓x_tup, ↓x_lst, ↓x_dic, ↓x_slc, ↓x_call, ↓x_new, ↓x_callK, ↓x_blt, ↓x_mth, ↓x_rngL, ↓x_rngT, ↓x_comp, ↓x_told, ↓x_enil, ↓x_econs, ↓x_kv0, ↓x_kv, ↓x_ono, ↓x_oso, ↓x_cno, ↓x_cso, ↓x_val, ↓x_rng1, ↓x_rng2, ↓x_rng3, ↓x_enum, ↓x_gvar, ↓x_gtup, ↓x_gtupR, ↓x_gsub, ↓x_gnil, ↓x_gcons, ↓x_snil, ↓x_scons, ↓x_pass, ↓x_expr, ↓x_ret, ↓x_retN, ↓x_set, ↓x_aug, ↓x_augO, ↓x_augA, ↓x_augS, ↓x_iff, ↓x_for, ↓x_whl, ↓x_brk, ↓x_cnt, ↓x_seqN, ↓x_seqR, ↓x_seqB, ↓x_exprX, ↓x_retX, ↓x_setX, ↓x_raise, ↓x_exO, ↓x_exX, ↓x_stO, ↓x_stX, ↓x_flO, ↓x_flE, ↓x_tdO, ↓x_seqX, ↓x_seqC, ↓x_finR, ↓x_finN, ↓x_lk, ↓x_negR, ↓x_negB, ↓x_notR, ↓x_cnd, ↓x_oiR, ↓x_opt, ↓x_ob, ↓x_r1, ↓x_r2, ↓x_r3, ↓x_enumT, ↓x_valT, ↓x_valF, ↓x_lst', ↓x_dk', ↓x_valL, ↓x_enumL, ↓x_mthL, ↓x_mth_append, ↓x_mth_extend, ↓x_mth_pop, ↓x_mth_get, ↓x_newT, ↓x_newL, ↓x_dicR, ↓x_add, ↓x_sub, ↓x_addB, ↓x_subB, ↓x_mul, ↓x_fdiv, ↓x_mod, ↓x_pow, ↓x_tadd, ↓x_tmul, ↓x_ladd, ↓x_lt, ↓x_le, ↓x_gt, ↓x_ge, ↓x_gtT, ↓x_is, ↓x_isnt, ↓x_eq, ↓x_ne, ↓x_inn, ↓x_nin, ↓x_tix, ↓x_rix, ↓x_ixL, ↓x_ixD, ↓x_setD, ↓x_stD, ↓x_stL, ↓x_app, ↓x_if, ↓x_ext, ↓x_pop, ↓x_lenT, ↓x_lenR, ↓x_lenL, ↓x_listT, ↓x_listL, ↓x_tupL, ↓x_tupT, ↓x_sortT, ↓x_sortL, ↓x_all, ↓x_any, ↓x_sum, ↓x_max2, ↓x_min2, ↓x_maxL, ↓x_minL, ↓x_abs, ↓x_tointB, ↓x_toint, ↓x_repr, ↓x_rep, ↓x_slcT, ↓x_slcF, ↓x_slcL, ↓x_revL, ↓x_revT, ↓x_strB, ↓x_strI, ↓x_lsetT, ↓x_ssetL, ↓x_isi_int, ↓x_isi_bool, ↓x_isi_NoneType, ↓x_isi_str, ↓x_isi_tuple, ↓x_isi_list, ↓x_xcq, ↓gx_bd, ↓gx_ok, ↓x_loopN, ↓x_loopC, ↓x_loopB, ↓x_loopR, ↓x_loopX, ty_NoneType_int, ty_NoneType_bool, ty_NoneType_str, ty_NoneType_list, ty_NoneType_tuple, ty_NoneType_dict, ty_int_int, ty_int_bool, ty_int_str, ty_int_list, ty_int_tuple, ty_int_dict, ty_bool_int, ty_bool_bool, ty_bool_str, ty_bool_list, ty_bool_tuple, ty_bool_dict, ty_str_int, ty_str_bool, ty_str_str, ty_str_list, ty_str_tuple, ty_str_dict, ty_tuple_int, ty_tuple_bool, ty_tuple_str, ty_tuple_list, ty_tuple_tuple, ty_tuple_dict, ty_list_int, ty_list_bool, ty_list_str, ty_list_list, ty_list_tuple, ty_list_dict, ty_dict_int, ty_dict_bool, ty_dict_str, ty_dict_list, ty_dict_tuple, ty_dict_dict, at_0, at_1, at_2, at_3, at_4, nat_0, nat_1, nat_2, nat_3, nat_4, nat_5, nat_6, at_end, at_end1, at_end2, at_end3, bools_t, all_t, Nat.reduceLT, Nat.reduceLeDiff, Int.reduceLT, Int.reduceLE, Int.reduceAdd, Int.reduceSub, Int.reduceMul, Int.reducePow, Int.reduceToNat, Int.reduceNeg, ifx_t, ifx_f, ifx_n, gx_ok, eqT_int, List.getElem?_cons_zero, List.getElem?_cons_succ, List.set_cons_zero, List.set_cons_succ, List.map_cons, List.map_nil, List.nil_append, List.cons_append, List.replicate_succ, List.replicate_zero, List.length_cons, List.length_nil, List.any_cons, List.any_nil, Nat.reduceAdd, Nat.reduceSub, Bool.or_false, Bool.or_true, Bool.false_or, Bool.true_or, Bool.not_true, Bool.not_false, Option.map_some, Option.bind_some, decide_true, decide_false, true_and, and_true, wipeL, ↓gg_KINDS, ↓kr_led_0, ↓kr_led_1, ↓xr_need_web_1, ↓tx__law_told_BadWeb, ↓tx__law_told_BadRenaming, ↓td_led_1, ↓td_led_2])
  | `(tactic| simp_arith [$es,*]) => `(tactic| simp only [↓x_var, ↓x_int, ↓x_bl, ↓x_non, ↓x_str, ↓x_bin, ↓x_cmp, ↓x_idx, ↓x_neg, ↓x_not, ↓x_isN, ↓x_isnN, ↓x_rev, ↓x_gl0, ↓x_glc, ↓x_gl1, ↓x_sset, ↓x_lset, ↓x_isiT, ↓x_chn, ↓x_ite, ↓x_and, ↓x_or, ↓x_and1, ↓x_or1, ↓x_and2, ↓x_or2, ↓x_tup, ↓x_lst, ↓x_dic, ↓x_slc, ↓x_call, ↓x_new, ↓x_callK, ↓x_blt, ↓x_mth, ↓x_rngL, ↓x_rngT, ↓x_comp, ↓x_told, ↓x_enil, ↓x_econs, ↓x_kv0, ↓x_kv, ↓x_ono, ↓x_oso, ↓x_cno, ↓x_cso, ↓x_val, ↓x_rng1, ↓x_rng2, ↓x_rng3, ↓x_enum, ↓x_gvar, ↓x_gtup, ↓x_gtupR, ↓x_gsub, ↓x_gnil, ↓x_gcons, ↓x_snil, ↓x_scons, ↓x_pass, ↓x_expr, ↓x_ret, ↓x_retN, ↓x_set, ↓x_aug, ↓x_augO, ↓x_augA, ↓x_augS, ↓x_iff, ↓x_for, ↓x_whl, ↓x_brk, ↓x_cnt, ↓x_seqN, ↓x_seqR, ↓x_seqB, ↓x_exprX, ↓x_retX, ↓x_setX, ↓x_raise, ↓x_exO, ↓x_exX, ↓x_stO, ↓x_stX, ↓x_flO, ↓x_flE, ↓x_tdO, ↓x_seqX, ↓x_seqC, ↓x_finR, ↓x_finN, ↓x_lk, ↓x_negR, ↓x_negB, ↓x_notR, ↓x_cnd, ↓x_oiR, ↓x_opt, ↓x_ob, ↓x_r1, ↓x_r2, ↓x_r3, ↓x_enumT, ↓x_valT, ↓x_valF, ↓x_lst', ↓x_dk', ↓x_valL, ↓x_enumL, ↓x_mthL, ↓x_mth_append, ↓x_mth_extend, ↓x_mth_pop, ↓x_mth_get, ↓x_newT, ↓x_newL, ↓x_dicR, ↓x_add, ↓x_sub, ↓x_addB, ↓x_subB, ↓x_mul, ↓x_fdiv, ↓x_mod, ↓x_pow, ↓x_tadd, ↓x_tmul, ↓x_ladd, ↓x_lt, ↓x_le, ↓x_gt, ↓x_ge, ↓x_gtT, ↓x_is, ↓x_isnt, ↓x_eq, ↓x_ne, ↓x_inn, ↓x_nin, ↓x_tix, ↓x_rix, ↓x_ixL, ↓x_ixD, ↓x_setD, ↓x_stD, ↓x_stL, ↓x_app, ↓x_if, ↓x_ext, ↓x_pop, ↓x_lenT, ↓x_lenR, ↓x_lenL, ↓x_listT, ↓x_listL, ↓x_tupL, ↓x_tupT, ↓x_sortT, ↓x_sortL, ↓x_all, ↓x_any, ↓x_sum, ↓x_max2, ↓x_min2, ↓x_maxL, ↓x_minL, ↓x_abs, ↓x_tointB, ↓x_toint, ↓x_repr, ↓x_rep, ↓x_slcT, ↓x_slcF, ↓x_slcL, ↓x_revL, ↓x_revT, ↓x_strB, ↓x_strI, ↓x_lsetT, ↓x_ssetL, ↓x_isi_int, ↓x_isi_bool, ↓x_isi_NoneType, ↓x_isi_str, ↓x_isi_tuple, ↓x_isi_list, ↓x_xcq, ↓gx_bd, ↓gx_ok, ↓x_loopN, ↓x_loopC, ↓x_loopB, ↓x_loopR, ↓x_loopX, ty_NoneType_int, ty_NoneType_bool, ty_NoneType_str, ty_NoneType_list, ty_NoneType_tuple, ty_NoneType_dict, ty_int_int, ty_int_bool, ty_int_str, ty_int_list, ty_int_tuple, ty_int_dict, ty_bool_int, ty_bool_bool, ty_bool_str, ty_bool_list, ty_bool_tuple, ty_bool_dict, ty_str_int, ty_str_bool, ty_str_str, ty_str_list, ty_str_tuple, ty_str_dict, ty_tuple_int, ty_tuple_bool, ty_tuple_str, ty_tuple_list, ty_tuple_tuple, ty_tuple_dict, ty_list_int, ty_list_bool, ty_list_str, ty_list_list, ty_list_tuple, ty_list_dict, ty_dict_int, ty_dict_bool, ty_dict_str, ty_dict_list, ty_dict_tuple, ty_dict_dict, at_0, at_1, at_2, at_3, at_4, nat_0, nat_1, nat_2, nat_3, nat_4, nat_5, nat_6, at_end, at_end1, at_end2, at_end3, bools_t, all_t, Nat.reduceLT, Nat.reduceLeDiff, Int.reduceLT, Int.reduceLE, Int.reduceAdd, Int.reduceSub, Int.reduceMul, Int.reducePow, Int.reduceToNat, Int.reduceNeg, ifx_t, ifx_f, ifx_n, gx_ok, eqT_int, List.getElem?_cons_zero, List.getElem?_cons_succ, List.set_cons_zero, List.set_cons_succ, List.map_cons, List.map_nil, List.nil_append, List.cons_append, List.replicate_succ, List.replicate_zero, List.length_cons, List.length_nil, List.any_cons, List.any_nil, Nat.reduceAdd, Nat.reduceSub, Bool.or_false, Bool.or_true, Bool.false_or, Bool.true_or, Bool.not_true, Bool.not_false, Option.map_some, Option.bind_some, decide_true, decide_false, true_and, and_true, wipeL, ↓gg_KINDS, ↓kr_led_0, ↓kr_led_1, ↓xr_need_web_1, ↓tx__law_told_BadWeb, ↓tx__law_told_BadRenaming, ↓td_led_1, ↓td_led_2, $es,*])
theorem erase_map : ∀ (A : List Int) (k : Nat), (A.map T.int).eraseIdx k = (A.eraseIdx k).map T.int
  | [], _ => by simp
  | _ :: _, 0 => by simp
  | a :: A, k + 1 => by
    rw [List.map_cons, List.eraseIdx_cons_succ, List.eraseIdx_cons_succ, List.map_cons, erase_map A k]
theorem erase_perm {α : Type} : ∀ (A : List α) (k : Nat) (h : k < A.length), (A[k] :: A.eraseIdx k).Perm A
  | [], _, h => by simp at h
  | _ :: _, 0, _ => by simp
  | a :: A, k + 1, h => by
    rw [List.eraseIdx_cons_succ, List.getElem_cons_succ]
    exact (List.Perm.swap a _ _).trans ((erase_perm A k (by simpa using h)).cons a)
theorem pop_at {h : Hh} {a : Nat} {A : List Int} {v : Int} (e : h[a]? = some (.lst (A.map T.int))) (hv : 0 ≤ v ∧ v < A.length) (hl : A.length ≤ 1000) : mthT .pop (.ref a) [.int v] h = .ok (.int (A.getD v.toNat 0)) (h.set a (.lst ((A.eraseIdx v.toNat).map T.int))) := by
  have hlt : v.toNat < A.length := by omega
  unfold mthT mutL
  dsimp only
  rw [e]
  dsimp only
  rw [show ixN (A.map T.int).length v = some v.toNat from ixN_ok (by rw [List.length_map]; exact hv)]
  dsimp only
  rw [List.getElem?_map, List.getElem?_eq_getElem hlt]
  dsimp only [Option.map_some]
  rw [if_pos (by omega), List.getD_eq_getElem?_getD, List.getElem?_eq_getElem hlt]
  congr 3
  rw [erase_map]
section
variable {h : Hh} {n : Nat}
set_option maxHeartbeats 1000000 in
theorem order {r c : Nat} {m : Int} (d : Dq h r c) (hm : 1 ≤ m ∧ m ≤ 100) : ∃ (h' : Hh) (L : List Int), callN D (n + 2) "_law_order" [.ref r, .int m] h = .ok (.tup (L.map T.int)) h' ∧ RenL m L ∧ Dq h' r c ∧ Keep [r, c] h h' := by
  have z : Gx (callN D (n + 2) "_law_order" [.ref r, .int m] h) (P := ⟨fun v h' => ∃ L : List Int, v = .tup (L.map T.int) ∧ RenL m L ∧ Dq h' r c ∧ Keep [r, c] h h'⟩) := by
    refine call_gx f__law_order rfl ?_
    simp_arith [rgBig (i := 0) (j := m) (by omega), rangeT_rI, List.length_map, rI_len, show m.toNat ≤ 16777216 by omega, Nat.zero_le]
    have na : h.length ∉ [r, c] := d.not_in (Nat.le_refl _)
    have nb : (h ++ [O.lst ((rI m.toNat).map T.int)]).length ∉ [r, c] := d.not_in (by simp)
    refine gx_for (fun i l h1 => ∃ (x : Option T) (A B : List Int), l = [some (.ref r), some (.int m), x, some (.ref h.length), some (.ref (h ++ [O.lst ((rI m.toNat).map T.int)]).length)] ∧ h1[h.length]? = some (.lst (A.map T.int)) ∧ h1[(h ++ [O.lst ((rI m.toNat).map T.int)]).length]? = some (.lst (B.map T.int)) ∧
        (B ++ A).Perm (rI m.toNat) ∧ B.length = i ∧ Dq h1 r c ∧ Keep [r, c] h h1) ⟨none, rI m.toNat, [], rfl, at_end1, at_end, by simp, rfl, (d.keep (.app _)).keep (.app _), (Keep.app _).trans (.app _)⟩ (fun _ _ _ _ p hp => by simp at hp) ?_ ?_
    · intro i x l h1 hx hj
      obtain ⟨x0, A, B, el, qa, qb, pm, hb, dq, kp⟩ := hj
      subst el
      have hi := (List.getElem?_eq_some_iff.mp hx).1
      rw [List.length_map, rI_len] at hi
      have hlen := pm.length_eq
      rw [List.length_append, rI_len] at hlen
      obtain ⟨h2, v, e2, hv, d2, k2⟩ := draw (n := n) (b := A.length) dq (by omega)
      have qa2 := k2.nin na qa
      have qb2 := k2.nin nb qb
      have pa := pop_at qa2 hv (by omega)
      have ne : h.length ≠ (h ++ [O.lst ((rI m.toNat).map T.int)]).length := by simp
      have qb3 : ∀ o : O, (h2.set h.length o)[(h ++ [O.lst ((rI m.toNat).map T.int)]).length]? = some (.lst (B.map T.int)) := fun o => at_setn qb2 ne
      simp_arith [qa, qb, List.length_map, e2, qa2, pa, qb3, ↓x_if, show B.length < 16777216 by omega]
      have hlt : v.toNat < A.length := by omega
      refine ⟨_, A.eraseIdx v.toNat, B ++ [A.getD v.toNat 0], rfl, at_setn (at_set qa2) ne.symm, ?_, ?_, by rw [List.length_append, hb]; rfl, (d2.set na).set nb, ?_⟩
      · rw [List.map_append]
        exact at_set (qb3 _)
      · rw [List.append_assoc]
        have e : A.getD v.toNat 0 = A[v.toNat] := by rw [List.getD_eq_getElem?_getD, List.getElem?_eq_getElem hlt]; rfl
        rw [e]
        exact ((erase_perm A _ hlt).append_left B).trans pm
      · exact ((kp.trans k2).fresh (Nat.le_refl _)).fresh (by simp)
    · intro l h1 hj
      obtain ⟨x0, A, B, el, qa, qb, pm, hb, dq, kp⟩ := hj
      subst el
      rw [List.length_map, rI_len] at hb
      have hlen := pm.length_eq
      rw [List.length_append, rI_len] at hlen
      have ea : A = [] := List.eq_nil_of_length_eq_zero (by omega)
      subst ea
      rw [List.append_nil] at pm
      simp_arith [qb]
      exact ⟨B, rfl, pm, dq, kp⟩
  obtain ⟨v, h1, e, L, rfl, q⟩ := gx_ex z
  exact ⟨h1, L, e, q⟩
end
section
variable {h : Hh} {n : Nat} {v u : T} {S : List Nat}
theorem rvp {K E R W W2 : Nat} (a : RV S h K E R W v) (b : RV S h K E R W2 u) : RV S h K (E + 1) R (W + W2 + 2) (.tup [v, u]) :=
  (RVs.tup (RVs.cons a b.one)).up (Nat.le_refl _) (Nat.le_refl _) (Nat.le_refl _) (by omega)
theorem rvs {K E R : Nat} (s : String) (hs : s.length ≤ 8) : RV S h K E R 8 (.str (Str.ofString s)) := .str (sOk_of s) (by rw [len_of]; exact hs)
set_option maxHeartbeats 1000000 in
theorem right (o : RV S h 340 20 12 12000 v) (ou : RV S h 340 20 12 12000 u) : ∃ h', callN D (n + 7) "_law_is_right" [v, u] h = .ok (.bl true) h' ∧ Keep [] h h' := by
  have ov := o.okv (by decide) (by decide)
  have okv : ∀ {hh : Hh}, Keep [] h hh → OkV S 1000000 hh v := fun kp => ov.keep kp.nil
  have oku : ∀ {hh : Hh}, Keep [] h hh → OkV S 1000000 hh u := fun kp => (ou.okv (by decide) (by decide)).keep kp.nil
  obtain ⟨dp, r1, f1⟩ := (rvp o ou).repr (by decide) (by decide) (by decide)
  have rp : ∀ {hh : Hh}, Keep [] h hh → datR hh (.tup [v, u]) = some dp := fun kp => r1 _ kp.nil
  have two : ∀ {x : T} {s : String} {W : Nat}, s.length ≤ 8 → RV S h 340 20 12 W x → W ≤ 12000 → ∃ d, (∀ {hh : Hh}, Keep [] h hh → datR hh (.tup [.tup [.str (Str.ofString s), x], .tup [.str (Str.ofString s), x]]) = some d) ∧ (decide (d.shown.length ≤ 16777216) && d.showable && decide (d.depth ≤ 60)) = true := fun {x s W} hs ox hW => by
    have p := rvp (rvs (S := S) (h := h) (K := 340) (E := 20) (R := 12) s hs) ox
    obtain ⟨d, q1, q2⟩ := (rvp p p).repr (by decide) (by decide) (by omega)
    exact ⟨d, fun kp => q1 _ kp.nil, q2⟩
  have goal : ∀ {r : R T} , Gx r (P := ⟨fun a h1 => a = .bl true ∧ Keep [] h h1⟩) → ∃ h', r = .ok (.bl true) h' ∧ Keep [] h h' := fun g => of_gx g
  refine goal ?_
  refine call_gx f__law_is_right rfl ?_
  obtain ⟨h1, e1, k1⟩ := lweb (n := n + 3) (by decide) (okv .refl)
  obtain ⟨h2, e2, k2⟩ := lweb (n := n + 3) (by decide) (okv k1)
  have k12 := k1.trans k2
  cases w1 : webB v with
  | false =>
    obtain ⟨h3, e3, k3⟩ := led_web (n := n) (u := u) (by decide) (okv k12) w1
    obtain ⟨h4, e4, k4⟩ := led_web (n := n) (u := u) (by decide) (okv (k12.trans k3)) w1
    have kk := (k12.trans k3).trans k4
    obtain ⟨d2, r2, f2⟩ := two (s := "web") (by decide) o (by decide)
    rw [w1] at e1 e2
    simp_arith [e1, rp k1, f1, e2, e3, e4, r2 kk, f2, eqT_sr, rp kk, Nat.reduceLeDiff]
    exact kk
  | true =>
    obtain ⟨w, rfl, g⟩ := webB_ex w1
    rw [w1] at e1 e2
    have n1 := g.n1
    have big : ∀ {P : Prop}, (w.1 ≤ 14 → w.2.length ≤ 24 → P) → P ∨ (14 < w.1 ∨ 24 < w.2.length) := fun q => by
      by_cases a : w.1 ≤ 14
      · by_cases b : w.2.length ≤ 24
        · exact .inl (q a b)
        · exact .inr (.inr (by omega))
      · exact .inr (.inl (by omega))
    simp_arith [e1, x_w0]
    refine ifx_by (fun q => ?_) (fun q => ?_)
    · simp_arith
      exact k1
    · simp_arith [x_w1, List.length_map]
      refine ifx_by (fun q2 => ?_) (fun q2 => ?_)
      · simp_arith
        exact k1
      · have hw : w.1 < 1000 := by omega
        obtain ⟨h3, e3, k3⟩ := lren (n := n + 4) n1 hw (oku k12) (by decide)
        have k13 := k12.trans k3
        cases rn : renB w.1 u with
        | false =>
          rw [rn] at e3
          obtain ⟨h4, e4, k4⟩ := led_ren (n := n) (by decide) g hw (okv k13) (oku k13) rn
          obtain ⟨h5, e5, k5⟩ := led_ren (n := n) (by decide) g hw (okv (k13.trans k4)) (oku (k13.trans k4)) rn
          have kk := (k13.trans k4).trans k5
          obtain ⟨d2, r2, f2⟩ := two (s := "renaming") (by decide) ou (by decide)
          simp_arith [rp k1, f1, e2, e3, e4, e5, r2 kk, f2, eqT_sr, rp kk, Nat.reduceLeDiff, x_w0, x_w1]
          exact kk
        | true =>
          rw [rn] at e3
          obtain ⟨L, rfl, rL, hL⟩ := renB_ex rn
          have l24 : w.2.length ≤ 24 := by omega
          obtain ⟨h4, e4, k4⟩ := lled (n := n + 5) (h := h3) rL g.tie (by omega)
          have k14 := k13.trans k4
          obtain ⟨h5, e5, k5⟩ := led_ok (n := n) (by decide) g hw (okv k14) (oku k14) rL
          obtain ⟨h6, e6, k6⟩ := led_ok (n := n) (by decide) g hw (okv (k14.trans k5)) (oku (k14.trans k5)) rL
          have kk := (k14.trans k5).trans k6
          have ol : RV S h 340 20 12 (25 * 24 + 9) (webT (ledW w L)) := (rv_webN (E := 0) (R := 0) (m := w.1) (K := 3) (N := 24) (by omega) (by omega) (by decide) (fun t ht => (led_gw rL g).tie t ht) (by show (srt tieD (w.2.map (ledT L))).length ≤ 24; rw [srt_len, List.length_map]; exact l24)).up (by decide) (by decide) (by decide) (Nat.le_refl _)
          obtain ⟨d2, r2, f2⟩ := two (s := "told") (by decide) ol (by decide)
          simp_arith [rp k1, f1, e2, e3, e4, e5, e6, r2 kk, f2, eqT_sr, rp kk, Nat.reduceLeDiff, x_w0, x_w1]
          exact kk
end
end K02


set_option Elab.async false
set_option linter.all false
set_option maxRecDepth 100000
namespace K02
open PySem MP L2
local macro_rules
  | `(tactic| simp_arith) => `(tactic| simp only [↓x_var, ↓x_int, ↓x_bl, ↓x_non, ↓x_str, ↓x_bin, ↓x_cmp, ↓x_idx, ↓x_neg, ↓x_not, ↓x_isN, ↓x_isnN, ↓x_rev, ↓x_gl0, ↓x_glc, ↓x_gl1, ↓x_sset, ↓x_lset, ↓x_isiT, ↓x_chn, ↓x_ite, ↓x_and, ↓x_or, ↓x_and1, ↓x_or1, ↓x_and2, ↓x_or2, ↓x_tup, ↓x_lst, ↓x_dic, ↓x_slc, ↓x_call, ↓x_new, ↓x_callK, ↓x_blt, ↓x_mth, ↓x_rngL, ↓x_rngT, ↓x_comp, ↓x_told, ↓x_enil, ↓x_econs, ↓x_kv0, ↓x_kv, ↓x_ono, ↓x_oso, ↓x_cno, ↓x_cso, ↓x_val, ↓x_rng1, ↓x_rng2, ↓x_rng3, ↓x_enum, ↓x_gvar, ↓x_gtup, ↓x_gtupR, ↓x_gsub, ↓x_gnil, ↓x_gcons, ↓x_snil, ↓x_scons, ↓x_pass, ↓x_expr, ↓x_ret, ↓x_retN, ↓x_set, ↓x_aug, ↓x_augO, ↓x_augA, ↓x_augS, ↓x_iff, ↓x_for, ↓x_whl, ↓x_brk, ↓x_cnt, ↓x_seqN, ↓x_seqR, ↓x_seqB, ↓x_exprX, ↓x_retX, ↓x_setX, ↓x_raise, ↓x_exO, ↓x_exX, ↓x_stO, ↓x_stX, ↓x_flO, ↓x_flE, ↓x_tdO, ↓x_seqX, ↓x_seqC, ↓x_finR, ↓x_finN, ↓x_lk, ↓x_negR, ↓x_negB, ↓x_notR, ↓x_cnd, ↓x_oiR, ↓x_opt, ↓x_ob, ↓x_r1, ↓x_r2, ↓x_r3, ↓x_enumT, ↓x_valT, ↓x_valF, ↓x_lst', ↓x_dk', ↓x_valL, ↓x_enumL, ↓x_mthL, ↓x_mth_append, ↓x_mth_extend, ↓x_mth_pop, ↓x_mth_get, ↓x_newT, ↓x_newL, ↓x_dicR, ↓x_add, ↓x_sub, ↓x_addB, ↓x_subB, ↓x_mul, ↓x_fdiv, ↓x_mod, ↓x_pow, ↓x_tadd, ↓x_tmul, ↓x_lmul, ↓x_ladd, ↓x_lt, ↓x_le, ↓x_gt, ↓x_ge, ↓x_gtT, ↓x_is, ↓x_isnt, ↓x_eq, ↓x_ne, ↓x_inn, ↓x_nin, ↓x_tix, ↓x_rix, ↓x_ixL, ↓x_ixD, ↓x_setD, ↓x_stD, ↓x_stL, ↓x_app, ↓x_if, ↓x_ext, ↓x_pop, ↓x_lenT, ↓x_lenR, ↓x_lenL, ↓x_listT, ↓x_listL, ↓x_tupL, ↓x_tupT, ↓x_sortT, ↓x_sortL, ↓x_all, ↓x_any, ↓x_sum, ↓x_max2, ↓x_min2, ↓x_maxL, ↓x_minL, ↓x_abs, ↓x_tointB, ↓x_toint, ↓x_repr, ↓x_rep, ↓x_slcT, ↓x_slcF, ↓x_slcL, ↓x_revL, ↓x_revT, ↓x_strB, ↓x_strI, ↓x_lsetT, ↓x_ssetL, ↓x_isi_int, ↓x_isi_bool, ↓x_isi_NoneType, ↓x_isi_str, ↓x_isi_tuple, ↓x_isi_list, ↓x_xcq, ↓gx_bd, ↓gx_ok, ↓x_loopN, ↓x_loopC, ↓x_loopB, ↓x_loopR, ↓x_loopX, ty_NoneType_int, ty_NoneType_bool, ty_NoneType_str, ty_NoneType_list, ty_NoneType_tuple, ty_NoneType_dict, ty_int_int, ty_int_bool, ty_int_str, ty_int_list, ty_int_tuple, ty_int_dict, ty_bool_int, ty_bool_bool, ty_bool_str, ty_bool_list, ty_bool_tuple, ty_bool_dict, ty_str_int, ty_str_bool, ty_str_str, ty_str_list, ty_str_tuple, ty_str_dict, ty_tuple_int, ty_tuple_bool, ty_tuple_str, ty_tuple_list, ty_tuple_tuple, ty_tuple_dict, ty_list_int, ty_list_bool, ty_list_str, ty_list_list, ty_list_tuple, ty_list_dict, ty_dict_int, ty_dict_bool, ty_dict_str, ty_dict_list, ty_dict_tuple, ty_dict_dict, at_0, at_1, at_2, at_3, at_4, nat_0, nat_1, nat_2, nat_3, nat_4, nat_5, nat_6, at_end, at_end1, at_end2, at_end3, bools_t, all_t, Nat.reduceLT, Nat.reduceLeDiff, Int.reduceLT, Int.reduceLE, Int.reduceAdd, Int.reduceSub, Int.reduceMul, Int.reducePow, Int.reduceToNat, Int.reduceNeg, ifx_t, ifx_f, ifx_n, gx_ok, eqT_int, List.getElem?_cons_zero, List.getElem?_cons_succ, List.set_cons_zero, List.set_cons_succ, List.map_cons, List.map_nil, List.nil_append, List.cons_append, List.replicate_succ, List.replicate_zero, List.length_cons, List.length_nil, List.any_cons, List.any_nil, Nat.reduceAdd, Nat.reduceSub, Bool.or_false, Bool.or_true, Bool.false_or, Bool.true_or, Bool.not_true, Bool.not_false, Option.map_some, Option.bind_some, decide_true, decide_false, true_and, and_true, wipeL, ↓gg_KINDS, ↓kr_led_0, ↓kr_led_1, ↓xr_need_web_1, ↓tx__law_told_BadWeb, ↓tx__law_told_BadRenaming, ↓td_led_1, ↓td_led_2])
  | `(tactic| simp_arith [$es,*]) => `(tactic| simp only [↓x_var, ↓x_int, ↓x_bl, ↓x_non, ↓x_str, ↓x_bin, ↓x_cmp, ↓x_idx, ↓x_neg, ↓x_not, ↓x_isN, ↓x_isnN, ↓x_rev, ↓x_gl0, ↓x_glc, ↓x_gl1, ↓x_sset, ↓x_lset, ↓x_isiT, ↓x_chn, ↓x_ite, ↓x_and, ↓x_or, ↓x_and1, ↓x_or1, ↓x_and2, ↓x_or2, ↓x_tup, ↓x_lst, ↓x_dic, ↓x_slc, ↓x_call, ↓x_new, ↓x_callK, ↓x_blt, ↓x_mth, ↓x_rngL, ↓x_rngT, ↓x_comp, ↓x_told, ↓x_enil, ↓x_econs, ↓x_kv0, ↓x_kv, ↓x_ono, ↓x_oso, ↓x_cno, ↓x_cso, ↓x_val, ↓x_rng1, ↓x_rng2, ↓x_rng3, ↓x_enum, ↓x_gvar, ↓x_gtup, ↓x_gtupR, ↓x_gsub, ↓x_gnil, ↓x_gcons, ↓x_snil, ↓x_scons, ↓x_pass, ↓x_expr, ↓x_ret, ↓x_retN, ↓x_set, ↓x_aug, ↓x_augO, ↓x_augA, ↓x_augS, ↓x_iff, ↓x_for, ↓x_whl, ↓x_brk, ↓x_cnt, ↓x_seqN, ↓x_seqR, ↓x_seqB, ↓x_exprX, ↓x_retX, ↓x_setX, ↓x_raise, ↓x_exO, ↓x_exX, ↓x_stO, ↓x_stX, ↓x_flO, ↓x_flE, ↓x_tdO, ↓x_seqX, ↓x_seqC, ↓x_finR, ↓x_finN, ↓x_lk, ↓x_negR, ↓x_negB, ↓x_notR, ↓x_cnd, ↓x_oiR, ↓x_opt, ↓x_ob, ↓x_r1, ↓x_r2, ↓x_r3, ↓x_enumT, ↓x_valT, ↓x_valF, ↓x_lst', ↓x_dk', ↓x_valL, ↓x_enumL, ↓x_mthL, ↓x_mth_append, ↓x_mth_extend, ↓x_mth_pop, ↓x_mth_get, ↓x_newT, ↓x_newL, ↓x_dicR, ↓x_add, ↓x_sub, ↓x_addB, ↓x_subB, ↓x_mul, ↓x_fdiv, ↓x_mod, ↓x_pow, ↓x_tadd, ↓x_tmul, ↓x_lmul, ↓x_ladd, ↓x_lt, ↓x_le, ↓x_gt, ↓x_ge, ↓x_gtT, ↓x_is, ↓x_isnt, ↓x_eq, ↓x_ne, ↓x_inn, ↓x_nin, ↓x_tix, ↓x_rix, ↓x_ixL, ↓x_ixD, ↓x_setD, ↓x_stD, ↓x_stL, ↓x_app, ↓x_if, ↓x_ext, ↓x_pop, ↓x_lenT, ↓x_lenR, ↓x_lenL, ↓x_listT, ↓x_listL, ↓x_tupL, ↓x_tupT, ↓x_sortT, ↓x_sortL, ↓x_all, ↓x_any, ↓x_sum, ↓x_max2, ↓x_min2, ↓x_maxL, ↓x_minL, ↓x_abs, ↓x_tointB, ↓x_toint, ↓x_repr, ↓x_rep, ↓x_slcT, ↓x_slcF, ↓x_slcL, ↓x_revL, ↓x_revT, ↓x_strB, ↓x_strI, ↓x_lsetT, ↓x_ssetL, ↓x_isi_int, ↓x_isi_bool, ↓x_isi_NoneType, ↓x_isi_str, ↓x_isi_tuple, ↓x_isi_list, ↓x_xcq, ↓gx_bd, ↓gx_ok, ↓x_loopN, ↓x_loopC, ↓x_loopB, ↓x_loopR, ↓x_loopX, ty_NoneType_int, ty_NoneType_bool, ty_NoneType_str, ty_NoneType_list, ty_NoneType_tuple, ty_NoneType_dict, ty_int_int, ty_int_bool, ty_int_str, ty_int_list, ty_int_tuple, ty_int_dict, ty_bool_int, ty_bool_bool, ty_bool_str, ty_bool_list, ty_bool_tuple, ty_bool_dict, ty_str_int, ty_str_bool, ty_str_str, ty_str_list, ty_str_tuple, ty_str_dict, ty_tuple_int, ty_tuple_bool, ty_tuple_str, ty_tuple_list, ty_tuple_tuple, ty_tuple_dict, ty_list_int, ty_list_bool, ty_list_str, ty_list_list, ty_list_tuple, ty_list_dict, ty_dict_int, ty_dict_bool, ty_dict_str, ty_dict_list, ty_dict_tuple, ty_dict_dict, at_0, at_1, at_2, at_3, at_4, nat_0, nat_1, nat_2, nat_3, nat_4, nat_5, nat_6, at_end, at_end1, at_end2, at_end3, bools_t, all_t, Nat.reduceLT, Nat.reduceLeDiff, Int.reduceLT, Int.reduceLE, Int.reduceAdd, Int.reduceSub, Int.reduceMul, Int.reducePow, Int.reduceToNat, Int.reduceNeg, ifx_t, ifx_f, ifx_n, gx_ok, eqT_int, List.getElem?_cons_zero, List.getElem?_cons_succ, List.set_cons_zero, List.set_cons_succ, List.map_cons, List.map_nil, List.nil_append, List.cons_append, List.replicate_succ, List.replicate_zero, List.length_cons, List.length_nil, List.any_cons, List.any_nil, Nat.reduceAdd, Nat.reduceSub, Bool.or_false, Bool.or_true, Bool.false_or, Bool.true_or, Bool.not_true, Bool.not_false, Option.map_some, Option.bind_some, decide_true, decide_false, true_and, and_true, wipeL, ↓gg_KINDS, ↓kr_led_0, ↓kr_led_1, ↓xr_need_web_1, ↓tx__law_told_BadWeb, ↓tx__law_told_BadRenaming, ↓td_led_1, ↓td_led_2, $es,*])
local instance kMk2 : Mkr := noMk
theorem enum_get {L : List Int} {i : Nat} {x : T} (h : (enumT 0 (L.map T.int))[i]? = some x) : ∃ v, L[i]? = some v ∧ x = .tup [.int i, .int v] := by
  obtain ⟨y, h1, h2⟩ := enumT_get h
  rw [List.getElem?_map] at h1
  obtain ⟨v, hv, rfl⟩ := Option.map_eq_some_iff.mp h1
  rw [Nat.zero_add] at h2
  exact ⟨v, hv, h2⟩
/-- what stands where the renaming leads -/
def Back (L B : List Int) (i : Nat) : Prop := B.length = L.length ∧ ∀ j : Nat, j < i → B[(L.getD j 0).toNat]? = some (j : Int)
theorem back_step {n : Int} {L B : List Int} {i : Nat} {v : Int} (r : RenL n L) (hv : L[i]? = some v) (b : Back L B i) : Back L (B.set v.toNat i) (i + 1) ∧ 0 ≤ v ∧ v < B.length := by
  have hl := ren_len r
  have hi := (List.getElem?_eq_some_iff.mp hv).1
  have mv := rI_mem.mp (r.mem_iff.mp (List.mem_of_getElem? hv))
  have lb := b.1
  refine ⟨⟨by rw [List.length_set]; exact b.1, fun j hj => ?_⟩, mv.1, by omega⟩
  have ev : L.getD i 0 = v := by rw [List.getD_eq_getElem?_getD, hv]; rfl
  by_cases e : j = i
  · subst e
    rw [ev]
    exact List.getElem?_set_self (by omega)
  · have hj2 : j < i := by omega
    have nd : L.Nodup := r.nodup_iff.mpr (rI_nd _)
    have hjl : j < L.length := by omega
    have ej : L[j]? = some (L.getD j 0) := by rw [List.getD_eq_getElem?_getD, List.getElem?_eq_getElem hjl]; rfl
    have mj := rI_mem.mp (r.mem_iff.mp (List.mem_of_getElem? ej))
    have ne : v.toNat ≠ (L.getD j 0).toNat := fun q => by
      have : v = L.getD j 0 := by omega
      rw [← this] at ej
      exact e ((List.getElem?_inj hjl nd).mp (ej.trans hv.symm))
    rw [List.getElem?_set_ne ne]
    exact b.2 j hj2
theorem back_ren {n : Int} {L B : List Int} (r : RenL n L) (b : Back L B L.length) : RenL n B := by
  have hl := ren_len r
  refine (perm_of_sub (rI_nd _) (fun x hx => ?_) (by rw [rI_len]; have := b.1; omega)).symm
  have mx := rI_mem.mp hx
  have q := b.2 x.toNat (by omega)
  have e : ((x.toNat : Nat) : Int) = x := by omega
  rw [e] at q
  exact List.mem_of_getElem? q
theorem back_id {n : Int} {L B : List Int} (r : RenL n L) (b : Back L B L.length) {a : Int} (ha : 0 ≤ a ∧ a < n) : (both L B).getD a.toNat 0 = a := by
  have hl := ren_len r
  rw [getD_both (by omega), List.getD_eq_getElem?_getD, b.2 a.toNat (by omega)]
  show ((a.toNat : Nat) : Int) = a
  omega
theorem both_ren {n : Int} {L M : List Int} (h : RenL n L) (g : RenL n M) (hn : 0 ≤ n) : RenL n (both L M) := by
  have l1 := ren_len h
  have l2 := ren_len g
  have e : (rI n.toNat).map (fun i => M.getD i.toNat 0) = M := by
    apply List.ext_getElem?
    intro i
    rw [List.getElem?_map]
    by_cases hi : i < n.toNat
    · rw [rI_get hi, List.getElem?_eq_getElem (by omega)]
      simp [List.getD_eq_getElem?_getD, List.getElem?_eq_getElem (show i < M.length by omega)]
    · rw [List.getElem?_eq_none (by rw [rI_len]; omega), List.getElem?_eq_none (by omega)]
      rfl
  have p : (both L M).Perm ((rI n.toNat).map fun i => M.getD i.toNat 0) := h.map _
  rw [e] at p
  exact p.trans g
theorem ints_rv {S : List Nat} {h : Hh} {E R : Nat} : ∀ {L : List Int}, (∀ i ∈ L, 0 ≤ i ∧ i < 100) → RVs S h 335 E R (8 * L.length) (L.map T.int)
  | [], _ => RVs.nil
  | i :: L, g => by
    have q := g i List.mem_cons_self
    have a : RV S h 335 E R 7 (.int i) := .intS (j := 7) (by omega) (by decide) (by decide) (Nat.le_refl _)
    exact (RVs.cons a (ints_rv fun j hj => g j (List.mem_cons_of_mem _ hj))).up (Nat.le_refl _) (Nat.le_refl _) (Nat.le_refl _) (by rw [List.length_cons]; omega)
theorem ren_rv {S : List Nat} {h : Hh} {E R : Nat} {n : Int} {L : List Int} (r : RenL n L) (hn : n ≤ 14) : RVs S h 335 E R 112 (L.map T.int) :=
  (ints_rv fun i hi => by have := rI_mem.mp (r.mem_iff.mp hi); omega).up (Nat.le_refl _) (Nat.le_refl _) (Nat.le_refl _) (by have := ren_len r; omega)
theorem pick11 {P : T → Prop} {a b c d e f g i j k l : T} (h1 : P a) (h2 : P b) (h3 : P c) (h4 : P d) (h5 : P e) (h6 : P f) (h7 : P g) (h8 : P i) (h9 : P j) (h10 : P k) (h11 : P l) : ∀ x ∈ [a, b, c, d, e, f, g, i, j, k, l], P x := by
  intro x hx
  simp only [List.mem_cons, List.not_mem_nil, or_false] at hx
  rcases hx with q | q | q | q | q | q | q | q | q | q | q <;> (rw [q]; assumption)
theorem flat_one (k : Nat) (x : T) : (List.replicate k [x]).flatten = List.replicate k x := by
  induction k with
  | zero => rfl
  | succ k ih => rw [List.replicate_succ, List.flatten_cons, ih, List.replicate_succ]; rfl
theorem rep_rv {S : List Nat} {h : Hh} {E R : Nat} {x : T} (o : RV S h 335 E R 7 x) : ∀ k : Nat, RVs S h 335 E R (8 * k) (List.replicate k x)
  | 0 => RVs.nil
  | k + 1 => (RVs.cons o (rep_rv o k)).up (Nat.le_refl _) (Nat.le_refl _) (Nat.le_refl _) (by omega)
end K02


set_option Elab.async false
set_option linter.all false
set_option maxRecDepth 100000
namespace K02
open PySem MP L2
local macro_rules
  | `(tactic| simp_arith) => `(tactic| simp only [↓x_var, ↓x_int, ↓x_bl, ↓x_non, ↓x_str, ↓x_bin, ↓x_cmp, ↓x_idx, ↓x_neg, ↓x_not, ↓x_isN, ↓x_isnN, ↓x_rev, ↓x_gl0, ↓x_glc, ↓x_gl1, ↓x_sset, ↓x_lset, ↓x_isiT, ↓x_chn, ↓x_ite, ↓x_and, ↓x_or, ↓x_and1, ↓x_or1, ↓x_and2, ↓x_or2, ↓x_tup, ↓x_lst, ↓x_dic, ↓x_slc, ↓x_call, ↓x_new, ↓x_callK, ↓x_blt, ↓x_mth, ↓x_rngL, ↓x_rngT, ↓x_comp, ↓x_told, ↓x_enil, ↓x_econs, ↓x_kv0, ↓x_kv, ↓x_ono, ↓x_oso, ↓x_cno, ↓x_cso, ↓x_val, ↓x_rng1, ↓x_rng2, ↓x_rng3, ↓x_enum, ↓x_gvar, ↓x_gtup, ↓x_gtupR, ↓x_gsub, ↓x_gnil, ↓x_gcons, ↓x_snil, ↓x_scons, ↓x_pass, ↓x_expr, ↓x_ret, ↓x_retN, ↓x_set, ↓x_aug, ↓x_augO, ↓x_augA, ↓x_augS, ↓x_iff, ↓x_for, ↓x_whl, ↓x_brk, ↓x_cnt, ↓x_seqN, ↓x_seqR, ↓x_seqB, ↓x_exprX, ↓x_retX, ↓x_setX, ↓x_raise, ↓x_exO, ↓x_exX, ↓x_stO, ↓x_stX, ↓x_flO, ↓x_flE, ↓x_tdO, ↓x_seqX, ↓x_seqC, ↓x_finR, ↓x_finN, ↓x_lk, ↓x_negR, ↓x_negB, ↓x_notR, ↓x_cnd, ↓x_oiR, ↓x_opt, ↓x_ob, ↓x_r1, ↓x_r2, ↓x_r3, ↓x_enumT, ↓x_valT, ↓x_valF, ↓x_lst', ↓x_dk', ↓x_valL, ↓x_enumL, ↓x_mthL, ↓x_mth_append, ↓x_mth_extend, ↓x_mth_pop, ↓x_mth_get, ↓x_newT, ↓x_newL, ↓x_dicR, ↓x_add, ↓x_sub, ↓x_addB, ↓x_subB, ↓x_mul, ↓x_fdiv, ↓x_mod, ↓x_pow, ↓x_tadd, ↓x_tmul, ↓x_lmul, ↓x_ladd, ↓x_lt, ↓x_le, ↓x_gt, ↓x_ge, ↓x_gtT, ↓x_is, ↓x_isnt, ↓x_eq, ↓x_ne, ↓x_inn, ↓x_nin, ↓x_tix, ↓x_rix, ↓x_ixL, ↓x_ixD, ↓x_setD, ↓x_stD, ↓x_stL, ↓x_app, ↓x_if, ↓x_ext, ↓x_pop, ↓x_lenT, ↓x_lenR, ↓x_lenL, ↓x_listT, ↓x_listL, ↓x_tupL, ↓x_tupT, ↓x_sortT, ↓x_sortL, ↓x_all, ↓x_any, ↓x_sum, ↓x_max2, ↓x_min2, ↓x_maxL, ↓x_minL, ↓x_abs, ↓x_tointB, ↓x_toint, ↓x_repr, ↓x_rep, ↓x_slcT, ↓x_slcF, ↓x_slcL, ↓x_revL, ↓x_revT, ↓x_strB, ↓x_strI, ↓x_lsetT, ↓x_ssetL, ↓x_isi_int, ↓x_isi_bool, ↓x_isi_NoneType, ↓x_isi_str, ↓x_isi_tuple, ↓x_isi_list, ↓x_xcq, ↓gx_bd, ↓gx_ok, ↓x_loopN, ↓x_loopC, ↓x_loopB, ↓x_loopR, ↓x_loopX, ty_NoneType_int, ty_NoneType_bool, ty_NoneType_str, ty_NoneType_list, ty_NoneType_tuple, ty_NoneType_dict, ty_int_int, ty_int_bool, ty_int_str, ty_int_list, ty_int_tuple, ty_int_dict, ty_bool_int, ty_bool_bool, ty_bool_str, ty_bool_list, ty_bool_tuple, ty_bool_dict, ty_str_int, ty_str_bool, ty_str_str, ty_str_list, ty_str_tuple, ty_str_dict, ty_tuple_int, ty_tuple_bool, ty_tuple_str, ty_tuple_list, ty_tuple_tuple, ty_tuple_dict, ty_list_int, ty_list_bool, ty_list_str, ty_list_list, ty_list_tuple, ty_list_dict, ty_dict_int, ty_dict_bool, ty_dict_str, ty_dict_list, ty_dict_tuple, ty_dict_dict, at_0, at_1, at_2, at_3, at_4, nat_0, nat_1, nat_2, nat_3, nat_4, nat_5, nat_6, at_end, at_end1, at_end2, at_end3, bools_t, all_t, Nat.reduceLT, Nat.reduceLeDiff, Int.reduceLT, Int.reduceLE, Int.reduceAdd, Int.reduceSub, Int.reduceMul, Int.reducePow, Int.reduceToNat, Int.reduceNeg, ifx_t, ifx_f, ifx_n, gx_ok, eqT_int, List.getElem?_cons_zero, List.getElem?_cons_succ, List.set_cons_zero, List.set_cons_succ, List.map_cons, List.map_nil, List.nil_append, List.cons_append, List.replicate_succ, List.replicate_zero, List.length_cons, List.length_nil, List.any_cons, List.any_nil, Nat.reduceAdd, Nat.reduceSub, Bool.or_false, Bool.or_true, Bool.false_or, Bool.true_or, Bool.not_true, Bool.not_false, Option.map_some, Option.bind_some, decide_true, decide_false, true_and, and_true, wipeL, ↓gg_KINDS, ↓kr_led_0, ↓kr_led_1, ↓xr_need_web_1, ↓tx__law_told_BadWeb, ↓tx__law_told_BadRenaming, ↓td_led_1, ↓td_led_2])
  | `(tactic| simp_arith [$es,*]) => `(tactic| simp only [↓x_var, ↓x_int, ↓x_bl, ↓x_non, ↓x_str, ↓x_bin, ↓x_cmp, ↓x_idx, ↓x_neg, ↓x_not, ↓x_isN, ↓x_isnN, ↓x_rev, ↓x_gl0, ↓x_glc, ↓x_gl1, ↓x_sset, ↓x_lset, ↓x_isiT, ↓x_chn, ↓x_ite, ↓x_and, ↓x_or, ↓x_and1, ↓x_or1, ↓x_and2, ↓x_or2, ↓x_tup, ↓x_lst, ↓x_dic, ↓x_slc, ↓x_call, ↓x_new, ↓x_callK, ↓x_blt, ↓x_mth, ↓x_rngL, ↓x_rngT, ↓x_comp, ↓x_told, ↓x_enil, ↓x_econs, ↓x_kv0, ↓x_kv, ↓x_ono, ↓x_oso, ↓x_cno, ↓x_cso, ↓x_val, ↓x_rng1, ↓x_rng2, ↓x_rng3, ↓x_enum, ↓x_gvar, ↓x_gtup, ↓x_gtupR, ↓x_gsub, ↓x_gnil, ↓x_gcons, ↓x_snil, ↓x_scons, ↓x_pass, ↓x_expr, ↓x_ret, ↓x_retN, ↓x_set, ↓x_aug, ↓x_augO, ↓x_augA, ↓x_augS, ↓x_iff, ↓x_for, ↓x_whl, ↓x_brk, ↓x_cnt, ↓x_seqN, ↓x_seqR, ↓x_seqB, ↓x_exprX, ↓x_retX, ↓x_setX, ↓x_raise, ↓x_exO, ↓x_exX, ↓x_stO, ↓x_stX, ↓x_flO, ↓x_flE, ↓x_tdO, ↓x_seqX, ↓x_seqC, ↓x_finR, ↓x_finN, ↓x_lk, ↓x_negR, ↓x_negB, ↓x_notR, ↓x_cnd, ↓x_oiR, ↓x_opt, ↓x_ob, ↓x_r1, ↓x_r2, ↓x_r3, ↓x_enumT, ↓x_valT, ↓x_valF, ↓x_lst', ↓x_dk', ↓x_valL, ↓x_enumL, ↓x_mthL, ↓x_mth_append, ↓x_mth_extend, ↓x_mth_pop, ↓x_mth_get, ↓x_newT, ↓x_newL, ↓x_dicR, ↓x_add, ↓x_sub, ↓x_addB, ↓x_subB, ↓x_mul, ↓x_fdiv, ↓x_mod, ↓x_pow, ↓x_tadd, ↓x_tmul, ↓x_lmul, ↓x_ladd, ↓x_lt, ↓x_le, ↓x_gt, ↓x_ge, ↓x_gtT, ↓x_is, ↓x_isnt, ↓x_eq, ↓x_ne, ↓x_inn, ↓x_nin, ↓x_tix, ↓x_rix, ↓x_ixL, ↓x_ixD, ↓x_setD, ↓x_stD, ↓x_stL, ↓x_app, ↓x_if, ↓x_ext, ↓x_pop, ↓x_lenT, ↓x_lenR, ↓x_lenL, ↓x_listT, ↓x_listL, ↓x_tupL, ↓x_tupT, ↓x_sortT, ↓x_sortL, ↓x_all, ↓x_any, ↓x_sum, ↓x_max2, ↓x_min2, ↓x_maxL, ↓x_minL, ↓x_abs, ↓x_tointB, ↓x_toint, ↓x_repr, ↓x_rep, ↓x_slcT, ↓x_slcF, ↓x_slcL, ↓x_revL, ↓x_revT, ↓x_strB, ↓x_strI, ↓x_lsetT, ↓x_ssetL, ↓x_isi_int, ↓x_isi_bool, ↓x_isi_NoneType, ↓x_isi_str, ↓x_isi_tuple, ↓x_isi_list, ↓x_xcq, ↓gx_bd, ↓gx_ok, ↓x_loopN, ↓x_loopC, ↓x_loopB, ↓x_loopR, ↓x_loopX, ty_NoneType_int, ty_NoneType_bool, ty_NoneType_str, ty_NoneType_list, ty_NoneType_tuple, ty_NoneType_dict, ty_int_int, ty_int_bool, ty_int_str, ty_int_list, ty_int_tuple, ty_int_dict, ty_bool_int, ty_bool_bool, ty_bool_str, ty_bool_list, ty_bool_tuple, ty_bool_dict, ty_str_int, ty_str_bool, ty_str_str, ty_str_list, ty_str_tuple, ty_str_dict, ty_tuple_int, ty_tuple_bool, ty_tuple_str, ty_tuple_list, ty_tuple_tuple, ty_tuple_dict, ty_list_int, ty_list_bool, ty_list_str, ty_list_list, ty_list_tuple, ty_list_dict, ty_dict_int, ty_dict_bool, ty_dict_str, ty_dict_list, ty_dict_tuple, ty_dict_dict, at_0, at_1, at_2, at_3, at_4, nat_0, nat_1, nat_2, nat_3, nat_4, nat_5, nat_6, at_end, at_end1, at_end2, at_end3, bools_t, all_t, Nat.reduceLT, Nat.reduceLeDiff, Int.reduceLT, Int.reduceLE, Int.reduceAdd, Int.reduceSub, Int.reduceMul, Int.reducePow, Int.reduceToNat, Int.reduceNeg, ifx_t, ifx_f, ifx_n, gx_ok, eqT_int, List.getElem?_cons_zero, List.getElem?_cons_succ, List.set_cons_zero, List.set_cons_succ, List.map_cons, List.map_nil, List.nil_append, List.cons_append, List.replicate_succ, List.replicate_zero, List.length_cons, List.length_nil, List.any_cons, List.any_nil, Nat.reduceAdd, Nat.reduceSub, Bool.or_false, Bool.or_true, Bool.false_or, Bool.true_or, Bool.not_true, Bool.not_false, Option.map_some, Option.bind_some, decide_true, decide_false, true_and, and_true, wipeL, ↓gg_KINDS, ↓kr_led_0, ↓kr_led_1, ↓xr_need_web_1, ↓tx__law_told_BadWeb, ↓tx__law_told_BadRenaming, ↓td_led_1, ↓td_led_2, $es,*])
local instance kMk3 : Mkr := noMk
set_option maxHeartbeats 4000000 in
theorem law_go {ns : List Int} {n : Nat} (hl : ns.length ≤ 63) : ∃ h', callN D (n + 21) "law" [scr ns] [] = .ok (.bl true) h' := by
  obtain ⟨i1, r, c, e1, d1⟩ := deck (n := n + 19) (h := []) hl
  have z : Gx (callN D (n + 21) "law" [scr ns] []) (P := ⟨fun v _ => v = .bl true⟩) := by
    refine call_gx f_law rfl ?_
    rw [x_scons]
    refine gx_mono (Q := fun p h => p = (.nx, [some (scr ns), some (.ref r), none, none, none, none, none, none, none, none, none, none, none, none, none]) ∧ h = i1) ?_ ?_
    · simp_arith [e1]
    intro p h hp
    obtain ⟨ep, rfl⟩ := hp
    subst ep
    obtain ⟨i2, v, e2, hv, d2, k2⟩ := draw (n := n + 19) (b := 14) d1 (by decide)
    rw [x_seqN, x_scons]
    refine gx_mono (Q := fun p h => p = (.nx, [some (scr ns), some (.ref r), some (.int (1 + v)), none, none, none, none, none, none, none, none, none, none, none, none]) ∧ h = i2) ?_ ?_
    · simp_arith [e2]
    intro p h hp
    obtain ⟨ep, rfl⟩ := hp
    subst ep
    generalize hm : 1 + v = m
    have m1 : 1 ≤ m ∧ m ≤ 14 := by omega
    rw [x_seqN, x_scons]
    refine gx_mono (Q := fun p h => ∃ w : Web, p = (.nx, [some (scr ns), some (.ref r), some (.int m), some (webT w), none, none, none, none, none, none, none, none, none, none, none]) ∧ GWk 3 w ∧ w.1 = m ∧ Dq h r c) ?_ ?_
    · obtain ⟨i3, g, e3, hg, d3, k3⟩ := draw (n := n + 19) (b := 4) d2 (by decide)
      simp_arith [e3]
      refine ifx_by (fun q => ?_) (fun q => ?_)
      · obtain ⟨i4, u, e4, hu, d4, k4⟩ := draw (n := n + 19) (b := 25) d3 (by decide)
        obtain ⟨i5, w, e5, gw, w1, d5, k5⟩ := webg (n := n + 17) (m := m) (K := 3) (N := u) d4 (by omega) (by omega) (by omega)
        simp_arith [e4, e5]
        exact ⟨w, rfl, gw, w1, d5⟩
      · obtain ⟨i4, u, e4, hu, d4, k4⟩ := draw (n := n + 19) (b := 8) d3 (by decide)
        obtain ⟨i5, w, e5, gw, w1, d5, k5⟩ := webg (n := n + 17) (m := m) (K := 3) (N := u) d4 (by omega) (by omega) (by omega)
        simp_arith [e4, e5]
        exact ⟨w, rfl, gw, w1, d5⟩
    intro p i5 hp
    obtain ⟨w, ep, gw, w1, d5⟩ := hp
    have wl := gw.len
    subst ep
    have g3 := gw.gw (Int.le_refl _)
    obtain ⟨i6, L, e6, rL, d6, k6⟩ := order (n := n + 18) (m := m) d5 (by omega)
    obtain ⟨i7, M, e7, rM, d7, k7⟩ := order (n := n + 18) (m := m) d6 (by omega)
    have lL := ren_len rL
    have lM := ren_len rM
    rw [x_seqN, x_scons]
    refine gx_mono (Q := fun p h => p = (.nx, [some (scr ns), some (.ref r), some (.int m), some (webT w), none, some (.tup (L.map T.int)), some (.tup (M.map T.int)), none, none, none, none, none, none, none, none]) ∧ h = i7) ?_ ?_
    · simp_arith [e6, e7, Nat.reduceLeDiff]
    intro p h hp
    obtain ⟨ep, rfl⟩ := hp
    subst ep
    rw [x_seqN, x_scons]
    refine gx_mono (Q := fun p h => ∃ s : Nat, p = (.nx, [some (scr ns), some (.ref r), some (.int m), some (webT w), none, some (.tup (L.map T.int)), some (.tup (M.map T.int)), some (.ref s), some (.tup ((both L M).map T.int)), none, none, none, none, none, none]) ∧ Dq h r c ∧ s ∉ [r, c] ∧ ∃ B : List Int, h[s]? = some (.lst (B.map T.int)) ∧ Back L B 0) ?_ ?_
    · have r0 : (List.replicate m.toNat [T.int 0]).flatten = (List.replicate m.toNat (0 : Int)).map T.int := by rw [flat_one, List.map_replicate]
      have lr : (List.replicate m.toNat [T.int 0]).flatten.length ≤ 16777216 := by rw [r0, List.length_map, List.length_replicate]; omega
      simp_arith [Nat.reduceLeDiff, lr, ↓x_if, show -(2 ^ 62) ≤ m ∧ m < 2 ^ 62 by omega]
      have dq := (d7.keep (.app [O.lst [T.int 0]])).keep (.app [O.lst (List.replicate m.toNat [T.int 0]).flatten])
      have n1 : (h ++ [O.lst [T.int 0]]).length ∉ [r, c] := d7.not_in (by simp)
      refine ⟨by omega, ?_⟩
      refine comp_map (fun t => .int (M.getD (unint t).toNat 0)) (fun h' => h' = h ++ [O.lst [T.int 0]] ++ [O.lst (List.replicate m.toNat [T.int 0]).flatten]) rfl (by rw [List.length_map]; omega) (fun _ _ p hp => by simp at hp) (fun x h1 hx hj => ?_) (fun h1 hj => ?_)
      · subst hj
        obtain ⟨a, ha, rfl⟩ := List.mem_map.mp hx
        have ma := rI_mem.mp (rL.mem_iff.mp ha)
        simp_arith [at_ren rM (a := a) (by omega)]
        rfl
      · subst hj
        have e : (L.map T.int).map (fun t => T.int (M.getD (unint t).toNat 0)) = (both L M).map T.int := by
          unfold both
          rw [List.map_map, List.map_map]
          rfl
        rw [e]
        simp_arith [Nat.reduceLeDiff]
        exact ⟨_, rfl, dq.keep (.app _), n1, List.replicate m.toNat 0, at_old (by rw [← r0]; exact at_end), by rw [List.length_replicate]; omega, fun j hj => by omega⟩
    intro p i8 hp
    obtain ⟨s, ep, d8, sn, B0, s0, b0⟩ := hp
    subst ep
    rw [x_seqN, x_scons]
    refine gx_mono (Q := fun p h => ∃ (a b : Option T), p = (.nx, [some (scr ns), some (.ref r), some (.int m), some (webT w), none, some (.tup (L.map T.int)), some (.tup (M.map T.int)), some (.ref s), some (.tup ((both L M).map T.int)), a, b, none, none, none, none]) ∧ Dq h r c ∧ ∃ B : List Int, h[s]? = some (.lst (B.map T.int)) ∧ Back L B L.length) ?_ ?_
    · simp_arith
      refine gx_for (fun i l h => ∃ (a b : Option T), l = [some (scr ns), some (.ref r), some (.int m), some (webT w), none, some (.tup (L.map T.int)), some (.tup (M.map T.int)), some (.ref s), some (.tup ((both L M).map T.int)), a, b, none, none, none, none] ∧ Dq h r c ∧ ∃ B : List Int, h[s]? = some (.lst (B.map T.int)) ∧ Back L B i) ⟨_, _, rfl, d8, B0, s0, b0⟩ (fun _ _ _ _ p hp => by simp at hp) ?_ ?_
      · intro i x l h hx hj
        obtain ⟨a, b, el, dq, B, sB, bB⟩ := hj
        subst el
        obtain ⟨v, hv, ex⟩ := enum_get hx
        subst ex
        obtain ⟨bn, v0, vl⟩ := back_step rL hv bB
        simp_arith [sB, show ixN (B.map T.int).length v = some v.toNat from ixN_ok (by rw [List.length_map]; exact ⟨v0, vl⟩)]
        exact ⟨_, _, rfl, dq.set sn, B.set v.toNat i, by rw [List.map_set]; exact at_set sB, bn⟩
      · intro l h hj
        obtain ⟨a, b, el, dq, B, sB, bB⟩ := hj
        subst el
        rw [enumT_len, List.length_map] at bB
        exact ⟨a, b, rfl, dq, B, sB, bB⟩
    intro p i9 hp
    obtain ⟨a9, b9, ep, d9, B, sB, bB⟩ := hp
    subst ep
    have rB := back_ren rL bB
    have n1 := g3.n1
    have hw : w.1 < 1000 := by omega
    have rLw : RenL w.1 L := by rw [w1]; exact rL
    have rMw : RenL w.1 M := by rw [w1]; exact rM
    have rBw : RenL w.1 B := by rw [w1]; exact rB
    have rIw : RenL w.1 (rI w.1.toNat) := List.Perm.refl _
    have rOw : RenL w.1 (both L M) := both_ren rLw rMw (by omega)
    have ow : ∀ {S : List Nat} {h : Hh} {k : Nat} {u : Web}, GWk 3 u → OkV S k h (webT u) := fun g => ok_web g (by decide)
    have oi : ∀ {S : List Nat} {h : Hh} {A : List Int}, RenL w.1 A → OkV S 1000000 h (.tup (A.map T.int)) := fun {S h A} q => (RVs.tup (ren_rv (E := 0) (R := 0) q (by omega))).okv (by decide) (by decide)
    have gL := led_gwk rLw gw
    have eI : ledW w (rI w.1.toNat) = w := led_id (fun a ha => rI_getD ha) g3.tie g3.ord
    have eB : ledW (ledW w L) B = w := by rw [led_both rLw g3.tie]; exact led_id (fun a ha => back_id rLw bB ha) g3.tie g3.ord
    have eM : ledW (ledW w L) M = ledW w (both L M) := led_both rLw g3.tie
    have rw2 : ∀ {S : List Nat} {h : Hh} {u u2 : Web}, GWk 3 u → GWk 3 u2 → RV S h 340 4 0 2020 (.tup [webT u, webT u2]) := fun {S h u u2} q q2 => (rvp ((rv_web q (by decide)).up (K2 := 340) (D2 := 3) (R2 := 0) (W2 := 1009) (by decide) (Nat.le_refl _) (Nat.le_refl _) (Nat.le_refl _)) ((rv_web q2 (by decide)).up (K2 := 340) (D2 := 3) (R2 := 0) (W2 := 1009) (by decide) (Nat.le_refl _) (Nat.le_refl _) (Nat.le_refl _)))
    have rep : ∀ {u u2 : Web}, GWk 3 u → GWk 3 u2 → ∃ d, (∀ h : Hh, datR h (.tup [webT u, webT u2]) = some d) ∧ (decide (d.shown.length ≤ 16777216) && d.showable && decide (d.depth ≤ 60)) = true := fun {u u2} q q2 => by
      obtain ⟨d, q3, q4⟩ := (rw2 (S := []) (h := []) q q2).repr (by decide) (by decide) (by decide)
      exact ⟨d, fun h => q3 h ⟨Nat.zero_le _, fun n o _ e => by simp at e⟩, q4⟩
    obtain ⟨dA, rA, fA⟩ := rep gL gw
    obtain ⟨dB, rB2, fB⟩ := rep gw (led_gwk rOw gw)
    rw [x_seqN, x_scons]
    refine gx_mono (Q := fun p h => p = (.nx, [some (scr ns), some (.ref r), some (.int m), some (webT w), none, some (.tup (L.map T.int)), some (.tup (M.map T.int)), some (.ref s), some (.tup ((both L M).map T.int)), a9, b9, none, none, none, none]) ∧ Dq h r c ∧ h[s]? = some (.lst (B.map T.int))) ?_ ?_
    · obtain ⟨j1, f1, q1⟩ := led_ok (n := n + 14) (h := i9) (S := []) (k := 1000000) (by decide) g3 hw (ow gw) (oi rLw) rLw
      obtain ⟨j2, f2, q2⟩ := led_ok (n := n + 14) (h := j1) (S := []) (k := 1000000) (by decide) g3 hw (ow gw) (oi rIw) rIw
      obtain ⟨j3, f3, q3⟩ := lled (n := n + 19) (h := j2) rLw g3.tie (by omega)
      have kk := (q1.trans q2).trans q3
      rw [eI, w1] at f2
      simp_arith [f1, rgBig (i := 0) (j := m) (by omega), rangeT_rI, List.length_map, rI_len, show m.toNat ≤ 16777216 by omega, f2, Nat.reduceLeDiff, rA, fA, f3, eqT_sr]
      exact ⟨d9.keep kk, kk.at_ s _ (by simp) sB⟩
    intro p i10 hp
    obtain ⟨ep, d10, sB⟩ := hp
    subst ep
    rw [x_seqN, x_scons]
    refine gx_mono (Q := fun p h => p = (.nx, [some (scr ns), some (.ref r), some (.int m), some (webT w), none, some (.tup (L.map T.int)), some (.tup (M.map T.int)), some (.ref s), some (.tup ((both L M).map T.int)), a9, b9, none, none, none, none]) ∧ Dq h r c) ?_ ?_
    · have gL3 := gL.gw (Int.le_refl _)
      obtain ⟨j1, f1, q1⟩ := led_ok (n := n + 14) (h := i10) (S := []) (k := 1000000) (by decide) g3 hw (ow gw) (oi rLw) rLw
      have s1 := q1.at_ s _ (by simp) sB
      obtain ⟨j2, f2, q2⟩ := led_ok (n := n + 14) (h := j1) (S := []) (k := 1000000) (w := ledW w L) (L := B) (by decide) gL3 hw (ow gL) (oi rBw) rBw
      obtain ⟨j3, f3, q3⟩ := led_ok (n := n + 14) (h := j2) (S := []) (k := 1000000) (by decide) g3 hw (ow gw) (oi rLw) rLw
      obtain ⟨j4, f4, q4⟩ := led_ok (n := n + 14) (h := j3) (S := []) (k := 1000000) (w := ledW w L) (L := M) (by decide) gL3 hw (ow gL) (oi rMw) rMw
      obtain ⟨j5, f5, q5⟩ := led_ok (n := n + 14) (h := j4) (S := []) (k := 1000000) (by decide) g3 hw (ow gw) (oi rOw) rOw
      rw [eB] at f2
      rw [eM] at f4
      simp_arith [f1, s1, f2, f3, f4, Nat.reduceLeDiff, rB2, fB, f5, eqT_sr]
      exact d10.keep ((((q1.trans q2).trans q3).trans q4).trans q5)
    intro p i11 hp
    obtain ⟨ep, d11⟩ := hp
    subst ep
    have lw : ∀ {h : Hh}, RV [r, c] h 340 20 12 12000 (webT w) := (rv_web gw (by decide)).up (by decide) (by decide) (by decide) (by decide)
    have lo : ∀ {h : Hh}, RV [r, c] h 340 20 12 12000 (.tup (L.map T.int)) := (RVs.tup (ren_rv (E := 0) (R := 0) rLw (by omega))).up (by decide) (by decide) (by decide) (by decide)
    rw [x_seqN, x_scons]
    refine gx_mono (Q := fun p h => ∃ (a b d e f : Option T), p = (.nx, [some (scr ns), some (.ref r), some (.int m), some (webT w), a, some (.tup (L.map T.int)), some (.tup (M.map T.int)), some (.ref s), some (.tup ((both L M).map T.int)), a9, b9, b, d, e, f]) ∧ Dq h r c) ?_ ?_
    · simp_arith [rgBig (i := 0) (j := 8) (by decide)]
      refine gx_for (fun i l h => ∃ (a b d e f : Option T), l = [some (scr ns), some (.ref r), some (.int m), some (webT w), a, some (.tup (L.map T.int)), some (.tup (M.map T.int)), some (.ref s), some (.tup ((both L M).map T.int)), a9, b9, b, d, e, f] ∧ Dq h r c) ⟨_, _, _, _, _, rfl, d11⟩ (fun _ _ _ _ p hp => by simp at hp) ?_ ?_
      · intro i x l h hx hj
        obtain ⟨a, b, dd, e, f, el, dq⟩ := hj
        subst el
        let X : List T := [.tup (cutT (L.map T.int) none (some (-1))), .tup (L.map T.int ++ [.int m]), .ref h.length, .tup (cutT (L.map T.int) none (some (-1)) ++ cutT (L.map T.int) none (some 1)), .tup (List.replicate m.toNat (.bl true)), .tup (L.map T.int).reverse, .int m, .non, .tup [], .tup (List.replicate m.toNat (.int 0)), .tup (List.replicate m.toNat (.int 1))]
        have nh : h.length ∉ [r, c] := dq.not_in (Nat.le_refl _)
        let h0 : Hh := h ++ [O.lst (L.map T.int)]
        have d0 : Dq h0 r c := dq.keep (.app _)
        have oL : RVs [r, c] h0 335 0 0 112 (L.map T.int) := ren_rv rLw (by omega)
        have tu : ∀ {xs : List T} {W : Nat}, RVs [r, c] h0 335 0 0 W xs → W ≤ 1000 → RV [r, c] h0 340 2 2 1000 (.tup xs) := fun a hW => (RVs.tup a).up (by decide) (by decide) (by decide) hW
        have om : RV [r, c] h0 335 0 0 7 (.int m) := .intS (j := 7) (by omega) (by decide) (by decide) (Nat.le_refl _)
        have rk : ∀ {x : T}, RV [r, c] h0 335 0 0 7 x → RV [r, c] h0 340 2 2 1000 (.tup (List.replicate m.toNat x)) := fun o => tu (rep_rv o m.toNat) (by omega)
        have oX : ∀ x ∈ X, RV [r, c] h0 340 2 2 1000 x := pick11 (tu (oL.cut _ _) (by decide)) (tu (oL.app om.one) (by decide)) ((RVs.lst nh at_end oL).up (by decide) (by decide) (by decide) (by decide)) (tu ((oL.cut _ _).app (oL.cut _ _)) (by decide)) (rk .bl) (tu oL.rev (by decide)) (om.up (by decide) (by decide) (by decide) (by decide)) .non (tu RVs.nil (by decide))
          (rk (.intS (j := 7) (by decide) (by decide) (by decide) (by decide))) (rk (.intS (j := 7) (by decide) (by decide) (by decide) (by decide)))
        obtain ⟨j1, x1, f1, o1, q1, p1⟩ := pickR (n := n + 18) (h := h0) (xs := X) d0 (by simp [X]) oX
        have c1 : ∀ t : T, (L.map T.int ++ [t]).length ≤ 16777216 := fun t => by rw [List.length_append, List.length_map, List.length_singleton]; omega
        have c2 : (cutT (L.map T.int) none (some (-1)) ++ cutT (L.map T.int) none (some 1)).length ≤ 16777216 := by
          have a1 := cutT_len (L.map T.int) none (some (-1))
          have a2 := cutT_len (L.map T.int) none (some 1)
          rw [List.length_map] at a1 a2
          rw [List.length_append]
          omega
        have cm : (1 ≤ m ∧ m ≤ 1000 ∧ 0 + 1 ≤ 1000) := by omega
        have fl : ∀ x : T, (List.replicate m.toNat [x]).flatten = List.replicate m.toNat x := fun x => flat_one _ x
        have kp1 : Keep [r, c] h j1 := (Keep.app [O.lst (L.map T.int)]).trans p1
        have step : ∀ {hh : Hh} {t : T} {u : T}, Dq hh r c → RV [r, c] hh 340 20 12 12000 t → RV [r, c] hh 340 20 12 12000 u → ∃ h2 h3, callN D (n + 20) "_law_is_right" [u, t] hh = .ok (.bl true) h2 ∧ callN D (n + 20) "_law_is_right" [u, .tup (L.map T.int)] h2 = .ok (.bl true) h3 ∧ Dq h3 r c := fun {hh t u} dd ot ou => by
          obtain ⟨h2, g1, y1⟩ := right (n := n + 13) ou ot
          obtain ⟨h3, g2, y2⟩ := right (n := n + 13) (h := h2) (S := [r, c]) (ou.keep y1.nil) lo
          exact ⟨h2, h3, g1, g2, (dd.keep y1).keep y2⟩
        obtain ⟨j2, g, f2, hg, q2, p2⟩ := draw (n := n + 19) (b := 2) q1 (by decide)
        have o12 := o1.keep p2
        have upA : ∀ {hh : Hh} {x : T}, RV [r, c] hh 340 2 2 1000 x → RV [r, c] hh 340 20 12 12000 x := fun o => o.up (Nat.le_refl _) (by decide) (by decide) (by decide)
        have near : ∀ {hh : Hh} {t : T}, Dq hh r c → RV [r, c] hh 340 20 12 12000 t → ∃ (h2 : Hh) (gg : Int), callN D (n + 20) "_law_draw" [.ref r, .int 3] hh = .ok (.int gg) h2 ∧ Dq h2 r c ∧ Keep [r, c] hh h2 ∧
            (gg = 0 → ∃ (h3 : Hh) (u : T), callN D (n + 20) "_law_bent" [.ref r, webT w, .int 4] h2 = .ok u h3 ∧ Dq h3 r c ∧ RV [r, c] h3 340 20 12 12000 u ∧ Keep [r, c] h2 h3) := fun {hh t} dd ot => by
          obtain ⟨h2, gg, y1, hgg, y2, y3⟩ := draw (n := n + 19) (b := 3) dd (by decide)
          refine ⟨h2, gg, y1, y2, y3, fun _ => ?_⟩
          obtain ⟨h3, u, z1, z2, z3, z4⟩ := bent (n := n + 9) (K := 335) (by decide) 4 (by decide : (1009 : Nat) ≤ 100000) y2 (rv_web (S := [r, c]) (h := h2) gw (by decide))
          rw [nat_4] at z1
          exact ⟨h3, u, z1, z3, z2.up (by decide) (by decide) (by decide) (by decide), z4⟩
        dsimp only [X, h0] at f1
        simp_arith [Nat.reduceLeDiff, c1, c2, cm, fl, show (L.map T.int).length ≤ 16777216 by rw [List.length_map]; omega, Nat.zero_le, f1, f2]
        refine ifx_by (fun qg => ?_) (fun qg => ?_)
        · obtain ⟨h2, gg, y1, y2, y3, yb⟩ := near q2 (upA o12)
          simp_arith [y1]
          refine ifx_by (fun qq => ?_) (fun qq => ?_)
          · obtain ⟨h3, u, z1, z2, z3, z4⟩ := yb qq
            obtain ⟨h4, h5, s1, s2, s3⟩ := step z2 ((upA o12).keep (y3.trans z4)) z3
            simp_arith [z1, s1, s2]
            exact ⟨_, _, _, _, _, rfl, s3⟩
          · obtain ⟨h4, h5, s1, s2, s3⟩ := step y2 ((upA o12).keep y3) lw
            simp_arith [s1, s2]
            exact ⟨_, _, _, _, _, rfl, s3⟩
        · obtain ⟨j3, t, f3, o3, q3, p3⟩ := bent (n := n + 11) (K := 335) (by decide) 2 (by decide : (112 : Nat) ≤ 100000) q2 (RVs.tup (ren_rv (S := [r, c]) (h := j2) (E := 0) (R := 0) rLw (by omega)))
          rw [nat_2] at f3
          have o3' : RV [r, c] j3 340 20 12 12000 t := o3.up (by decide) (by decide) (by decide) (by decide)
          obtain ⟨h2, gg, y1, y2, y3, yb⟩ := near q3 o3'
          simp_arith [f3, y1]
          refine ifx_by (fun qq => ?_) (fun qq => ?_)
          · obtain ⟨h3, u, z1, z2, z3, z4⟩ := yb qq
            obtain ⟨h4, h5, s1, s2, s3⟩ := step z2 (o3'.keep (y3.trans z4)) z3
            simp_arith [z1, s1, s2]
            exact ⟨_, _, _, _, _, rfl, s3⟩
          · obtain ⟨h4, h5, s1, s2, s3⟩ := step y2 (o3'.keep y3) lw
            simp_arith [s1, s2]
            exact ⟨_, _, _, _, _, rfl, s3⟩
      · intro l h hj
        obtain ⟨a, b, dd, e, f, el, dq⟩ := hj
        subst el
        exact ⟨_, _, _, _, _, rfl, dq⟩
    intro p i12 hp
    obtain ⟨a12, b12, c12, e12, f12, ep, d12⟩ := hp
    subst ep
    obtain ⟨j1, x1, f1, o1, q1, p1⟩ := any (n := n + 14) 3 d12
    obtain ⟨j2, x2, f2, o2, q2, p2⟩ := any (n := n + 15) 2 q1
    have a3 : wA 3 = 11099 := by decide
    have a2 : wA 2 = 3692 := by decide
    obtain ⟨j3, f3, p3⟩ := right (n := n + 13) ((o1.keep p2).up (K2 := 340) (D2 := 20) (R2 := 12) (W2 := 12000) (by decide) (by decide) (by decide) (by omega)) (o2.up (K2 := 340) (D2 := 20) (R2 := 12) (W2 := 12000) (by decide) (by decide) (by decide) (by omega))
    have q3 := q2.keep p3
    have nA : j3.length ∉ [r, c] := q3.not_in (Nat.le_refl _)
    have nB : (j3 ++ [O.lst (w.2.map tieT)]).length ∉ [r, c] := q3.not_in (by simp)
    have kA : Keep [r, c] (j3 ++ [O.lst (w.2.map tieT)]) (j3 ++ [O.lst (w.2.map tieT)] ++ [O.lst (L.map T.int)]) := .app _
    have oA : RV [r, c] (j3 ++ [O.lst (w.2.map tieT)]) 335 3 1 1000 (.ref j3.length) := (RVs.lst (D := 1) (R := 0) nA at_end (rv_ties gw.tie (by omega) (by decide))).up (Nat.le_refl _) (by decide) (by decide) (by omega)
    have om : RV [r, c] (j3 ++ [O.lst (w.2.map tieT)]) 335 3 1 7 (.int m) := .intS (j := 7) (by omega) (by decide) (by decide) (Nat.le_refl _)
    have oN : RV [r, c] (j3 ++ [O.lst (w.2.map tieT)] ++ [O.lst (L.map T.int)]) 340 20 12 12000 (.tup [.int m, .ref j3.length]) := ((rvp om oA).keep kA).up (by decide) (by decide) (by decide) (by decide)
    have oB : RV [r, c] (j3 ++ [O.lst (w.2.map tieT)] ++ [O.lst (L.map T.int)]) 340 20 12 12000 (.ref (j3 ++ [O.lst (w.2.map tieT)]).length) := (RVs.lst (D := 0) (R := 0) nB at_end (ren_rv rLw (by omega))).up (by decide) (by decide) (by decide) (by decide)
    obtain ⟨j4, f4, p4⟩ := right (n := n + 13) oN oB
    obtain ⟨j5, f5, p5⟩ := right (n := n + 13) (h := j4) (S := [r, c]) lw lo
    rw [nat_3] at f1
    rw [nat_2] at f2
    simp_arith [f1, f2, f3, x_w1, List.length_map, show w.2.length ≤ 16777216 by omega, Nat.reduceLeDiff, show L.length ≤ 16777216 by omega, f4, f5]
  obtain ⟨v, h', e, rfl⟩ := gx_ex z
  exact ⟨h', e⟩
end K02


namespace K02
theorem law_true : ∀ ns : List Int, ns.length ≤ 63 → ∃ h', MP.callN D (30 + 1) "law" [MP.scr ns] [] = .ok (.bl true) h' := fun _ h => law_go (n := 10) h
end K02
open PySem PySem.W PyProof.Rows
set_option maxHeartbeats 0 in
theorem PySem.Challenge.cw_manydeep_k02_webs_led_by_renamings_holds : PySem.Challenge.rw_manydeep_k02_webs_led_by_renamings.Holds := by
  w_on; o_law; k_head; (case hw => w_witness2)
  k_fill
  refine MP.walk_mp (l := PySem.Challenge.rw_manydeep_k02_webs_led_by_renamings) (m := 63) (k := 30) (x := "_law_script") (D := K02.D) (fd := K02.d_law) (f := "law") (tt := ⟨[(?lc__law_is_right, ?lp__law_is_right, Str.ofString "_law_is_right" ++ ".<locals>." ++ "<lambda>")]⟩) rfl (by decide) rfl ⟨rfl, by decide, by decide⟩ (fun w h Y => by first | exact PySem.W.kIn_of Y | exact PySem.W.km_in_of Y) rfl rfl rfl ?hT ?hD K02.law_true
  case hT =>
    intro w lo mean mg mb h T KX
    refine' (MP.tabs_cons T KX (x := Str.ofString "_law_is_right") ?lr__law_is_right ?l1__law_is_right ?l2__law_is_right ?l3__law_is_right ?l4__law_is_right ?l5__law_is_right ?ln__law_is_right MP.tabs_nil)
    (case lr__law_is_right => rfl)
    (case l1__law_is_right => k_is)
    (case l2__law_is_right => k_is)
    (case l3__law_is_right => rfl)
    (case l4__law_is_right => k_is)
    (case l5__law_is_right => rfl)
    (case ln__law_is_right => rfl)
  case hD =>
    intro w mg h KX G
    refine' MP.all_tbl KX G (.cons (MP.DefAt.mk1 (st := K02.topS 6) KX G K02.s_is_integer K02.c_is_integer K02.b_is_integer K02.k_is_integer ?a_is_integer ?l_is_integer ?c_is_integer ?k_is_integer (MP.noLam (by decide +kernel))) (.cons (MP.DefAt.mk1 (st := K02.topS 7) KX G K02.s_is_between K02.c_is_between K02.b_is_between K02.k_is_between ?a_is_between ?l_is_between ?c_is_between ?k_is_between (MP.noLam (by decide +kernel))) (.cons (MP.DefAt.mk1 (st := K02.topS 8) KX G K02.s_is_place K02.c_is_place K02.b_is_place K02.k_is_place ?a_is_place ?l_is_place ?c_is_place ?k_is_place (MP.noLam (by decide +kernel))) (.cons (MP.DefAt.mk1 (st := K02.topS 9) KX G K02.s_is_tie K02.c_is_tie K02.b_is_tie K02.k_is_tie ?a_is_tie ?l_is_tie ?c_is_tie ?k_is_tie (MP.noLam (by decide +kernel))) (.cons (MP.DefAt.mk1 (st := K02.topS 10) KX G K02.s_is_web_value K02.c_is_web_value K02.b_is_web_value K02.k_is_web_value ?a_is_web_value ?l_is_web_value ?c_is_web_value ?k_is_web_value (MP.noLam (by decide +kernel))) (.cons (MP.DefAt.mk1 (st := K02.topS 11) KX G K02.s_need_web K02.c_need_web K02.b_need_web K02.k_need_web ?a_need_web ?l_need_web ?c_need_web ?k_need_web (MP.noLam (by decide +kernel))) (.cons (MP.DefAt.mk1 (st := K02.topS 13) KX G K02.s_is_renaming K02.c_is_renaming K02.b_is_renaming K02.k_is_renaming ?a_is_renaming ?l_is_renaming ?c_is_renaming ?k_is_renaming (MP.noLam (by decide +kernel))) (.cons (MP.DefAt.mk1 (st := K02.topS 14) KX G K02.s_led_web K02.c_led_web K02.b_led_web K02.k_led_web ?a_led_web ?l_led_web ?c_led_web ?k_led_web (MP.noLam (by decide +kernel))) (.cons (MP.DefAt.mk1 (st := K02.topS 15) KX G K02.s_led K02.c_led K02.b_led K02.k_led ?a_led ?l_led ?c_led ?k_led (MP.noLam (by decide +kernel))) (.cons (MP.DefAt.mk1 (st := K02.topS 17) KX G K02.s__law_deck K02.c__law_deck K02.b__law_deck K02.k__law_deck ?a__law_deck ?l__law_deck ?c__law_deck ?k__law_deck (MP.noLam (by decide +kernel))) (.cons (MP.DefAt.mk1 (st := K02.topS 18) KX G K02.s__law_draw K02.c__law_draw K02.b__law_draw K02.k__law_draw ?a__law_draw ?l__law_draw ?c__law_draw ?k__law_draw (MP.noLam (by decide +kernel))) (.cons (MP.DefAt.mk1 (st := K02.topS 19) KX G K02.s__law_pick K02.c__law_pick K02.b__law_pick K02.k__law_pick ?a__law_pick ?l__law_pick ?c__law_pick ?k__law_pick (MP.noLam (by decide +kernel))) (.cons (MP.DefAt.mk1 (st := K02.topS 20) KX G K02.s__law_is_integer K02.c__law_is_integer K02.b__law_is_integer K02.k__law_is_integer ?a__law_is_integer ?l__law_is_integer ?c__law_is_integer ?k__law_is_integer (MP.noLam (by decide +kernel))) (.cons (MP.DefAt.mk1 (st := K02.topS 21) KX G K02.s__law_any K02.c__law_any K02.b__law_any K02.k__law_any ?a__law_any ?l__law_any ?c__law_any ?k__law_any (MP.noLam (by decide +kernel))) (.cons (MP.DefAt.mk1 (st := K02.topS 22) KX G K02.s__law_odd K02.c__law_odd K02.b__law_odd K02.k__law_odd ?a__law_odd ?l__law_odd ?c__law_odd ?k__law_odd (MP.noLam (by decide +kernel))) (.cons (MP.DefAt.mk1 (st := K02.topS 23) KX G K02.s__law_bent K02.c__law_bent K02.b__law_bent K02.k__law_bent ?a__law_bent ?l__law_bent ?c__law_bent ?k__law_bent (MP.noLam (by decide +kernel))) (.cons (MP.DefAt.mk1 (st := K02.topS 24) KX G K02.s__law_is_tie K02.c__law_is_tie K02.b__law_is_tie K02.k__law_is_tie ?a__law_is_tie ?l__law_is_tie ?c__law_is_tie ?k__law_is_tie (MP.noLam (by decide +kernel))) (.cons (MP.DefAt.mk1 (st := K02.topS 25) KX G K02.s__law_is_web K02.c__law_is_web K02.b__law_is_web K02.k__law_is_web ?a__law_is_web ?l__law_is_web ?c__law_is_web ?k__law_is_web (MP.noLam (by decide +kernel))) (.cons (MP.DefAt.mk1 (st := K02.topS 26) KX G K02.s__law_tie K02.c__law_tie K02.b__law_tie K02.k__law_tie ?a__law_tie ?l__law_tie ?c__law_tie ?k__law_tie (MP.noLam (by decide +kernel))) (.cons (MP.DefAt.mk1 (st := K02.topS 27) KX G K02.s__law_web K02.c__law_web K02.b__law_web K02.k__law_web ?a__law_web ?l__law_web ?c__law_web ?k__law_web (MP.noLam (by decide +kernel))) (.cons (MP.DefAt.mk1 (st := K02.topS 28) KX G K02.s__law_order K02.c__law_order K02.b__law_order K02.k__law_order ?a__law_order ?l__law_order ?c__law_order ?k__law_order (MP.noLam (by decide +kernel))) (.cons (MP.DefAt.mk1 (st := K02.topS 29) KX G K02.s__law_led K02.c__law_led K02.b__law_led K02.k__law_led ?a__law_led ?l__law_led ?c__law_led ?k__law_led (MP.noLam (by decide +kernel))) (.cons (MP.DefAt.mk1 (st := K02.topS 31) KX G K02.s__law_is_renaming K02.c__law_is_renaming K02.b__law_is_renaming K02.k__law_is_renaming ?a__law_is_renaming ?l__law_is_renaming ?c__law_is_renaming ?k__law_is_renaming (MP.noLam (by decide +kernel))) (.cons (MP.DefAt.mkL (st := K02.topS 32) KX G K02.s__law_is_right K02.c__law_is_right K02.b__law_is_right K02.k__law_is_right ?a__law_is_right ?l__law_is_right ?c__law_is_right ?k__law_is_right (.head _)) (.cons (MP.DefAt.mk1 (st := K02.topS 33) KX G K02.s_law K02.c_law K02.b_law K02.k_law ?a_law ?l_law ?c_law ?k_law (MP.noLam (by decide +kernel))) .nil))))))))))))))))))))))))) (.cons (MP.GlAt.int KX G ?g_KINDS) .nil) (.cons ?z_len (.cons ?z_list (.cons ?z_tuple (.cons ?z_sorted (.cons ?z_all (.cons ?z_any (.cons ?z_sum (.cons ?z_max (.cons ?z_min (.cons ?z_int (.cons ?z_repr (.cons ?z_str (.cons ?z_abs (.cons ?z_bool (.cons ?z_isinstance (.cons ?z_range (.cons ?z_enumerate (.cons ?z_zip (.cons ?z_set (.cons ?z_reversed (.cons ?z_dict .nil))))))))))))))))))))) .nil (by decide +kernel) (.cons (MP.ToldAt.mk1 (hf := K02.hf__law_told) (st := K02.topS 30) KX G K02.s__law_told K02.tb__law_told K02.b__law_told rfl (by decide +kernel) (by decide +kernel) (MP.SubsAt.mk1 (p := ("BadWeb", "web", "thing")) KX G (MP.ExcAt.mk_thing KX G ?e__law_told_BadWeb_aC ?e__law_told_BadWeb_xL ?e__law_told_BadWeb_sa ?e__law_told_BadWeb_ga ?e__law_told_BadWeb_gg ?e__law_told_BadWeb_nb ?e__law_told_BadWeb_a1 ?e__law_told_BadWeb_t1 ?e__law_told_BadWeb_l1 ?e__law_told_BadWeb_c1 ?e__law_told_BadWeb_kC ?e__law_told_BadWeb_eC ?e__law_told_BadWeb_tC ?e__law_told_BadWeb_hC) ?sa__law_told_BadWeb ?ss__law_told_BadWeb (MP.subs_cons KX G ?sa__law_told_BadWeb_BadRenaming ?ss__law_told_BadWeb_BadRenaming MP.subs_nil) (MP.SubsAt.mk1 (p := ("BadRenaming", "renaming", "thing")) KX G (MP.ExcAt.mk_thing KX G ?e__law_told_BadRenaming_aC ?e__law_told_BadRenaming_xL ?e__law_told_BadRenaming_sa ?e__law_told_BadRenaming_ga ?e__law_told_BadRenaming_gg ?e__law_told_BadRenaming_nb ?e__law_told_BadRenaming_a1 ?e__law_told_BadRenaming_t1 ?e__law_told_BadRenaming_l1 ?e__law_told_BadRenaming_c1 ?e__law_told_BadRenaming_kC ?e__law_told_BadRenaming_eC ?e__law_told_BadRenaming_tC ?e__law_told_BadRenaming_hC) ?sa__law_told_BadRenaming ?ss__law_told_BadRenaming MP.subs_nil .nil)) ?ge__law_told ?a__law_told ?l__law_told ?c__law_told ?k__law_told) .nil) (.cons (MP.ExcAt.mk_thing KX G ?e_x_BadWeb_aC ?e_x_BadWeb_xL ?e_x_BadWeb_sa ?e_x_BadWeb_ga ?e_x_BadWeb_gg ?e_x_BadWeb_nb ?e_x_BadWeb_a1 ?e_x_BadWeb_t1 ?e_x_BadWeb_l1 ?e_x_BadWeb_c1 ?e_x_BadWeb_kC ?e_x_BadWeb_eC ?e_x_BadWeb_tC ?e_x_BadWeb_hC) (.cons (MP.ExcAt.mk_thing KX G ?e_x_BadRenaming_aC ?e_x_BadRenaming_xL ?e_x_BadRenaming_sa ?e_x_BadRenaming_ga ?e_x_BadRenaming_gg ?e_x_BadRenaming_nb ?e_x_BadRenaming_a1 ?e_x_BadRenaming_t1 ?e_x_BadRenaming_l1 ?e_x_BadRenaming_c1 ?e_x_BadRenaming_kC ?e_x_BadRenaming_eC ?e_x_BadRenaming_tC ?e_x_BadRenaming_hC) .nil)) (by decide +kernel) ?uu
    (case e__law_told_BadRenaming_aC => k_is)
    (case sa__law_told_BadRenaming => k_is)
    (case sa__law_told_BadWeb_BadRenaming => k_is)
    (case e__law_told_BadWeb_aC => k_is)
    (case sa__law_told_BadWeb => k_is)
    (case e_x_BadWeb_aC => k_is)
    (case e_x_BadRenaming_aC => k_is)
    (case a_is_integer => k_is)
    (case l_is_integer => k_is)
    (case c_is_integer => k_is)
    (case k_is_integer => k_is)
    (case a_is_between => k_is)
    (case l_is_between => k_is)
    (case c_is_between => k_is)
    (case k_is_between => k_is)
    (case a_is_place => k_is)
    (case l_is_place => k_is)
    (case c_is_place => k_is)
    (case k_is_place => k_is)
    (case a_is_tie => k_is)
    (case l_is_tie => k_is)
    (case c_is_tie => k_is)
    (case k_is_tie => k_is)
    (case a_is_web_value => k_is)
    (case l_is_web_value => k_is)
    (case c_is_web_value => k_is)
    (case k_is_web_value => k_is)
    (case a_need_web => k_is)
    (case l_need_web => k_is)
    (case c_need_web => k_is)
    (case k_need_web => k_is)
    (case a_is_renaming => k_is)
    (case l_is_renaming => k_is)
    (case c_is_renaming => k_is)
    (case k_is_renaming => k_is)
    (case a_led_web => k_is)
    (case l_led_web => k_is)
    (case c_led_web => k_is)
    (case k_led_web => k_is)
    (case a_led => k_is)
    (case l_led => k_is)
    (case c_led => k_is)
    (case k_led => k_is)
    (case a__law_deck => k_is)
    (case l__law_deck => k_is)
    (case c__law_deck => k_is)
    (case k__law_deck => k_is)
    (case a__law_draw => k_is)
    (case l__law_draw => k_is)
    (case c__law_draw => k_is)
    (case k__law_draw => k_is)
    (case a__law_pick => k_is)
    (case l__law_pick => k_is)
    (case c__law_pick => k_is)
    (case k__law_pick => k_is)
    (case a__law_is_integer => k_is)
    (case l__law_is_integer => k_is)
    (case c__law_is_integer => k_is)
    (case k__law_is_integer => k_is)
    (case a__law_any => k_is)
    (case l__law_any => k_is)
    (case c__law_any => k_is)
    (case k__law_any => k_is)
    (case a__law_odd => k_is)
    (case l__law_odd => k_is)
    (case c__law_odd => k_is)
    (case k__law_odd => k_is)
    (case a__law_bent => k_is)
    (case l__law_bent => k_is)
    (case c__law_bent => k_is)
    (case k__law_bent => k_is)
    (case a__law_is_tie => k_is)
    (case l__law_is_tie => k_is)
    (case c__law_is_tie => k_is)
    (case k__law_is_tie => k_is)
    (case a__law_is_web => k_is)
    (case l__law_is_web => k_is)
    (case c__law_is_web => k_is)
    (case k__law_is_web => k_is)
    (case a__law_tie => k_is)
    (case l__law_tie => k_is)
    (case c__law_tie => k_is)
    (case k__law_tie => k_is)
    (case a__law_web => k_is)
    (case l__law_web => k_is)
    (case c__law_web => k_is)
    (case k__law_web => k_is)
    (case a__law_order => k_is)
    (case l__law_order => k_is)
    (case c__law_order => k_is)
    (case k__law_order => k_is)
    (case a__law_led => k_is)
    (case l__law_led => k_is)
    (case c__law_led => k_is)
    (case k__law_led => k_is)
    (case a__law_is_renaming => k_is)
    (case l__law_is_renaming => k_is)
    (case c__law_is_renaming => k_is)
    (case k__law_is_renaming => k_is)
    (case a__law_is_right => k_is)
    (case l__law_is_right => k_is)
    (case c__law_is_right => k_is)
    (case k__law_is_right => k_is)
    (case a_law => k_is)
    (case l_law => k_is)
    (case c_law => k_is)
    (case k_law => k_is)
    (case g_KINDS => k_is)
    (case z_len => k_is)
    (case z_list => k_is)
    (case z_tuple => k_is)
    (case z_sorted => k_is)
    (case z_all => k_is)
    (case z_any => k_is)
    (case z_sum => k_is)
    (case z_max => k_is)
    (case z_min => k_is)
    (case z_int => k_is)
    (case z_repr => k_is)
    (case z_str => k_is)
    (case z_abs => k_is)
    (case z_bool => k_is)
    (case z_isinstance => k_is)
    (case z_range => k_is)
    (case z_enumerate => k_is)
    (case z_zip => k_is)
    (case z_set => k_is)
    (case z_reversed => k_is)
    (case z_dict => k_is)
    (case e__law_told_BadRenaming_xL => k_is)
    (case e__law_told_BadRenaming_sa => k_is)
    (case e__law_told_BadRenaming_ga => k_is)
    (case e__law_told_BadRenaming_gg => k_is)
    (case e__law_told_BadRenaming_nb => k_is)
    (case e__law_told_BadRenaming_a1 => k_is)
    (case e__law_told_BadRenaming_t1 => k_is)
    (case e__law_told_BadRenaming_l1 => k_is)
    (case e__law_told_BadRenaming_c1 => k_is)
    (case e__law_told_BadRenaming_kC => k_is)
    (case e__law_told_BadRenaming_eC => k_is)
    (case e__law_told_BadRenaming_tC => k_is)
    (case e__law_told_BadRenaming_hC => k_is)
    (case ss__law_told_BadRenaming => k_is)
    (case ss__law_told_BadWeb_BadRenaming => k_is)
    (case e__law_told_BadWeb_xL => k_is)
    (case e__law_told_BadWeb_sa => k_is)
    (case e__law_told_BadWeb_ga => k_is)
    (case e__law_told_BadWeb_gg => k_is)
    (case e__law_told_BadWeb_nb => k_is)
    (case e__law_told_BadWeb_a1 => k_is)
    (case e__law_told_BadWeb_t1 => k_is)
    (case e__law_told_BadWeb_l1 => k_is)
    (case e__law_told_BadWeb_c1 => k_is)
    (case e__law_told_BadWeb_kC => k_is)
    (case e__law_told_BadWeb_eC => k_is)
    (case e__law_told_BadWeb_tC => k_is)
    (case e__law_told_BadWeb_hC => k_is)
    (case ss__law_told_BadWeb => k_is)
    (case ge__law_told => k_is)
    (case a__law_told => k_is)
    (case l__law_told => k_is)
    (case c__law_told => k_is)
    (case k__law_told => k_is)
    (case e_x_BadWeb_xL => k_is)
    (case e_x_BadWeb_sa => k_is)
    (case e_x_BadWeb_ga => k_is)
    (case e_x_BadWeb_gg => k_is)
    (case e_x_BadWeb_nb => k_is)
    (case e_x_BadWeb_a1 => k_is)
    (case e_x_BadWeb_t1 => k_is)
    (case e_x_BadWeb_l1 => k_is)
    (case e_x_BadWeb_c1 => k_is)
    (case e_x_BadWeb_kC => k_is)
    (case e_x_BadWeb_eC => k_is)
    (case e_x_BadWeb_tC => k_is)
    (case e_x_BadWeb_hC => k_is)
    (case e_x_BadRenaming_xL => k_is)
    (case e_x_BadRenaming_sa => k_is)
    (case e_x_BadRenaming_ga => k_is)
    (case e_x_BadRenaming_gg => k_is)
    (case e_x_BadRenaming_nb => k_is)
    (case e_x_BadRenaming_a1 => k_is)
    (case e_x_BadRenaming_t1 => k_is)
    (case e_x_BadRenaming_l1 => k_is)
    (case e_x_BadRenaming_c1 => k_is)
    (case e_x_BadRenaming_kC => k_is)
    (case e_x_BadRenaming_eC => k_is)
    (case e_x_BadRenaming_tC => k_is)
    (case e_x_BadRenaming_hC => k_is)
    (case uu => decide)

