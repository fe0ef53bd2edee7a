import PyProof.Rows.All
import Wide.All
import OpenK.AllK
import Wide.FinOn
import HandS.ForMost
import KE.GoesEnum
import HandS.Walk
import HandS.Wide
import HandS.Strs
import HandS.SetFor
import HandS.Style
import HandS.Lambda
import KE.SortKeyHeap
import HandS.Evl
import HandS.IsInst
import HandS.Zip
import HandS.TupAny
import HandS.Star
import HandS.Conv
import HandS.SortInts
import HandS.More
import HandS.Deep
import HandS.Flow
import PySem.Challenge.RW_anymargin_k08_whole_classes_of_readings
import HandS.EndTab
import KE.KNest
set_option Elab.async false
set_option linter.all false
set_option maxRecDepth 100000
set_option maxHeartbeats 4000000
/-! R1: enumerate over a tuple (one argument), as a source of a for and of a comprehension. -/
namespace Xr
open PySem PySem.Spec PyProof.Rows L2

theorem enum_made {v : Value} {o : Obj} {G : Heap → Prop} (B : Begins v o G) :
    Meets (Builtin.«enumerate.__new__» ⟨[.type "enumerate", v], []⟩) (fun _ R s => G s.heap ∧
      R (.ok (.ret (.ref (s.heap.push o).objs.size))) { s with heap := (s.heap.push o).push { cls := .type "enumerate", data := .fields #[.none, .bool false, .ref s.heap.objs.size, rawInt 0, .none, .none] } }) :=
  .of_wp fun prog w A R s h => by
    obtain ⟨h1, g1, d1, t1, o1⟩ := s
    obtain ⟨hg, h⟩ := h
    have hsub := sub_enumerate
    have q1 : ∀ {A' : Around} {E : Value → Shared → Prop} {Q : Value → Shared → Prop}, Q (.ref h1.objs.size) ⟨h1.push o, g1, d1, t1, o1⟩ → wpAny (model prog w) A' (pyIter v) Q E ⟨h1, g1, d1, t1, o1⟩ :=
      fun q => B.iter prog w _ _ ⟨h1, g1, d1, t1, o1⟩ _ hg q
    wp_walk using q1
    refine wpAny_stack_any fun st => wpAny_pure ?_
    split
    · rename_i c _ _ _ _ _
      cases (c == Value.type "enumerate") <;> (wp_walk using q1; exact ⟨_, rfl, h⟩)
    · wp_walk using q1
      exact ⟨_, rfl, h⟩

theorem enum_call {prog : Program} {w : World} {A : Around} {E : Value → Shared → Prop} {s : Shared} {v : Value} {o : Obj} {G : Heap → Prop} {Q : Value → Shared → Prop} (B : Begins v o G) (hg : G s.heap)
    (k : ∀ h2, IsEnum h2 (s.heap.objs.size + 1) s.heap.objs.size 0 .none → h2.get? s.heap.objs.size = some o → (∀ b u, s.heap.get? b = some u → h2.get? b = some u) → Q (.ref (s.heap.objs.size + 1)) { s with heap := h2 }) :
    wpAny (model prog w) A (call (.type "enumerate") [v]) Q E s := by
  refine callType_new F.called_enumerate (by decide) (F.typeCall_enumerate_1 _) (F.newCall_enumerate_1 _) (fun x => F.args_object_init_2 x _) F.entry_enumerate_new (enum_made B) ⟨hg, ?_⟩
  have z1 : (s.heap.push o).objs.size = s.heap.objs.size + 1 := Heap.size_push ..
  show _ ∧ _
  rw [z1]
  have e1 : IsEnum ((s.heap.push o).push { cls := .type "enumerate", data := .fields #[.none, .bool false, .ref s.heap.objs.size, rawInt 0, .none, .none] }) (s.heap.objs.size + 1) s.heap.objs.size 0 .none := by
    have q := Heap.get?_push_size (s.heap.push o) (o := { cls := .type "enumerate", data := .fields #[.none, .bool false, .ref s.heap.objs.size, rawInt 0, .none, .none] }) rfl
    rw [z1] at q
    exact q
  exact ⟨⟨_, e1, rfl⟩, k _ e1 (Heap.get?_push_of_some _ (Heap.get?_push_size _ B.free)) fun b u x => Heap.get?_push_of_some _ (Heap.get?_push_of_some _ x)⟩

/-- the tuple at a as it stands, each item in a new pair with its place -/
def IteT (K : PySem.W.Frag) (a : Addr) : It :=
  ⟨fun i H => ∃ (xs : List V) (x : V), SqT K H a xs ∧ xs[i]? = some x, fun i H v H2 => ∃ T x, v = .ref T ∧ H T = none ∧ H2 = upd H T (.tup [.int (i : Nat), x]) ∧ ∀ xs, SqT K H a xs → xs[i]? = some x, fun i H => ∃ xs : List V, SqT K H a xs ∧ xs.length = i⟩

theorem turnE {P : Program} {w : World} {K : PySem.W.Frag} {elts : List Expr} {kk : Nat} {tpos : Pos} (a e it : Addr) :
    Turn P w K (.Tuple elts kk tpos) (IteT K a) [e, it] e (fun i h => (∃ old, IsEnum h e it ((i : Nat) : Int) old) ∧ h.IsTupleIter it a i ∧ e ≠ it ∧ a ≠ it ∧ a ≠ e) where
  mem := List.mem_cons_self
  obj := fun i h st b hb => by
    obtain ⟨⟨old, he⟩, ⟨o, ho, hc, hd⟩, _⟩ := st
    rcases (show b = e ∨ b = it by simpa using hb) with z | z
    · subst z
      exact ⟨_, he, fun v q => nomatch q⟩
    · subst z
      exact ⟨o, ho, fun v q => by rw [hd] at q; cases q⟩
  keep := fun i h h2 st k => by
    obtain ⟨⟨old, he⟩, hi, r⟩ := st
    exact ⟨⟨old, k e (by simp) _ he⟩, hi.at fun o q => k it (by simp) o q, r⟩
  item := by
    intro X hP hw hK hc i pins s σ H E I hf st hg
    subst hP hw hK
    obtain ⟨⟨old, he⟩, hit, hne, hai, hae⟩ := st
    obtain ⟨xs, x, hq, hx⟩ := hg
    obtain ⟨its, rv, p, hz⟩ := I.tuple hq
    have hip : s.heap.IsTuple a its.toArray := p
    obtain ⟨u, hu, ru⟩ := rv.get hx
    have hel : e < s.heap.objs.size := Heap.lt_size he
    have hil : it < s.heap.objs.size := by
      obtain ⟨_, q, _⟩ := hit
      exact Heap.lt_size q
    have hlt : i < its.toArray.size := by
      have q := (List.getElem?_eq_some_iff.mp hu).1
      simpa using q
    refine wpAny_pyNext_enum_itemD (Draws.tuple (A := X.A.in1) (I.ok.hd hc) it a hai its.toArray) he ⟨hit, hip⟩ hlt hne (by simp [hne, Ne.symm hae]) fun y h2 tk hy ho st2 hT hsz hk => ?_
    have ey : y = u := by
      have q : its.toArray[i]? = some u := by simpa using hu
      exact Option.some.inj (hy.symm.trans q)
    subst ey
    refine ⟨_, rfl, wpAny_letOwnedTupleGo_enum (s := { s with heap := h2, toks := tk + 1 }) ho fun h3 he3 sb => ?_⟩
    have hT3 : h3.get? s.heap.objs.size = some { cls := .type "tuple", data := .seq #[.int i tk, y] } := (sb.2 _ (Nat.ne_of_gt hel)).trans hT
    have new : ObjOk X.prog X.w (upd H s.heap.objs.size (.tup [.int (i : Nat), x])) h3 s.heap.objs.size (.tup [.int (i : Nat), x]) :=
      ⟨by show 2 ≤ sizeLine; decide, [.int i tk, y], .cons ⟨_, rfl⟩ (.cons ru .nil), ⟨_, hT3, rfl, _, rfl⟩⟩
    have I1 : Inv X pins σ (upd H s.heap.objs.size (.tup [.int (i : Nat), x])) { s with heap := h3, toks := tk + 1 } :=
      I.turnedNew (ch := [e, it]) (fun b ob hb q => (sb.2 b (fun z => hb (by simp [z]))).trans (hk b ob (fun z => hb (by simp [z])) (fun z => hb (by simp [z])) q)) hf (Nat.le_refl _) new
    refine ⟨.ref s.heap.objs.size, _, I1, rfl, ⟨_, x, rfl, I.hok.fresh (Nat.le_refl _), rfl, fun ys hy => by rw [I.tuple_inj hy hq]; exact hx⟩, ⟨⟨y, ?_⟩, st2.1.at fun o q => (sb.2 it (Ne.symm hne)).trans q, hne, hai, hae⟩, fun b hb => ?_⟩
    · have e1 : ((i + 1 : Nat) : Int) = (i : Int) + 1 := by omega
      rw [e1]
      exact he3
    · have hb2 : b < s.heap.objs.size := by
        rcases (show b = e ∨ b = it by simpa using hb) with z | z
        · rw [z]; exact hel
        · rw [z]; exact hil
      rw [upd_ne (Nat.ne_of_lt hb2)]
      exact (hf b hb).1
  done := by
    intro X hP hw hK hc i pins s σ H E I hf st hg
    subst hP hw hK
    obtain ⟨⟨old, he⟩, hit, hne, hai, hae⟩ := st
    obtain ⟨xs, hq, hx⟩ := hg
    obtain ⟨its, rv, p, hz⟩ := I.tuple hq
    have hip : s.heap.IsTuple a its.toArray := p
    obtain ⟨f0, f1, f2, f3, f4, f5⟩ := hf it (by simp)
    have hl := rv.length
    have hn : i = its.toArray.size := by
      simp only [List.size_toArray]
      omega
    subst hn
    exact wpAny_pyNext_enum_endD (Draws.tuple (A := X.A.in1) (I.ok.hd hc) it a hai its.toArray) he ⟨hit, hip⟩ fun h2 eb => ⟨rfl, I.turned (t' := s.toks) (fun b o hb q => eb b o hb q) f0 f1 f3 f4 f5⟩
  self := fun A i s Q E st h => by
    obtain ⟨⟨_, he⟩, _⟩ := st
    exact wpAny_pyIter_enum he h

/-- enumerate(tuple) -/
def iEnumT (K : PySem.W.Frag) (ta : TA) : TI := fun σ H R => ta σ H fun vs H1 => ∃ a xs, vs = [.ref a] ∧ SqT K H1 a xs ∧ R (IteT K a) H1
theorem pi_enumT {X : Cx} {e : Expr} {ta : TA} {p pos tpos : Pos} {elts : List Expr} {kk : Nat} (hg : Gl X "enumerate") (hm : X.mg "enumerate" = none) (ha : PA X [e] ta) (hs : starEach [e] X.env = [(false, eval e X.env)] := by rfl) :
    PI X (.Tuple elts kk tpos) (.Call (.Name "enumerate" p) [e] [] pos) (iEnumT X.K ta) := by
  refine ⟨fun pins s σ H R I h => Call_ (ld_blt I hg hm boot_enumerate (PyProof.Rows.callWith_type1 (thn (ha.run pos pins s σ H _ I h) fun us s1 q0 => ?_) hs rfl))⟩
  obtain ⟨vs, H1, I1, r1, a, xs, ex, hq, q⟩ := q0
  subst ex
  cases r1 with
  | cons r rr =>
    cases rr
    cases r
    obtain ⟨its, rv, p2, hz⟩ := I1.tuple hq
    have hal : a < s1.heap.objs.size := p2.lt
    refine enum_call (begins_tuple a its.toArray) p2 fun h2 he hit hk => wpAny_pyIter_enum he ?_
    have I2 : Inv X pins σ H1 { s1 with heap := h2 } := I1.kept (t' := s1.toks) hk
    refine ⟨s1.heap.objs.size + 1, [s1.heap.objs.size + 1, s1.heap.objs.size], _, _, H1, rfl, I2, turnE a (s1.heap.objs.size + 1) s1.heap.objs.size, ⟨⟨.none, he⟩, ⟨_, hit, rfl, rfl⟩, Nat.succ_ne_self _, Nat.ne_of_lt hal, Nat.ne_of_lt (Nat.lt_succ_of_lt hal)⟩, fun b hb => ?_, q⟩
    have hle : s1.heap.objs.size ≤ b := by
      rcases (show b = s1.heap.objs.size + 1 ∨ b = s1.heap.objs.size by simpa using hb) with z | z
      · rw [z]; exact Nat.le_add_right _ _
      · rw [z]; exact Nat.le_refl _
    exact I1.fpOk hle (I1.hok.fresh hle)
end Xr
/-! R3: rules that lacked: x in a tuple of data, t[::-1], repr of a bool, set of a tuple of whole numbers, x *= y of great numbers. -/
namespace Xr
open PySem PySem.Spec PyProof.Rows L2 HT
section
variable {prog : Program} {w : World} {A : Around} {E : Value → Shared → Prop} {s : Shared}
theorem back_applied {sl : Addr} {vl vu vs : Value} {n : Nat} {Q : Int × Int × Nat → Shared → Prop} (hs : s.heap.IsSliceOf sl vl vu vs) (pl : IsPart vl none) (pu : IsPart vu none) (ps : IsPart vs (some (-1)))
    (h : Q ((n : Int) - 1, -1, n) s) : wpAny (model prog w) A (Builtin.Slice.sliceApplied (.ref sl) (pure (n : Int))) Q E s := by
  obtain ⟨os, hos, hcs, hds⟩ := id hs
  unfold Builtin.Slice.sliceApplied Builtin.Slice.sliceFields
  refine wpAny_bind (wpAny_bind (wpAny_field hos hds (x := vl) rfl (wpAny_bind (wpAny_field hos hds (x := vu) rfl (wpAny_bind (wpAny_field hos hds (x := vs) rfl (wpAny_pure ?_)))))))
  refine wpAny_bind (slicePart_ ps ?_)
  show wpAny _ _ (if ((-1 : Int) == 0) = true then _ else _) _ _ s
  rw [if_neg (by decide)]
  refine wpAny_bind (slicePart_ pl (wpAny_bind (slicePart_ pu (wpAny_bind (wpAny_pure ?_)))))
  have e1 : Builtin.Slice.slicePlaces ((n : Int) - 1) (-1) (-1) = n := by
    unfold Builtin.Slice.slicePlaces
    rw [if_neg (show ¬ ((-1 : Int) > 0) by decide)]
    by_cases hn : (n : Int) - 1 > -1
    · rw [if_pos hn]
      show (((n : Int) - 1 - -1 - 1) / 1 + 1).toNat = n
      rw [Int.ediv_one]
      omega
    · rw [if_neg hn]
      omega
  show wpAny _ _ (pure ((n : Int) - 1, (-1 : Int), Builtin.Slice.slicePlaces ((n : Int) - 1) (-1) (-1))) _ _ s
  rw [e1]
  exact wpAny_pure h
theorem back_item {t sl : Addr} {items : Array Value} {vl vu vs : Value} {Q : Value → Shared → Prop} (ht : IsTup s.heap t items) (hs : s.heap.IsSliceOf sl vl vu vs) (pl : IsPart vl none) (pu : IsPart vu none) (ps : IsPart vs (some (-1)))
    (h : Q (.ref s.heap.objs.size) { s with heap := s.heap.push { cls := .type "tuple", data := .seq ((List.range items.size).filterMap fun (k : Nat) => items[((items.size : Int) - 1 + (k : Int) * -1).toNat]?).toArray } })
    (hsz : items.size ≤ sizeLine) : wpAny (model prog w) A (getItem (.ref t) (.ref sl)) Q E s := by
  have hok : sizeOk (.seq ((List.range items.size).filterMap fun (k : Nat) => items[((items.size : Int) - 1 + (k : Int) * -1).toNat]?).toArray) := by
    show (((List.range items.size).filterMap fun (k : Nat) => items[((items.size : Int) - 1 + (k : Int) * -1).toNat]?).toArray).size ≤ sizeLine
    rw [List.size_toArray]
    refine Nat.le_trans (List.length_filterMap_le _ _) ?_
    rw [List.length_range]
    exact hsz
  obtain ⟨os, hos, hcs, hds⟩ := id hs
  have hTs : s.TypeIs (.ref sl) "slice" := ⟨os, hos, hcs⟩
  unfold getItem
  try with_reducible refine wpAny_holding ?_
  first | refine wpAny_bind (wpAny_pure ?_) | skip
  refine wpAny_bind (wpAny_sequenceKey ht.typeIs (by decide) ?_)
  refine wpAny_bind (wpAny_callSpecial?_slot (name := Str.ofString "__getitem__") ht.typeIs PyProof.Rows.slot_tuple_getitem
    (wpAny_call_entry PyProof.Rows.slot_tuple_getitem ht.typeIs entry_tuple_getitem ?_ (args_tuple_getitem _ _)))
  show wpAny _ _ (Builtin.Tuple.tupleItemsOf (.ref t) >>= _) _ _ s
  refine wpAny_bind (tupleItemsOf_ ht ?_)
  refine wpAny_bind (wpAny_typeOf hTs ?_)
  rw [if_pos (by decide)]
  refine wpAny_bind (back_applied hs pl pu ps ?_)
  have hno : ¬ ((((items.size : Int) - 1) == 0 && (-1 : Int) == 1 && items.size == items.size) = true) := by
    rw [show ((-1 : Int) == 1) = false from rfl, Bool.and_false, Bool.false_and]
    exact Bool.false_ne_true
  show wpAny _ _ (if (((items.size : Int) - 1) == 0 && (-1 : Int) == 1 && items.size == items.size) = true then _ else _) _ _ s
  rw [if_neg hno]
  first
    | exact wpAny_bind (m := Builtin.Tuple.tupleExact _) (wpAny_newObj_type (wpAny_pure ⟨_, rfl, wpAny_pure h⟩) hok)
    | exact wpAny_bind (m := Builtin.Tuple.tupleExact _) (wpAny_newObj_type (wpAny_bind (wpAny_pure (wpAny_pure ⟨_, rfl, wpAny_pure h⟩))) hok)
    | exact wpAny_bind (wpAny_bind (m := Builtin.Tuple.tupleExact _) (wpAny_newObj_type (wpAny_pure (wpAny_pure ⟨_, rfl, wpAny_pure h⟩)) hok))
    | exact wpAny_bind (wpAny_bind (m := Builtin.Tuple.tupleExact _) (wpAny_newObj_type (wpAny_pure ⟨_, rfl, wpAny_pure h⟩) hok))
end
theorem vals_pick {xs : List V} {us : List Value} (r : Vals xs us) (f : Nat → Nat) : ∀ l : List Nat, Vals (l.filterMap fun k => xs[f k]?) (l.filterMap fun k => us.toArray[f k]?)
  | [] => .nil
  | k :: l => by
    rw [List.filterMap_cons, List.filterMap_cons]
    cases e : xs[f k]? with
    | none =>
      have h := r.none_of e
      have h2 : us.toArray[f k]? = none := by simpa using h
      rw [h2]
      exact vals_pick r f l
    | some x =>
      obtain ⟨u, h1, h2⟩ := r.get e
      have h3 : us.toArray[f k]? = some u := by simpa using h1
      rw [h3]
      exact .cons h2 (vals_pick r f l)
section
variable {X : Cx}
/-- t[::-1]: a new tuple of the items turned -/
def backV (xs : List V) : List V := (List.range xs.length).filterMap fun (k : Nat) => xs[((xs.length : Int) - 1 + (k : Int) * -1).toNat]?
def tRevT (K : PySem.W.Frag) (te : TE) : TE := fun σ H Q => te σ H fun x H1 => ∃ a xs, x = .ref a ∧ SqT K H1 a xs ∧ ∀ p, H1 p = none → Q (.ref p) (upd H1 p (.tup (backV xs)))
theorem pe_revT {e : Expr} {te : TE} {k : Nat} {p1 p2 p3 pos : Pos} (he : PE X e te) : PE X (.Subscript e (.Slice none none (some (.UnaryOp .USub (.Constant (.int 1) k p1) p2)) p3) pos) (tRevT X.K te) := by
  refine ⟨fun pins s σ H Q I h => Subscript_ (thn (he.run pins s σ H _ I h) fun v s1 q0 => ?_)⟩
  obtain ⟨x, H1, I1, r1, a, xs, ex, hx, q⟩ := q0
  subst ex
  cases r1
  have hst : PO X (some (.UnaryOp .USub (.Constant (.int 1) k p1) p2)) (tPart (tUn (rU fun i => .int (-i)) (tC (.int 1)))) := po_some (pe_un un_neg pe_int)
  refine wpAny_Slice (thn (po_none.run pins s1 σ H1 (fun o H2 => o = none ∧ H2 = H1) I1 ⟨rfl, rfl⟩) fun vl s2 q1 => ?_)
  obtain ⟨l, H2, I2, pl, el, e2⟩ := q1
  subst el e2
  refine thn (po_none.run pins s2 σ H2 (fun o H3 => o = none ∧ H3 = H2) I2 ⟨rfl, rfl⟩) fun vu s3 q2 => ?_
  obtain ⟨u, H3, I3, pu, eu, e3⟩ := q2
  subst eu e3
  refine thn (hst.run pins s3 σ H3 (fun o H4 => o = some (-1) ∧ H4 = H3) I3 ⟨1, rfl, -1, rfl, rfl, rfl⟩) fun vz s4 q3 => ?_
  obtain ⟨o, H4, I4, pz, eo, e4⟩ := q3
  subst eo e4
  have I5 : Inv X pins σ H4 { s4 with heap := s4.heap.push { cls := .type "slice", data := .fields #[vl, vu, vz] } } := I4.kept (t' := s4.toks) fun b ob q => Heap.get?_push_of_some _ q
  obtain ⟨its, r, ht, hz⟩ := I5.tuple hx
  have hlen := r.length
  show wpAny (model X.prog X.w) X.A (subscriptTail e (.Slice none none (some (.UnaryOp .USub (.Constant (.int 1) k p1) p2)) p3) (.ref a) (.ref s4.heap.objs.size)) (EP X pins σ Q) X.xe { s4 with heap := s4.heap.push { cls := .type "slice", data := .fields #[vl, vu, vz] } }
  refine tail_any (ops := [.ref a, .ref s4.heap.objs.size]) ht.typeIs (PyProof.Rows.slot_tuple_getitem.lookup) ?_ (by with_unfolding_all rfl)
  refine back_item ht (Heap.IsSliceOf.new _ vl vu vz) pl pu pz ?_ (by rw [List.size_toArray]; omega)
  have hV : Vals (backV xs) ((List.range its.toArray.size).filterMap fun (k : Nat) => its.toArray[((its.toArray.size : Int) - 1 + (k : Int) * -1).toNat]?) := by
    rw [List.size_toArray, ← hlen]
    exact vals_pick r (fun (k : Nat) => ((xs.length : Int) - 1 + (k : Int) * -1).toNat) _
  have hz2 : (backV xs).length ≤ sizeLine := Nat.le_trans (List.length_filterMap_le _ _) (by rw [List.length_range]; exact hz)
  refine ⟨.ref _, _, I5.laid (t' := s4.toks) (o := .tup (backV xs)) (fun b ob q => Heap.get?_push_of_some _ q) (Nat.le_refl _) ?_, rfl, q _ (I5.hok.fresh (Nat.le_refl _))⟩
  exact ⟨hz2, _, hV, ⟨_, Heap.get?_push_size _ rfl, rfl, _, rfl⟩⟩
/-- repr(b) -/
def rReprB : List V → Hp → VK → Prop := fun xs H Q => ∃ b : Bool, xs = [.bl b] ∧ Q (.str (if b then "True" else "False")) H
theorem call_reprB : CallR X (.builtin "repr") rReprB := by
  intro pins s σ H xs us Q I r h
  obtain ⟨b, rfl, q⟩ := h
  obtain ⟨u, rfl, e⟩ := vals1 r
  cases (show u = Value.bool b from e)
  exact PySem.P.repr_of_bool ⟨.str _, H, I.tok _, ⟨_, rfl⟩, q⟩
/-- x in t, a tuple of data -/
def rInT (K : PySem.W.Frag) : R2 := fun x y H Q => ∃ d ds, Dp K H x d ∧ Dp K H y (.tuple ds) ∧ SeqAt.shaped d = true ∧ SeqAt.shaped (.tuple ds) = true ∧ Q (.bl (ds.any fun z => PyData.eqv z d)) H
theorem op_inT (hu : X.A.units + 65 < cLine) : OpR X (compareOp .In) (rInT X.K) := by
  intro pins s σ H x y v u Q I rx ry h
  obtain ⟨d, ds, hd, he, sd, se, q⟩ := h
  obtain ⟨as, r1⟩ := Dp.reads I d x v hd rx
  obtain ⟨bs, r2⟩ := Dp.reads I (.tuple ds) y u he ry
  exact SeqAt.in_tuple_reads r2 r1 (SeqAt.canLay_of_shaped se) (SeqAt.canLay_of_shaped sd) (room_in_shaped sd hu) ⟨.bl _, H, I, rfl, q⟩
def rNotInT (K : PySem.W.Frag) : R2 := fun x y H Q => ∃ d ds, Dp K H x d ∧ Dp K H y (.tuple ds) ∧ SeqAt.shaped d = true ∧ SeqAt.shaped (.tuple ds) = true ∧ Q (.bl (!ds.any fun z => PyData.eqv z d)) H
theorem op_notInT (hu : X.A.units + 65 < cLine) : OpR X (compareOp .NotIn) (rNotInT X.K) := by
  intro pins s σ H x y v u Q I rx ry h
  obtain ⟨d, ds, hd, he, sd, se, q⟩ := h
  obtain ⟨as, r1⟩ := Dp.reads I d x v hd rx
  obtain ⟨bs, r2⟩ := Dp.reads I (.tuple ds) y u he ry
  exact SeqAt.notIn_tuple_reads r2 r1 (SeqAt.canLay_of_shaped se) (SeqAt.canLay_of_shaped sd) (room_in_shaped sd hu) ⟨.bl _, H, I, rfl, q⟩
/-- set(t), t a tuple of whole numbers -/
def rSetT (K : PySem.W.Frag) (w : World) : List V → Hp → VK → Prop := fun vs H Q => ∃ (p : Addr) (ns : List Int), vs = [.ref p] ∧ SqT K H p (ns.map V.int) ∧ ns.length ≤ 1000 ∧
  ∀ (a : Addr) (c : Nat), c ≤ ns.length → H a = none → Q (.ref a) (upd H a (SetO w a (fun j => decide (j ∈ ns)) c))
theorem cr_setT (hc : X.calm = true) : CallR X (.type "set") (rSetT X.K X.w) := by
  intro pins s σ H vs us Q I r h
  obtain ⟨p, ns, rfl, hq, hl, q⟩ := h
  obtain rfl := Vals.ref1 r
  obtain ⟨its, rv, pt, hz⟩ := I.tuple hq
  refine call_set_tupI ns (I.ok.hd hc) (show s.heap.IsTuple p its.toArray from pt) (ints_of_vals rv) (by unfold scanBound; omega) fun h2 tk c R1 hcn k => ?_
  exact ⟨.ref s.heap.objs.size, _, I.laid (t' := tk) k (Nat.le_refl _) (setO_new R1), rfl, q _ c hcn (I.hok.fresh (Nat.le_refl _))⟩
/-- x *= y of great numbers -/
theorem iop_mulW : OpR X (inplaceOp .Mult) (rI CMulW fun i j => .int (i * j)) := opI fun _ _ _ _ _ _ _ hc q => imul_int q hc.ok
theorem ip_mulW : PIp X .Mult (rI CMulW fun i j => .int (i * j)) := fun pins s σ H x y v u Q I r1 r2 h => iop_mulW pins s σ H x y v u Q I r1 r2 h
end
end Xr
/-! R2: sorted(xs, key=lambda a: a[0] * c // a[1]) of pairs of whole numbers, c a captured name. -/
namespace Xr
open PySem PySem.Spec PyProof.Rows L2 LamX

/-- the key of a pair -/
def keyQ (cm : Int) (p : Int × Int) : Int := p.1 * cm / p.2

/-- the lambda's body, run -/
theorem key_body {prog : Program} {w : World} {A : Around} {E : Value → Shared → Prop} {s : Shared} {env : Env} {a cN : Str} {t c : Addr} {p q cm : Int} {u1 u2 u3 : Tok} {m : Str → Option Value} {k0 k1 : Nat} {p1 p2 p3 p4 p5 p6 p7 p8 p9 : Pos} {Q : Value → Shared → Prop}
    (hk : env.scope.kind = .function) (ha : env.kindOf a = some .local) (hn : s.heap.Ns env.locals m) (hm : m a = some (.ref t)) (hc : env.kindOf cN = some .free) (hl : env.cells.lookup cN = some c) (hcell : s.heap.IsCell c (some (.int cm u3)))
    (ht : IsTup s.heap t #[.int p u1, .int q u2]) (da : (a == ("__debug__" : Str)) = false) (dc : (cN == ("__debug__" : Str)) = false) (dd : (cN == ("__classdict__" : Str)) = false)
    (hw : CMulW p cm) (hq : CDivW (p * cm) q) (h : ∀ tk, Q (.int (p * cm / q) tk) { s with toks := tk + 1 }) :
    wpAny (model prog w) A (eval (.BinOp (.BinOp (.Subscript (.Name a p1) (.Constant (.int 0) k0 p2) p3) .Mult (.Name cN p4) p5) .FloorDiv (.Subscript (.Name a p6) (.Constant (.int 1) k1 p7) p8) p9) env) Q E s := by
  have at0 : ∀ (tk : Tok) (s1 : Shared) (R : Value → Shared → Prop), s1.heap = s.heap → R (.int p u1) s1 → wpAny (model prog w) A (subscriptTail (.Name a p1) (.Constant (.int 0) k0 p2) (.ref t) (.int 0 tk)) R E s1 := fun tk s1 R e r =>
    subscriptTail_builtinR (x := .int p u1) (T := "tuple") (by obtain ⟨o, ho, hcl, _⟩ := ht; exact ⟨o, by rw [e]; exact ho, hcl⟩) slot_tuple_getitem.lookup
      (getItem_tuple (j := 0) (by rw [e]; exact ht) (by decide) (by decide) (by rfl) rfl ⟨rfl, r⟩)
  have at1 : ∀ (tk : Tok) (s1 : Shared) (R : Value → Shared → Prop), s1.heap = s.heap → R (.int q u2) s1 → wpAny (model prog w) A (subscriptTail (.Name a p6) (.Constant (.int 1) k1 p7) (.ref t) (.int 1 tk)) R E s1 := fun tk s1 R e r =>
    subscriptTail_builtinR (x := .int q u2) (T := "tuple") (by obtain ⟨o, ho, hcl, _⟩ := ht; exact ⟨o, by rw [e]; exact ho, hcl⟩) slot_tuple_getitem.lookup
      (getItem_tuple (j := 1) (by rw [e]; exact ht) (by decide) (by decide) (by rfl) rfl ⟨rfl, r⟩)
  have nm : ∀ (s1 : Shared) (R : Value → Shared → Prop) (pz : Pos), s1.heap = s.heap → R (.ref t) s1 → wpAny (model prog w) A (eval (.Name a pz) env) R E s1 := fun s1 R pz e r =>
    wpAny_Name (wpAny_loadName_local hk ha (by rw [e]; exact hn) hm r) da
  refine wpAny_BinOp (wpAny_BinOp (Subscript_ (nm _ _ _ rfl (wpAny_Constant_int (at0 _ _ _ rfl ?_)))))
  refine wpAny_Name (wpAny_loadName_free hk hc hl hcell ?_ dd) dc
  refine mul_int ?_ hw.ok
  refine Subscript_ (nm _ _ _ rfl (wpAny_Constant_int (at1 _ _ _ rfl ?_)))
  have h1 : (0 : Int) < q := hq.1
  refine floordiv_int (by omega) ?_ (.inl (PyProof.noPylong_of_log2 hq.2))
  rw [Int.fdiv_eq_ediv_of_nonneg _ (by omega)]
  exact h _

/-- the names of such a lambda -/
structure LamK (sc scope : Scope) (a cN : Str) : Prop where
  kind : scope.kind = .function
  co : scope.isCoroutine = false
  gen : scope.isGenerator = false
  nocell : ∀ y ∈ scope.names, y.2 ≠ .cell
  free : ∀ y ∈ scope.names, y.2 = .free → sc.names.lookup y.1 = some .cell ∨ sc.names.lookup y.1 = some .free
  la : scope.names.lookup a = some .local
  lc : scope.names.lookup cN = some .free
  ic : (cN, NameKind.free) ∈ scope.names

section
variable {X : Cx}
/-- a pair at an address -/
def PairAt (K : PySem.W.Frag) (H : Hp) (y : V × (Int × Int)) : Prop := ∃ t, y.1 = V.ref t ∧ SqT K H t [.int y.2.1, .int y.2.2]
def sortedK (cm : Int) (ts : List (V × (Int × Int))) : List (V × (Int × Int)) := ts.mergeSort fun y z => decide (keyQ cm y.2 ≤ keyQ cm z.2)
/-- what the reading asks: the table of codes, the pairs, the captured number; what it gives: the pairs sorted by their keys in a new list -/
def tSortK (K : PySem.W.Frag) (T : List (Addr × Str)) (i : Nat) (t : TA) : TE := fun σ H Q => t σ H fun vs H1 => ∃ (l : Addr) (ts : List (V × (Int × Int))) (cm : Int), vs = [.ref l] ∧ SqL K H1 l (ts.map Prod.fst) ∧
  (∀ y ∈ ts, PairAt K H1 y) ∧ σ[i]? = some (some (.int cm)) ∧ (∀ y ∈ ts, CMulW y.2.1 cm ∧ CDivW (y.2.1 * cm) y.2.2) ∧ Tabs T H1 ∧
  ∀ D H2, ExtN H1 H2 → Tabs T H2 → H2 D = some (.lst ((sortedK cm ts).map Prod.fst)) → Q (.ref D) H2

theorem each_ofZip {α β : Type} {R : α → β → Prop} : ∀ {us : List α} {bs : List β}, us.length = bs.length → (∀ (i : Nat) u b, us[i]? = some u → bs[i]? = some b → R u b) → PySem.W.EachIs R us bs
  | [], [], _, _ => .nil
  | u :: us, b :: bs, h, r => .cons (r 0 u b rfl rfl) (each_ofZip (by simpa using h) fun i u b e1 e2 => r (i + 1) u b e1 e2)
  | [], _ :: _, h, _ => by simp at h
  | _ :: _, [], h, _ => by simp at h
theorem vals_ofEach {us : List Value} {bs : List (V × (Int × Int))} {R : Value → V × (Int × Int) → Prop} (hR : ∀ u b, R u b → RelV b.1 u) : PySem.W.EachIs R us bs → Vals (bs.map Prod.fst) us := fun e => by
  induction e with
  | nil => exact .nil
  | cons r _ ih => exact .cons (hR _ _ r) ih
theorem sqT_ext {K : PySem.W.Frag} {H H1 : Hp} {a : Addr} {xs : List V} (e : ExtN H H1) (h : SqT K H a xs) : SqT K H1 a xs := by
  rcases h with (h | ⟨o, h⟩) | h
  · exact .inl (.inl (e _ _ h fun ps z => nomatch z))
  · exact .inl (.inr ⟨o, e _ _ h fun ps z => nomatch z⟩)
  · exact .inr h
theorem sqL_ext {K : PySem.W.Frag} {H H1 : Hp} {a : Addr} {xs : List V} (e : ExtN H H1) (h : SqL K H a xs) : SqL K H1 a xs := by
  rcases h with (h | ⟨o, h⟩) | h
  · exact .inl (.inl (e _ _ h fun ps z => nomatch z))
  · exact .inl (.inr ⟨o, e _ _ h fun ps z => nomatch z⟩)
  · exact .inr h

theorem pe_sortK {e : Expr} {t : TA} {a cN : Str} {params : Arguments} {scope : Scope} {T : List (Addr × Str)} {c P : Addr} {i k : Nat} {k0 k1 : Nat} {p0 p1 p2 p3 p4 p5 p6 p7 p8 p9 lp kp pos : Pos}
    (hr : Room k X.A) (hg : Gl X "sorted") (hm : X.mg "sorted" = none) (L : LamK X.env.scope scope a cN) (TB : TabB X.base X.mg c P) (hcode : X.env.code = .ref c) (hT : (P, X.env.qual ++ "<lambda>") ∈ T) (hu : ∀ p ∈ T, p.1 = P → p.2 = X.env.qual ++ "<lambda>")
    (hN : X.N[i]? = some cN) (hv : X.env.scope.names.lookup cN = some .cell) (hdef : defaultsOf params X.env = ([], []))
    (hbind : ∀ (pm : Value) (c2 : Addr) (ctv v : Value), bindArgs (PySem.W.kla_fn "<lambda>" (X.env.qual ++ "<lambda>") params (.BinOp (.BinOp (.Subscript (.Name a p1) (.Constant (.int 0) k0 p2) p3) .Mult (.Name cN p4) p5) .FloorDiv (.Subscript (.Name a p6) (.Constant (.int 1) k1 p7) p8) p9) scope (cloFrom X.env.cells scope.names []) pm (.ref c2) ctv) ⟨[v], []⟩ = pure [(a, v)])
    (ha : PA X [e] t) (da : (a == ("__debug__" : Str)) = false := by decide) (dc : (cN == ("__debug__" : Str)) = false := by decide) (dd : (cN == ("__classdict__" : Str)) = false := by decide)
    (s1 : backTo pos (starEach [e] X.env) = (false, eval e X.env) :: backTo pos (starEach [] X.env) := by rfl) (s2 : (backTo pos (starEach [e] X.env)).any (·.1) = false := by rfl) :
    PE X (.Call (.Name "sorted" p0) [e] [⟨some "key", .Lambda params (.BinOp (.BinOp (.Subscript (.Name a p1) (.Constant (.int 0) k0 p2) p3) .Mult (.Name cN p4) p5) .FloorDiv (.Subscript (.Name a p6) (.Constant (.int 1) k1 p7) p8) p9) scope lp, kp⟩] pos) (tSortK X.K T i t) := by
  refine ⟨fun pins s σ H Q I h => ?_⟩
  have hfree : ∀ y ∈ scope.names, y.2 = .free → ∃ c0, X.env.cells.lookup y.1 = some c0 := fun y hy e0 => by
    rcases L.free y hy e0 with z | z
    · exact I.ok.has _ (.inl z)
    · exact I.ok.has _ (.inr z)
  have cm1 : ∀ {y c0}, (cloFrom X.env.cells scope.names []).lookup y = some c0 → X.env.cells.lookup y = some c0 := fun {y c0} e0 => by
    rcases cloFrom_mem (PySem.mem_of_lookup e0) with q | ⟨h1, h2⟩
    · cases q
    · obtain ⟨c1, hc1⟩ := hfree _ h1 rfl
      have hc1 : X.env.cells.lookup y = some c1 := hc1
      have e2 : c0 = c1 := by
        rw [h2, hc1]
        rfl
      rw [e2]
      exact hc1
  obtain ⟨c0, hc0⟩ : ∃ c0, (cloFrom X.env.cells scope.names []).lookup cN = some c0 := mem_lookup (cloFrom_has (cells := X.env.cells) (acc := []) L.ic)
  refine wpAny_Call_Name_kw (ld_blt I hg hm boot_sorted ?_)
  refine PyProof.Rows.callWith_kw (thn (ha.run pos pins s σ H _ I h) fun us s1 q0 => ?_) s1 s2 (by rfl) (by rfl)
  obtain ⟨vs, H1, I1, r1, l, ts, cm, rfl, hl, hp, hcm, hsz, hTb, q⟩ := q0
  obtain rfl := Vals.ref1 r1
  refine wpAny_evalAll_cons (wpAny_bind ?_)
  refine lam_make2 I1 TB hcode hT hu hTb hdef hfree fun f c2 pm ctv H2 s2 I2 ex hTb2 hf hfn hfr hc2 => wpAny_bind (wpAny_standAt (wpAny_pure (wpAny_evalAll_nil ?_)))
  show wpAny _ _ (call (.builtin "sorted") [.ref l] [(Str.ofString "key", .ref f)]) _ _ s2
  have hl2 := sqL_ext ex hl
  obtain ⟨its, rv, pl, hz⟩ := I2.list hl2
  have hlen : its.length = ts.length := by
    rw [← rv.length, List.length_map]
  -- the captured number's cell
  obtain ⟨m, hn, hloc⟩ := I2.loc
  obtain ⟨u0, ru0, lk⟩ := hloc i cN _ hN hcm (.inr (.inl hv))
  obtain ⟨u3, rfl⟩ : ∃ u3, u0 = Value.int cm u3 := ru0
  have hcell : s2.heap.IsCell c0 (some (.int cm u3)) := by
    rcases lk with ⟨k1, _⟩ | ⟨_, c3, e3, z⟩
    · have k1 : X.env.scope.names.lookup cN = some .local := k1
      rw [hv] at k1
      cases k1
    · rw [cm1 hc0] at e3
      cases e3
      exact z
  obtain ⟨⟨oc, vs0, tq, hoc, hdc, hvc⟩, _, _⟩ := I2.hok c2 _ hc2
  have hun := hr.un
  have hdp := hr.dp
  refine PySem.W.sorted_key_data (b := false) (R := fun v (y : V × (Int × Int)) => RelV y.1 v ∧ PairAt X.K H2 y) (bs := ts) (vs := its) (fun y => .int (keyQ cm y.2)) pl.isList
    (each_ofZip hlen fun j u y e1 e2 => ?_) (PySem.W.AllAlike.of fun _ _ => by simp [PySem.W.alike]) (PySem.W.Sortable.others fun _ => ⟨nofun, nofun⟩) (by rw [List.length_map] at hz; exact hz) (fun y _ => ?_)
    (PyProof.Rows.ksk_s1 _ _) (fun _ => PyProof.Rows.ksk_l1 _ _) (fun _ => PyProof.Rows.ksk_t1 _ _) (fun v y hR hy h3 tk3 kp => ?_) fun out c4 h4 tk4 kp hnone hD hlo eo => ?_
  · have h1 : (ts.map Prod.fst)[j]? = some y.1 := by rw [List.getElem?_map, e2]; rfl
    obtain ⟨u1, h2, h3⟩ := rv.get h1
    rw [e1] at h2
    cases h2
    obtain ⟨t0, z1, z2⟩ := hp y (List.mem_of_getElem? e2)
    exact ⟨h3, t0, z1, sqT_ext ex z2⟩
  · show X.A.units + 2 + 0 < cLine
    omega
  · obtain ⟨rv1, t0, ev, hS⟩ := hR
    rw [ev] at rv1
    obtain rfl : v = Value.ref t0 := rv1
    obtain ⟨its2, rw2, tp2, _⟩ := I2.tuple hS
    obtain ⟨w1, w2, rfl, ⟨x1, rfl⟩, ⟨x2, rfl⟩⟩ : ∃ w1 w2, its2 = [w1, w2] ∧ (∃ x1, w1 = Value.int y.2.1 x1) ∧ ∃ x2, w2 = Value.int y.2.2 x2 := by
      cases rw2 with
      | cons ra rt =>
        cases rt with
        | cons rb rt2 =>
          cases rt2
          exact ⟨_, _, rfl, ra, rb⟩
    obtain ⟨hw1, hw2⟩ := hsz y hy
    refine wpAny_call (PySem.W.kla_callFunE (A := X.A.in1.in1) (by show X.A.depth < recursionLimit; omega) (kp _ _ hf) rfl L.co L.gen rfl ⟨c2, oc, vs0, tq, rfl, kp _ _ hoc, hdc, hvc⟩ ?_)
    rw [hbind]
    refine wpAny_pure (wpAny_newFunctionEnv L.nocell (fun z hz => by
      rw [List.mem_singleton.mp hz]
      exact L.la) (fun h5 hns hsb => ⟨(I2.nolimit.keeps kp).fresh _ hsb, ?_⟩) L.kind)
    have kp5 : ∀ b o, h3.get? b = some o → h5.get? b = some o := fun b o e => hsb.extBut b o (Nat.ne_of_lt (Heap.lt_size e)) (Heap.get?_push_of_some _ e)
    have kp6 : ∀ b o, s2.heap.get? b = some o → h5.get? b = some o := fun b o e => kp5 b o (kp b o e)
    refine PySem.W.kla_codeExpr (key_body (t := t0) (c := c0) (m := fun x => ([(a, Value.ref t0)] : List (Str × Value)).reverse.lookup x) (u3 := u3) L.kind L.la hns ?_ L.lc hc0 ?_ (tp2.keeps kp6) da dc dd hw1 hw2 fun tk5 => ?_)
    · show ([(a, Value.ref t0)] : List (Str × Value)).lookup a = some _
      rw [List.lookup_cons_self]
    · obtain ⟨o5, ho5, hd5⟩ := hcell
      exact ⟨o5, kp6 _ _ ho5, hd5⟩
    · exact ⟨h5, _, rfl, kp5, .int _ _⟩
  · have e6 : (ts.mergeSort (PySem.W.dataLe false fun y : V × (Int × Int) => .int (keyQ cm y.2))) = sortedK cm ts := by
      rw [PySem.W.dataLe_int (β := V × (Int × Int)) fun y => keyQ cm y.2]
      rfl
    rw [e6] at eo
    have hV : Vals ((sortedK cm ts).map Prod.fst) out := vals_ofEach (fun _ _ z => z.1) eo
    have hlz : ((sortedK cm ts).map Prod.fst).length ≤ sizeLine := by
      rw [List.length_map] at hz ⊢
      unfold sortedK
      rw [List.length_mergeSort]
      exact hz
    have nD : H2 (s2.heap.objs.size + 1) = none := I2.hok.fresh (Nat.le_succ _)
    refine ⟨.ref (s2.heap.objs.size + 1), upd H2 (s2.heap.objs.size + 1) (.lst ((sortedK cm ts).map Prod.fst)), I2.laid (t' := tk4) kp (Nat.le_succ _) ⟨hlz, out, c4, hV, hD⟩, rfl, ?_⟩
    have exD : ExtN H2 (upd H2 (s2.heap.objs.size + 1) (.lst ((sortedK cm ts).map Prod.fst))) := .of fun b o e => by
      rw [upd_ne (ne_of_none e nD)]
      exact e
    refine q _ _ (ex.trans exD) (Tabs.ext hTb2 fun b o e => by
      rw [upd_ne (ne_of_none e nD)]
      exact e) upd_same
end
end Xr
/-! D0: readings over data: a value that stands for data d (Dp K H v d), what evaluates to data, calls of pure defs, comprehensions over data. -/
namespace Xd
open PySem PySem.Spec PyProof.Rows L2 Evl

/-! ### data and heaps -/
mutual
theorem dp_mono {K : PySem.W.Frag} {H H1 : Hp} (hl : ∀ a xs, SqL K H a xs → SqL K H1 a xs) (ht : ∀ a xs, SqT K H a xs → SqT K H1 a xs) : ∀ {v : V} {d : PyData}, Dp K H v d → Dp K H1 v d
  | _, _, .non => .non
  | _, _, .bl b => .bl b
  | _, _, .int i => .int i
  | _, _, .str x => .str x
  | _, _, .lst h a => .lst (hl _ _ h) (dpAll_mono hl ht a)
  | _, _, .tup h a => .tup (ht _ _ h) (dpAll_mono hl ht a)
theorem dpAll_mono {K : PySem.W.Frag} {H H1 : Hp} (hl : ∀ a xs, SqL K H a xs → SqL K H1 a xs) (ht : ∀ a xs, SqT K H a xs → SqT K H1 a xs) : ∀ {vs : List V} {ds : List PyData}, DpAll K H vs ds → DpAll K H1 vs ds
  | _, _, .nil => .nil
  | _, _, .cons h a => .cons (dp_mono hl ht h) (dpAll_mono hl ht a)
end
/-! data without lists -/
mutual
def noL : PyData → Bool
  | .list _ => false
  | .tuple xs => noLs xs
  | .none | .bool _ | .int _ | .str _ | .dict _ => true
def noLs : List PyData → Bool
  | [] => true
  | x :: xs => noL x && noLs xs
end
theorem noLs_all : ∀ {ds : List PyData}, (∀ d ∈ ds, noL d = true) → noLs ds = true
  | [], _ => by simp only [noLs]
  | d :: ds, h => by
    simp only [noLs, Bool.and_eq_true]
    exact ⟨h d List.mem_cons_self, noLs_all fun e he => h e (List.mem_cons_of_mem _ he)⟩
mutual
theorem dp_monoT {K : PySem.W.Frag} {H H1 : Hp} (ht : ∀ a xs, SqT K H a xs → SqT K H1 a xs) : ∀ {v : V} {d : PyData}, noL d = true → Dp K H v d → Dp K H1 v d
  | _, _, _, .non => .non
  | _, _, _, .bl b => .bl b
  | _, _, _, .int i => .int i
  | _, _, _, .str x => .str x
  | _, _, n, .lst h a => by simp only [noL] at n; cases n
  | _, _, n, .tup h a => .tup (ht _ _ h) (dpAll_monoT ht (by simpa only [noL] using n) a)
theorem dpAll_monoT {K : PySem.W.Frag} {H H1 : Hp} (ht : ∀ a xs, SqT K H a xs → SqT K H1 a xs) : ∀ {vs : List V} {ds : List PyData}, noLs ds = true → DpAll K H vs ds → DpAll K H1 vs ds
  | _, _, _, .nil => .nil
  | _, _, n, .cons h a => by
    simp only [noLs, Bool.and_eq_true] at n
    exact .cons (dp_monoT ht n.1 h) (dpAll_monoT ht n.2 a)
end
/-- all tuples are kept -/
def Kt (H H1 : Hp) : Prop := (∀ b xs, H b = some (.tup xs) → H1 b = some (.tup xs)) ∧ ∀ b o xs, H b = some (.frz o (.tup xs)) → H1 b = some (.frz o (.tup xs))
theorem Kt.refl (H : Hp) : Kt H H := ⟨fun _ _ h => h, fun _ _ _ h => h⟩
theorem Kt.trans {H H1 H2 : Hp} (a : Kt H H1) (b : Kt H1 H2) : Kt H H2 := ⟨fun c xs h => b.1 c xs (a.1 c xs h), fun c o xs h => b.2 c o xs (a.2 c o xs h)⟩
theorem Kt.ex {H H1 : Hp} (e : Ex H H1) : Kt H H1 := ⟨fun _ _ h => e _ _ h, fun _ _ _ h => e _ _ h⟩
theorem Kt.put {H : Hp} {p : Addr} {o u : HO} (h : H p = some o) (n1 : ∀ xs, o ≠ .tup xs) (n2 : ∀ ob xs, o ≠ .frz ob (.tup xs)) : Kt H (upd H p u) :=
  ⟨fun b xs e => by rw [upd_ne (ne_of e h (fun z => n1 xs z.symm))]; exact e, fun b ob xs e => by rw [upd_ne (ne_of e h (fun z => n2 ob xs z.symm))]; exact e⟩
theorem Kt.lst {H : Hp} {p : Addr} {xs : List V} {u : HO} (h : H p = some (.lst xs)) : Kt H (upd H p u) := Kt.put h (fun _ z => nomatch z) fun _ _ z => nomatch z
theorem Kt.dK {H : Hp} {p : Addr} {kvs : List (Key × V)} {u : HO} (h : H p = some (.dK kvs)) : Kt H (upd H p u) := Kt.put h (fun _ z => nomatch z) fun _ _ z => nomatch z
theorem Kt.sq {K : PySem.W.Frag} {H H1 : Hp} (k : Kt H H1) (a : Addr) (xs : List V) (h : SqT K H a xs) : SqT K H1 a xs := by
  rcases h with (h | ⟨o, h⟩) | h
  · exact .inl (.inl (k.1 _ _ h))
  · exact .inl (.inr ⟨o, k.2 _ _ _ h⟩)
  · exact .inr h
section
variable {K : PySem.W.Frag} {H H1 H2 : Hp} {v : V} {vs : List V} {d : PyData} {ds : List PyData}
theorem dp_ex (e : Ex H H1) (h : Dp K H v d) : Dp K H1 v d := dp_mono (fun _ _ => ex_l e) (fun _ _ => ex_t e) h
theorem dpAll_ex (e : Ex H H1) (h : DpAll K H vs ds) : DpAll K H1 vs ds := dpAll_mono (fun _ _ => ex_l e) (fun _ _ => ex_t e) h
theorem dp_kt (k : Kt H H1) (n : noL d = true) (h : Dp K H v d) : Dp K H1 v d := dp_monoT k.sq n h
theorem dpAll_kt (k : Kt H H1) (n : noLs ds = true) (h : DpAll K H vs ds) : DpAll K H1 vs ds := dpAll_monoT k.sq n h
theorem dp_int {i : Int} (h : Dp K H v (.int i)) : v = .int i := by cases h; rfl
theorem dp_bl {b : Bool} (h : Dp K H v (.bool b)) : v = .bl b := by cases h; rfl
theorem dp_tup (h : Dp K H v (.tuple ds)) : ∃ a xs, v = .ref a ∧ SqT K H a xs ∧ DpAll K H xs ds := by
  cases h with
  | tup h1 h2 => exact ⟨_, _, rfl, h1, h2⟩
theorem dp_lst (h : Dp K H v (.list ds)) : ∃ a xs, v = .ref a ∧ SqL K H a xs ∧ DpAll K H xs ds := by
  cases h with
  | lst h1 h2 => exact ⟨_, _, rfl, h1, h2⟩
theorem dp_newT {p : Addr} (h : H p = some (.tup vs)) (a : DpAll K H vs ds) : Dp K H (.ref p) (.tuple ds) := .tup (st_of h) a
theorem dp_newL {p : Addr} (h : H p = some (.lst vs)) (a : DpAll K H vs ds) : Dp K H (.ref p) (.list ds) := .lst (sq_of h) a
theorem dpAll_len : ∀ {vs : List V} {ds : List PyData}, DpAll K H vs ds → vs.length = ds.length
  | _, _, .nil => rfl
  | _, _, .cons _ a => by rw [List.length_cons, List.length_cons, dpAll_len a]
theorem dpAll_get : ∀ {vs : List V} {ds : List PyData} {i : Nat} {d : PyData}, DpAll K H vs ds → ds[i]? = some d → ∃ v, vs[i]? = some v ∧ Dp K H v d
  | _, _, _, _, .nil, e => by simp at e
  | _, _, 0, _, .cons h _, e => by
    simp only [List.getElem?_cons_zero, Option.some.injEq] at e
    subst e
    exact ⟨_, rfl, h⟩
  | _, _, i + 1, _, .cons _ a, e => by
    obtain ⟨v, h1, h2⟩ := dpAll_get (i := i) a (by simpa using e)
    exact ⟨v, by simpa using h1, h2⟩
theorem dpAll_at : ∀ {vs : List V} {ds : List PyData} {i : Nat} {v : V}, DpAll K H vs ds → vs[i]? = some v → ∃ d, ds[i]? = some d ∧ Dp K H v d
  | _, _, _, _, .nil, e => by simp at e
  | _, _, 0, _, .cons h _, e => by
    simp only [List.getElem?_cons_zero, Option.some.injEq] at e
    subst e
    exact ⟨_, rfl, h⟩
  | _, _, i + 1, _, .cons _ a, e => by
    obtain ⟨d, h1, h2⟩ := dpAll_at (i := i) a (by simpa using e)
    exact ⟨d, by simpa using h1, h2⟩
theorem dpAll_app : ∀ {vs ws : List V} {ds es : List PyData}, DpAll K H vs ds → DpAll K H ws es → DpAll K H (vs ++ ws) (ds ++ es)
  | _, _, _, _, .nil, b => b
  | _, _, _, _, .cons h a, b => .cons h (dpAll_app a b)
theorem dpAll_one (h : Dp K H v d) : DpAll K H [v] [d] := .cons h .nil
theorem dpAll_take : ∀ (n : Nat) {vs : List V} {ds : List PyData}, DpAll K H vs ds → DpAll K H (vs.take n) (ds.take n)
  | 0, _, _, _ => .nil
  | _ + 1, _, _, .nil => .nil
  | n + 1, _, _, .cons h a => .cons h (dpAll_take n a)
theorem dpAll_drop : ∀ (n : Nat) {vs : List V} {ds : List PyData}, DpAll K H vs ds → DpAll K H (vs.drop n) (ds.drop n)
  | 0, _, _, h => h
  | _ + 1, _, _, .nil => .nil
  | n + 1, _, _, .cons _ a => dpAll_drop n a
theorem dpAll_ints : ∀ {vs : List V} {ns : List Int}, DpAll K H vs (ns.map .int) → vs = ns.map V.int
  | _, [], .nil => rfl
  | _, n :: ns, .cons h a => by rw [dp_int h, dpAll_ints a, List.map_cons]
theorem ints_dpAll : ∀ (ns : List Int), DpAll K H (ns.map V.int) (ns.map .int)
  | [] => .nil
  | n :: ns => .cons (.int n) (ints_dpAll ns)
theorem dpAll_bools : ∀ {vs : List V} {bs : List Bool}, DpAll K H vs (bs.map .bool) → vs = bs.map V.bl
  | _, [], .nil => rfl
  | _, b :: bs, .cons h a => by rw [dp_bl h, dpAll_bools a, List.map_cons]
end

/-! ### what evaluates to data -/
def EvP (te : TE) (σ : L2.St) (H : Hp) (P : V → Hp → Prop) : Prop := ∀ H1, Ex H H1 → ∀ Q : VK, (∀ v H2, Ex H1 H2 → P v H2 → Q v H2) → te σ H1 Q
abbrev EvD (K : PySem.W.Frag) (te : TE) (σ : L2.St) (H : Hp) (d : PyData) : Prop := EvP te σ H fun v H2 => Dp K H2 v d
def EvAD (K : PySem.W.Frag) (ta : TA) (σ : L2.St) (H : Hp) (ds : List PyData) : Prop := ∀ H1, Ex H H1 → ∀ Q : List V → Hp → Prop, (∀ vs H2, Ex H1 H2 → DpAll K H2 vs ds → Q vs H2) → ta σ H1 Q
/-- what a pure def hands back -/
def RetD (K : PySem.W.Frag) (r : PyData) (H : Hp) (Q : VK) : Prop := ∀ v H1, Ex H H1 → Dp K H1 v r → Q v H1
def Sp1 (K : PySem.W.Frag) (f : PyData → Option PyData) : Sp := fun vs H Q _ => ∃ v1 d1 r, vs = [v1] ∧ Dp K H v1 d1 ∧ f d1 = some r ∧ RetD K r H Q
def Sp2 (K : PySem.W.Frag) (f : PyData → PyData → Option PyData) : Sp := fun vs H Q _ => ∃ v1 v2 d1 d2 r, vs = [v1, v2] ∧ Dp K H v1 d1 ∧ Dp K H v2 d2 ∧ f d1 d2 = some r ∧ RetD K r H Q
def Sp3 (K : PySem.W.Frag) (f : PyData → PyData → PyData → Option PyData) : Sp := fun vs H Q _ => ∃ v1 v2 v3 d1 d2 d3 r, vs = [v1, v2, v3] ∧ Dp K H v1 d1 ∧ Dp K H v2 d2 ∧ Dp K H v3 d3 ∧ f d1 d2 d3 = some r ∧ RetD K r H Q
section
variable {K : PySem.W.Frag} {σ : L2.St} {H H' : Hp} {ta tb te tx : TE} {t u : TT} {x y z v : V} {r : R2} {tas tr : TA} {d d1 d2 d3 : PyData} {ds : List PyData} {P : V → Hp → Prop}
theorem RetD.go {Q : VK} {H1 : Hp} (q : RetD K d H Q) (e : Ex H H1) (h : Dp K H1 v d) : Q v H1 := q v H1 e h
theorem EvP.mono (e : Ex H H') (h : EvP te σ H P) : EvP te σ H' P := fun H1 a Q q => h H1 (e.trans a) Q q
theorem EvAD.mono (e : Ex H H') (h : EvAD K tas σ H ds) : EvAD K tas σ H' ds := fun H1 a Q q => h H1 (e.trans a) Q q
theorem EvP.imp {P' : V → Hp → Prop} (h : EvP te σ H P) (i : ∀ v H1, P v H1 → P' v H1) : EvP te σ H P' := fun H1 a Q q => h H1 a Q fun v H2 e p => q v H2 e (i v H2 p)
theorem ed_of (h : Ev te σ H v) (hd : Dp K H v d) : EvD K te σ H d := fun H1 e Q q => h H1 e Q fun H2 e2 => q v H2 e2 (dp_ex (e.trans e2) hd)
theorem ed_var {i : Nat} (h : σ[i]? = some (some v)) (hd : Dp K H v d) : EvD K (tVar i) σ H d := ed_of (ev_var h) hd
theorem ed_int {i : Int} (h : Ev te σ H (.int i)) : EvD K te σ H (.int i) := ed_of h (.int i)
theorem ed_bl {b : Bool} (h : Ev te σ H (.bl b)) : EvD K te σ H (.bool b) := ed_of h (.bl b)
theorem ev_int {i : Int} (h : EvD K te σ H (.int i)) : Ev te σ H (.int i) := fun H1 e Q q => h H1 e Q fun v H2 e2 p => by
  rw [dp_int p]
  exact q H2 e2
theorem ev_bl {b : Bool} (h : EvD K te σ H (.bool b)) : Ev te σ H (.bl b) := fun H1 e Q q => h H1 e Q fun v H2 e2 p => by
  rw [dp_bl p]
  exact q H2 e2
theorem ed_is (h : EvD K te σ H d1) (e : d1 = d2) : EvD K te σ H d2 := e ▸ h
theorem ead_nil : EvAD K tNil σ H [] := fun H1 _ _ q => q [] H1 (Ex.refl H1) .nil
theorem ead_cons (h : EvD K te σ H d) (hr : EvAD K tr σ H ds) : EvAD K (tCons te tr) σ H (d :: ds) := fun H1 e _ q =>
  h H1 e _ fun v H2 e2 p => hr H2 (e.trans e2) _ fun vs H3 e3 ps => q (v :: vs) H3 (e2.trans e3) (.cons (dp_ex e3 p) ps)
theorem ead1 (h : EvD K te σ H d) : EvAD K (tCons te tNil) σ H [d] := ead_cons h ead_nil
theorem ed_tup (h : EvAD K tas σ H ds) (hl : ds.length ≤ 100000) : EvD K (tTup tas) σ H (.tuple ds) := fun H1 e Q q =>
  h H1 e _ fun vs H2 e2 ps => ⟨sz_of (by rw [dpAll_len ps]; exact hl), fun p hp => q _ _ (e2.trans (Ex.new hp)) (dp_newT upd_same (dpAll_ex (Ex.new hp) ps))⟩
theorem ed_lst (h : EvAD K tas σ H ds) (hl : ds.length ≤ 100000) : EvD K (tLst tas) σ H (.list ds) := fun H1 e Q q =>
  h H1 e _ fun vs H2 e2 ps => ⟨sz_of (by rw [dpAll_len ps]; exact hl), fun p hp => q _ _ (e2.trans (Ex.new hp)) (dp_newL upd_same (dpAll_ex (Ex.new hp) ps))⟩
theorem atI_dp {H : Hp} {xs : List V} {i : Int} (a : DpAll K H xs ds) (h : atI ds i = some d) : ∃ v, atI xs i = some v ∧ Dp K H v d := by
  unfold atI at h ⊢
  rw [dpAll_len a]
  cases e : ixN ds.length i with
  | none => rw [e] at h; cases h
  | some j =>
    rw [e] at h
    exact dpAll_get a h
theorem ed_ixT {i : Int} (ha : EvD K ta σ H (.tuple ds)) (hb : Ev tb σ H (.int i)) (h : atI ds i = some d) : EvD K (tOp (rIxT K) ta tb) σ H d := fun H1 e Q q =>
  ha H1 e _ fun v H2 e2 p => hb H2 (e.trans e2) _ fun H3 e3 => by
    obtain ⟨a, xs, rfl, hs, hx⟩ := dp_tup (dp_ex e3 p)
    obtain ⟨z, h1, h2⟩ := atI_dp hx h
    exact ⟨a, xs, i, z, rfl, rfl, hs, h1, q z H3 (e2.trans e3) h2⟩
theorem ed_ixL {i : Int} (ha : EvD K ta σ H (.list ds)) (hb : Ev tb σ H (.int i)) (h : atI ds i = some d) : EvD K (tOp (rIxL K) ta tb) σ H d := fun H1 e Q q =>
  ha H1 e _ fun v H2 e2 p => hb H2 (e.trans e2) _ fun H3 e3 => by
    obtain ⟨a, xs, rfl, hs, hx⟩ := dp_lst (dp_ex e3 p)
    obtain ⟨z, h1, h2⟩ := atI_dp hx h
    exact ⟨a, xs, i, z, rfl, rfl, hs, h1, q z H3 (e2.trans e3) h2⟩
theorem ev_eqD (ha : EvD K ta σ H d1) (hb : EvD K tb σ H d2) (s1 : SeqAt.shaped d1 = true) (s2 : SeqAt.shaped d2 = true) : Ev (tOp (rEqD K) ta tb) σ H (.bl (PyData.eqv d1 d2)) := fun H1 e Q q =>
  ha H1 e _ fun v H2 e2 p => hb H2 (e.trans e2) _ fun w H3 e3 p' => ⟨d1, d2, dp_ex e3 p, p', s1, s2, q H3 (e2.trans e3)⟩
theorem ev_neD (ha : EvD K ta σ H d1) (hb : EvD K tb σ H d2) (s1 : SeqAt.shaped d1 = true) (s2 : SeqAt.shaped d2 = true) : Ev (tOp (rNeD K) ta tb) σ H (.bl (!PyData.eqv d1 d2)) := fun H1 e Q q =>
  ha H1 e _ fun v H2 e2 p => hb H2 (e.trans e2) _ fun w H3 e3 p' => ⟨d1, d2, dp_ex e3 p, p', s1, s2, q H3 (e2.trans e3)⟩
theorem ev_lenT (ha : EvD K ta σ H (.tuple ds)) : Ev (tCB (rLenS K) (tCons ta tNil)) σ H (.int (ds.length : Int)) := fun H1 e Q q =>
  ha H1 e _ fun v H2 e2 p => by
    obtain ⟨a, xs, rfl, hs, hx⟩ := dp_tup p
    refine ⟨a, xs, rfl, .inr hs, ?_⟩
    rw [dpAll_len hx]
    exact q H2 e2
theorem ev_lenLD (ha : EvD K ta σ H (.list ds)) : Ev (tCB (rLenS K) (tCons ta tNil)) σ H (.int (ds.length : Int)) := fun H1 e Q q =>
  ha H1 e _ fun v H2 e2 p => by
    obtain ⟨a, xs, rfl, hs, hx⟩ := dp_lst p
    refine ⟨a, xs, rfl, .inl hs, ?_⟩
    rw [dpAll_len hx]
    exact q H2 e2
/-- tuple(list), list(tuple or list) -/
def rTupS (K : PySem.W.Frag) : List V → Hp → VK → Prop := fun xs H Q => ∃ p ys, xs = [.ref p] ∧ ((SqL K H p ys ∧ ∀ l, H l = none → Q (.ref l) (upd H l (.tup ys))) ∨ (SqT K H p ys ∧ Q (.ref p) H))
theorem ed_tupleL (ha : EvD K ta σ H (.list ds)) : EvD K (tCB (rTupS K) (tCons ta tNil)) σ H (.tuple ds) := fun H1 e Q q =>
  ha H1 e _ fun v H2 e2 p => by
    obtain ⟨a, xs, rfl, hs, hx⟩ := dp_lst p
    exact ⟨a, xs, rfl, .inl ⟨hs, fun l hl => q _ _ (e2.trans (Ex.new hl)) (dp_newT upd_same (dpAll_ex (Ex.new hl) hx))⟩⟩
theorem ed_listT (ha : EvD K ta σ H (.tuple ds)) : EvD K (tCB (rListS K) (tCons ta tNil)) σ H (.list ds) := fun H1 e Q q =>
  ha H1 e _ fun v H2 e2 p => by
    obtain ⟨a, xs, rfl, hs, hx⟩ := dp_tup p
    exact ⟨a, xs, rfl, .inr hs, fun l hl => q _ _ (e2.trans (Ex.new hl)) (dp_newL upd_same (dpAll_ex (Ex.new hl) hx))⟩
theorem ed_listL (ha : EvD K ta σ H (.list ds)) : EvD K (tCB (rListS K) (tCons ta tNil)) σ H (.list ds) := fun H1 e Q q =>
  ha H1 e _ fun v H2 e2 p => by
    obtain ⟨a, xs, rfl, hs, hx⟩ := dp_lst p
    exact ⟨a, xs, rfl, .inl hs, fun l hl => q _ _ (e2.trans (Ex.new hl)) (dp_newL upd_same (dpAll_ex (Ex.new hl) hx))⟩
theorem ev_all {bs : List Bool} (ha : EvD K ta σ H (.list (bs.map .bool))) : Ev (tCB (rAll K) (tCons ta tNil)) σ H (.bl (bs.all id)) := fun H1 e Q q =>
  ha H1 e _ fun v H2 e2 p => by
    obtain ⟨a, xs, rfl, hs, hx⟩ := dp_lst p
    rw [dpAll_bools hx] at hs
    exact ⟨a, bs, rfl, hs, q H2 e2⟩
theorem ev_any {bs : List Bool} (ha : EvD K ta σ H (.list (bs.map .bool))) : Ev (tCB (rAny K) (tCons ta tNil)) σ H (.bl (bs.any id)) := fun H1 e Q q =>
  ha H1 e _ fun v H2 e2 p => by
    obtain ⟨a, xs, rfl, hs, hx⟩ := dp_lst p
    rw [dpAll_bools hx] at hs
    exact ⟨a, bs, rfl, hs, q H2 e2⟩
/-- a call of a pure def -/
theorem ed_call1 {f : PyData → Option PyData} {E : XK} (h : EvAD K tas σ H [d1]) (hf : f d1 = some d) : EvD K (tCall (Sp1 K f) [] E tas) σ H d := fun H1 e Q q =>
  h H1 e _ fun vs H2 e2 ps => by
    cases ps with
    | cons p1 p2 =>
      cases p2
      exact ⟨_, d1, d, rfl, p1, hf, fun v H3 e3 p => q v H3 (e2.trans e3) p⟩
theorem ed_call2 {f : PyData → PyData → Option PyData} {E : XK} (h : EvAD K tas σ H [d1, d2]) (hf : f d1 d2 = some d) : EvD K (tCall (Sp2 K f) [] E tas) σ H d := fun H1 e Q q =>
  h H1 e _ fun vs H2 e2 ps => by
    cases ps with
    | cons p1 p2 =>
      cases p2 with
      | cons p2 p3 =>
        cases p3
        exact ⟨_, _, d1, d2, d, rfl, p1, p2, hf, fun v H3 e3 p => q v H3 (e2.trans e3) p⟩
theorem ed_call3 {f : PyData → PyData → PyData → Option PyData} {E : XK} (h : EvAD K tas σ H [d1, d2, d3]) (hf : f d1 d2 d3 = some d) : EvD K (tCall (Sp3 K f) [] E tas) σ H d := fun H1 e Q q =>
  h H1 e _ fun vs H2 e2 ps => by
    cases ps with
    | cons p1 p2 =>
      cases p2 with
      | cons p2 p3 =>
        cases p3 with
        | cons p3 p4 =>
          cases p4
          exact ⟨_, _, _, d1, d2, d3, d, rfl, p1, p2, p3, hf, fun v H3 e3 p => q v H3 (e2.trans e3) p⟩
theorem ed_if {b : Bool} (h : EvT t σ H b) (h1 : b = true → EvD K ta σ H d) (h2 : b = false → EvD K tb σ H d) : EvD K (tIf t ta tb) σ H d := fun H1 e Q q => h H1 e _ fun H2 e2 => by
  cases b with
  | true =>
    show ta σ H2 Q
    exact h1 rfl H2 (e.trans e2) Q fun v H3 e3 p => q v H3 (e2.trans e3) p
  | false =>
    show tb σ H2 Q
    exact h2 rfl H2 (e.trans e2) Q fun v H3 e3 p => q v H3 (e2.trans e3) p
/-! statements -/
variable {D : Ends}
theorem s_retD (h : EvD K te σ H d) (k : ∀ v H1, Ex H H1 → Dp K H1 v d → D.rt v H1) : tRet te D σ H := h H (Ex.refl H) _ k
theorem s_ret0 {Q : VK} (h : EvD K te σ H d) (e : Ex H' H) (q : RetD K d H' Q) (hq : D.rt = Q) : tRet te D σ H := h H (Ex.refl H) _ fun v H1 e1 p => by
  rw [hq]
  exact q v H1 (e.trans e1) p
theorem s_asgD {i : Nat} (h : EvD K te σ H d) (k : ∀ v H1, Ex H H1 → Dp K H1 v d → D.nx (σ.set i (some v)) H1) : tAsg te (gName i) D σ H := h H (Ex.refl H) _ k
end

/-! ### isinstance -/
def tyD : PyData → String
  | .none => "NoneType"
  | .bool _ => "bool"
  | .int _ => "int"
  | .str _ => "str"
  | .list _ => "list"
  | .tuple _ => "tuple"
  | .dict _ => "dict"
/-- data, or an empty dict -/
def DpX (K : PySem.W.Frag) (H : Hp) (v : V) (d : PyData) : Prop := Dp K H v d ∨ (d = .dict [] ∧ ∃ a, v = .ref a ∧ H a = some (.dK []))
section
variable {K : PySem.W.Frag} {σ : L2.St} {H H' : Hp} {ta tb te : TE} {v : V} {d : PyData}
theorem dpx_ex {H1 : Hp} (e : Ex H H1) (h : DpX K H v d) : DpX K H1 v d := by
  rcases h with h | ⟨h1, a, h2, h3⟩
  · exact .inl (dp_ex e h)
  · exact .inr ⟨h1, a, h2, e _ _ h3⟩
theorem tyx_of (h : DpX K H v d) : TyX K H v (.type (tyD d)) := by
  rcases h with h | ⟨rfl, a, rfl, h3⟩
  · cases h with
    | non => exact .base .non
    | bl b => exact .base (.bl b)
    | int i => exact .base (.int i)
    | str x => exact .base (.str x)
    | lst h a =>
      rcases h with (h | ⟨o, h⟩) | ⟨o, its, n, h1, h2, _⟩
      · exact .base (.lst h)
      · exact .base (.frz h)
      · exact .kList h1 h2
    | tup h a =>
      rcases h with (h | ⟨o, h⟩) | ⟨o, its, n, h1, h2, _⟩
      · exact .base (.tup h)
      · exact .fTuple h
      · exact .kTuple h1 h2
  · exact .base (.dK h3)
def isIB : PyData → Bool
  | .none => false
  | .bool _ => true
  | .int _ => true
  | .str _ => false
  | .list _ => false
  | .tuple _ => false
  | .dict _ => false
theorem kit_int : ∀ d : PyData, kitB (tyD d) "int" = some (isIB d)
  | .none => (by decide +kernel : kitB "NoneType" "int" = some false)
  | .bool _ => (by decide +kernel : kitB "bool" "int" = some true)
  | .int _ => (by decide +kernel : kitB "int" "int" = some true)
  | .str _ => (by decide +kernel : kitB "str" "int" = some false)
  | .list _ => (by decide +kernel : kitB "list" "int" = some false)
  | .tuple _ => (by decide +kernel : kitB "tuple" "int" = some false)
  | .dict _ => (by decide +kernel : kitB "dict" "int" = some false)
def isB : PyData → Bool
  | .none => false
  | .bool _ => true
  | .int _ => false
  | .str _ => false
  | .list _ => false
  | .tuple _ => false
  | .dict _ => false
theorem kit_bool : ∀ d : PyData, kitB (tyD d) "bool" = some (isB d)
  | .none => (by decide +kernel : kitB "NoneType" "bool" = some false)
  | .bool _ => (by decide +kernel : kitB "bool" "bool" = some true)
  | .int _ => (by decide +kernel : kitB "int" "bool" = some false)
  | .str _ => (by decide +kernel : kitB "str" "bool" = some false)
  | .list _ => (by decide +kernel : kitB "list" "bool" = some false)
  | .tuple _ => (by decide +kernel : kitB "tuple" "bool" = some false)
  | .dict _ => (by decide +kernel : kitB "dict" "bool" = some false)
def isT : PyData → Bool
  | .none => false
  | .bool _ => false
  | .int _ => false
  | .str _ => false
  | .list _ => false
  | .tuple _ => true
  | .dict _ => false
theorem kit_tuple : ∀ d : PyData, kitB (tyD d) "tuple" = some (isT d)
  | .none => (by decide +kernel : kitB "NoneType" "tuple" = some false)
  | .bool _ => (by decide +kernel : kitB "bool" "tuple" = some false)
  | .int _ => (by decide +kernel : kitB "int" "tuple" = some false)
  | .str _ => (by decide +kernel : kitB "str" "tuple" = some false)
  | .list _ => (by decide +kernel : kitB "list" "tuple" = some false)
  | .tuple _ => (by decide +kernel : kitB "tuple" "tuple" = some true)
  | .dict _ => (by decide +kernel : kitB "dict" "tuple" = some false)
theorem ev_isi {T : String} {b : Bool} (ha : EvP ta σ H fun v H1 => DpX K H1 v d) (hk : kitB (tyD d) T = some b) : Ev (tCB (rIsi K) (tCons ta (tCons (tC (.ty T)) tNil))) σ H (.bl b) := fun H1 e Q q =>
  ha H1 e _ fun v H2 e2 p => ⟨v, .ty T, .type (tyD d), .type T, b, rfl, .ty T, tyx_of p, kit_ty hk, q H2 e2⟩
theorem EvP.x (h : EvD K ta σ H d) : EvP ta σ H fun v H1 => DpX K H1 v d := h.imp fun _ _ p => .inl p
end
end Xd
/-! D1: what is walked, over data; comprehensions; loops over data. -/
namespace Xd
open PySem PySem.Spec PyProof.Rows L2 Evl

/-- the walk J takes, while G holds, the data es -/
structure WalkD (K : PySem.W.Frag) (J : It) (es : List PyData) (G : Hp → Prop) : Prop where
  goes : ∀ i H, i < es.length → G H → J.go i H
  stops : ∀ H, G H → J.stop es.length H
  yields : ∀ i H x H1, i < es.length → G H → J.yld i H x H1 → Ex H H1 ∧ ∃ e, es[i]? = some e ∧ Dp K H1 x e
/-- the source stands in H already -/
def EvJ (K : PySem.W.Frag) (wi : TI) (σ : L2.St) (H : Hp) (es : List PyData) : Prop := ∀ H1, Ex H H1 → ∀ R : It → Hp → Prop, (∀ J H2, Ex H1 H2 → WalkD K J es (Ex H) → R J H2) → wi σ H1 R
/-- the source may be new -/
def EvI (K : PySem.W.Frag) (wi : TI) (σ : L2.St) (H : Hp) (es : List PyData) : Prop := ∀ H1, Ex H H1 → ∀ R : It → Hp → Prop, (∀ J H2, Ex H1 H2 → WalkD K J es (Ex H2) → R J H2) → wi σ H1 R
def GTo (g : TG) (x : V) (σ : L2.St) (H : Hp) (σ2 : L2.St) : Prop := ∀ Q : L2.St → Hp → Prop, Q σ2 H → g x σ H Q
/-- the pairs that enumerate gives -/
def enumD (ds : List PyData) : List PyData := (List.range ds.length).zipWith (fun i d => .tuple [.int (i : Nat), d]) ds
def zipD (ds es : List PyData) : List PyData := ds.zipWith (fun d e => .tuple [d, e]) es
section
variable {K : PySem.W.Frag} {σ σ2 : L2.St} {H H' H1 : Hp} {ta tb te tx : TE} {tt : TT} {wi : TI} {g : TG} {x v : V} {tas : TA} {d e d1 d2 : PyData} {ds es : List PyData} {G : Hp → Prop} {J : It} {a : Addr} {xs : List V}
theorem WalkD.imp {G' : Hp → Prop} (w : WalkD K J es G) (h : ∀ H, G' H → G H) : WalkD K J es G' := ⟨fun i H hi g => w.goes i H hi (h H g), fun H g => w.stops H (h H g), fun i H x H1 hi g y => w.yields i H x H1 hi (h H g) y⟩
theorem EvJ.i (h : EvJ K wi σ H es) : EvI K wi σ H es := fun H1 e R r => h H1 e R fun J H2 e2 w => r J H2 e2 (w.imp fun H3 e3 => (e.trans e2).trans e3)
theorem EvJ.mono (e : Ex H H') (h : EvJ K wi σ H es) : EvJ K wi σ H' es := fun H1 e1 R r => h H1 (e.trans e1) R fun J H2 e2 w => r J H2 e2 (w.imp fun H3 e3 => e.trans e3)
theorem EvI.mono (e : Ex H H') (h : EvI K wi σ H es) : EvI K wi σ H' es := fun H1 e1 R r => h H1 (e.trans e1) R r
theorem walkd_tup (hs : SqT K H a xs) (hx : DpAll K H xs ds) : WalkD K (Itt K a) ds (Ex H) := by
  have hl := dpAll_len hx
  refine ⟨fun i H1 hi e => ?_, fun H1 e => ⟨xs, ex_t e hs, by rw [← hl]; exact Nat.le_refl _⟩, fun i H1 x H2 hi e y => ?_⟩
  · exact ⟨xs, xs[i]'(by omega), ex_t e hs, by simp [show i < xs.length by omega]⟩
  · obtain ⟨e2, y2⟩ := y
    subst e2
    obtain ⟨d, h1, h2⟩ := dpAll_at hx (y2 xs (ex_t e hs))
    exact ⟨Ex.refl _, d, h1, dp_ex e h2⟩
theorem walkd_lst (hs : SqL K H a xs) (hx : DpAll K H xs ds) : WalkD K (Itl K a) ds (Ex H) := by
  have hl := dpAll_len hx
  refine ⟨fun i H1 hi e => ?_, fun H1 e => ⟨xs, ex_l e hs, by rw [← hl]; exact Nat.le_refl _⟩, fun i H1 x H2 hi e y => ?_⟩
  · exact ⟨xs, xs[i]'(by omega), ex_l e hs, by simp [show i < xs.length by omega]⟩
  · obtain ⟨e2, y2⟩ := y
    subst e2
    obtain ⟨d, h1, h2⟩ := dpAll_at hx (y2 xs (ex_l e hs))
    exact ⟨Ex.refl _, d, h1, dp_ex e h2⟩
theorem enumD_len (ds : List PyData) : (enumD ds).length = ds.length := by
  unfold enumD
  rw [List.length_zipWith, List.length_range, Nat.min_self]
theorem enumD_get {ds : List PyData} {i : Nat} {d : PyData} (h : ds[i]? = some d) : (enumD ds)[i]? = some (.tuple [.int (i : Nat), d]) := by
  unfold enumD
  have hi := (List.getElem?_eq_some_iff.mp h).1
  rw [List.getElem?_zipWith, List.getElem?_range hi, h]
theorem walkd_enumT (hs : SqT K H a xs) (hx : DpAll K H xs ds) : WalkD K (Xr.IteT K a) (enumD ds) (Ex H) := by
  have hl := dpAll_len hx
  refine ⟨fun i H1 hi e => ?_, fun H1 e => ⟨xs, ex_t e hs, by rw [enumD_len, ← hl]⟩, fun i H1 x H2 hi e y => ?_⟩
  · rw [enumD_len] at hi
    exact ⟨xs, xs[i]'(by omega), ex_t e hs, by simp [show i < xs.length by omega]⟩
  · obtain ⟨T, z, rfl, hT, rfl, y2⟩ := y
    obtain ⟨d, h1, h2⟩ := dpAll_at hx (y2 xs (ex_t e hs))
    exact ⟨Ex.new hT, _, enumD_get h1, dp_newT upd_same (.cons (.int _) (dpAll_one (dp_ex (e.trans (Ex.new hT)) h2)))⟩
theorem walkd_enumL (hs : SqL K H a xs) (hx : DpAll K H xs ds) : WalkD K (Ite K a) (enumD ds) (Ex H) := by
  have hl := dpAll_len hx
  refine ⟨fun i H1 hi e => ?_, fun H1 e => ⟨xs, ex_l e hs, by rw [enumD_len, ← hl]; exact Nat.le_refl _⟩, fun i H1 x H2 hi e y => ?_⟩
  · rw [enumD_len] at hi
    exact ⟨xs, xs[i]'(by omega), ex_l e hs, by simp [show i < xs.length by omega]⟩
  · obtain ⟨T, z, rfl, hT, rfl, y2⟩ := y
    obtain ⟨d, h1, h2⟩ := dpAll_at hx (y2 xs (ex_l e hs))
    exact ⟨Ex.new hT, _, enumD_get h1, dp_newT upd_same (.cons (.int _) (dpAll_one (dp_ex (e.trans (Ex.new hT)) h2)))⟩
theorem zipD_len (ds es : List PyData) : (zipD ds es).length = min ds.length es.length := by
  unfold zipD
  rw [List.length_zipWith]
theorem walkd_zipT {b : Addr} {ys : List V} (hs : SqT K H a xs) (hx : DpAll K H xs ds) (ht : SqT K H b ys) (hy : DpAll K H ys es) : WalkD K (RZ.ItzT K a b) (zipD ds es) (Ex H) := by
  have hl := dpAll_len hx
  have hm := dpAll_len hy
  refine ⟨fun i H1 hi e => ?_, fun H1 e => ⟨xs, ys, ex_t e hs, ex_t e ht, by rw [zipD_len]; omega⟩, fun i H1 x H2 hi e y => ?_⟩
  · rw [zipD_len] at hi
    exact ⟨xs, ys, xs[i]'(by omega), ys[i]'(by omega), ex_t e hs, ex_t e ht, by simp [show i < xs.length by omega], by simp [show i < ys.length by omega]⟩
  · obtain ⟨T, z, w, rfl, hT, rfl, y2, y3⟩ := y
    obtain ⟨d, h1, h2⟩ := dpAll_at hx (y2 xs (ex_t e hs))
    obtain ⟨d', h3, h4⟩ := dpAll_at hy (y3 ys (ex_t e ht))
    refine ⟨Ex.new hT, .tuple [d, d'], ?_, dp_newT upd_same (.cons (dp_ex (e.trans (Ex.new hT)) h2) (dpAll_one (dp_ex (e.trans (Ex.new hT)) h4)))⟩
    unfold zipD
    rw [List.getElem?_zipWith, h1, h3]
/-- the iterables -/
theorem evj_tup {i : Nat} (h : σ[i]? = some (some v)) (hd : Dp K H v (.tuple ds)) : EvJ K (iTup K (tVar i)) σ H ds := fun H1 e R r => by
  obtain ⟨a, xs, rfl, hs, hx⟩ := dp_tup hd
  exact ⟨.ref a, h, a, rfl, ⟨xs, ex_t e hs⟩, r _ _ (Ex.refl _) (walkd_tup hs hx)⟩
theorem evj_enumT {i : Nat} (h : σ[i]? = some (some v)) (hd : Dp K H v (.tuple ds)) : EvJ K (Xr.iEnumT K (tCons (tVar i) tNil)) σ H (enumD ds) := fun H1 e R r => by
  obtain ⟨a, xs, rfl, hs, hx⟩ := dp_tup hd
  exact ⟨.ref a, h, a, xs, rfl, ex_t e hs, r _ _ (Ex.refl _) (walkd_enumT hs hx)⟩
theorem evi_tup (h : EvD K te σ H (.tuple ds)) : EvI K (iTup K te) σ H ds := fun H1 e R r => h H1 e _ fun v H2 e2 p => by
  obtain ⟨a, xs, rfl, hs, hx⟩ := dp_tup p
  exact ⟨a, rfl, ⟨xs, hs⟩, r _ _ e2 (walkd_tup hs hx)⟩
theorem evi_lst (h : EvD K te σ H (.list ds)) : EvI K (iList K te) σ H ds := fun H1 e R r => h H1 e _ fun v H2 e2 p => by
  obtain ⟨a, xs, rfl, hs, hx⟩ := dp_lst p
  exact ⟨a, rfl, ⟨xs, hs⟩, r _ _ e2 (walkd_lst hs hx)⟩
theorem evi_enumT (h : EvD K te σ H (.tuple ds)) : EvI K (Xr.iEnumT K (tCons te tNil)) σ H (enumD ds) := fun H1 e R r => h H1 e _ fun v H2 e2 p => by
  obtain ⟨a, xs, rfl, hs, hx⟩ := dp_tup p
  exact ⟨a, xs, rfl, hs, r _ _ e2 (walkd_enumT hs hx)⟩
theorem evi_enumL (h : EvD K te σ H (.list ds)) : EvI K (iEnum K (tCons te tNil)) σ H (enumD ds) := fun H1 e R r => h H1 e _ fun v H2 e2 p => by
  obtain ⟨a, xs, rfl, hs, hx⟩ := dp_lst p
  exact ⟨a, xs, rfl, hs, r _ _ e2 (walkd_enumL hs hx)⟩
theorem evi_zipT (h : EvD K ta σ H (.tuple ds)) (h2 : EvD K tb σ H (.tuple es)) : EvI K (RZ.iZipA K (tCons ta (tCons tb tNil))) σ H (zipD ds es) := fun H1 e R r => h H1 e _ fun v H2 e2 p => h2 H2 (e.trans e2) _ fun v' H3 e3 p' => by
  obtain ⟨a, xs, rfl, hs, hx⟩ := dp_tup (dp_ex e3 p)
  obtain ⟨b, ys, rfl, ht, hy⟩ := dp_tup p'
  exact ⟨a, b, xs, ys, rfl, .inr ⟨hs, ht, r _ _ (e2.trans e3) (walkd_zipT hs hx ht hy)⟩⟩
/-- targets -/
theorem gto_name {j : Nat} : GTo (gName j) x σ H (σ.set j (some x)) := fun _ q => q
theorem gto_pair {g1 g2 : TG} (h : Dp K H x (.tuple [d1, d2])) (k : ∀ v1 v2, Dp K H v1 d1 → Dp K H v2 d2 → ∃ σ1, GTo g1 v1 σ H σ1 ∧ GTo g2 v2 σ1 H σ2) : GTo (gTup K 2 (gCons g1 (gCons g2 gNil))) x σ H σ2 := fun Q q => by
  obtain ⟨a, xs, rfl, hs, hx⟩ := dp_tup h
  cases hx with
  | cons p1 hx =>
    cases hx with
    | cons p2 hx =>
      cases hx
      obtain ⟨σ1, k1, k2⟩ := k _ _ p1 p2
      exact ⟨a, _, rfl, hs, rfl, _, _, rfl, k1 _ ⟨_, _, rfl, k2 _ ⟨rfl, q⟩⟩⟩
theorem gto_two {i j : Nat} (h : Dp K H x (.tuple [d1, d2])) : ∃ v1 v2, Dp K H v1 d1 ∧ Dp K H v2 d2 ∧ GTo (gTup K 2 (gCons (gName i) (gCons (gName j) gNil))) x σ H ((σ.set i (some v1)).set j (some v2)) := by
  obtain ⟨a, xs, rfl, hs, hx⟩ := dp_tup h
  cases hx with
  | cons p1 hx =>
    cases hx with
    | cons p2 hx =>
      cases hx
      exact ⟨_, _, p1, p2, fun Q q => ⟨a, _, rfl, hs, rfl, _, _, rfl, _, _, rfl, rfl, q⟩⟩
/-- a, (b, c) -/
theorem gto_nest {i j k : Nat} (h : Dp K H x (.tuple [d, .tuple [d1, d2]])) : ∃ v0 v1 v2, Dp K H v0 d ∧ Dp K H v1 d1 ∧ Dp K H v2 d2 ∧
    GTo (gTup K 2 (gCons (gName i) (gCons (gTup K 2 (gCons (gName j) (gCons (gName k) gNil))) gNil))) x σ H (((σ.set i (some v0)).set j (some v1)).set k (some v2)) := by
  obtain ⟨a, xs, rfl, hs, hx⟩ := dp_tup h
  cases hx with
  | cons p0 hx =>
    cases hx with
    | cons p1 hx =>
      cases hx
      obtain ⟨v1, v2, q1, q2, q3⟩ := gto_two (i := j) (j := k) (σ := σ.set i (some _)) p1
      exact ⟨_, v1, v2, p0, q1, q2, fun Q q => ⟨a, _, rfl, hs, rfl, _, _, rfl, _, _, rfl, q3 _ ⟨rfl, q⟩⟩⟩
/-- a comprehension over data -/
theorem ed_lc {vs : List Nat} (p : PyData → Bool) (f : PyData → PyData) (hi : EvI K wi σ H es) (hn : es.length ≤ 40000) (hf : ∀ e ∈ es, p e = true → noL (f e) = true)
    (ht : ∀ e ∈ es, ∀ x H1, Ex H H1 → Dp K H1 x e → ∃ σ2, GTo g x (wipe σ vs) H1 σ2 ∧ wipe σ2 vs = wipe σ vs ∧ EvT tt σ2 H1 (p e) ∧ (p e = true → EvD K te σ2 H1 (f e))) :
    EvD K (tLc wi g tt te vs) σ H (.list ((es.filter p).map f)) := fun H0 e0 Q q => hi H0 e0 _ fun J H1 e1 w D hD => by
  refine ⟨fun i m Hc => m = es.length - i ∧ i ≤ es.length ∧ Ex H1 Hc ∧ ∃ acc, Hc D = some (.lst acc) ∧ DpAll K Hc acc (((es.take i).filter p).map f), ⟨_, rfl, Nat.zero_le _, Ex.new hD, [], upd_same, .nil⟩, fun i m Hc hW => ?_⟩
  obtain ⟨rfl, hle, ex, acc, hacc, hdp⟩ := hW
  by_cases hlt : i < es.length
  · refine .inr ⟨w.goes i Hc hlt ex, fun Hc' => i + 1 ≤ es.length ∧ Ex H1 Hc' ∧ ∃ acc, Hc' D = some (.lst acc) ∧ DpAll K Hc' acc (((es.take (i + 1)).filter p).map f), fun Hc' h => ⟨es.length - (i + 1), by omega, rfl, h⟩, fun x H2 y => ?_⟩
    obtain ⟨e2, e, he, hx⟩ := w.yields i Hc x H2 hlt ex y
    have hmem : e ∈ es := List.mem_of_getElem? he
    obtain ⟨σ2, h1, h2, h3, h4⟩ := ht e hmem x H2 ((e0.trans e1).trans (ex.trans e2)) hx
    have htk : es.take (i + 1) = es.take i ++ [e] := by rw [List.take_add_one, he]; rfl
    have hns : noLs (((es.take i).filter p).map f) = true := noLs_all fun z hz => by
      obtain ⟨u, hu, rfl⟩ := List.mem_map.mp hz
      obtain ⟨hu1, hu2⟩ := List.mem_filter.mp hu
      exact hf u (List.mem_of_mem_take hu1) hu2
    have hal : acc.length ≤ 40000 := by
      rw [dpAll_len hdp, List.length_map]
      refine Nat.le_trans (List.length_filter_le _ _) ?_
      rw [List.length_take]
      omega
    refine h1 _ ⟨h2, h3 H2 (Ex.refl _) _ fun H3 e3 => ?_⟩
    cases hp : p e with
    | false =>
      show i + 1 ≤ es.length ∧ _
      refine ⟨hlt, (ex.trans e2).trans e3, acc, e3 _ _ (e2 _ _ hacc), ?_⟩
      rw [htk, List.filter_append, List.filter_cons_of_neg (by simp [hp]), List.filter_nil, List.append_nil]
      exact dpAll_ex (e2.trans e3) hdp
    | true =>
      show te σ2 H3 _
      refine h4 hp H3 e3 _ fun v H4 e4 hv => ⟨acc, e4 _ _ (e3 _ _ (e2 _ _ hacc)), sz_lt (by omega), hlt, (((ex.trans e2).trans e3).trans e4).mut hD, acc ++ [v], upd_same, ?_⟩
      have hacc4 : H4 D = some (.lst acc) := e4 _ _ (e3 _ _ (e2 _ _ hacc))
      rw [htk, List.filter_append, List.filter_cons_of_pos hp, List.filter_nil, List.map_append]
      exact dpAll_kt (Kt.lst hacc4) (by
        rw [List.map_cons, List.map_nil]
        exact noLs_all fun z hz => by
          rcases List.mem_append.mp hz with hz | hz
          · obtain ⟨u, hu, rfl⟩ := List.mem_map.mp hz
            obtain ⟨hu1, hu2⟩ := List.mem_filter.mp hu
            exact hf u (List.mem_of_mem_take hu1) hu2
          · rw [List.mem_singleton.mp hz]
            exact hf e hmem hp) (dpAll_app (dpAll_ex ((e2.trans e3).trans e4) hdp) (dpAll_one hv))
  · have hie : i = es.length := by omega
    subst hie
    rw [List.take_length] at hdp
    exact .inl ⟨w.stops Hc ex, q _ Hc (e1.trans ex) (dp_newL hacc hdp)⟩
/-- .. without a test, whole numbers or bools or such -/
theorem ed_lc0 {vs : List Nat} (f : PyData → PyData) (hi : EvI K wi σ H es) (hn : es.length ≤ 40000) (hf : ∀ e ∈ es, noL (f e) = true)
    (ht : ∀ e ∈ es, ∀ x H1, Ex H H1 → Dp K H1 x e → ∃ σ2, GTo g x (wipe σ vs) H1 σ2 ∧ wipe σ2 vs = wipe σ vs ∧ EvD K te σ2 H1 (f e)) :
    EvD K (tLc wi g tYes te vs) σ H (.list (es.map f)) := by
  have h := ed_lc (K := K) (σ := σ) (H := H) (wi := wi) (g := g) (tt := tYes) (te := te) (vs := vs) (fun _ => true) f hi hn (fun e he _ => hf e he) fun e he x H1 ex hx => by
    obtain ⟨σ2, a1, a2, a3⟩ := ht e he x H1 ex hx
    exact ⟨σ2, a1, a2, fun H2 _ Q q => q H2 (Ex.refl _), fun _ => a3⟩
  rw [List.filter_eq_self.mpr fun _ _ => rfl] at h
  exact h
/-- a for over data, the source in H0, which stands all the while -/
theorem s_forJ {D : Ends} {tb : TS} {H0 : Hp} (hi : EvJ K wi σ H0 es) (hx : Ex H0 H) (Pv : Nat → L2.St → Hp → Prop) (h0 : ∀ H1, Ex H H1 → Pv 0 σ H1) (hG : ∀ i σ' H', Pv i σ' H' → Ex H0 H')
    (hs : ∀ i e x σ' H', es[i]? = some e → Pv i σ' H' → ∀ H2, Ex H' H2 → Dp K H2 x e → g x σ' H2 fun σ2 H3 => tb { D with nx := Pv (i + 1), ct := Pv (i + 1), bk := D.nx } σ2 H3) (hd : ∀ σ' H', Pv es.length σ' H' → D.nx σ' H') : tFor wi g tb D σ H :=
  hi H hx _ fun J H2 e2 w => by
    refine ⟨fun i m σ' H' => m = es.length - i ∧ i ≤ es.length ∧ Pv i σ' H', ⟨_, rfl, Nat.zero_le _, h0 H2 e2⟩, fun i m σ' H' hW => ?_⟩
    obtain ⟨rfl, hle, p⟩ := hW
    by_cases hlt : i < es.length
    · refine .inr ⟨w.goes i H' hlt (hG i σ' H' p), Pv (i + 1), fun σ2 H3 p2 => ⟨es.length - (i + 1), by omega, rfl, hlt, p2⟩, fun x H3 y => ?_⟩
      obtain ⟨e3, e, he, hd2⟩ := w.yields i H' x H3 hlt (hG i σ' H' p) y
      exact hs i e x σ' H' he p H3 e3 hd2
    · have hie : i = es.length := by omega
      subst hie
      exact .inl ⟨w.stops H' (hG _ σ' H' p), hd σ' H' p⟩
theorem q_forJ {D : Ends} {tb tz : TS} {H0 : Hp} (hi : EvJ K wi σ H0 es) (hx : Ex H0 H) (Pv : Nat → L2.St → Hp → Prop) (h0 : ∀ H1, Ex H H1 → Pv 0 σ H1) (hG : ∀ i σ' H', Pv i σ' H' → Ex H0 H')
    (hs : ∀ i e x σ' H', es[i]? = some e → Pv i σ' H' → ∀ H2, Ex H' H2 → Dp K H2 x e → g x σ' H2 fun σ2 H3 => tb { D with nx := Pv (i + 1), ct := Pv (i + 1), bk := tz D } σ2 H3) (hd : ∀ σ' H', Pv es.length σ' H' → tz D σ' H') : tSeq (tFor wi g tb) tz D σ H :=
  s_forJ (D := { D with nx := tz D }) hi hx Pv h0 hG hs hd
end
end Xd
/-! B0: the text by places; a def that can be called. -/
namespace Kb
open PySem PySem.Spec PyProof.Rows L2 Evl Xd
def topS (i : Nat) : Stmt := PySem.Challenge.pw_anymargin_k08_whole_classes_of_readings.main.body.getD i (.Pass ⟨0, 0, 0, 0⟩)
/-- a def of the text at its place -/
def DefAt (K : PySem.W.Frag) (mg : Str → Option Value) (x : Str) (st : Stmt) : Prop := ∃ f fd, Fun K x x st f fd ∧ mg x = some (.ref f)
/-- a def that may be called by its name, with its promise -/
def Cal (P : Program) (w : World) (K : PySem.W.Frag) (mg : Str → Option Value) (base : Heap) (x : Str) (k : Nat) (ps : List Str) (sp : Sp) : Prop :=
  ∃ f fd, FnOk P w K mg base CX0 k f fd ps sp ∧ mg x = some (.ref f) ∧ PySem.W.keepIn K (.ref f) = true ∧ Binds K fd ps []
section
variable {X : Cx}
theorem pe_callC {x : Str} {j k : Nat} {ps : List Str} {sp : Sp} {e : Expr} {es : List Expr} {t : TA} {p pos : Pos} (C : Cal X.prog X.w X.K X.mg X.base x k ps sp) (hr : Room j X.A) (hg : Gl X x) (ha : PA X (e :: es) t) (hk : k ≤ j := by decide)
    (hdb : (x == ("__debug__" : Str)) = false := by decide) (he : starEach (e :: es) X.env = (false, eval e X.env) :: starEach es X.env := by rfl) (hpl : (backTo pos (starEach es X.env)).any (·.1) = false := by rfl) :
    PE X (.Call (.Name x p) (e :: es) [] pos) (tCall sp [] E0 t) := by
  obtain ⟨f, fd, F, hm, hkp, hb⟩ := C
  exact pe_call F (hr.mono hk) hg hm hkp hb .nil pass0 ha hdb he hpl
theorem nomk {op : CmpOp} (b : Expr) (h : behindInMarks op b = false) : behindInMarks op b = false := h
end
section
variable {P : Program} {w : World} {K : PySem.W.Frag} {mg : Str → Option Value} {base : Heap}
theorem cal_of {x : Str} {st : Stmt} {ps : List Str} {sp : Sp} {k : Nat} (D : DefAt K mg x st)
    (hb : ∀ (kV doc pm : Value) (an : Option Addr) (cdv ct : Value) (us : List Value), us.length = ps.length → bindArgs (PySem.W.fnOf x x (defArgs st) (defBody st) (defScope st) .none kV doc pm an cdv ct) ⟨us, []⟩ = pure (ps.zip us))
    (h : ∀ f fd, Fun K x x st f fd → FnOk P w K mg base CX0 k f fd ps sp) : Cal P w K mg base x k ps sp := by
  obtain ⟨f, fd, F, hm⟩ := D
  exact ⟨f, fd, h f fd F, hm, F.kp, F.binds hb⟩
end
/-- what the module's names hold -/
structure Tb (mg : Str → Option Value) : Prop where
  isinstance : mg "isinstance" = none
  int : mg "int" = none
  bool : mg "bool" = none
  tuple : mg "tuple" = none
  len : mg "len" = none
  abs : mg "abs" = none
  all : mg "all" = none
  any : mg "any" = none
  sorted : mg "sorted" = none
  list : mg "list" = none
  range : mg "range" = none
  zip : mg "zip" = none
  enumerate : mg "enumerate" = none
  max : mg "max" = none
  min : mg "min" = none
  set : mg "set" = none
  repr : mg "repr" = none
  GREATEST : ∃ t, mg "GREATEST" = some (.int 1000000000000000000000000000000000000000000000000000000000000 t)
  PAIR_fractions : ∃ t, mg "PAIR_fractions" = some (.int 2 t)
  MOST_NUMBER : ∃ t, mg "MOST_NUMBER" = some (.int 4 t)
  MOST_CLOCKS : ∃ t, mg "MOST_CLOCKS" = some (.int 3 t)
  PAIR_classes : ∃ t, mg "PAIR_classes" = some (.int 2 t)
theorem bt_isinstance : bootBuiltins "isinstance" = some (.builtin "isinstance") := by decide +kernel
theorem bt_int : bootBuiltins "int" = some (.type "int") := by decide +kernel
theorem bt_bool : bootBuiltins "bool" = some (.type "bool") := by decide +kernel
theorem bt_tuple : bootBuiltins "tuple" = some (.type "tuple") := by decide +kernel
theorem bt_len : bootBuiltins "len" = some (.builtin "len") := by decide +kernel
theorem bt_abs : bootBuiltins "abs" = some (.builtin "abs") := by decide +kernel
theorem bt_all : bootBuiltins "all" = some (.builtin "all") := by decide +kernel
theorem bt_any : bootBuiltins "any" = some (.builtin "any") := by decide +kernel
theorem bt_sorted : bootBuiltins "sorted" = some (.builtin "sorted") := by decide +kernel
theorem bt_list : bootBuiltins "list" = some (.type "list") := by decide +kernel
theorem bt_range : bootBuiltins "range" = some (.type "range") := by decide +kernel
theorem bt_zip : bootBuiltins "zip" = some (.type "zip") := by decide +kernel
theorem bt_enumerate : bootBuiltins "enumerate" = some (.type "enumerate") := by decide +kernel
theorem bt_max : bootBuiltins "max" = some (.builtin "max") := by decide +kernel
theorem bt_min : bootBuiltins "min" = some (.builtin "min") := by decide +kernel
theorem bt_set : bootBuiltins "set" = some (.type "set") := by decide +kernel
theorem bt_repr : bootBuiltins "repr" = some (.builtin "repr") := by decide +kernel
theorem pe_gint {X : Cx} {x : Str} {i : Int} {pos : Pos} (hg : Gl X x) (hm : ∃ t, X.mg x = some (.int i t)) (hd : (x == ("__debug__" : Str)) = false := by decide) : PE X (.Name x pos) (tC (.int i)) := by
  obtain ⟨t, h⟩ := hm
  exact pe_glob hg h ⟨t, rfl⟩ hd
end Kb
/-! D2: the judgements of whole numbers; fractions. -/
namespace Kb
open PySem PySem.Spec PyProof.Rows L2 Evl Xd
def isI : PyData → Bool
  | .int _ => true
  | _ => false
def f_whole (d : PyData) : Option PyData := some (.bool (isI d))
def f_short : PyData → Option PyData
  | .int i => some (.bool (decide (-(10 ^ 60) < i) && decide (i < 10 ^ 60)))
  | _ => some (.bool false)
def isFrom (d : PyData) (a b : Int) : Bool := match d with
  | .int i => decide (a ≤ i) && decide (i ≤ b)
  | _ => false
def f_from : PyData → PyData → PyData → Option PyData
  | d, .int a, .int b => some (.bool (isFrom d a b))
  | _, _, _ => none
theorem ev_chain {ta tb tc : TE} {r r2 : R2} {σ : L2.St} {H : Hp} {x y z : V} {a b : Bool} (ha : Ev ta σ H x) (hb : Ev tb σ H y) (hc : Ev tc σ H z) (h1 : RV r x y H (.bl a)) (h2 : RV r2 y z H (.bl b)) :
    Ev (tChain r r2 ta tb tc) σ H (.bl (a && b)) := fun H1 e Q q => ha H1 e _ fun H2 e2 => hb H2 (e.trans e2) _ fun H3 e3 => h1 H3 ((e.trans e2).trans e3) _ fun H4 e4 => ⟨a, rfl, by
  cases a with
  | true =>
    show tc σ H4 _
    exact hc H4 (((e.trans e2).trans e3).trans e4) _ fun H5 e5 => h2 H5 ((((e.trans e2).trans e3).trans e4).trans e5) Q fun H6 e6 => q H6 ((((e2.trans e3).trans e4).trans e5).trans e6)
  | false =>
    show Q (.bl false) H4
    exact q H4 ((e2.trans e3).trans e4)⟩
section
variable {P : Program} {w : World} {K : PySem.W.Frag} {mg : Str → Option Value} {base : Heap}
theorem sc_is_whole : FnScope ["value"] ["value"] (defScope (topS 7)) := ⟨rfl, rfl, rfl, by decide +kernel, rfl, by decide +kernel, by decide +kernel⟩
theorem ok_is_whole (T : Tb mg) (D : DefAt K mg "is_whole" (topS 7)) : Cal P w K mg base "is_whole" 1 ["value"] (Sp1 K f_whole) := by
  refine cal_of D (fun _ _ _ _ _ _ us hl => match us, hl with | [_], _ => rfl) fun f fd F => F.ok sc_is_whole (fun vs H Q E h => ?_) (fun cdv A outer s H vs Q E hr h => ?_)
  · obtain ⟨v, d, r, rfl, _⟩ := h
    rfl
  · obtain ⟨v, d, r, rfl, hd, hf, q⟩ := h
    cases hf
    refine ⟨_, (pss_one (ps_ret (pe_and (pe_callB call_isi rfl T.isinstance bt_isinstance (pa_cons (pv 0) (pa_cons (pe_bltn (v := .ty "int") rfl T.int bt_int rfl) pa_nil))) (pe_one (pe_not (pe_callB call_isi rfl T.isinstance bt_isinstance (pa_cons (pv 0) (pa_cons (pe_bltn (v := .ty "bool") rfl T.bool bt_bool rfl) pa_nil)))))))), ?_⟩
    refine s_ret0 (ed_bl (ev_is (ev_andV (ev_isi (EvP.x (ed_var rfl hd)) (kit_int d)) fun _ => ev_notV (ev_isi (EvP.x (ed_var rfl hd)) (kit_bool d))) ?_)) (Ex.refl H) q rfl
    cases d <;> rfl
theorem sc_is_short : FnScope ["value"] ["value"] (defScope (topS 8)) := ⟨rfl, rfl, rfl, by decide +kernel, rfl, by decide +kernel, by decide +kernel⟩
theorem ok_is_short (T : Tb mg) (D : DefAt K mg "is_short" (topS 8)) (C_is_whole : Cal P w K mg base "is_whole" 1 ["value"] (Sp1 K f_whole)) : Cal P w K mg base "is_short" 2 ["value"] (Sp1 K f_short) := by
  refine cal_of D (fun _ _ _ _ _ _ us hl => match us, hl with | [_], _ => rfl) fun f fd F => F.ok sc_is_short (fun vs H Q E h => ?_) (fun cdv A outer s H vs Q E hr h => ?_)
  · obtain ⟨v, d, r, rfl, _⟩ := h
    rfl
  · obtain ⟨v, d, r, rfl, hd, hf, q⟩ := h
    refine ⟨_, (pss_one (ps_ret (pe_and (pe_callC C_is_whole hr rfl (pa_cons (pv 0) pa_nil)) (pe_one (pe_chain op_lt op_lt (pe_un un_neg (pe_gint rfl T.GREATEST)) (pv 0) (pe_gint rfl T.GREATEST)))))), ?_⟩
    cases d with
    | int i =>
      cases hf
      exact s_ret0 (ed_bl (ev_andV (a := true) (ev_bl (ed_call1 (ead1 (ed_var rfl hd)) rfl)) fun _ => by
        cases dp_int hd
        exact ev_chain (ev_un ev_c ru_neg) (ev_var rfl) ev_c rv_I0 rv_I0)) (Ex.refl H) q rfl
    | _ =>
      cases hf
      exact s_ret0 (ed_bl (ev_andV (a := false) (b := false) (ev_bl (ed_call1 (ead1 (ed_var rfl hd)) rfl)) fun z => by cases z)) (Ex.refl H) q rfl
theorem sc_is_from : FnScope ["value", "least", "most"] ["value", "least", "most"] (defScope (topS 9)) := ⟨rfl, rfl, rfl, by decide +kernel, rfl, by decide +kernel, by decide +kernel⟩
theorem ok_is_from (T : Tb mg) (D : DefAt K mg "is_from" (topS 9)) (C_is_whole : Cal P w K mg base "is_whole" 1 ["value"] (Sp1 K f_whole)) : Cal P w K mg base "is_from" 2 ["value", "least", "most"] (Sp3 K f_from) := by
  refine cal_of D (fun _ _ _ _ _ _ us hl => match us, hl with | [_, _, _], _ => rfl) fun f fd F => F.ok sc_is_from (fun vs H Q E h => ?_) (fun cdv A outer s H vs Q E hr h => ?_)
  · obtain ⟨v, v2, v3, d, d2, d3, r, rfl, _⟩ := h
    rfl
  · obtain ⟨v, v2, v3, d, d2, d3, r, rfl, hd, hd2, hd3, hf, q⟩ := h
    obtain ⟨a, b, rfl, rfl, rfl⟩ : ∃ a b, d2 = .int a ∧ d3 = .int b ∧ r = .bool (isFrom d a b) := by
      cases d2 <;> cases d3 <;> first | exact ⟨_, _, rfl, rfl, (Option.some.inj hf).symm⟩ | cases hf
    cases dp_int hd2
    cases dp_int hd3
    refine ⟨_, (pss_one (ps_ret (pe_and (pe_callC C_is_whole hr rfl (pa_cons (pv 0) pa_nil)) (pe_one (pe_chain op_le op_le (pv 1) (pv 0) (pv 2)))))), ?_⟩
    cases d with
    | int i =>
      exact s_ret0 (ed_bl (ev_andV (a := true) (ev_bl (ed_call1 (ead1 (ed_var rfl hd)) rfl)) fun _ => by
        cases dp_int hd
        exact ev_chain (ev_var rfl) (ev_var rfl) (ev_var rfl) rv_I0 rv_I0)) (Ex.refl H) q rfl
    | _ =>
      exact s_ret0 (ed_bl (ev_andV (a := false) (b := false) (ev_bl (ed_call1 (ead1 (ed_var rfl hd)) rfl)) fun z => by cases z)) (Ex.refl H) q rfl
end
end Kb
/-! D3: the greatest common divisor, fractions in lowest terms. -/
namespace Kb
open PySem PySem.Spec PyProof.Rows L2 Evl Xd
/-- the greatest common divisor of two whole numbers from 0 on -/
def gi (a b : Int) : Int := ((Nat.gcd a.toNat b.toNat : Nat) : Int)
/-- a fraction in lowest terms -/
def low (t b : Int) : Int × Int := (t / gi t.natAbs b, b / gi t.natAbs b)
def fr (p : Int × Int) : PyData := .tuple [.int p.1, .int p.2]
def f_shared : PyData → PyData → Option PyData
  | .int a, .int b => if 0 ≤ a ∧ 0 ≤ b then some (.int (gi a b)) else none
  | _, _ => none
def f_lowest : PyData → PyData → Option PyData
  | .int t, .int b => if 0 < b ∧ b < 2 ^ 1000 then some (fr (low t b)) else none
  | _, _ => none
def f_whole_in : PyData → Option PyData
  | .tuple [.int t, .int b] => if 0 < b ∧ b < 2 ^ 1000 then some (.int (t / b)) else none
  | _ => none
def okF (p : Int × Int) : Prop := 0 ≤ p.1 ∧ p.1 < 10 ^ 60 ∧ 0 < p.2 ∧ p.2 < 10 ^ 60 ∧ gi p.1 p.2 = 1
instance (p : Int × Int) : Decidable (okF p) := by unfold okF; infer_instance
def f_isfrac : PyData → Option PyData
  | .tuple [.int t, .int b] => if okF (t, b) then some (.bool true) else none
  | _ => none
def f_cqrest : PyData → Option PyData
  | .tuple [.int t, .int b] => if 0 < b ∧ b < 2 ^ 1000 then some (fr (low (t % b) b)) else none
  | _ => none
theorem gi_zero {a : Int} (h : 0 ≤ a) : gi a 0 = a := by
  unfold gi
  show ((Nat.gcd a.toNat 0 : Nat) : Int) = a
  rw [Nat.gcd_zero_right]
  omega
theorem gi_step {a b : Int} (ha : 0 ≤ a) (hb : 0 < b) : gi b (a % b) = gi a b := by
  unfold gi
  have e : (a % b).toNat = a.toNat % b.toNat := by
    have h1 : ((a.toNat % b.toNat : Nat) : Int) = a % b := by
      rw [Int.natCast_emod, Int.toNat_of_nonneg ha, Int.toNat_of_nonneg (by omega)]
    omega
  rw [e, Nat.gcd_comm b.toNat, ← Nat.gcd_rec, Nat.gcd_comm]
theorem gi_pos {a b : Int} (hb : 0 < b) : 0 < gi a b := by
  unfold gi
  have := Nat.gcd_pos_of_pos_right a.toNat (show 0 < b.toNat by omega)
  omega
theorem gi_le {a b : Int} (hb : 0 < b) : gi a b ≤ b := by
  unfold gi
  have := Nat.gcd_le_right a.toNat (show 0 < b.toNat by omega)
  omega
theorem div_ok {a b : Int} {j : Int} (hb : 0 < b) (hb2 : b < 2 ^ 1000) : CDivW j (gi a b) := by
  have h1 := gi_pos (a := a) hb
  have h2 := gi_le (a := a) hb
  refine wide_div (b := 1000) h1 ?_ (by decide) (by decide)
  have h3 : (gi a b).natAbs ≤ b.natAbs := by omega
  have h4 : b.natAbs < 2 ^ 1000 := by
    have : ((b.natAbs : Nat) : Int) = b := by omega
    have h5 : ((b.natAbs : Nat) : Int) < ((2 ^ 1000 : Nat) : Int) := by
      rw [this]
      exact hb2
    exact Int.ofNat_lt.mp h5
  omega
theorem div_ok2 {b : Int} {j : Int} (hb : 0 < b) (hb2 : b < 2 ^ 1000) : CDivW j b := by
  refine wide_div (b := 1000) hb ?_ (by decide) (by decide)
  have : ((b.natAbs : Nat) : Int) = b := by omega
  have h5 : ((b.natAbs : Nat) : Int) < ((2 ^ 1000 : Nat) : Int) := by
    rw [this]
    exact hb2
  exact Int.ofNat_lt.mp h5
theorem abs_eq (t : Int) : (if t < 0 then -t else t) = ((t.natAbs : Nat) : Int) := by
  split <;> omega
theorem s_par {ta : TA} {σ : L2.St} {H : Hp} {v z : V} {i j : Nat} {D : Ends} (h : EvA ta σ H [v, z]) (k : ∀ H1, Ex H H1 → D.nx ((σ.set i (some v)).set j (some z)) H1) : tPar i j ta D σ H :=
  h H (Ex.refl H) _ fun H1 e => ⟨v, z, rfl, k H1 e⟩
theorem ev_abs {te : TE} {σ : L2.St} {H : Hp} {t : Int} (h : Ev te σ H (.int t)) : Ev (tCB (fun xs H Q => ∃ i, xs = [.int i] ∧ Q (.int (if i < 0 then -i else i)) H) (tCons te tNil)) σ H (.int (t.natAbs : Nat)) := fun H1 e Q q => h H1 e _ fun H2 e2 => ⟨t, rfl, by
  rw [abs_eq]
  exact q H2 e2⟩
theorem shaped_fr (p : Int × Int) : SeqAt.shaped (fr p) = true := rfl
section
variable {P : Program} {w : World} {K : PySem.W.Frag} {mg : Str → Option Value} {base : Heap}
/-- the loop of the greatest common divisor, in slots i and j -/
theorem while_gcd {pre mid post : L2.St} {i j : Nat} (hi : i = pre.length) (hj : j = pre.length + 1 + mid.length) {D : Ends} {H0 H : Hp} {a b : Int} {tz : TS} (ha : 0 ≤ a) (hb : 0 ≤ b) (hx : Ex H0 H)
    (hd : ∀ (x : Int) H1, Ex H0 H1 → x = gi a b → tz D (pre ++ some (.int x) :: (mid ++ some (.int 0) :: post)) H1) :
    tSeq (tWhile (tTest (tOp (rI0 fun i j => .bl (decide (j < i))) (tVar j) (tC (.int 0)))) (tPar i j (tCons (tVar j) (tCons (tOp (rI (fun _ j => j ≠ 0) fun i j => .int (i.fmod j)) (tVar i) (tVar j)) tNil)))) tz D
      (pre ++ some (.int a) :: (mid ++ some (.int b) :: post)) H := by
  have gi1 : ∀ x y : Int, (pre ++ some (V.int x) :: (mid ++ some (V.int y) :: post))[i]? = some (some (.int x)) := fun x y => by
    subst hi
    rw [List.getElem?_append_right (Nat.le_refl _), Nat.sub_self]
    rfl
  have gj1 : ∀ x y : Int, (pre ++ some (V.int x) :: (mid ++ some (V.int y) :: post))[j]? = some (some (.int y)) := fun x y => by
    subst hj
    rw [List.getElem?_append_right (by omega), show pre.length + 1 + mid.length - pre.length = mid.length + 1 by omega, List.getElem?_cons_succ, List.getElem?_append_right (Nat.le_refl _), Nat.sub_self]
    rfl
  have st : ∀ x y z u : Int, ((pre ++ some (V.int x) :: (mid ++ some (V.int y) :: post)).set i (some (.int z))).set j (some (.int u)) = pre ++ some (V.int z) :: (mid ++ some (V.int u) :: post) := fun x y z u => by
    subst hi hj
    rw [List.set_append_right _ _ (Nat.le_refl _), Nat.sub_self, List.set_cons_zero, List.set_append_right _ _ (by omega), show pre.length + 1 + mid.length - pre.length = mid.length + 1 by omega, List.set_cons_succ,
      List.set_append_right _ _ (Nat.le_refl _), Nat.sub_self, List.set_cons_zero]
  refine q_while (fun m σ H1 => ∃ x y : Int, σ = pre ++ some (.int x) :: (mid ++ some (.int y) :: post) ∧ 0 ≤ x ∧ 0 ≤ y ∧ m = y.toNat ∧ gi x y = gi a b ∧ Ex H0 H1) b.toNat ⟨a, b, rfl, ha, hb, rfl, rfl, hx⟩ fun m σ H1 hW => ?_
  obtain ⟨x, y, rfl, hx0, hy0, rfl, hg, hex⟩ := hW
  refine ⟨decide (0 < y), et_test (ev_op (ev_var (gj1 x y)) ev_c rv_I0), fun ht H2 e2 => ?_, fun ht H2 e2 => ?_⟩
  · have hy : 0 < y := of_decide_eq_true ht
    refine ⟨fun σ' H' => ∃ x' y' : Int, σ' = pre ++ some (.int x') :: (mid ++ some (.int y') :: post) ∧ 0 ≤ x' ∧ 0 ≤ y' ∧ y'.toNat < y.toNat ∧ gi x' y' = gi a b ∧ Ex H0 H', fun σ' H' h => ?_, ?_⟩
    · obtain ⟨x', y', e1, h1, h2, h3, h4, h5⟩ := h
      exact ⟨y'.toNat, h3, x', y', e1, h1, h2, rfl, h4, h5⟩
    · refine s_par (v := .int y) (z := .int (x % y)) (ea_cons (ev_var (gj1 x y)) (ea_cons (ev_is (ev_op (ev_var (gi1 x y)) (ev_var (gj1 x y)) (rv_I (show y ≠ 0 by omega))) ?_) ea_nil)) fun H3 e3 => ?_
      · rw [Int.fmod_eq_emod_of_nonneg _ (by omega)]
      · have h1 := Int.emod_nonneg x (show y ≠ 0 by omega)
        have h2 := Int.emod_lt_of_pos x hy
        exact ⟨y, x % y, st _ _ _ _, by omega, h1, by omega, by rw [gi_step hx0 hy]; exact hg, (hex.trans e2).trans e3⟩
  · have hy : ¬ 0 < y := of_decide_eq_false ht
    have hy2 : y = 0 := by omega
    subst hy2
    rw [gi_zero hx0] at hg
    exact hd x H2 (hex.trans e2) hg
theorem sc_shared_in : FnScope ["one", "other"] ["one", "other"] (defScope (topS 12)) := ⟨rfl, rfl, rfl, by decide +kernel, rfl, by decide +kernel, by decide +kernel⟩
theorem ok_shared_in (T : Tb mg) (D : DefAt K mg "shared_in" (topS 12)) : Cal P w K mg base "shared_in" 1 ["one", "other"] (Sp2 K f_shared) := by
  refine cal_of D (fun _ _ _ _ _ _ us hl => match us, hl with | [_, _], _ => rfl) fun f fd F => F.ok sc_shared_in (fun vs H Q E h => ?_) (fun cdv A outer s H vs Q E hr h => ?_)
  · obtain ⟨v, v2, d, d2, r, rfl, _⟩ := h
    rfl
  · obtain ⟨v, v2, d, d2, r, rfl, hd, hd2, hf, q⟩ := h
    obtain ⟨a, b, rfl, rfl, h0, h1, rfl⟩ : ∃ a b, d = .int a ∧ d2 = .int b ∧ 0 ≤ a ∧ 0 ≤ b ∧ r = .int (gi a b) := by
      cases d <;> cases d2 <;> first | (simp only [f_shared] at hf; split at hf; rename_i hc; exact ⟨_, _, rfl, rfl, hc.1, hc.2, (Option.some.inj hf).symm⟩; cases hf) | cases hf
    cases dp_int hd
    cases dp_int hd2
    refine ⟨_, (pss_cons (ps_while PassesOwn.never (pt_cmpR op_gt (pv 1) pe_int (nomark _)) (pss_one (ps_par (i := 0) (j := 1) rfl sc_shared_in.nd rfl rfl (by decide) rfl rfl (pa_cons (pv 1) (pa_cons (pe_op op_modN (pv 0) (pv 1)) pa_nil)) (by rfl))))
      (pss_one (ps_ret (pv 0)))), ?_⟩
    refine while_gcd (pre := []) (mid := []) (post := []) rfl rfl h0 h1 (Ex.refl H) fun x H1 e1 hx => ?_
    exact s_ret0 (ed_int (ev_var (by rw [hx]; rfl))) e1 q rfl
theorem sc_lowest : FnScope ["top", "bottom", "shared"] ["top", "bottom"] (defScope (topS 13)) := ⟨rfl, rfl, rfl, by decide +kernel, rfl, by decide +kernel, by decide +kernel⟩
theorem ok_lowest (T : Tb mg) (D : DefAt K mg "lowest" (topS 13)) (C_shared_in : Cal P w K mg base "shared_in" 1 ["one", "other"] (Sp2 K f_shared)) : Cal P w K mg base "lowest" 2 ["top", "bottom"] (Sp2 K f_lowest) := by
  refine cal_of D (fun _ _ _ _ _ _ us hl => match us, hl with | [_, _], _ => rfl) fun f fd F => F.ok sc_lowest (fun vs H Q E h => ?_) (fun cdv A outer s H vs Q E hr h => ?_)
  · obtain ⟨v, v2, d, d2, r, rfl, _⟩ := h
    rfl
  · obtain ⟨v, v2, d, d2, r, rfl, hd, hd2, hf, q⟩ := h
    obtain ⟨t, b, rfl, rfl, h0, h1, rfl⟩ : ∃ a b, d = .int a ∧ d2 = .int b ∧ 0 < b ∧ b < 2 ^ 1000 ∧ r = fr (low a b) := by
      cases d <;> cases d2 <;> first | (simp only [f_lowest] at hf; split at hf; rename_i hc; exact ⟨_, _, rfl, rfl, hc.1, hc.2, (Option.some.inj hf).symm⟩; cases hf) | cases hf
    cases dp_int hd
    cases dp_int hd2
    refine ⟨_, (pss_cons (ps_if (pt_cmpR op_lt (pv 1) pe_int (nomark _)) (pss_one (ps_par (i := 0) (j := 1) rfl sc_lowest.nd rfl rfl (by decide) rfl rfl (pa_cons (pe_un un_neg (pv 0)) (pa_cons (pe_un un_neg (pv 1)) pa_nil)) (by rfl))) pss_nil)
      (pss_cons (ps_set (i := 2) sc_lowest.nd rfl (.inl rfl) (pe_callC C_shared_in hr rfl (pa_cons (pe_callB call_abs rfl T.abs bt_abs (pa_cons (pv 0) pa_nil)) (pa_cons (pv 1) pa_nil))))
      (pss_one (ps_ret (pe_tup (pa_cons (pe_op op_fdivW (pv 0) (pv 2)) (pa_cons (pe_op op_fdivW (pv 1) (pv 2)) pa_nil))))))), ?_⟩
    refine q_when (b := false) (et_is (et_test (ev_op (ev_var rfl) ev_c rv_I0)) (decide_eq_false (by omega))) (fun z => by cases z) fun _ H1 e1 => ?_
    refine q_asg (ev_int (ed_call2 (d1 := .int (t.natAbs : Nat)) (d2 := .int b) (d := .int (gi t.natAbs b)) (ead_cons (ed_int (ev_abs (ev_var rfl))) (ead1 (ed_int (ev_var rfl)))) (if_pos ⟨by omega, by omega⟩))) fun H2 e2 => ?_
    exact s_ret0 (ed_tup (ead_cons (ed_int (ev_op (ev_var rfl) (ev_var rfl) (rv_I (div_ok h0 h1)))) (ead1 (ed_int (ev_op (ev_var rfl) (ev_var rfl) (rv_I (div_ok h0 h1)))))) (show 2 ≤ 100000 by decide)) (e1.trans e2) q rfl
theorem sc_whole_in : FnScope ["one"] ["one"] (defScope (topS 14)) := ⟨rfl, rfl, rfl, by decide +kernel, rfl, by decide +kernel, by decide +kernel⟩
theorem ok_whole_in (T : Tb mg) (D : DefAt K mg "whole_in" (topS 14)) : Cal P w K mg base "whole_in" 1 ["one"] (Sp1 K f_whole_in) := by
  refine cal_of D (fun _ _ _ _ _ _ us hl => match us, hl with | [_], _ => rfl) fun f fd F => F.ok sc_whole_in (fun vs H Q E h => ?_) (fun cdv A outer s H vs Q E hr h => ?_)
  · obtain ⟨v, d, r, rfl, _⟩ := h
    rfl
  · obtain ⟨v, d, r, rfl, hd, hf, q⟩ := h
    unfold f_whole_in at hf
    split at hf
    · rename_i t b
      split at hf
      · rename_i hc
        cases hf
        refine ⟨_, (pss_one (ps_ret (pe_op op_fdivW (pe_ix ix_tup (pv 0) pe_int (fun _ _ => rfl)) (pe_ix ix_tup (pv 0) pe_int (fun _ _ => rfl))))), ?_⟩
        exact s_ret0 (ed_int (ev_op (ev_int (ed_ixT (ed_var rfl hd) ev_c rfl)) (ev_int (ed_ixT (ed_var rfl hd) ev_c rfl)) (rv_I (div_ok2 hc.1 hc.2)))) (Ex.refl H) q rfl
      · cases hf
    · cases hf
theorem sc_is_fraction : FnScope ["value"] ["value"] (defScope (topS 15)) := ⟨rfl, rfl, rfl, by decide +kernel, rfl, by decide +kernel, by decide +kernel⟩
theorem ok_is_fraction (T : Tb mg) (D : DefAt K mg "is_fraction" (topS 15)) (C_is_short : Cal P w K mg base "is_short" 2 ["value"] (Sp1 K f_short)) (C_shared_in : Cal P w K mg base "shared_in" 1 ["one", "other"] (Sp2 K f_shared)) : Cal P w K mg base "is_fraction" 3 ["value"] (Sp1 K f_isfrac) := by
  refine cal_of D (fun _ _ _ _ _ _ us hl => match us, hl with | [_], _ => rfl) fun f fd F => F.ok sc_is_fraction (fun vs H Q E h => ?_) (fun cdv A outer s H vs Q E hr h => ?_)
  · obtain ⟨v, d, r, rfl, _⟩ := h
    rfl
  · obtain ⟨v, d, r, rfl, hd, hf, q⟩ := h
    unfold f_isfrac at hf
    split at hf
    · rename_i t b
      split at hf
      · rename_i hc
        cases hf
        obtain ⟨h1, h2, h3, h4, h5⟩ := hc
        have h1 : 0 ≤ t := h1
        have h2 : t < 10 ^ 60 := h2
        have h3 : 0 < b := h3
        have h4 : b < 10 ^ 60 := h4
        have h5 : gi t b = 1 := h5
        refine ⟨_, (pss_cons (ps_if (PW.pt (pw_or (pt_not (pt_val (pe_callB call_isi rfl T.isinstance bt_isinstance (pa_cons (pv 0) (pa_cons (pe_bltn (v := .ty "tuple") rfl T.tuple bt_tuple rfl) pa_nil))))) (pw_or (pt_cmpR op_ne (pe_callB call_len_seq rfl T.len bt_len (pa_cons (pv 0) pa_nil)) (pe_gint rfl T.PAIR_fractions) (nomark _)) (pw_or (pt_not (pt_val (pe_callC C_is_short hr rfl (pa_cons (pe_ix ix_tup (pv 0) pe_int (fun _ _ => rfl)) pa_nil)))) (pw_or1 (pt_not (pt_val (pe_callC C_is_short hr rfl (pa_cons (pe_ix ix_tup (pv 0) pe_int (fun _ _ => rfl)) pa_nil))))))))) (pss_one (ps_ret pe_bl)) pss_nil)
      (pss_one (ps_ret (pe_and (pe_cmpR op_gt (pe_ix ix_tup (pv 0) pe_int (fun _ _ => rfl)) pe_int (nomark _)) (pe_one (pe_cmpR op_eq (pe_callC C_shared_in hr rfl (pa_cons (pe_callB call_abs rfl T.abs bt_abs (pa_cons (pe_ix ix_tup (pv 0) pe_int (fun _ _ => rfl)) pa_nil)) (pa_cons (pe_ix ix_tup (pv 0) pe_int (fun _ _ => rfl)) pa_nil))) pe_int (nomark _))))))), ?_⟩
        have i0 : ∀ H1, Ex H H1 → EvD K (tOp (rIxT K) (tVar 0) (tC (.int 0))) (start ["value"] [v]) H1 (.int t) := fun H1 e => ed_ixT (ed_var rfl (dp_ex e hd)) ev_c rfl
        have i1 : ∀ H1, Ex H H1 → EvD K (tOp (rIxT K) (tVar 0) (tC (.int 1))) (start ["value"] [v]) H1 (.int b) := fun H1 e => ed_ixT (ed_var rfl (dp_ex e hd)) ev_c rfl
        refine q_when (b := false) (et_or (a := false) (et_not (a := true) (et_B (ev_isi (EvP.x (ed_var rfl hd)) (kit_tuple _)))) fun _ => et_or (a := false) (et_test (ev_op (ev_lenT (ed_var rfl hd)) ev_c (rv_ne rfl))) fun _ =>
          et_or (a := false) (et_not (a := true) (et_B (ev_is (ev_bl (ed_call1 (ead1 (i0 H (Ex.refl H))) rfl)) ?_))) fun _ => et_not (a := true) (et_B (ev_is (ev_bl (ed_call1 (ead1 (i1 H (Ex.refl H))) rfl)) ?_))) (fun z => by cases z) fun _ H1 e1 => ?_
        · rw [decide_eq_true (by omega), decide_eq_true (by omega)]
          rfl
        · rw [decide_eq_true (by omega), decide_eq_true (by omega)]
          rfl
        · refine s_ret0 (ed_bl (ev_andV (a := true) (b := true) (ev_is (ev_op (ev_int (i1 H1 e1)) ev_c rv_I0) (by rw [decide_eq_true h3])) fun _ =>
            ev_is (ev_op (ev_int (ed_call2 (d1 := .int (t.natAbs : Nat)) (d2 := .int b) (d := .int (gi t.natAbs b)) (ead_cons (ed_int (ev_abs (ev_int (i0 H1 e1)))) (ead1 (i1 H1 e1))) (if_pos ⟨by omega, by omega⟩))) ev_c (rv_eq rfl)) ?_)) e1 q rfl
          have e5 : ((t.natAbs : Nat) : Int) = t := by omega
          rw [e5, h5]
          rfl
      · cases hf
    · cases hf
theorem sc_is_margin : FnScope ["value"] ["value"] (defScope (topS 16)) := ⟨rfl, rfl, rfl, by decide +kernel, rfl, by decide +kernel, by decide +kernel⟩
theorem ok_is_margin (T : Tb mg) (D : DefAt K mg "is_margin" (topS 16)) (C_is_fraction : Cal P w K mg base "is_fraction" 3 ["value"] (Sp1 K f_isfrac)) : Cal P w K mg base "is_margin" 4 ["value"] (Sp1 K f_isfrac) := by
  refine cal_of D (fun _ _ _ _ _ _ us hl => match us, hl with | [_], _ => rfl) fun f fd F => F.ok sc_is_margin (fun vs H Q E h => ?_) (fun cdv A outer s H vs Q E hr h => ?_)
  · obtain ⟨v, d, r, rfl, _⟩ := h
    rfl
  · obtain ⟨v, d, r, rfl, hd, hf, q⟩ := h
    have hf0 := hf
    unfold f_isfrac at hf
    split at hf
    · rename_i t b
      split at hf
      · rename_i hc
        cases hf
        have h1 : 0 ≤ t := hc.1
        refine ⟨_, (pss_one (ps_ret (pe_and (pe_callC C_is_fraction hr rfl (pa_cons (pv 0) pa_nil)) (pe_one (pe_cmpR op_ge (pe_ix ix_tup (pv 0) pe_int (fun _ _ => rfl)) pe_int (nomark _)))))), ?_⟩
        exact s_ret0 (ed_bl (ev_andV (a := true) (b := true) (ev_bl (ed_call1 (ead1 (ed_var rfl hd)) hf0)) fun _ => ev_is (ev_op (ev_int (ed_ixT (ed_var rfl hd) ev_c rfl)) ev_c rv_I0) (by rw [decide_eq_true h1]))) (Ex.refl H) q rfl
      · cases hf
    · cases hf
theorem sc__law_fq_low : FnScope ["_law_top", "_law_bottom", "_law_one", "_law_other"] ["_law_top", "_law_bottom"] (defScope (topS 40)) := ⟨rfl, rfl, rfl, by decide +kernel, rfl, by decide +kernel, by decide +kernel⟩
theorem ok_law_fq_low (T : Tb mg) (D : DefAt K mg "_law_fq_low" (topS 40)) : Cal P w K mg base "_law_fq_low" 1 ["_law_top", "_law_bottom"] (Sp2 K f_lowest) := by
  refine cal_of D (fun _ _ _ _ _ _ us hl => match us, hl with | [_, _], _ => rfl) fun f fd F => F.ok sc__law_fq_low (fun vs H Q E h => ?_) (fun cdv A outer s H vs Q E hr h => ?_)
  · obtain ⟨v, v2, d, d2, r, rfl, _⟩ := h
    rfl
  · obtain ⟨v, v2, d, d2, r, rfl, hd, hd2, hf, q⟩ := h
    obtain ⟨t, b, rfl, rfl, h0, h1, rfl⟩ : ∃ a b, d = .int a ∧ d2 = .int b ∧ 0 < b ∧ b < 2 ^ 1000 ∧ r = fr (low a b) := by
      cases d <;> cases d2 <;> first | (simp only [f_lowest] at hf; split at hf; rename_i hc; exact ⟨_, _, rfl, rfl, hc.1, hc.2, (Option.some.inj hf).symm⟩; cases hf) | cases hf
    cases dp_int hd
    cases dp_int hd2
    refine ⟨_, (pss_cons (ps_par (i := 2) (j := 3) rfl sc__law_fq_low.nd rfl rfl (by decide) rfl rfl (pa_cons (pe_callB call_abs rfl T.abs bt_abs (pa_cons (pv 0) pa_nil)) (pa_cons (pv 1) pa_nil)) (by rfl))
      (pss_cons (ps_while PassesOwn.never (pt_cmpR op_gt (pv 3) pe_int (nomark _)) (pss_one (ps_par (i := 2) (j := 3) rfl sc__law_fq_low.nd rfl rfl (by decide) rfl rfl (pa_cons (pv 3) (pa_cons (pe_op op_modN (pv 2) (pv 3)) pa_nil)) (by rfl))))
      (pss_one (ps_ret (pe_tup (pa_cons (pe_op op_fdivW (pv 0) (pv 2)) (pa_cons (pe_op op_fdivW (pv 1) (pv 2)) pa_nil))))))), ?_⟩
    refine s_par (v := .int (t.natAbs : Nat)) (z := .int b) (ea_cons (ev_abs (ev_var rfl)) (ea_cons (ev_var rfl) ea_nil)) fun H1 e1 => ?_
    refine while_gcd (pre := [some (.int t), some (.int b)]) (mid := []) (post := []) rfl rfl (by omega) (by omega) e1 fun x H2 e2 hx => ?_
    subst hx
    exact s_ret0 (ed_tup (ead_cons (ed_int (ev_op (ev_var rfl) (ev_var rfl) (rv_I (div_ok h0 h1)))) (ead1 (ed_int (ev_op (ev_var rfl) (ev_var rfl) (rv_I (div_ok h0 h1)))))) (show 2 ≤ 100000 by decide)) e2 q rfl
theorem sc__law_cq_rest : FnScope ["_law_reading"] ["_law_reading"] (defScope (topS 41)) := ⟨rfl, rfl, rfl, by decide +kernel, rfl, by decide +kernel, by decide +kernel⟩
theorem ok_law_cq_rest (T : Tb mg) (D : DefAt K mg "_law_cq_rest" (topS 41)) (C__law_fq_low : Cal P w K mg base "_law_fq_low" 1 ["_law_top", "_law_bottom"] (Sp2 K f_lowest)) : Cal P w K mg base "_law_cq_rest" 2 ["_law_reading"] (Sp1 K f_cqrest) := by
  refine cal_of D (fun _ _ _ _ _ _ us hl => match us, hl with | [_], _ => rfl) fun f fd F => F.ok sc__law_cq_rest (fun vs H Q E h => ?_) (fun cdv A outer s H vs Q E hr h => ?_)
  · obtain ⟨v, d, r, rfl, _⟩ := h
    rfl
  · obtain ⟨v, d, r, rfl, hd, hf, q⟩ := h
    unfold f_cqrest at hf
    split at hf
    · rename_i t b
      split at hf
      · rename_i hc
        cases hf
        refine ⟨_, (pss_one (ps_ret (pe_callC C__law_fq_low hr rfl (pa_cons (pe_op op_modN (pe_ix ix_tup (pv 0) pe_int (fun _ _ => rfl)) (pe_ix ix_tup (pv 0) pe_int (fun _ _ => rfl))) (pa_cons (pe_ix ix_tup (pv 0) pe_int (fun _ _ => rfl)) pa_nil))))), ?_⟩
        refine s_ret0 (ed_call2 (d1 := .int (t % b)) (d2 := .int b) (ead_cons (ed_int (ev_is (ev_op (ev_int (ed_ixT (ed_var rfl hd) ev_c rfl)) (ev_int (ed_ixT (ed_var rfl hd) ev_c rfl)) (rv_I (show b ≠ 0 by omega))) ?_)) (ead1 (ed_ixT (ed_var rfl hd) ev_c rfl))) (if_pos hc)) (Ex.refl H) q rfl
        rw [Int.fmod_eq_emod_of_nonneg _ (by omega)]
      · cases hf
    · cases hf
end
end Kb
/-! D4: further readings over data (slices, in, sorted, ranges, two fors); what readings are. -/
namespace Xd
open PySem PySem.Spec PyProof.Rows L2 Evl
/-- promises by relations -/
def Sr1 (K : PySem.W.Frag) (R : PyData → PyData → Prop) : Sp := fun vs H Q _ => ∃ v1 d1 r, vs = [v1] ∧ Dp K H v1 d1 ∧ R d1 r ∧ RetD K r H Q
def Sr2 (K : PySem.W.Frag) (R : PyData → PyData → PyData → Prop) : Sp := fun vs H Q _ => ∃ v1 v2 d1 d2 r, vs = [v1, v2] ∧ Dp K H v1 d1 ∧ Dp K H v2 d2 ∧ R d1 d2 r ∧ RetD K r H Q
def cutD (ds : List PyData) (lo hi : Option Int) : List PyData := (ds.drop (HT.sIx ds.length 0 lo)).take (HT.sIx ds.length ds.length hi - HT.sIx ds.length 0 lo)
def srt (ns : List Int) : List Int := ns.mergeSort fun a b => decide (a ≤ b)
def rangeI (n : Nat) : List Int := (List.range n).map fun (i : Nat) => (i : Int)
theorem srt_perm (ns : List Int) : (srt ns).Perm ns := List.mergeSort_perm _ _
theorem srt_up (ns : List Int) : (srt ns).Pairwise (· ≤ ·) := by
  have h := List.pairwise_mergeSort (le := fun a b : Int => decide (a ≤ b)) (fun a b c h1 h2 => by
    have := of_decide_eq_true h1
    have := of_decide_eq_true h2
    exact decide_eq_true (by omega)) (fun a b => by
    by_cases h : a ≤ b
    · simp [h]
    · have : b ≤ a := by omega
      simp [this]) ns
  exact h.imp fun h => of_decide_eq_true h
theorem srt_eq {ns ms : List Int} (hp : ms.Perm ns) (hs : ms.Pairwise (· ≤ ·)) : ms = srt ns := (hp.trans (srt_perm ns).symm).eq_of_pairwise (fun x y _ _ h1 h2 => Int.le_antisymm h1 h2) hs (srt_up ns)
section
variable {K : PySem.W.Frag} {σ σ2 : L2.St} {H H' H1 : Hp} {ta tb te tx : TE} {tt : TT} {wi : TI} {g : TG} {x v : V} {tas : TA} {d e d1 d2 : PyData} {ds es : List PyData} {ns : List Int}
theorem ed_callr1 {R : PyData → PyData → Prop} {E : XK} (h : EvAD K tas σ H [d1]) (hf : R d1 d) : EvD K (tCall (Sr1 K R) [] E tas) σ H d := fun H1 e Q q =>
  h H1 e _ fun vs H2 e2 ps => by
    cases ps with
    | cons p1 p2 =>
      cases p2
      exact ⟨_, d1, d, rfl, p1, hf, fun v H3 e3 p => q v H3 (e2.trans e3) p⟩
theorem ed_callr2 {R : PyData → PyData → PyData → Prop} {E : XK} (h : EvAD K tas σ H [d1, d2]) (hf : R d1 d2 d) : EvD K (tCall (Sr2 K R) [] E tas) σ H d := fun H1 e Q q =>
  h H1 e _ fun vs H2 e2 ps => by
    cases ps with
    | cons p1 p2 =>
      cases p2 with
      | cons p2 p3 =>
        cases p3
        exact ⟨_, _, d1, d2, d, rfl, p1, p2, hf, fun v H3 e3 p => q v H3 (e2.trans e3) p⟩
theorem cutD_from (k : Nat) : cutD ds (some (k : Int)) none = ds.drop k := by
  unfold cutD
  rw [HT.sIx_nat, HT.sIx_none]
  by_cases h : k ≤ ds.length
  · rw [Nat.min_eq_left h]
    exact List.take_of_length_le (by rw [List.length_drop]; exact Nat.le_refl _)
  · have h2 : ds.length ≤ k := by omega
    rw [Nat.min_eq_right h2, List.drop_length, List.drop_of_length_le h2, List.take_nil]
theorem cutD_to (k : Nat) : cutD ds none (some (k : Int)) = ds.take k := by
  unfold cutD
  rw [HT.sIx_nat, HT.sIx_none, List.drop_zero, Nat.sub_zero]
  by_cases h : k ≤ ds.length
  · rw [Nat.min_eq_left h]
  · rw [Nat.min_eq_right (by omega), List.take_length, List.take_of_length_le (by omega)]
theorem cutD_last : cutD ds (some (-1)) none = ds.drop (ds.length - 1) := by
  unfold cutD
  have e : HT.sIx ds.length 0 (some (-1)) = ds.length - 1 := by
    show (if (-1 : Int) < 0 then ((-1 : Int) + (ds.length : Int)).toNat else min (-1 : Int).toNat ds.length) = ds.length - 1
    rw [if_pos (by decide)]
    omega
  rw [e, HT.sIx_none]
  exact List.take_of_length_le (by rw [List.length_drop]; exact Nat.le_refl _)
theorem cut_whole {α : Type} {xs : List α} {lo hi : Option Int} (h : HT.sIx xs.length 0 lo = 0 ∧ HT.sIx xs.length xs.length hi = xs.length) : (xs.drop (HT.sIx xs.length 0 lo)).take (HT.sIx xs.length xs.length hi - HT.sIx xs.length 0 lo) = xs := by
  rw [h.1, h.2, List.drop_zero, Nat.sub_zero, List.take_length]
theorem ed_slT {tl th : TO} {lo hi : Option Int} (h : EvD K te σ H (.tuple ds)) (h1 : EvO tl σ H lo) (h2 : EvO th σ H hi) : EvD K (tSl (rSlA K) te tl th) σ H (.tuple (cutD ds lo hi)) := fun H1 e Q q =>
  h H1 e _ fun v H2 e2 p => h1 H2 (e.trans e2) _ fun H3 e3 => h2 H3 ((e.trans e2).trans e3) _ fun H4 e4 => by
    obtain ⟨a, xs, rfl, hs, hx⟩ := dp_tup (dp_ex (e3.trans e4) p)
    have hl := dpAll_len hx
    refine ⟨a, xs, rfl, hs, fun hw => q _ H4 ((e2.trans e3).trans e4) (.tup hs ?_), fun _ p hp => q _ _ (((e2.trans e3).trans e4).trans (Ex.new hp)) (dp_newT upd_same (dpAll_ex (Ex.new hp) ?_))⟩
    · unfold cutD
      rw [cut_whole (xs := ds) (by rw [← hl]; exact hw)]
      exact hx
    · unfold cutD cutV
      rw [hl]
      exact dpAll_take _ (dpAll_drop _ hx)
theorem ev_inT (ha : EvD K ta σ H d) (hb : EvD K tb σ H (.tuple ds)) (s1 : SeqAt.shaped d = true) (s2 : SeqAt.shaped (.tuple ds) = true) : Ev (tOp (Xr.rInT K) ta tb) σ H (.bl (ds.any fun z => PyData.eqv z d)) := fun H1 e Q q =>
  ha H1 e _ fun v H2 e2 p => hb H2 (e.trans e2) _ fun w H3 e3 p' => ⟨d, ds, dp_ex e3 p, p', s1, s2, q H3 (e2.trans e3)⟩
theorem ev_notInT (ha : EvD K ta σ H d) (hb : EvD K tb σ H (.tuple ds)) (s1 : SeqAt.shaped d = true) (s2 : SeqAt.shaped (.tuple ds) = true) : Ev (tOp (Xr.rNotInT K) ta tb) σ H (.bl (!ds.any fun z => PyData.eqv z d)) := fun H1 e Q q =>
  ha H1 e _ fun v H2 e2 p => hb H2 (e.trans e2) _ fun w H3 e3 p' => ⟨d, ds, dp_ex e3 p, p', s1, s2, q H3 (e2.trans e3)⟩
theorem ed_sorted (ha : EvD K ta σ H (.list (ns.map .int))) : EvD K (tCB (rSortedI K) (tCons ta tNil)) σ H (.list ((srt ns).map .int)) := fun H1 e Q q =>
  ha H1 e _ fun v H2 e2 p => by
    obtain ⟨a, xs, rfl, hs, hx⟩ := dp_lst p
    rw [dpAll_ints hx] at hs
    refine ⟨a, ns, rfl, hs, fun ms p hp ho hn => q _ _ (e2.trans (Ex.new hn)) (dp_newL upd_same ?_)⟩
    rw [srt_eq hp ho]
    exact ints_dpAll _
theorem ed_listRg1 {n : Nat} (ha : Ev ta σ H (.int (n : Int))) (hn : n ≤ 100000) : EvD K (tLstRg (tRg1 ta)) σ H (.list ((rangeI n).map .int)) := fun H1 e Q q =>
  ha H1 e _ fun H2 e2 => ⟨n, rfl, RgOk.of_le (by omega) (by omega) (by omega) (by omega), fun p hp => q _ _ (e2.trans (Ex.new hp)) (dp_newL upd_same (by
    have e1 : rgV 0 (n : Int) = (rangeI n).map V.int := by
      unfold rgV rangeI
      rw [List.map_map, show ((n : Int) - 0).toNat = n by omega]
      refine List.map_congr_left fun i _ => ?_
      show V.int ((0 : Int) + (i : Int)) = V.int (i : Int)
      rw [Int.zero_add]
    rw [e1]
    exact ints_dpAll _))⟩
theorem tYes_ite {σ : L2.St} {H : Hp} {A B : Hp → Prop} (h : A H) : tYes σ H (fun b H3 => if b = true then A H3 else B H3) := by
  show (if true = true then A H else B H)
  rw [if_pos rfl]
  exact h
/-- the flattening of groups -/
theorem ed_flat {gss : List (List PyData)} {vs vs1 : List Nat} {j k : Nat} (hi : EvI K wi σ H (gss.map .tuple)) (hn : gss.length ≤ 100) (hg : ∀ gs ∈ gss, gs.length ≤ 100) (hno : ∀ gs ∈ gss, noLs gs = true)
    (w1 : ∀ x, wipe ((wipe σ vs).set j (some x)) vs = wipe σ vs) (g1 : ∀ x, ((wipe σ vs).set j (some x))[j]? = some (some x))
    (w2 : ∀ x y, wipe ((wipe ((wipe σ vs).set j (some x)) vs1).set k (some y)) vs1 = wipe ((wipe σ vs).set j (some x)) vs1) (g2 : ∀ x y, ((wipe ((wipe σ vs).set j (some x)) vs1).set k (some y))[k]? = some (some y)) :
    EvD K (tLc2 wi (gName j) tYes (iTup K (tVar j)) (gName k) tYes (tVar k) vs vs1) σ H (.list gss.flatten) := fun H0 e0 Q q => hi H0 e0 _ fun J H1 e1 w D hD => by
  have nfl : ∀ i, noLs ((gss.take i).flatten) = true := fun i => noLs_all fun d hd => by
    obtain ⟨gs, h1, h2⟩ := List.mem_flatten.mp hd
    have h3 := hno gs (List.mem_of_mem_take h1)
    clear hd
    induction gs with
    | nil => cases h2
    | cons a r ih =>
      simp only [noLs, Bool.and_eq_true] at h3
      rcases List.mem_cons.mp h2 with z | z
      · rw [z]; exact h3.1
      · exact (by
          have ha : ∀ (l : List PyData) (d : PyData), noLs l = true → d ∈ l → noL d = true := fun l => by
            induction l with
            | nil => intro d _ z; cases z
            | cons b s ihs =>
              intro d hl hd
              simp only [noLs, Bool.and_eq_true] at hl
              rcases List.mem_cons.mp hd with y | y
              · rw [y]; exact hl.1
              · exact ihs d hl.2 y
          exact ha r d h3.2 z)
  have lfl : ∀ i, ((gss.take i).flatten).length ≤ i * 100 := fun i => by
    have h : ∀ l : List (List PyData), (∀ gs ∈ l, gs.length ≤ 100) → l.flatten.length ≤ l.length * 100 := fun l => by
      induction l with
      | nil => intro _; exact Nat.le_refl _
      | cons a r ih =>
        intro h
        rw [List.flatten_cons, List.length_append, List.length_cons]
        have := h a List.mem_cons_self
        have := ih fun gs hgs => h gs (List.mem_cons_of_mem _ hgs)
        omega
    have h1 := h (gss.take i) fun gs hgs => hg gs (List.mem_of_mem_take hgs)
    have h2 : (gss.take i).length ≤ i := by rw [List.length_take]; omega
    exact Nat.le_trans h1 (Nat.mul_le_mul_right _ h2)
  refine ⟨fun i m Hc => m = gss.length - i ∧ i ≤ gss.length ∧ Ex H1 Hc ∧ ∃ acc, Hc D = some (.lst acc) ∧ DpAll K Hc acc ((gss.take i).flatten), ⟨_, rfl, Nat.zero_le _, Ex.new hD, [], upd_same, .nil⟩, fun i m Hc hW => ?_⟩
  obtain ⟨rfl, hle, ex, acc, hacc, hdp⟩ := hW
  by_cases hlt : i < gss.length
  · refine .inr ⟨w.goes i Hc (by rw [List.length_map]; exact hlt) ex, fun Hc' => i + 1 ≤ gss.length ∧ Ex H1 Hc' ∧ ∃ acc, Hc' D = some (.lst acc) ∧ DpAll K Hc' acc ((gss.take (i + 1)).flatten), fun Hc' h => ⟨gss.length - (i + 1), by omega, rfl, h⟩, fun x H2 y => ?_⟩
    obtain ⟨e2, e, he, hx⟩ := w.yields i Hc x H2 (by rw [List.length_map]; exact hlt) ex y
    rw [List.getElem?_map, List.getElem?_eq_getElem hlt] at he
    cases he
    obtain ⟨a, xs, rfl, hs, hxs⟩ := dp_tup hx
    have hxl := dpAll_len hxs
    have hmem : gss[i] ∈ gss := List.getElem_mem hlt
    refine ⟨w1 _, ?_⟩
    refine tYes_ite ?_
    refine ⟨.ref a, g1 _, a, rfl, ⟨xs, hs⟩, ?_⟩
    have htk : gss.take (i + 1) = gss.take i ++ [gss[i]] := by rw [List.take_add_one, List.getElem?_eq_getElem hlt]; rfl
    refine ⟨fun i2 m2 Hd => m2 = gss[i].length - i2 ∧ i2 ≤ gss[i].length ∧ Ex H1 Hd ∧ SqT K Hd a xs ∧ DpAll K Hd xs gss[i] ∧ ∃ acc, Hd D = some (.lst acc) ∧ DpAll K Hd acc ((gss.take i).flatten ++ gss[i].take i2), ⟨_, rfl, Nat.zero_le _, ex.trans e2, hs, hxs, acc, e2 _ _ hacc, ?_⟩, fun i2 m2 Hd hV => ?_⟩
    · rw [List.take_zero, List.append_nil]
      exact dpAll_ex e2 hdp
    obtain ⟨rfl, hle2, ex2, hs2, hxs2, acc2, hacc2, hdp2⟩ := hV
    by_cases hlt2 : i2 < gss[i].length
    · refine .inr ⟨⟨xs, xs[i2]'(by omega), hs2, by simp [show i2 < xs.length by omega]⟩, fun Hd => i2 + 1 ≤ gss[i].length ∧ Ex H1 Hd ∧ SqT K Hd a xs ∧ DpAll K Hd xs gss[i] ∧ ∃ acc, Hd D = some (.lst acc) ∧ DpAll K Hd acc ((gss.take i).flatten ++ gss[i].take (i2 + 1)),
        fun Hd h => ⟨gss[i].length - (i2 + 1), by omega, rfl, h⟩, fun y H3 hy => ?_⟩
      obtain ⟨rfl, hy2⟩ := hy
      obtain ⟨d, hd1, hd2⟩ := dpAll_at hxs2 (hy2 xs hs2)
      refine ⟨w2 _ _, ?_⟩
      refine tYes_ite ?_
      have hln : acc2.length ≤ 20000 := by
        rw [dpAll_len hdp2, List.length_append, List.length_take]
        have := lfl i
        have := hg _ hmem
        have : i * 100 ≤ 100 * 100 := Nat.mul_le_mul_right _ (by omega)
        omega
      have hns : noLs ((gss.take i).flatten ++ gss[i].take (i2 + 1)) = true := by
        have ha : ∀ (l m : List PyData), noLs l = true → noLs m = true → noLs (l ++ m) = true := fun l m => by
          induction l with
          | nil => intro _ h; exact h
          | cons b s ihs =>
            intro h h2
            simp only [noLs, Bool.and_eq_true, List.cons_append] at h ⊢
            exact ⟨h.1, ihs h.2 h2⟩
        refine ha _ _ (nfl i) (noLs_all fun d hd => ?_)
        have hb : ∀ (l : List PyData) (d : PyData), noLs l = true → d ∈ l → noL d = true := fun l => by
          induction l with
          | nil => intro d _ z; cases z
          | cons b s ihs =>
            intro d hl hd
            simp only [noLs, Bool.and_eq_true] at hl
            rcases List.mem_cons.mp hd with y | y
            · rw [y]; exact hl.1
            · exact ihs d hl.2 y
        exact hb _ d (hno _ hmem) (List.mem_of_mem_take hd)
      refine ⟨y, g2 _ _, acc2, hacc2, sz_lt (by omega), hlt2, ex2.mut hD, (Kt.lst hacc2).sq _ _ hs2, dpAll_kt (Kt.lst hacc2) (hno _ hmem) hxs2, acc2 ++ [y], upd_same, ?_⟩
      have htk2 : gss[i].take (i2 + 1) = gss[i].take i2 ++ [d] := by rw [List.take_add_one, hd1]; rfl
      refine dpAll_kt (Kt.lst hacc2) hns ?_
      rw [htk2, ← List.append_assoc]
      exact dpAll_app hdp2 (dpAll_one hd2)
    · have hie : i2 = gss[i].length := by omega
      subst hie
      rw [List.take_length] at hdp2
      refine .inl ⟨⟨xs, hs2, by omega⟩, hlt, ex2, acc2, hacc2, ?_⟩
      rw [htk, List.flatten_append, List.flatten_cons, List.flatten_nil, List.append_nil]
      exact hdp2
  · have hie : i = gss.length := by omega
    subst hie
    rw [List.take_length] at hdp
    exact .inl ⟨by have := w.stops Hc ex; rw [List.length_map] at this; exact this, q _ Hc (e1.trans ex) (dp_newL hacc hdp)⟩
end
end Xd
namespace Kb
open PySem PySem.Spec PyProof.Rows L2 Evl Xd
/-- readings as data -/
def rdD (rs : List (Int × Int)) : PyData := .tuple (rs.map fr)
def R_readings (d1 d2 r : PyData) : Prop := ∃ rs : List (Int × Int), d1 = rdD rs ∧ d2 = .int (rs.length : Nat) ∧ rs.length ≤ 1000 ∧ (∀ x ∈ rs, okF x) ∧ r = .bool true
def okR (x : Int × Int) : Prop := okF x ∧ x.1 ≤ 4 * x.2
def R_low (d1 d2 r : PyData) : Prop := ∃ rs : List (Int × Int), d1 = rdD rs ∧ d2 = .int (rs.length : Nat) ∧ rs.length ≤ 1000 ∧ (∀ x ∈ rs, okR x) ∧ r = .bool true
def R_reqlow (d1 d2 r : PyData) : Prop := ∃ rs : List (Int × Int), d1 = rdD rs ∧ d2 = .int (rs.length : Nat) ∧ rs.length ≤ 1000 ∧ (∀ x ∈ rs, okR x) ∧ r = .none
theorem map_const_true {α : Type} (l : List α) (f : α → PyData) (h : ∀ x ∈ l, f x = .bool true) : l.map f = (l.map fun _ => true).map .bool := by
  rw [List.map_map]
  exact List.map_congr_left h
theorem all_const {α : Type} (l : List α) : (l.map fun _ => true).all id = true := by
  rw [List.all_eq_true]
  intro x hx
  obtain ⟨_, _, rfl⟩ := List.mem_map.mp hx
  rfl
section
variable {P : Program} {w : World} {K : PySem.W.Frag} {mg : Str → Option Value} {base : Heap}
theorem sc_are_readings : FnScope ["value", "clocks", "one"] ["value", "clocks"] (defScope (topS 21)) := ⟨rfl, rfl, rfl, by decide +kernel, rfl, by decide +kernel, by decide +kernel⟩
theorem ok_are_readings (T : Tb mg) (D : DefAt K mg "are_readings" (topS 21)) (C_is_margin : Cal P w K mg base "is_margin" 4 ["value"] (Sp1 K f_isfrac)) : Cal P w K mg base "are_readings" 5 ["value", "clocks"] (Sr2 K R_readings) := by
  refine cal_of D (fun _ _ _ _ _ _ us hl => match us, hl with | [_, _], _ => rfl) fun f fd F => F.ok sc_are_readings (fun vs H Q E h => ?_) (fun cdv A outer s H vs Q E hr h => ?_)
  · obtain ⟨v, v2, d, d2, r, rfl, _⟩ := h
    rfl
  · obtain ⟨v, v2, d, d2, r, rfl, hd, hd2, ⟨rs, rfl, rfl, hl, hok, rfl⟩, q⟩ := h
    refine ⟨_, (pss_one (ps_ret (pe_and (pe_callB call_isi rfl T.isinstance bt_isinstance (pa_cons (pv 0) (pa_cons (pe_bltn (v := .ty "tuple") rfl T.tuple bt_tuple rfl) pa_nil))) (pe_and (pe_cmpR op_eq (pe_callB call_len_seq rfl T.len bt_len (pa_cons (pv 0) pa_nil)) (pv 1) (nomark _)) (pe_one (pe_callB (cr_all rfl) rfl T.all bt_all (pa_cons (pe_lc (own := [("one", 2)]) (te := (tCall (Sp1 K f_isfrac) [] E0 (tCons (tVar 2) tNil))) rfl sc_are_readings.nd (pi_tup (pv 0)) (blkOk_by (own := [("one", 2)]) (N := ["value", "clocks", "one"]) (sc := (defScope (topS 21))) (by decide +kernel)) (fun _ _ _ _ _ => (pg_name (i := 2) sc_are_readings.nd rfl (.inl rfl))) (fun _ _ _ _ _ => pts_nil) (fun _ _ _ _ _ => (pe_callC C_is_margin hr rfl (pa_cons (pv 2) pa_nil)))) pa_nil))))))), ?_⟩
    cases dp_int hd2
    refine s_ret0 (ed_bl (ev_andV (a := true) (b := true) (ev_isi (EvP.x (ed_var rfl hd)) (kit_tuple _)) fun _ => ev_andV (a := true) (b := true) (ev_is (ev_op (ev_lenT (ed_var rfl hd)) (ev_var rfl) (rv_eq rfl)) ?_) fun _ => ?_)) (Ex.refl H) q rfl
    · rw [List.length_map, decide_eq_true rfl]
    · refine ev_is (ev_all (bs := (rs.map fr).map fun _ => true) (ed_is (ed_lc0 (fun _ => .bool true) (evj_tup rfl hd).i (by rw [List.length_map]; omega) (fun _ _ => rfl) fun e he x H1 ex hx => ?_) ?_)) (by rw [all_const])
      · obtain ⟨p, hp, rfl⟩ := List.mem_map.mp he
        exact ⟨_, gto_name, rfl, ed_call1 (ead1 (ed_var rfl hx)) (if_pos (hok p hp))⟩
      · simp [Function.comp_def]
theorem sc_are_low : FnScope ["value", "clocks", "top", "bottom"] ["value", "clocks"] (defScope (topS 22)) := ⟨rfl, rfl, rfl, by decide +kernel, rfl, by decide +kernel, by decide +kernel⟩
theorem ok_are_low (T : Tb mg) (D : DefAt K mg "are_low" (topS 22)) (C_are_readings : Cal P w K mg base "are_readings" 5 ["value", "clocks"] (Sr2 K R_readings)) : Cal P w K mg base "are_low" 6 ["value", "clocks"] (Sr2 K R_low) := by
  refine cal_of D (fun _ _ _ _ _ _ us hl => match us, hl with | [_, _], _ => rfl) fun f fd F => F.ok sc_are_low (fun vs H Q E h => ?_) (fun cdv A outer s H vs Q E hr h => ?_)
  · obtain ⟨v, v2, d, d2, r, rfl, _⟩ := h
    rfl
  · obtain ⟨v, v2, d, d2, r, rfl, hd, hd2, ⟨rs, rfl, rfl, hl, hok, rfl⟩, q⟩ := h
    refine ⟨_, (pss_one (ps_ret (pe_and (pe_callC C_are_readings hr rfl (pa_cons (pv 0) (pa_cons (pv 1) pa_nil))) (pe_one (pe_callB (cr_all rfl) rfl T.all bt_all (pa_cons (pe_lc (own := [("top", 2), ("bottom", 3)]) (g := (gTup K 2 (gCons (gName 2) (gCons (gName 3) gNil)))) (te := (tOp (rI0 fun i j => .bl (decide (i ≤ j))) (tVar 2) (tOp (rI CMul fun i j => .int (i * j)) (tC (.int 4)) (tVar 3)))) rfl sc_are_low.nd (pi_tup (pv 0)) (blkOk_by (own := [("top", 2), ("bottom", 3)]) (N := ["value", "clocks", "top", "bottom"]) (sc := (defScope (topS 22))) (by decide +kernel)) (fun _ _ _ _ _ => (pg_tup rfl (pgs_cons (pg_name (i := 2) sc_are_low.nd rfl (.inl rfl)) (pgs_cons (pg_name (i := 3) sc_are_low.nd rfl (.inl rfl)) pgs_nil)))) (fun _ _ _ _ _ => pts_nil) (fun _ _ _ _ _ => (pe_cmpR op_le (pv 2) (pe_op op_mul (pe_gint rfl T.MOST_NUMBER) (pv 3)) (nomark _)))) pa_nil)))))), ?_⟩
    refine s_ret0 (ed_bl (ev_andV (a := true) (b := true) (ev_bl (ed_callr2 (ead_cons (ed_var rfl hd) (ead1 (ed_var rfl hd2))) ⟨rs, rfl, rfl, hl, fun x hx => (hok x hx).1, rfl⟩)) fun _ => ?_)) (Ex.refl H) q rfl
    refine ev_is (ev_all (bs := (rs.map fr).map fun _ => true) (ed_is (ed_lc0 (fun _ => .bool true) (evj_tup rfl hd).i (by rw [List.length_map]; omega) (fun _ _ => rfl) fun e he x H1 ex hx => ?_) ?_)) (by rw [all_const])
    · obtain ⟨p, hp, rfl⟩ := List.mem_map.mp he
      obtain ⟨v1, v2, h1, h2, h3⟩ := gto_two (i := 2) (j := 3) (σ := wipe (start ["value", "clocks", "top", "bottom"] [v, v2]) [2, 3]) hx
      cases dp_int h1
      cases dp_int h2
      refine ⟨_, h3, rfl, ed_bl (ev_is (ev_op (ev_var rfl) (ev_op ev_c (ev_var rfl) (rv_I (.inl ⟨by decide, by decide⟩))) rv_I0) ?_)⟩
      rw [decide_eq_true (hok p hp).2]
    · simp [Function.comp_def]
theorem sc_require_low : FnScope ["value", "clocks"] ["value", "clocks"] (defScope (topS 29)) := ⟨rfl, rfl, rfl, by decide +kernel, rfl, by decide +kernel, by decide +kernel⟩
theorem ok_require_low (T : Tb mg) (D : DefAt K mg "require_low" (topS 29)) (C_are_low : Cal P w K mg base "are_low" 6 ["value", "clocks"] (Sr2 K R_low)) : Cal P w K mg base "require_low" 7 ["value", "clocks"] (Sr2 K R_reqlow) := by
  refine cal_of D (fun _ _ _ _ _ _ us hl => match us, hl with | [_, _], _ => rfl) fun f fd F => F.ok sc_require_low (fun vs H Q E h => ?_) (fun cdv A outer s H vs Q E hr h => ?_)
  · obtain ⟨v, v2, d, d2, r, rfl, _⟩ := h
    rfl
  · obtain ⟨v, v2, d, d2, r, rfl, hd, hd2, ⟨rs, rfl, rfl, hl, hok, rfl⟩, q⟩ := h
    refine ⟨_, (pss_one (ps_if (pt_not (pt_val (pe_callC C_are_low hr rfl (pa_cons (pv 0) (pa_cons (pv 1) pa_nil))))) (pss_one ps_never) pss_nil)), ?_⟩
    exact s_if (b := false) (et_not (a := true) (et_B (ev_bl (ed_callr2 (ead_cons (ed_var rfl hd) (ead1 (ed_var rfl hd2))) ⟨rs, rfl, rfl, hl, hok, rfl⟩)))) (fun z => by cases z) fun _ H1 e1 => q _ H1 e1 .non
end
end Kb
/-! D5: whether data are a class: the program's own judgement. -/
namespace Kb
open PySem PySem.Spec PyProof.Rows L2 Evl Xd
/-! ### data that are shaped and small -/
mutual
def sm : PyData → Bool
  | .list xs => decide (xs.length ≤ 60) && sms xs
  | .tuple xs => decide (xs.length ≤ 60) && sms xs
  | .none | .bool _ | .int _ | .str _ | .dict _ => true
def sms : List PyData → Bool
  | [] => true
  | x :: xs => sm x && sms xs
end
theorem sms_mem : ∀ {ds : List PyData} {d : PyData}, sms ds = true → d ∈ ds → sm d = true
  | [], _, _, h => by cases h
  | a :: r, d, h, hd => by
    simp only [sms, Bool.and_eq_true] at h
    rcases List.mem_cons.mp hd with z | z
    · rw [z]; exact h.1
    · exact sms_mem h.2 z
theorem sms_of : ∀ {ds : List PyData}, (∀ d ∈ ds, sm d = true) → sms ds = true
  | [], _ => by simp only [sms]
  | a :: r, h => by
    simp only [sms, Bool.and_eq_true]
    exact ⟨h a List.mem_cons_self, sms_of fun d hd => h d (List.mem_cons_of_mem _ hd)⟩
theorem lay_mem : ∀ {ds : List PyData} {d : PyData}, PyData.canLayAll0 ds = true → d ∈ ds → PyData.canLay0 d = true
  | [], _, _, h => by cases h
  | a :: r, d, h, hd => by
    simp only [PyData.canLayAll0, Bool.and_eq_true] at h
    rcases List.mem_cons.mp hd with z | z
    · rw [z]; exact h.1
    · exact lay_mem h.2 z
theorem lay_of : ∀ {ds : List PyData}, (∀ d ∈ ds, PyData.canLay0 d = true) → PyData.canLayAll0 ds = true
  | [], _ => by simp only [PyData.canLayAll0]
  | a :: r, h => by
    simp only [PyData.canLayAll0, Bool.and_eq_true]
    exact ⟨h a List.mem_cons_self, lay_of fun d hd => h d (List.mem_cons_of_mem _ hd)⟩
theorem depth_mem : ∀ {ds : List PyData} {d : PyData}, d ∈ ds → PyData.depth d ≤ PyData.depthAll ds
  | [], _, h => by cases h
  | a :: r, d, hd => by
    simp only [PyData.depthAll]
    rcases List.mem_cons.mp hd with z | z
    · rw [z]; omega
    · have := depth_mem z
      omega
theorem depth_of : ∀ {ds : List PyData} {k : Nat}, (∀ d ∈ ds, PyData.depth d ≤ k) → PyData.depthAll ds ≤ k
  | [], k, _ => by simp only [PyData.depthAll]; omega
  | a :: r, k, h => by
    simp only [PyData.depthAll]
    have h1 := h a List.mem_cons_self
    have h2 := depth_of (ds := r) (k := k) fun d hd => h d (List.mem_cons_of_mem _ hd)
    omega
/-- shaped to a depth, and small -/
def fit (k : Nat) (d : PyData) : Prop := PyData.canLay0 d = true ∧ PyData.depth d ≤ k ∧ sm d = true
theorem fit.mono {j k : Nat} {d : PyData} (h : fit j d) (l : j ≤ k) : fit k d := ⟨h.1, Nat.le_trans h.2.1 l, h.2.2⟩
theorem fit.shaped {k : Nat} {d : PyData} (h : fit k d) (l : k ≤ 64) : SeqAt.shaped d = true := by
  show (d.canLay0 && decide (d.depth ≤ 64)) = true
  rw [h.1, decide_eq_true (Nat.le_trans h.2.1 l)]
  rfl
theorem fit_tup {k : Nat} {ds : List PyData} (h : fit k (.tuple ds)) : ds.length ≤ 60 ∧ ∀ d ∈ ds, fit k d := by
  obtain ⟨h1, h2, h3⟩ := h
  simp only [PyData.canLay0] at h1
  simp only [PyData.depth] at h2
  simp only [sm, Bool.and_eq_true] at h3
  exact ⟨of_decide_eq_true h3.1, fun d hd => ⟨lay_mem h1 hd, by have := depth_mem hd; omega, sms_mem h3.2 hd⟩⟩
theorem tup_fit {k : Nat} {ds : List PyData} (h : ds.length ≤ 60) (h2 : ∀ d ∈ ds, fit k d) : fit (k + 1) (.tuple ds) := by
  refine ⟨?_, ?_, ?_⟩
  · simp only [PyData.canLay0]
    exact lay_of fun d hd => (h2 d hd).1
  · simp only [PyData.depth]
    have := depth_of (ds := ds) (k := k) fun d hd => (h2 d hd).2.1
    omega
  · simp only [sm, Bool.and_eq_true]
    exact ⟨decide_eq_true h, sms_of fun d hd => (h2 d hd).2.2⟩
theorem lst_fit {k : Nat} {ds : List PyData} (h : ds.length ≤ 60) (h2 : ∀ d ∈ ds, fit k d) : fit (k + 1) (.list ds) := by
  refine ⟨?_, ?_, ?_⟩
  · simp only [PyData.canLay0]
    exact lay_of fun d hd => (h2 d hd).1
  · simp only [PyData.depth]
    have := depth_of (ds := ds) (k := k) fun d hd => (h2 d hd).2.1
    omega
  · simp only [sm, Bool.and_eq_true]
    exact ⟨decide_eq_true h, sms_of fun d hd => (h2 d hd).2.2⟩
theorem int_fit (i : Int) : fit 0 (.int i) := ⟨rfl, Nat.le_refl _, rfl⟩
theorem shaped_ints (ns : List Int) : SeqAt.shaped (.list (ns.map .int)) = true := by
  show (PyData.canLay0 (.list (ns.map .int)) && decide (PyData.depth (.list (ns.map .int)) ≤ 64)) = true
  have h1 : PyData.canLay0 (.list (ns.map .int)) = true := by
    simp only [PyData.canLay0]
    exact lay_of fun d hd => by
      obtain ⟨i, _, rfl⟩ := List.mem_map.mp hd
      rfl
  have h2 : PyData.depth (.list (ns.map .int)) ≤ 64 := by
    simp only [PyData.depth]
    have := depth_of (ds := ns.map PyData.int) (k := 0) fun d hd => by
      obtain ⟨i, _, rfl⟩ := List.mem_map.mp hd
      exact Nat.le_refl _
    omega
  rw [h1, decide_eq_true h2]
  rfl
theorem eqvAll_ints : ∀ xs ys : List Int, PyData.eqvAll (xs.map .int) (ys.map .int) = decide (xs = ys)
  | [], [] => rfl
  | [], y :: ys => by simp [PyData.eqvAll]
  | x :: xs, [] => by simp [PyData.eqvAll]
  | x :: xs, y :: ys => by
    simp only [List.map_cons, PyData.eqvAll, PyData.eqv, eqvAll_ints xs ys]
    rw [Bool.eq_iff_iff]
    simp
theorem eqv_ints (xs ys : List Int) : PyData.eqv (.list (xs.map .int)) (.list (ys.map .int)) = decide (xs = ys) := by
  simp only [PyData.eqv]
  exact eqvAll_ints xs ys
def emptyT : PyData → Bool
  | .tuple [] => true
  | _ => false
theorem eqv_emptyT (d : PyData) : PyData.eqv d (.tuple []) = emptyT d := by
  cases d with
  | tuple xs => cases xs <;> simp [PyData.eqv, PyData.eqvAll, emptyT]
  | _ => simp [PyData.eqv, emptyT]
/-! ### the judgement -/
def ltD : PyData → Bool
  | .tuple [.int a, .int b] => decide (a < b)
  | _ => false
def ascD (ds : List PyData) : Bool := (zipD ds (ds.drop 1)).all ltD
def isLot (n : Int) : PyData → Bool
  | .tuple ds => ds.all (fun d => isFrom d 0 (n - 1)) && ascD ds
  | _ => false
def grp : PyData → List PyData
  | .tuple ds => ds
  | _ => []
def int? : PyData → Option Int
  | .int i => some i
  | _ => none
def flatI (gs : List PyData) : List Int := ((gs.map grp).flatten).filterMap int?
def isOrd (n : Int) : PyData → Bool
  | .tuple gs => !gs.isEmpty && gs.all (isLot n) && !((gs.drop 1).any emptyT) && decide (srt (flatI gs) = rangeI n.toNat)
  | _ => false
def inFirst (c : PyData) : PyData → Bool
  | .tuple (g :: _) => (grp g).any fun z => PyData.eqv z c
  | _ => false
def topE (o : PyData) : PyData → Bool
  | .tuple [c, .int w] => decide (w < 4) || inFirst c o
  | _ => false
def topOk (ws : List PyData) (o : PyData) : Bool := (enumD ws).all (topE o)
def isCls (n : Int) : PyData → Bool
  | .tuple [.tuple ws, o] => decide ((ws.length : Int) = n) && ws.all (fun d => isFrom d 0 4) && isOrd n o && topOk ws o
  | _ => false
theorem isFrom_int {d : PyData} {a b : Int} (h : isFrom d a b = true) : ∃ i, d = .int i ∧ a ≤ i ∧ i ≤ b := by
  cases d with
  | int i =>
    simp only [isFrom, Bool.and_eq_true] at h
    exact ⟨i, rfl, of_decide_eq_true h.1, of_decide_eq_true h.2⟩
  | _ => simp [isFrom] at h
theorem u65 {A : Around} {k : Nat} (hr : Room k A) : A.units + 65 < cLine := by
  have := hr.un
  omega
theorem allB {α : Type} (l : List α) (p : α → Bool) : (l.map p).all id = l.all p := by rw [List.all_map]; rfl
theorem anyB {α : Type} (l : List α) (p : α → Bool) : (l.map p).any id = l.any p := by rw [List.any_map]; rfl
theorem mapB {α : Type} (l : List α) (p : α → Bool) : PyData.list (l.map fun x => .bool (p x)) = .list ((l.map p).map .bool) := by rw [List.map_map]; rfl
def R_lot (d1 d2 r : PyData) : Prop := ∃ n : Int, d1 = .int n ∧ fit 60 d2 ∧ r = .bool (isLot n d2)
def R_ord (d1 d2 r : PyData) : Prop := ∃ n : Int, d1 = .int n ∧ 0 ≤ n ∧ n ≤ 100 ∧ fit 60 d2 ∧ r = .bool (isOrd n d2)
theorem s_asgG {K : PySem.W.Frag} {σ : L2.St} {H : Hp} {v : V} {d1 d2 : PyData} {i a b : Nat} {D : Ends} (h : σ[i]? = some (some v)) (hd : Dp K H v (.tuple [d1, d2])) (k : ∀ v1 v2, Dp K H v1 d1 → Dp K H v2 d2 → D.nx ((σ.set a (some v1)).set b (some v2)) H) :
    tAsg (tVar i) (gTup K 2 (gCons (gName a) (gCons (gName b) gNil))) D σ H := by
  obtain ⟨v1, v2, h1, h2, h3⟩ := gto_two (i := a) (j := b) (σ := σ) hd
  exact ⟨v, h, h3 _ (k v1 v2 h1 h2)⟩
theorem zipD_mem {ds es : List PyData} {e : PyData} (h : e ∈ zipD ds es) : ∃ x y, e = .tuple [x, y] ∧ x ∈ ds ∧ y ∈ es := by
  unfold zipD at h
  obtain ⟨i, hi⟩ := List.mem_iff_getElem?.mp h
  rw [List.getElem?_zipWith] at hi
  cases h1 : ds[i]? with
  | none => rw [h1] at hi; cases hi
  | some x =>
    cases h2 : es[i]? with
    | none => rw [h1, h2] at hi; cases hi
    | some y =>
      rw [h1, h2] at hi
      exact ⟨x, y, (Option.some.inj hi).symm, List.mem_of_getElem? h1, List.mem_of_getElem? h2⟩
theorem enumD_mem {ds : List PyData} {e : PyData} (h : e ∈ enumD ds) : ∃ (i : Nat) (x : PyData), e = .tuple [.int i, x] ∧ ds[i]? = some x := by
  obtain ⟨i, hi⟩ := List.mem_iff_getElem?.mp h
  have hl := (List.getElem?_eq_some_iff.mp hi).1
  rw [enumD_len] at hl
  have h2 := enumD_get (List.getElem?_eq_getElem hl)
  rw [hi] at h2
  exact ⟨i, ds[i], Option.some.inj h2, List.getElem?_eq_getElem hl⟩
section
variable {P : Program} {w : World} {K : PySem.W.Frag} {mg : Str → Option Value} {base : Heap}
theorem sc_is_lot : FnScope ["clocks", "value", "clock", "one", "other"] ["clocks", "value"] (defScope (topS 23)) := ⟨rfl, rfl, rfl, by decide +kernel, rfl, by decide +kernel, by decide +kernel⟩
theorem ok_is_lot (T : Tb mg) (D : DefAt K mg "is_lot" (topS 23)) (C_is_from : Cal P w K mg base "is_from" 2 ["value", "least", "most"] (Sp3 K f_from)) : Cal P w K mg base "is_lot" 3 ["clocks", "value"] (Sr2 K R_lot) := by
  refine cal_of D (fun _ _ _ _ _ _ us hl => match us, hl with | [_, _], _ => rfl) fun f fd F => F.ok sc_is_lot (fun vs H Q E h => ?_) (fun cdv A outer s H vs Q E hr h => ?_)
  · obtain ⟨v, v2, d, d2, r, rfl, _⟩ := h
    rfl
  · obtain ⟨v, v2, d, d2, r, rfl, hd, hd2, ⟨n, rfl, hfit, rfl⟩, q⟩ := h
    cases dp_int hd
    refine ⟨_, (pss_cons (ps_if (PW.pt (pw_or (pt_not (pt_val (pe_callB call_isi rfl T.isinstance bt_isinstance (pa_cons (pv 1) (pa_cons (pe_bltn (v := .ty "tuple") rfl T.tuple bt_tuple rfl) pa_nil))))) (pw_or1 (pt_not (pt_val (pe_callB (cr_all rfl) rfl T.all bt_all (pa_cons (pe_lc (own := [("clock", 2)]) (te := (tCall (Sp3 K f_from) [] E0 (tCons (tVar 2) (tCons (tC (.int 0)) (tCons (tOp (rI0 fun i j => .int (i - j)) (tVar 0) (tC (.int 1))) tNil))))) rfl sc_is_lot.nd (pi_tup (pv 1)) (blkOk_by (own := [("clock", 2)]) (N := ["clocks", "value", "clock", "one", "other"]) (sc := (defScope (topS 23))) (by decide +kernel)) (fun _ _ _ _ _ => (pg_name (i := 2) sc_is_lot.nd rfl (.inl rfl))) (fun _ _ _ _ _ => pts_nil) (fun _ _ _ _ _ => (pe_callC C_is_from hr rfl (pa_cons (pv 2) (pa_cons pe_int (pa_cons (pe_op op_sub (pv 0) pe_int) pa_nil)))))) pa_nil))))))) (pss_one (ps_ret pe_bl)) pss_nil)
      (pss_one (ps_ret (pe_callB (cr_all rfl) rfl T.all bt_all (pa_cons (pe_lc (own := [("one", 3), ("other", 4)]) (g := (gTup K 2 (gCons (gName 3) (gCons (gName 4) gNil)))) (te := (tOp (rI0 fun i j => .bl (decide (i < j))) (tVar 3) (tVar 4))) rfl sc_is_lot.nd (RZ.pi_zipA rfl T.zip (pa_cons (pv 1) (pa_cons (pe_slice sl_tupA (pv 1) (po_some pe_int) po_none) pa_nil))) (blkOk_by (own := [("one", 3), ("other", 4)]) (N := ["clocks", "value", "clock", "one", "other"]) (sc := (defScope (topS 23))) (by decide +kernel)) (fun _ _ _ _ _ => (pg_tup rfl (pgs_cons (pg_name (i := 3) sc_is_lot.nd rfl (.inl rfl)) (pgs_cons (pg_name (i := 4) sc_is_lot.nd rfl (.inl rfl)) pgs_nil)))) (fun _ _ _ _ _ => pts_nil) (fun _ _ _ _ _ => (pe_cmpR op_lt (pv 3) (pv 4) (nomark _)))) pa_nil))))), ?_⟩
    have no : ∀ d : PyData, isT d = false → isLot n d = false := fun d h => by cases d <;> first | rfl | cases h
    cases hT : isT d2 with
    | false =>
      refine q_when (b := true) (et_or (a := true) (b := true) (et_not (a := false) (et_B (ev_is (ev_isi (EvP.x (ed_var rfl hd2)) (kit_tuple _)) (by rw [hT])))) fun z => by cases z) (fun _ H1 e1 => ?_) fun z => by cases z
      rw [no d2 hT] at q
      exact s_ret0 (ed_bl ev_c) e1 q rfl
    | true =>
      obtain ⟨ds, rfl⟩ : ∃ ds, d2 = .tuple ds := by cases d2 <;> first | exact ⟨_, rfl⟩ | cases hT
      obtain ⟨hlen, hmem⟩ := fit_tup hfit
      have hall : Ev (tCB (rAll K) (tCons (tLc (iTup K (tVar 1)) (gName 2) tYes (tCall (Sp3 K f_from) [] E0 (tCons (tVar 2) (tCons (tC (.int 0)) (tCons (tOp (rI0 fun i j => .int (i - j)) (tVar 0) (tC (.int 1))) tNil)))) [2]) tNil)) (start ["clocks", "value", "clock", "one", "other"] [.int n, v2]) H (.bl (ds.all fun d => isFrom d 0 (n - 1))) := by
        refine ev_is (ev_all (bs := ds.map fun d => isFrom d 0 (n - 1)) (ed_is (ed_lc0 (fun d => .bool (isFrom d 0 (n - 1))) (evj_tup rfl hd2).i (by omega) (fun _ _ => rfl) fun e he x H1 ex hx => ?_) (mapB _ _))) (by rw [allB])
        exact ⟨_, gto_name, rfl, ed_call3 (ead_cons (ed_var rfl hx) (ead_cons (ed_int ev_c) (ead1 (ed_int (ev_op (ev_var rfl) ev_c rv_I0))))) rfl⟩
      refine q_when (b := !(ds.all fun d => isFrom d 0 (n - 1))) (et_or (a := false) (et_not (a := true) (et_B (ev_isi (EvP.x (ed_var rfl hd2)) (kit_tuple _)))) fun _ => et_not (et_B hall)) (fun hb H1 e1 => ?_) fun hb H1 e1 => ?_
      · have hb2 : (ds.all fun d => isFrom d 0 (n - 1)) = false := by
          cases h : ds.all fun d => isFrom d 0 (n - 1) with
          | false => rfl
          | true => rw [h] at hb; cases hb
        have e0 : isLot n (.tuple ds) = false := by
          show ((ds.all fun d => isFrom d 0 (n - 1)) && ascD ds) = false
          rw [hb2]
          rfl
        rw [e0] at q
        exact s_ret0 (ed_bl ev_c) e1 q rfl
      · have hb2 : (ds.all fun d => isFrom d 0 (n - 1)) = true := by
          cases h : ds.all fun d => isFrom d 0 (n - 1) with
          | true => rfl
          | false => rw [h] at hb; cases hb
        have e0 : isLot n (.tuple ds) = ascD ds := by
          show ((ds.all fun d => isFrom d 0 (n - 1)) && ascD ds) = _
          rw [hb2]
          rfl
        rw [e0] at q
        have hints : ∀ d ∈ ds, ∃ i, d = PyData.int i := fun d hdm => by
          obtain ⟨i, h1, _⟩ := isFrom_int (List.all_eq_true.mp hb2 d hdm)
          exact ⟨i, h1⟩
        have hd3 := dp_ex e1 hd2
        refine s_ret0 (ed_bl (ev_is (ev_all (bs := (zipD ds (ds.drop 1)).map ltD) (ed_is (ed_lc0 (fun e => .bool (ltD e)) (evi_zipT (ed_var rfl hd3) (ed_is (ed_slT (ed_var rfl hd3) (eo_some ev_c) eo_none) (by rw [show (1 : Int) = ((1 : Nat) : Int) from rfl, cutD_from]))) ?_ (fun _ _ => rfl) fun e he x H2 ex hx => ?_) (mapB _ _))) (by rw [allB]; rfl))) e1 q rfl
        · rw [zipD_len]
          omega
        · obtain ⟨x1, x2, rfl, m1, m2⟩ := zipD_mem he
          obtain ⟨i1, rfl⟩ := hints x1 m1
          obtain ⟨i2, rfl⟩ := hints x2 (List.mem_of_mem_drop m2)
          obtain ⟨v3, v4, h3, h4, h5⟩ := gto_two (i := 3) (j := 4) (σ := wipe (start ["clocks", "value", "clock", "one", "other"] [.int n, v2]) [3, 4]) hx
          cases dp_int h3
          cases dp_int h4
          exact ⟨_, h5, rfl, ed_bl (ev_op (ev_var rfl) (ev_var rfl) rv_I0)⟩
theorem sc_is_order : FnScope ["clocks", "value", "group", "clock"] ["clocks", "value"] (defScope (topS 24)) := ⟨rfl, rfl, rfl, by decide +kernel, rfl, by decide +kernel, by decide +kernel⟩
theorem lot_ints {n : Int} {g : PyData} (h : isLot n g = true) : ∃ ns : List Int, g = .tuple (ns.map .int) ∧ grp g = ns.map .int ∧ ∀ i ∈ ns, 0 ≤ i ∧ i ≤ n - 1 := by
  cases g with
  | tuple ds =>
    simp only [isLot, Bool.and_eq_true] at h
    have h1 : ∀ l : List PyData, (l.all fun d => isFrom d 0 (n - 1)) = true → ∃ ns : List Int, l = ns.map .int ∧ ∀ i ∈ ns, 0 ≤ i ∧ i ≤ n - 1 := fun l => by
      induction l with
      | nil => intro _; exact ⟨[], rfl, fun _ z => by cases z⟩
      | cons a r ih =>
        intro hl
        simp only [List.all_cons, Bool.and_eq_true] at hl
        obtain ⟨i, rfl, k1, k2⟩ := isFrom_int hl.1
        obtain ⟨ns, rfl, k3⟩ := ih hl.2
        exact ⟨i :: ns, rfl, fun j hj => (List.mem_cons.mp hj).elim (fun z => by rw [z]; exact ⟨k1, k2⟩) (k3 j)⟩
    obtain ⟨ns, rfl, k⟩ := h1 ds h.1
    exact ⟨ns, rfl, rfl, k⟩
  | _ => simp [isLot] at h
theorem int_back (ns : List Int) : (ns.map PyData.int).filterMap int? = ns := by
  rw [List.filterMap_map]
  induction ns with
  | nil => rfl
  | cons a r ih => rw [List.filterMap_cons]; show a :: _ = _; rw [ih]
theorem lots_flat {n : Int} : ∀ {gs : List PyData}, gs.all (isLot n) = true → (gs.map grp).map .tuple = gs ∧ (gs.map grp).flatten = (flatI gs).map .int
  | [], _ => ⟨rfl, rfl⟩
  | g :: r, h => by
    simp only [List.all_cons, Bool.and_eq_true] at h
    obtain ⟨ns, h1, h2, _⟩ := lot_ints h.1
    obtain ⟨h3, h4⟩ := lots_flat h.2
    refine ⟨?_, ?_⟩
    · rw [List.map_cons, List.map_cons, h3, h2, ← h1]
    · unfold flatI at h4 ⊢
      rw [List.map_cons, List.flatten_cons, List.filterMap_append, List.map_append, ← h4, h2, int_back]
theorem ok_is_order (T : Tb mg) (D : DefAt K mg "is_order" (topS 24)) (C_is_lot : Cal P w K mg base "is_lot" 3 ["clocks", "value"] (Sr2 K R_lot)) : Cal P w K mg base "is_order" 4 ["clocks", "value"] (Sr2 K R_ord) := by
  refine cal_of D (fun _ _ _ _ _ _ us hl => match us, hl with | [_, _], _ => rfl) fun f fd F => F.ok sc_is_order (fun vs H Q E h => ?_) (fun cdv A outer s H vs Q E hr h => ?_)
  · obtain ⟨v, v2, d, d2, r, rfl, _⟩ := h
    rfl
  · obtain ⟨v, v2, d, d2, r, rfl, hd, hd2, ⟨n, rfl, h0, h100, hfit, rfl⟩, q⟩ := h
    cases dp_int hd
    refine ⟨_, (pss_cons (ps_if (PW.pt (pw_or (pt_not (pt_val (pe_callB call_isi rfl T.isinstance bt_isinstance (pa_cons (pv 1) (pa_cons (pe_bltn (v := .ty "tuple") rfl T.tuple bt_tuple rfl) pa_nil))))) (pw_or (pt_cmpR (op_eqD hr.units) (pv 1) (pe_tup pa_nil) (nomark _)) (pw_or1 (pt_not (pt_val (pe_callB (cr_all rfl) rfl T.all bt_all (pa_cons (pe_lc (own := [("group", 2)]) (te := (tCall (Sr2 K R_lot) [] E0 (tCons (tVar 0) (tCons (tVar 2) tNil)))) rfl sc_is_order.nd (pi_tup (pv 1)) (blkOk_by (own := [("group", 2)]) (N := ["clocks", "value", "group", "clock"]) (sc := (defScope (topS 24))) (by decide +kernel)) (fun _ _ _ _ _ => (pg_name (i := 2) sc_is_order.nd rfl (.inl rfl))) (fun _ _ _ _ _ => pts_nil) (fun _ _ _ _ _ => (pe_callC C_is_lot hr rfl (pa_cons (pv 0) (pa_cons (pv 2) pa_nil))))) pa_nil)))))))) (pss_one (ps_ret pe_bl)) pss_nil)
      (pss_cons (ps_if (pt_val (pe_callB (cr_any rfl) rfl T.any bt_any (pa_cons (pe_lc (own := [("group", 2)]) (te := (tOp (rEqD K) (tVar 2) (tTup tNil))) rfl sc_is_order.nd (pi_tup (pe_slice sl_tupA (pv 1) (po_some pe_int) po_none)) (blkOk_by (own := [("group", 2)]) (N := ["clocks", "value", "group", "clock"]) (sc := (defScope (topS 24))) (by decide +kernel)) (fun _ _ _ _ _ => (pg_name (i := 2) sc_is_order.nd rfl (.inl rfl))) (fun _ _ _ _ _ => pts_nil) (fun _ _ _ _ _ => (pe_cmpR (op_eqD hr.units) (pv 2) (pe_tup pa_nil) (nomark _)))) pa_nil))) (pss_one (ps_ret pe_bl)) pss_nil)
      (pss_one (ps_ret (pe_cmpR (op_eqD hr.units) (pe_callB cr_sortedI rfl T.sorted bt_sorted (pa_cons (pe_lc2 (own := [("group", 2), ("clock", 3)]) (vs1 := [3]) (wi1 := (iTup K (tVar 2))) (te := (tVar 3)) rfl sc_is_order.nd (pi_tup (pv 1)) (blkOk_by (own := [("group", 2), ("clock", 3)]) (N := ["clocks", "value", "group", "clock"]) (sc := (defScope (topS 24))) (by decide +kernel)) (by decide) (fun _ _ _ _ _ => (pg_name (i := 2) sc_is_order.nd rfl (.inl rfl))) (fun _ _ _ _ _ => pts_nil) (fun _ _ _ _ _ => (pi_tup (pv 2))) (fun _ _ _ _ _ => (pg_name (i := 3) sc_is_order.nd rfl (.inl rfl))) (fun _ _ _ _ _ => pts_nil) (fun _ _ _ _ _ => (pv 3))) pa_nil)) (pe_listRg rfl rfl T.list (prg_1 rfl T.range (pv 0))) (nomark _)))))), ?_⟩
    have no : ∀ d : PyData, isT d = false → isOrd n d = false := fun d h => by cases d <;> first | rfl | cases h
    cases hT : isT d2 with
    | false =>
      refine q_when (b := true) (et_or (a := true) (b := true) (et_not (a := false) (et_B (ev_is (ev_isi (EvP.x (ed_var rfl hd2)) (kit_tuple _)) (by rw [hT])))) fun z => by cases z) (fun _ H1 e1 => ?_) fun z => by cases z
      rw [no d2 hT] at q
      exact s_ret0 (ed_bl ev_c) e1 q rfl
    | true =>
      obtain ⟨gs, rfl⟩ : ∃ ds, d2 = .tuple ds := by cases d2 <;> first | exact ⟨_, rfl⟩ | cases hT
      obtain ⟨hlen, hmem⟩ := fit_tup hfit
      have hE : emptyT (.tuple gs) = gs.isEmpty := by cases gs <;> rfl
      refine q_when (b := gs.isEmpty || !(gs.all (isLot n))) (et_or (a := false) (b := gs.isEmpty || !(gs.all (isLot n))) (et_not (a := true) (et_B (ev_isi (EvP.x (ed_var rfl hd2)) (kit_tuple _)))) fun _ =>
        et_or (et_test (ev_is (ev_eqD (ed_var rfl hd2) (ed_tup ead_nil (by decide)) (hfit.shaped (by decide)) rfl) (by rw [eqv_emptyT, hE]))) fun _ => et_not (et_B (ev_is (ev_all (bs := gs.map (isLot n)) (ed_is (ed_lc0 (fun d => .bool (isLot n d)) (evj_tup rfl hd2).i (by omega) (fun _ _ => rfl) fun e he x H1 ex hx => ?_) (mapB _ _))) (by rw [allB])))) (fun hb H1 e1 => ?_) fun hb H1 e1 => ?_
      · exact ⟨_, gto_name, rfl, ed_callr2 (ead_cons (ed_int (ev_var rfl)) (ead1 (ed_var rfl hx))) ⟨n, rfl, hmem e he, rfl⟩⟩
      · have e0 : isOrd n (.tuple gs) = false := by
          show (!gs.isEmpty && gs.all (isLot n) && !((gs.drop 1).any emptyT) && decide (srt (flatI gs) = rangeI n.toNat)) = false
          have h2 : (!gs.isEmpty && gs.all (isLot n)) = false := by
            cases h3 : gs.isEmpty <;> cases h4 : gs.all (isLot n) <;> simp [h3, h4] at hb ⊢
          rw [h2]
          rfl
        rw [e0] at q
        exact s_ret0 (ed_bl ev_c) e1 q rfl
      · have h2 : (!gs.isEmpty && gs.all (isLot n)) = true := by
          cases h3 : gs.isEmpty <;> cases h4 : gs.all (isLot n) <;> simp [h3, h4] at hb ⊢
        have h4 : gs.all (isLot n) = true := (Bool.and_eq_true_iff.mp h2).2
        have e0 : isOrd n (.tuple gs) = (!((gs.drop 1).any emptyT) && decide (srt (flatI gs) = rangeI n.toNat)) := by
          show (!gs.isEmpty && gs.all (isLot n) && !((gs.drop 1).any emptyT) && decide (srt (flatI gs) = rangeI n.toNat)) = _
          rw [h2, Bool.true_and]
        rw [e0] at q
        have hd3 := dp_ex e1 hd2
        refine q_when (b := (gs.drop 1).any emptyT) (et_B (ev_is (ev_any (bs := (gs.drop 1).map emptyT) (ed_is (ed_lc0 (fun d => .bool (emptyT d)) (evi_tup (ed_is (ed_slT (ed_var rfl hd3) (eo_some ev_c) eo_none) (by rw [show (1 : Int) = ((1 : Nat) : Int) from rfl, cutD_from]))) (by rw [List.length_drop]; omega) (fun _ _ => rfl) fun e he x H2 ex hx => ?_) (mapB _ _))) (by rw [anyB]))) (fun hb2 H2 e2 => ?_) fun hb2 H2 e2 => ?_
        · exact ⟨_, gto_name, rfl, ed_bl (ev_is (ev_eqD (ed_var rfl hx) (ed_tup ead_nil (by decide)) ((hmem e (List.mem_of_mem_drop he)).shaped (by decide)) rfl) (by rw [eqv_emptyT]))⟩
        · rw [hb2] at q
          exact s_ret0 (ed_bl ev_c) (e1.trans e2) q rfl
        · rw [hb2] at q
          have hd4 := dp_ex e2 hd3
          obtain ⟨f1, f2⟩ := lots_flat h4
          refine s_ret0 (ed_bl (ev_is (ev_eqD (ed_sorted (ns := flatI gs) (ed_is (ed_flat (gss := gs.map grp) (by rw [f1]; exact (evj_tup rfl hd4).i) (by rw [List.length_map]; omega) (fun z hz => ?_) (fun z hz => ?_) (fun _ => rfl) (fun _ => rfl) (fun _ _ => rfl) fun _ _ => rfl) (by rw [f2])))
            (ed_listRg1 (n := n.toNat) (ev_is (ev_var rfl) (by rw [Int.toNat_of_nonneg h0])) (by omega)) (shaped_ints _) (shaped_ints _)) (by rw [eqv_ints]; rfl))) (e1.trans e2) q rfl
          · obtain ⟨g, hg, rfl⟩ := List.mem_map.mp hz
            have hfg := hmem g hg
            cases g with
            | tuple ds => exact Nat.le_trans (fit_tup hfg).1 (by decide)
            | _ => exact Nat.zero_le _
          · obtain ⟨g, hg, rfl⟩ := List.mem_map.mp hz
            obtain ⟨ns, k1, k2, _⟩ := lot_ints (List.all_eq_true.mp h4 g hg)
            rw [k2]
            exact noLs_all fun d hd => by
              obtain ⟨i, _, rfl⟩ := List.mem_map.mp hd
              rfl
/-- the class promises take an empty dict too -/
def SpCls (K : PySem.W.Frag) (f : Int → PyData → Bool) : Sp := fun vs H Q _ => ∃ v2 n d2, vs = [.int n, v2] ∧ DpX K H v2 d2 ∧ 1 ≤ n ∧ n ≤ 3 ∧ (isT d2 = true → fit 60 d2) ∧ RetD K (.bool (f n d2)) H Q
theorem not_cls {n : Int} {d : PyData} (h : isT d = false) : isCls n d = false := by cases d <;> first | rfl | cases h
theorem sc_is_class_of : FnScope ["clocks", "value", "wholes", "order", "whole", "clock"] ["clocks", "value"] (defScope (topS 25)) := ⟨rfl, rfl, rfl, by decide +kernel, rfl, by decide +kernel, by decide +kernel⟩
theorem ok_is_class_of (T : Tb mg) (D : DefAt K mg "is_class_of" (topS 25)) (C_is_from : Cal P w K mg base "is_from" 2 ["value", "least", "most"] (Sp3 K f_from)) (C_is_order : Cal P w K mg base "is_order" 4 ["clocks", "value"] (Sr2 K R_ord)) : Cal P w K mg base "is_class_of" 5 ["clocks", "value"] (SpCls K isCls) := by
  refine cal_of D (fun _ _ _ _ _ _ us hl => match us, hl with | [_, _], _ => rfl) fun f fd F => F.ok sc_is_class_of (fun vs H Q E h => ?_) (fun cdv A outer s H vs Q E hr h => ?_)
  · obtain ⟨v, v2, d, rfl, _⟩ := h
    rfl
  · obtain ⟨v2, n, d2, rfl, hX, hn1, hn3, hfit, q⟩ := h
    refine ⟨_, (pss_cons (ps_if (PW.pt (pw_or (pt_not (pt_val (pe_callB call_isi rfl T.isinstance bt_isinstance (pa_cons (pv 1) (pa_cons (pe_bltn (v := .ty "tuple") rfl T.tuple bt_tuple rfl) pa_nil))))) (pw_or (pt_cmpR op_ne (pe_callB call_len_seq rfl T.len bt_len (pa_cons (pv 1) pa_nil)) (pe_gint rfl T.PAIR_classes) (nomark _)) (pw_or1 (pt_not (pt_val (pe_callB call_isi rfl T.isinstance bt_isinstance (pa_cons (pe_ix ix_tup (pv 1) pe_int (fun _ _ => rfl)) (pa_cons (pe_bltn (v := .ty "tuple") rfl T.tuple bt_tuple rfl) pa_nil))))))))) (pss_one (ps_ret pe_bl)) pss_nil)
      (pss_cons (ps_asg (pv 1) (pg_tup rfl (pgs_cons (pg_name (i := 2) sc_is_class_of.nd rfl (.inl rfl)) (pgs_cons (pg_name (i := 3) sc_is_class_of.nd rfl (.inr rfl)) pgs_nil))))
      (pss_cons (ps_if (PW.pt (pw_or (pt_cmpR op_ne (pe_callB call_len_seq rfl T.len bt_len (pa_cons (pv 2) pa_nil)) (pv 0) (nomark _)) (pw_or1 (pt_not (pt_val (pe_callB (cr_all rfl) rfl T.all bt_all (pa_cons (pe_lc (own := [("whole", 4)]) (te := (tCall (Sp3 K f_from) [] E0 (tCons (tVar 4) (tCons (tC (.int 0)) (tCons (tC (.int 4)) tNil))))) rfl sc_is_class_of.nd (pi_tup (pv 2)) (blkOk_by (own := [("whole", 4)]) (N := ["clocks", "value", "wholes", "order", "whole", "clock"]) (sc := (defScope (topS 25))) (by decide +kernel)) (fun _ _ _ _ _ => (pg_name (i := 4) sc_is_class_of.nd rfl (.inl rfl))) (fun _ _ _ _ _ => pts_nil) (fun _ _ _ _ _ => (pe_callC C_is_from hr rfl (pa_cons (pv 4) (pa_cons pe_int (pa_cons (pe_gint rfl T.MOST_NUMBER) pa_nil)))))) pa_nil))))))) (pss_one (ps_ret pe_bl)) pss_nil)
      (pss_cons (ps_if (pt_not (pt_val (pe_callC C_is_order hr rfl (pa_cons (pv 0) (pa_cons (pv 3) pa_nil))))) (pss_one (ps_ret pe_bl)) pss_nil)
      (pss_one (ps_ret (pe_callB (cr_all rfl) rfl T.all bt_all (pa_cons (pe_lc (own := [("clock", 5), ("whole", 4)]) (g := (gTup K 2 (gCons (gName 5) (gCons (gName 4) gNil)))) (te := (tOrV (tOp (rI0 fun i j => .bl (decide (i < j))) (tVar 4) (tC (.int 4))) (tOp (Xr.rInT K) (tVar 5) (tOp (rIxT K) (tVar 3) (tC (.int 0)))))) rfl sc_is_class_of.nd (Xr.pi_enumT rfl T.enumerate (pa_cons (pv 2) pa_nil)) (blkOk_by (own := [("clock", 5), ("whole", 4)]) (N := ["clocks", "value", "wholes", "order", "whole", "clock"]) (sc := (defScope (topS 25))) (by decide +kernel)) (fun _ _ _ _ _ => (pg_tup rfl (pgs_cons (pg_name (i := 5) sc_is_class_of.nd rfl (.inl rfl)) (pgs_cons (pg_name (i := 4) sc_is_class_of.nd rfl (.inl rfl)) pgs_nil)))) (fun _ _ _ _ _ => pts_nil) (fun _ _ _ _ _ => (pe_or (pe_cmpR op_lt (pv 4) (pe_gint rfl T.MOST_NUMBER) (nomark _)) (pe_one (pe_cmpR (Xr.op_inT (u65 hr)) (pv 5) (pe_ix ix_tup (pv 3) pe_int (fun _ _ => rfl)) (by rfl)))))) pa_nil)))))))), ?_⟩
    have hvx : EvP (tVar 1) (start ["clocks", "value", "wholes", "order", "whole", "clock"] [.int n, v2]) H fun v H1 => DpX K H1 v d2 := fun H1 e Q q => ⟨v2, rfl, q v2 H1 (Ex.refl _) (dpx_ex e hX)⟩
    cases hT : isT d2 with
    | false =>
      refine q_when (b := true) (et_or (a := true) (b := true) (et_not (a := false) (et_B (ev_is (ev_isi hvx (kit_tuple _)) (by rw [hT])))) fun z => by cases z) (fun _ H1 e1 => ?_) fun z => by cases z
      rw [not_cls hT] at q
      exact s_ret0 (ed_bl ev_c) e1 q rfl
    | true =>
      obtain ⟨ps, rfl⟩ : ∃ ds, d2 = .tuple ds := by cases d2 <;> first | exact ⟨_, rfl⟩ | cases hT
      have hd2 : Dp K H v2 (.tuple ps) := by
        rcases hX with h | ⟨h, _⟩
        · exact h
        · cases h
      have hf := hfit rfl
      obtain ⟨hlen, hmem⟩ := fit_tup hf
      -- what is no pair with a tuple in front is none
      have bad : (ps.length = 2 → ∀ d0 d1, ps = [d0, d1] → isT d0 = false) → isCls n (.tuple ps) = false := fun h => by
        unfold isCls
        split
        · rename_i e
          cases e
          have := h rfl _ _ rfl
          cases this
        · rfl
      by_cases h2 : ps.length = 2
      · obtain ⟨d0, d1, rfl⟩ : ∃ d0 d1, ps = [d0, d1] := by
          match ps, h2 with
          | [a, b], _ => exact ⟨a, b, rfl⟩
        refine q_when (b := !(isT d0)) (et_or (a := false) (b := !(isT d0)) (et_not (a := true) (et_B (ev_isi hvx (kit_tuple _)))) fun _ => et_or (a := false) (b := !(isT d0)) (et_test (ev_op (ev_lenT (ed_var rfl hd2)) ev_c (rv_ne rfl))) fun _ =>
          et_not (et_B (ev_isi (EvP.x (ed_ixT (ed_var rfl hd2) ev_c rfl)) (kit_tuple _)))) (fun hb H1 e1 => ?_) fun hb H1 e1 => ?_
        · have hb2 : isT d0 = false := by cases h : isT d0 with
            | false => rfl
            | true => rw [h] at hb; cases hb
          rw [bad fun _ a b e => by cases e; exact hb2] at q
          exact s_ret0 (ed_bl ev_c) e1 q rfl
        · have hb2 : isT d0 = true := by cases h : isT d0 with
            | true => rfl
            | false => rw [h] at hb; cases hb
          obtain ⟨ws, rfl⟩ : ∃ ds, d0 = .tuple ds := by cases d0 <;> first | exact ⟨_, rfl⟩ | cases hb2
          have hf0 : fit 60 (.tuple ws) := hmem _ (by simp)
          have hf1 : fit 60 d1 := hmem _ (by simp)
          obtain ⟨wlen, wmem⟩ := fit_tup hf0
          refine s_asgG rfl (dp_ex e1 hd2) fun u0 u1 p0 p1 => ?_
          refine q_when (b := !(decide ((ws.length : Int) = n)) || !(ws.all fun d => isFrom d 0 4)) (et_or (et_test (ev_is (ev_op (ev_lenT (ed_var rfl p0)) (ev_var rfl) (rv_ne rfl)) ?_)) fun _ =>
            et_not (et_B (ev_is (ev_all (bs := ws.map fun d => isFrom d 0 4) (ed_is (ed_lc0 (fun d => .bool (isFrom d 0 4)) (evj_tup rfl p0).i (by omega) (fun _ _ => rfl) fun e he x H2 ex hx => ?_) (mapB _ _))) (by rw [allB])))) (fun hb3 H2 e2 => ?_) fun hb3 H2 e2 => ?_
          · congr 2
            rw [Bool.eq_iff_iff]
            simp
          · exact ⟨_, gto_name, rfl, ed_call3 (ead_cons (ed_var rfl hx) (ead_cons (ed_int ev_c) (ead1 (ed_int ev_c)))) rfl⟩
          · have e0 : isCls n (.tuple [.tuple ws, d1]) = false := by
              show (decide ((ws.length : Int) = n) && (ws.all fun d => isFrom d 0 4) && isOrd n d1 && topOk ws d1) = false
              have h5 : (decide ((ws.length : Int) = n) && (ws.all fun d => isFrom d 0 4)) = false := by
                cases h6 : decide ((ws.length : Int) = n) <;> cases h7 : (ws.all fun d => isFrom d 0 4) <;> simp [h6, h7] at hb3 ⊢
              rw [h5]
              rfl
            rw [e0] at q
            exact s_ret0 (ed_bl ev_c) (e1.trans e2) q rfl
          · have h5 : (decide ((ws.length : Int) = n) && (ws.all fun d => isFrom d 0 4)) = true := by
              cases h6 : decide ((ws.length : Int) = n) <;> cases h7 : (ws.all fun d => isFrom d 0 4) <;> simp [h6, h7] at hb3 ⊢
            have e0 : isCls n (.tuple [.tuple ws, d1]) = (isOrd n d1 && topOk ws d1) := by
              show (decide ((ws.length : Int) = n) && (ws.all fun d => isFrom d 0 4) && isOrd n d1 && topOk ws d1) = _
              rw [h5, Bool.true_and]
            rw [e0] at q
            have p02 := dp_ex e2 p0
            have p12 := dp_ex e2 p1
            refine q_when (b := !(isOrd n d1)) (et_not (et_B (ev_bl (ed_callr2 (ead_cons (ed_int (ev_var rfl)) (ead1 (ed_var rfl p12))) ⟨n, rfl, by omega, by omega, hf1, rfl⟩)))) (fun hb4 H3 e3 => ?_) fun hb4 H3 e3 => ?_
            · have h8 : isOrd n d1 = false := by cases h : isOrd n d1 with
                | false => rfl
                | true => rw [h] at hb4; cases hb4
              rw [h8] at q
              exact s_ret0 (ed_bl ev_c) ((e1.trans e2).trans e3) q rfl
            · have h8 : isOrd n d1 = true := by cases h : isOrd n d1 with
                | true => rfl
                | false => rw [h] at hb4; cases hb4
              rw [h8, Bool.true_and] at q
              have p03 := dp_ex e3 p02
              have p13 := dp_ex e3 p12
              -- the first group
              obtain ⟨g, gr, rfl, hg⟩ : ∃ g gr, d1 = .tuple (g :: gr) ∧ isLot n g = true := by
                cases d1 with
                | tuple gs =>
                  simp only [isOrd, Bool.and_eq_true] at h8
                  cases gs with
                  | nil => simp at h8
                  | cons g gr =>
                    have := h8.1.1.2
                    simp only [List.all_cons, Bool.and_eq_true] at this
                    exact ⟨g, gr, rfl, this.1⟩
                | _ => simp [isOrd] at h8
              obtain ⟨ns, rfl, hgr, _⟩ := lot_ints hg
              have hfg : fit 60 (.tuple (ns.map .int)) := (fit_tup hf1).2 _ List.mem_cons_self
              have hwi : ∀ d ∈ ws, ∃ i, d = PyData.int i := fun d hdm => by
                obtain ⟨i, h1, _⟩ := isFrom_int (List.all_eq_true.mp (Bool.and_eq_true_iff.mp h5).2 d hdm)
                exact ⟨i, h1⟩
              refine s_ret0 (ed_bl (ev_is (ev_all (bs := (enumD ws).map (topE (.tuple (.tuple (ns.map .int) :: gr)))) (ed_is (ed_lc0 (fun e => .bool (topE (.tuple (.tuple (ns.map .int) :: gr)) e)) (evj_enumT rfl p03).i (by rw [enumD_len]; omega) (fun _ _ => rfl) fun e he x H4 ex hx => ?_) (mapB _ _))) (by rw [allB]; rfl))) ((e1.trans e2).trans e3) q rfl
              obtain ⟨i, y, rfl, hy⟩ := enumD_mem he
              obtain ⟨j, rfl⟩ := hwi y (List.mem_of_getElem? hy)
              obtain ⟨v3, v4, k3, k4, k5⟩ := gto_two (i := 5) (j := 4) (σ := wipe [some (.int n), some v2, some u0, some u1, none, none] [5, 4]) hx
              cases dp_int k3
              cases dp_int k4
              refine ⟨_, k5, rfl, ed_bl (ev_orV (ev_op (ev_var rfl) ev_c rv_I0) fun _ => ev_is (ev_inT (ed_int (ev_var rfl)) (ed_ixT (ed_var rfl (dp_ex ex p13)) ev_c (atI_nat (j := 0) rfl)) rfl (hfg.shaped (by decide))) rfl)⟩
      · refine q_when (b := true) (et_or (a := false) (b := true) (et_not (a := true) (et_B (ev_isi hvx (kit_tuple _)))) fun _ => et_or (a := true) (b := true) (et_test (ev_is (ev_op (ev_lenT (ed_var rfl hd2)) ev_c (rv_ne rfl)) ?_)) fun z => by cases z) (fun hb H1 e1 => ?_) fun z => by cases z
        · congr 1
          rw [Bool.not_eq_true', decide_eq_false_iff_not]
          intro z
          have := V.int.inj z
          omega
        · rw [bad fun h => absurd h h2] at q
          exact s_ret0 (ed_bl ev_c) e1 q rfl
end
end Kb
/-! D6: the class of readings, as the program tells it. -/
namespace Kb
open PySem PySem.Spec PyProof.Rows L2 Evl Xd
/-! ### the mathematics -/
def dd : List Int → List Int
  | [] => []
  | x :: xs => x :: (dd xs).filter fun y => decide (y ≠ x)
theorem dd_mem : ∀ {l : List Int} {k : Int}, k ∈ dd l ↔ k ∈ l
  | [], k => Iff.rfl
  | x :: xs, k => by
    show k ∈ x :: (dd xs).filter _ ↔ _
    rw [List.mem_cons, List.mem_cons, List.mem_filter, dd_mem, decide_eq_true_eq]
    constructor
    · rintro (h | h)
      · exact .inl h
      · exact .inr h.1
    · rintro (h | h)
      · exact .inl h
      · by_cases e : k = x
        · exact .inl e
        · exact .inr ⟨h, e⟩
theorem dd_nodup : ∀ l : List Int, (dd l).Nodup
  | [] => List.nodup_nil
  | x :: xs => by
    show (x :: (dd xs).filter _).Nodup
    rw [List.nodup_cons]
    refine ⟨fun h => ?_, (dd_nodup xs).filter _⟩
    have := (List.mem_filter.mp h).2
    simp at this
/-- the places (from 0) at which k stands -/
def idx (ks : List Int) (k : Int) : List Int := ((List.range ks.length).filter fun i => decide (ks[i]? = some k)).map fun (i : Nat) => (i : Int)
theorem idx_none {ks : List Int} {k : Int} (h : k ∉ ks) : idx ks k = [] := by
  unfold idx
  rw [List.filter_eq_nil_iff.mpr, List.map_nil]
  intro i _ z
  exact h (List.mem_of_getElem? (of_decide_eq_true z))
theorem idx_snoc (ks : List Int) (x k : Int) : idx (ks ++ [x]) k = idx ks k ++ (if x = k then [(ks.length : Int)] else []) := by
  unfold idx
  rw [List.length_append, List.length_singleton, List.range_succ, List.filter_append, List.map_append]
  congr 1
  · congr 1
    refine List.filter_congr fun i hi => ?_
    rw [List.getElem?_append_left (List.mem_range.mp hi)]
  · rw [List.filter_cons, List.getElem?_append_right (Nat.le_refl _), Nat.sub_self]
    by_cases h : x = k
    · simp [h]
    · simp [h]
def ordK (ks : List Int) : List (List Int) := (srt (dd (0 :: ks))).map fun k => idx ks k
def prodB (rs : List (Int × Int)) : Int := rs.foldl (fun a p => a * p.2) 1
def keyR (B : Int) (p : Int × Int) : Int := (p.1 - p.1 / p.2 * p.2) * (B / p.2)
def keysR (rs : List (Int × Int)) : List Int := rs.map (keyR (prodB rs))
def classOf (rs : List (Int × Int)) : List Int × List (List Int) := (rs.map fun p => p.1 / p.2, ordK (keysR rs))
def ordD (o : List (List Int)) : PyData := .tuple (o.map fun g => .tuple (g.map .int))
def clsD (c : List Int × List (List Int)) : PyData := .tuple [.tuple (c.1.map .int), ordD c.2]
theorem srt_set {a b : List Int} (ha : a.Nodup) (hb : b.Nodup) (h : ∀ k, k ∈ a ↔ k ∈ b) : srt a = srt b :=
  srt_eq ((srt_perm a).trans ((List.perm_ext_iff_of_nodup ha hb).mpr h)) (srt_up a)
/-- readings that class_in takes -/
def wide (p : Int × Int) : Prop := 0 ≤ p.1 ∧ p.1 < 2 ^ 210 ∧ 0 < p.2 ∧ p.2 < 2 ^ 200
theorem prodB_take {rs : List (Int × Int)} {i : Nat} {p : Int × Int} (h : rs[i]? = some p) : prodB (rs.take (i + 1)) = prodB (rs.take i) * p.2 := by
  unfold prodB
  rw [List.take_add_one, h, List.foldl_append]
  rfl
theorem natAbs_lt {a : Int} {n : Nat} (h0 : 0 ≤ a) (h : a < ((2 ^ n : Nat) : Int)) : a.natAbs < 2 ^ n := by omega
theorem prodB_lt {rs : List (Int × Int)} (h : ∀ p ∈ rs, wide p) : ∀ i, i ≤ rs.length → 0 < prodB (rs.take i) ∧ (prodB (rs.take i)).natAbs < 2 ^ (200 * i + 1)
  | 0, _ => by
    rw [List.take_zero]
    exact ⟨by decide, by decide⟩
  | i + 1, hi => by
    obtain ⟨h1, h2⟩ := prodB_lt h i (by omega)
    have hp : wide rs[i] := h _ (List.getElem_mem (by omega))
    obtain ⟨_, _, h3, h4⟩ := hp
    rw [prodB_take (List.getElem?_eq_getElem (show i < rs.length by omega))]
    refine ⟨Int.mul_pos h1 h3, ?_⟩
    have h5 : (rs[i].2).natAbs < 2 ^ 200 := natAbs_lt (Int.le_of_lt h3) (by exact_mod_cast h4)
    have h6 := wide_lt h2 h5
    rw [show 200 * (i + 1) + 1 = 200 * i + 1 + 200 by omega]
    exact h6

/-- the dict of the groups behind i turns -/
def Fd (K : PySem.W.Frag) (H : Hp) (ks : List Int) (kvs : List (Key × V)) : Prop :=
  (∃ js : List Int, kvs.map (·.1) = js.map Sum.inl ∧ js.Nodup ∧ js.length ≤ ks.length + 1 ∧ ∀ k, k ∈ js ↔ k = 0 ∨ k ∈ ks) ∧ ∀ k v, valV kvs (Sum.inl k) = some v → Dp K H v (.tuple ((idx ks k).map .int))
theorem noL_ints (ns : List Int) : noL (.tuple (ns.map .int)) = true := by
  simp only [noL]
  exact noLs_all fun d hd => by
    obtain ⟨i, _, rfl⟩ := List.mem_map.mp hd
    rfl
theorem Fd.kt {K : PySem.W.Frag} {H H1 : Hp} {ks : List Int} {kvs : List (Key × V)} (h : Fd K H ks kvs) (k : Kt H H1) : Fd K H1 ks kvs :=
  ⟨h.1, fun j v e => dp_kt k (noL_ints _) (h.2 j v e)⟩
theorem Fd.none {K : PySem.W.Frag} {H : Hp} {ks : List Int} {kvs : List (Key × V)} {k : Int} (h : Fd K H ks kvs) (e : valV kvs (Sum.inl k) = none) : k ∉ ks := fun m => by
  obtain ⟨⟨js, h1, _, _, h4⟩, _⟩ := h
  have := valV_not e
  rw [h1] at this
  exact this (List.mem_map.mpr ⟨k, (h4 k).mpr (.inr m), rfl⟩)
theorem Fd.has {K : PySem.W.Frag} {H : Hp} {ks : List Int} {kvs : List (Key × V)} {k : Int} (h : Fd K H ks kvs) (e : k = 0 ∨ k ∈ ks) : ∃ v, valV kvs (Sum.inl k) = some v := by
  obtain ⟨⟨js, h1, _, _, h4⟩, _⟩ := h
  cases q : valV kvs (Sum.inl k) with
  | some v => exact ⟨v, rfl⟩
  | none =>
    have := valV_not q
    rw [h1] at this
    exact absurd (List.mem_map.mpr ⟨k, (h4 k).mpr e, rfl⟩) this
theorem keys_put_in {kvs : List (Key × V)} {k : Key} {v z : V} (h : valV kvs k = some z) : (putK kvs k v).map (·.1) = kvs.map (·.1) := by
  unfold putK
  rw [valV_any, h]
  show (if true = true then _ else _ : List (Key × V)).map _ = _
  rw [if_pos rfl, List.map_map]
  refine List.map_congr_left fun p _ => ?_
  show (if p.1 = k then (p.1, v) else p).1 = p.1
  split <;> rfl
theorem Fd.put {K : PySem.W.Frag} {H : Hp} {ks : List Int} {kvs : List (Key × V)} {x : Int} {v : V} (h : Fd K H ks kvs) (hv : Dp K H v (.tuple ((idx ks x ++ [(ks.length : Int)]).map .int))) : Fd K H (ks ++ [x]) (putK kvs (Sum.inl x) v) := by
  refine ⟨?_, fun k z e => ?_⟩
  · cases q : valV kvs (Sum.inl x) with
    | some z =>
      obtain ⟨⟨js, h1, h2, h3, h4⟩, _⟩ := id h
      refine ⟨js, by rw [keys_put_in q, h1], h2, by rw [List.length_append]; simp; omega, fun k => ?_⟩
      have hx : x = 0 ∨ x ∈ ks := by
        have m := valV_in q
        rw [h1] at m
        obtain ⟨j, hj, e⟩ := List.mem_map.mp m
        cases e
        exact (h4 x).mp hj
      rw [h4, List.mem_append, List.mem_singleton]
      constructor
      · rintro (e | e)
        · exact .inl e
        · exact .inr (.inl e)
      · rintro (e | e | e)
        · exact .inl e
        · exact .inr e
        · rw [e]; exact hx
    | none =>
      obtain ⟨⟨js, h1, h2, h3, h4⟩, _⟩ := id h
      have hx : x ∉ js := fun m => by
        have := valV_not q
        rw [h1] at this
        exact this (List.mem_map.mpr ⟨x, m, rfl⟩)
      refine ⟨js ++ [x], by rw [putK_new v q, List.map_append, h1, List.map_append]; rfl, ?_, by rw [List.length_append, List.length_append]; simp; omega, fun k => ?_⟩
      · rw [List.nodup_append]
        exact ⟨h2, by simp, fun a ha b hb e => hx (by rw [List.mem_singleton.mp hb] at e; rw [← e]; exact ha)⟩
      · rw [List.mem_append, List.mem_append, List.mem_singleton, h4]
        constructor
        · rintro ((e | e) | e)
          · exact .inl e
          · exact .inr (.inl e)
          · exact .inr (.inr e)
        · rintro (e | e | e)
          · exact .inl (.inl e)
          · exact .inl (.inr e)
          · exact .inr e
  · rw [valV_put] at e
    rw [idx_snoc]
    by_cases hk : (Sum.inl k : Key) = Sum.inl x
    · cases hk
      rw [if_pos rfl] at e
      cases e
      rw [if_pos rfl]
      exact hv
    · rw [if_neg hk] at e
      rw [if_neg (fun z => hk (by rw [z])), List.append_nil]
      exact h.2 k z e
def gOf (ks : List Int) : PyData → PyData
  | .int k => .tuple ((idx ks k).map .int)
  | _ => .none
def R_classin (d r : PyData) : Prop := ∃ rs : List (Int × Int), d = rdD rs ∧ rs.length ≤ 3 ∧ (∀ x ∈ rs, wide x) ∧ r = clsD (classOf rs)
/-- sorted(found), found a dict with whole numbers as keys -/
def rSortD : List V → Hp → VK → Prop := fun xs H Q => ∃ (a : Addr) (kvs : List (Key × V)) (ks : List Int), xs = [.ref a] ∧ Rd H a (.dK kvs) ∧ kvs.map (·.1) = ks.map Sum.inl ∧ ks.length < 64 ∧
    ∀ (ys : List Int) (p : Addr), ys.Perm ks → ys.Pairwise (· ≤ ·) → H p = none → Q (.ref p) (upd H p (.lst (ys.map V.int)))
theorem ed_sortD {K : PySem.W.Frag} {te : TE} {σ : L2.St} {H : Hp} {p : Addr} {kvs : List (Key × V)} {js : List Int} (h : Ev te σ H (.ref p)) (hp : H p = some (.dK kvs)) (h1 : kvs.map (·.1) = js.map Sum.inl) (h64 : js.length < 64) :
    EvD K (tCB rSortD (tCons te tNil)) σ H (.list ((srt js).map .int)) := fun H1 e Q q => h H1 e _ fun H2 e2 =>
  ⟨p, kvs, js, rfl, .inl ((e.trans e2) _ _ hp), h1, h64, fun ys l hy ho hl => q _ _ (e2.trans (Ex.new hl)) (dp_newL upd_same (by
    rw [srt_eq hy ho]
    exact ints_dpAll _))⟩
theorem q_asgT2 {K : PySem.W.Frag} {t1 t2 : TE} {g : TG} {tz : TS} {D : Ends} {σ : L2.St} {H : Hp} {d1 : PyData} (h1 : EvD K t1 σ H d1)
    (k : ∀ u H1, Ex H H1 → Dp K H1 u d1 → t2 σ H1 (fun w H2 => [u, w].length ≤ sizeLine ∧ ∀ p, H2 p = none → g (.ref p) σ (upd H2 p (.tup [u, w])) (tz D))) : tSeq (tAsg (tTup (tCons t1 (tCons t2 tNil))) g) tz D σ H :=
  h1 H (Ex.refl H) _ fun u H1 e p => k u H1 e p
section
variable {P : Program} {w : World} {K : PySem.W.Frag} {mg : Str → Option Value} {base : Heap}
theorem sc_class_in : FnScope ["readings", "bottom", "reading", "wholes", "found", "clock", "top", "under", "rest"] ["readings"] (defScope (topS 27)) := ⟨rfl, rfl, rfl, by decide +kernel, rfl, by decide +kernel, by decide +kernel⟩
set_option maxRecDepth 200000 in
theorem ok_class_in (T : Tb mg) (D : DefAt K mg "class_in" (topS 27)) (C_whole_in : Cal P w K mg base "whole_in" 1 ["one"] (Sp1 K f_whole_in)) : Cal P w K mg base "class_in" 2 ["readings"] (Sr1 K R_classin) := by
  refine cal_of D (fun _ _ _ _ _ _ us hl => match us, hl with | [_], _ => rfl) fun f fd F => F.ok sc_class_in (fun vs H Q E h => ?_) (fun cdv A outer s H vs Q E hr h => ?_)
  · obtain ⟨v, d, r, rfl, _⟩ := h
    rfl
  · obtain ⟨v, d, r, rfl, hd, ⟨rs, rfl, hlen, hw, rfl⟩, q⟩ := h
    refine ⟨_, (pss_cons (ps_set (i := 1) sc_class_in.nd rfl (.inl rfl) pe_int)
      (pss_cons (ps_for PassesOwn.never rfl (pi_tup (pv 0)) (pg_name (i := 2) sc_class_in.nd rfl (.inl rfl)) (pss_one (ps_aug (i := 1) sc_class_in.nd rfl (.inl rfl) (pe_ix ix_tup (pv 2) pe_int (fun _ _ => rfl)) Xr.ip_mulW)))
      (pss_cons (ps_asg (pe_tup (pa_cons (pe_callTy call_tuple_of rfl T.tuple bt_tuple (pa_cons (pe_lc (own := [("reading", 2)]) (te := (tCall (Sp1 K f_whole_in) [] E0 (tCons (tVar 2) tNil))) rfl sc_class_in.nd (pi_tup (pv 0)) (blkOk_by (own := [("reading", 2)]) (N := ["readings", "bottom", "reading", "wholes", "found", "clock", "top", "under", "rest"]) (sc := (defScope (topS 27))) (by decide +kernel)) (fun _ _ _ _ _ => (pg_name (i := 2) sc_class_in.nd rfl (.inl rfl))) (fun _ _ _ _ _ => pts_nil) (fun _ _ _ _ _ => (pe_callC C_whole_in hr rfl (pa_cons (pv 2) pa_nil)))) pa_nil)) (pa_cons (pe_disp (pps_cons pe_int (pe_tup pa_nil) pps_nil) (by rfl) (by rfl) (fun z => by cases z) (by decide)) pa_nil))) (pg_tup rfl (pgs_cons (pg_name (i := 3) sc_class_in.nd rfl (.inl rfl)) (pgs_cons (pg_name (i := 4) sc_class_in.nd rfl (.inr rfl)) pgs_nil))))
      (pss_cons (ps_for PassesOwn.never rfl (Xr.pi_enumT rfl T.enumerate (pa_cons (pv 0) pa_nil)) (pg_tup rfl (pgs_cons (pg_name (i := 5) sc_class_in.nd rfl (.inl rfl)) (pgs_cons (pg_tup rfl (pgs_cons (pg_name (i := 6) sc_class_in.nd rfl (.inl rfl)) (pgs_cons (pg_name (i := 7) sc_class_in.nd rfl (.inl rfl)) pgs_nil))) pgs_nil))) (pss_cons (ps_set (i := 8) sc_class_in.nd rfl (.inl rfl) (pe_op op_mulW (pe_op op_sub (pv 6) (pe_op op_mulW (pe_ix ix_tup (pv 3) (pv 5) (fun _ _ => rfl)) (pv 7))) (pe_op op_fdivW (pv 1) (pv 7))))
      (pss_one (ps_dput (hu_of hr) (pv 4) (pv 8) (pe_tup (StX.pa_star (pe_dget2 (hu_of hr) (pv 4) (pv 8) (pe_tup pa_nil) ⟨rfl, rfl, rfl, rfl⟩) (pa_cons (pv 5) pa_nil))) rfl))))
      (pss_one (ps_ret (pe_tup (pa_cons (pv 3) (pa_cons (pe_callTy call_tuple_of rfl T.tuple bt_tuple (pa_cons (pe_lc (own := [("rest", 8)]) (te := (tDGet (tVar 4) (tVar 8))) rfl sc_class_in.nd (pi_list (pe_callB (call_sortedDI rfl) (by rfl) T.sorted bt_sorted (pa_cons (pv 4) pa_nil))) (blkOk_by (own := [("rest", 8)]) (N := ["readings", "bottom", "reading", "wholes", "found", "clock", "top", "under", "rest"]) (sc := (defScope (topS 27))) (by decide +kernel)) (fun _ _ _ _ _ => (pg_name (i := 8) sc_class_in.nd rfl (.inl rfl))) (fun _ _ _ _ _ => pts_nil) (fun _ _ _ _ _ => (pe_dget (hu_of hr) (pv 4) (pv 8) (fun _ _ => rfl)))) pa_nil)) pa_nil))))))))), ?_⟩
    have hB : (prodB rs).natAbs < 2 ^ 601 ∧ 0 < prodB rs := by
      have h1 := prodB_lt hw rs.length (Nat.le_refl _)
      rw [List.take_length] at h1
      exact ⟨Nat.lt_of_lt_of_le h1.2 (Nat.pow_le_pow_right (by decide) (by omega)), h1.1⟩
    generalize hws : (rs.map fun p => p.1 / p.2) = ws
    generalize hks : keysR rs = ks
    have hkl : ks.length = rs.length := by
      rw [← hks]
      exact List.length_map ..
    refine q_asg ev_c fun H1 e1 => ?_
    refine q_forJ (H0 := H) (evj_tup rfl hd) e1 (fun i σ' H' => ∃ y2, σ' = [some v, some (.int (prodB (rs.take i))), y2, none, none, none, none, none, none] ∧ Ex H H') (fun H2 e2 => ⟨none, rfl, e1.trans e2⟩) (fun i σ' H' p => by obtain ⟨_, _, p⟩ := p; exact p) (fun i e x σ' H' he hp H2 e2 hx => ?_) fun σ' H' hp => ?_
    · obtain ⟨y2, rfl, ex⟩ := hp
      rw [List.getElem?_map] at he
      cases hp : rs[i]? with
      | none => rw [hp] at he; cases he
      | some p =>
        rw [hp] at he
        cases he
        have hi := (List.getElem?_eq_some_iff.mp hp).1
        obtain ⟨w1, w2, w3, w4⟩ := hw p (List.mem_of_getElem? hp)
        have hb := prodB_lt hw i (by omega)
        refine ⟨.int (prodB (rs.take i)), rfl, ev_int (i := p.2) (ed_ixT (ed_var rfl hx) ev_c rfl) H2 (Ex.refl _) _ fun H3 e3 => ⟨_, _, rfl, rfl, ?_, ?_⟩⟩
        · exact wide_mul (a := 601) (b := 200) (Nat.lt_of_lt_of_le hb.2 (Nat.pow_le_pow_right (by decide) (by omega))) (natAbs_lt (Int.le_of_lt w3) (by exact_mod_cast w4)) (by decide) (by decide) (by decide)
        · refine ⟨some x, ?_, (ex.trans e2).trans e3⟩
          rw [prodB_take hp]
          rfl
    · obtain ⟨y2, rfl, ex⟩ := hp
      rw [List.length_map, List.take_length]
      have hd2 := dp_ex ex hd
      refine q_asgT2 (d1 := .tuple (ws.map .int)) (ed_tupleL (ed_is (ed_lc0 (fun e => match e with | .tuple [.int a, .int b] => .int (a / b) | _ => .none) (evj_tup rfl hd2).i (by rw [List.length_map]; omega) (fun e he => ?_) fun e he x H2 ex2 hx => ?_) ?_)) fun u H2 e2 hu => ?_
      · obtain ⟨p, hp, rfl⟩ := List.mem_map.mp he
        rfl
      · obtain ⟨p, hp, rfl⟩ := List.mem_map.mp he
        obtain ⟨w1, w2, w3, w4⟩ := hw p hp
        exact ⟨_, gto_name, rfl, ed_call1 (ead1 (ed_var rfl hx)) (if_pos ⟨w3, Int.lt_of_lt_of_le w4 (by decide)⟩)⟩
      · rw [← hws, List.map_map, List.map_map]
        rfl
      · intro p hp
        refine ⟨Nat.zero_le _, fun e0 he0 => ?_⟩
        have npe : p ≠ e0 := fun z => by
          rw [← z, upd_same] at he0
          cases he0
        refine ⟨by rw [upd_ne npe, upd_same], [(Sum.inl 0, .ref e0)], rfl, (by decide : (1 : Nat) ≤ 15), (by decide : (2 : Nat) ≤ sizeLine), fun p2 hp2 => ?_⟩
        refine ⟨p2, _, rfl, st_of upd_same, rfl, _, _, rfl, _, _, rfl, rfl, ?_⟩
        have np2 : p ≠ p2 := fun z => by
          rw [← z, upd_same] at hp2
          cases hp2
        have he1 : H2 e0 = none := by
          rw [upd_ne npe.symm] at he0
          exact he0
        have hpH : H p = none := fresh_back (ex.trans e2) hp
        generalize hH5 : upd (upd (upd (upd H2 p (.dK [])) e0 (.tup [])) p (.dK (mergeK [] [(Sum.inl 0, V.ref e0)]))) p2 (.tup [u, .ref p]) = H5
        have hx5 : Ex H2 H5 := by
          rw [← hH5]
          have a1 : Ex H2 (upd (upd H2 p (.dK [])) e0 (.tup [])) := (Ex.new hp).trans (Ex.new he0)
          exact (a1.mut hp).trans (Ex.new hp2)
        have h5p : H5 p = some (.dK [(Sum.inl 0, .ref e0)]) := by
          rw [← hH5, upd_ne np2, upd_same]
          rfl
        have h5e : H5 e0 = some (.tup []) := by
          have : e0 ≠ p2 := fun z => by
            rw [← z, upd_ne npe.symm, upd_same] at hp2
            cases hp2
          rw [← hH5, upd_ne this, upd_ne npe.symm, upd_same]
        have F0 : Fd K H5 (ks.take 0) [(Sum.inl 0, .ref e0)] := by
          rw [List.take_zero]
          refine ⟨⟨[0], rfl, by simp, by decide, fun k => by simp⟩, fun k z e => ?_⟩
          by_cases hk : k = 0
          · subst hk
            rw [valV_pos rfl] at e
            cases e
            exact .tup (st_of h5e) .nil
          · rw [valV_neg (fun z => hk (Sum.inl.inj z).symm)] at e
            cases e
        refine q_forJ (H0 := H) (evj_enumT rfl hd) ((ex.trans e2).trans hx5) (fun i σ' H' => ∃ kvs y5 y6 y7 y8, σ' = [some v, some (.int (prodB rs)), y2, some u, some (.ref p), y5, y6, y7, y8] ∧ Ex H H' ∧ H' p = some (.dK kvs) ∧ Dp K H' u (.tuple (ws.map .int)) ∧ Fd K H' (ks.take i) kvs)
          (fun H6 e6 => ⟨_, _, _, _, _, rfl, ((ex.trans e2).trans hx5).trans e6, e6 _ _ h5p, dp_ex (hx5.trans e6) hu, F0.kt (Kt.ex e6)⟩) (fun i σ' H' h => by obtain ⟨_, _, _, _, _, _, h, _⟩ := h; exact h) (fun i e x σ' H' he hI H6 e6 hx => ?_) fun σ' H' hI => ?_
        · obtain ⟨kvs, y5, y6, y7, y8, rfl, ex6, hkv, hu6, F6⟩ := hI
          obtain ⟨i2, d2, rfl, hi2⟩ := enumD_mem (List.mem_of_getElem? he)
          have hi : i < (rs.map fr).length := by
            have := (List.getElem?_eq_some_iff.mp he).1
            rw [enumD_len] at this
            exact this
          have hei := enumD_get (List.getElem?_eq_getElem hi)
          rw [he] at hei
          have hei2 := Option.some.inj hei
          simp only [PyData.tuple.injEq, List.cons.injEq, PyData.int.injEq, and_true] at hei2
          obtain ⟨hii, hdd⟩ := hei2
          have hir : i < rs.length := by
            rw [List.length_map] at hi
            exact hi
          rw [hii, hdd, List.getElem_map] at hx
          generalize hpp : rs[i] = p0 at hx
          have hpe : rs[i]? = some p0 := by rw [List.getElem?_eq_getElem hir, hpp]
          obtain ⟨w1, w2, w3, w4⟩ := hw p0 (List.mem_of_getElem? hpe)
          obtain ⟨v0, v1, v2, q0, q1, q2, q3⟩ := gto_nest (i := 5) (j := 6) (k := 7) (σ := [some v, some (V.int (prodB rs)), y2, some u, some (V.ref p), y5, y6, y7, y8]) hx
          cases dp_int q0
          cases dp_int q1
          cases dp_int q2
          refine q3 _ ?_
          have hu7 := dp_ex e6 hu6
          have hwi : (ws.map PyData.int)[i]? = some (.int (p0.1 / p0.2)) := by
            rw [← hws, List.map_map, List.getElem?_map, hpe]
            rfl
          have a1 : p0.1.natAbs < 2 ^ 210 := natAbs_lt w1 (by exact_mod_cast w2)
          have a2 : p0.2.natAbs < 2 ^ 200 := natAbs_lt (Int.le_of_lt w3) (by exact_mod_cast w4)
          have a3 : 0 ≤ p0.1 / p0.2 := Int.ediv_nonneg w1 (Int.le_of_lt w3)
          have a4 : p0.1 / p0.2 ≤ p0.1 := Int.ediv_le_self _ w1
          have a5 : (p0.1 / p0.2).natAbs < 2 ^ 210 := by omega
          have a6 : 0 ≤ p0.1 - p0.1 / p0.2 * p0.2 := by
            have := Int.ediv_mul_le p0.1 (show p0.2 ≠ 0 by omega)
            omega
          have a7 : 0 ≤ p0.1 / p0.2 * p0.2 := Int.mul_nonneg a3 (Int.le_of_lt w3)
          have a8 : (p0.1 - p0.1 / p0.2 * p0.2).natAbs < 2 ^ 210 := by omega
          have a9 : 0 ≤ prodB rs / p0.2 := Int.ediv_nonneg (Int.le_of_lt hB.2) (Int.le_of_lt w3)
          have a10 : prodB rs / p0.2 ≤ prodB rs := Int.ediv_le_self _ (Int.le_of_lt hB.2)
          have a11 : (prodB rs / p0.2).natAbs < 2 ^ 601 := by omega
          refine q_asg (v := .int (keyR (prodB rs) p0)) (ev_op (ev_op (ev_var rfl) (ev_op (ev_int (ed_ixT (ed_var rfl hu7) (ev_var rfl) (atI_nat hwi))) (ev_var rfl) (rv_I (wide_mul a5 a2 (by decide) (by decide) (by decide)))) rv_I0)
            (ev_op (ev_var rfl) (ev_var rfl) (rv_I (wide_div w3 a2 (by decide) (by decide)))) (rv_I (wide_mul a8 a11 (by decide) (by decide) (by decide)))) fun H7 e7 => ?_
          have hkv7 : H7 p = some (.dK kvs) := e7 _ _ (e6 _ _ hkv)
          have hke : ks[i]? = some (keyR (prodB rs) p0) := by
            rw [← hks]
            unfold keysR
            rw [List.getElem?_map, hpe]
            rfl
          generalize keyR (prodB rs) p0 = k at hke
          have F7 : Fd K H7 (ks.take i) kvs := F6.kt (Kt.ex (e6.trans e7))
          refine ⟨.ref p, rfl, p, rfl, .inl ⟨kvs, .inl hkv7⟩, .int k, rfl, Nat.zero_le _, fun e1 he1 => ?_⟩
          have hkv8 : (upd H7 e1 (.tup [])) p = some (.dK kvs) := by
            rw [upd_ne (ne_of_none hkv7 he1)]
            exact hkv7
          refine ⟨valV kvs (Sum.inl k), DGet.k (k := Sum.inl k) hkv8, ?_⟩
          obtain ⟨a, xs, ha, hs, hxs⟩ : ∃ a xs, (valV kvs (Sum.inl k)).getD (.ref e1) = .ref a ∧ SqT K (upd H7 e1 (.tup [])) a xs ∧ DpAll K (upd H7 e1 (.tup [])) xs ((idx (ks.take i) k).map .int) := by
            cases hv : valV kvs (Sum.inl k) with
            | none =>
              refine ⟨e1, [], rfl, st_of upd_same, ?_⟩
              rw [idx_none (F7.none hv)]
              exact .nil
            | some z =>
              obtain ⟨a, xs, h1, h2, h3⟩ := dp_tup (F7.2 k z hv)
              exact ⟨a, xs, h1, ex_t (Ex.new he1) h2, dpAll_ex (Ex.new he1) h3⟩
          have hlen3 : xs.length ≤ 3 := by
            rw [dpAll_len hxs, List.length_map]
            unfold idx
            rw [List.length_map]
            refine Nat.le_trans (List.length_filter_le _ _) ?_
            rw [List.length_range, List.length_take]
            omega
          refine ⟨a, xs, ha, .inl hs, .int (i : Nat), rfl, ?_, fun pn hpn => ?_⟩
          · rw [List.length_append]
            exact Nat.le_of_lt (small1000 (show xs.length + 1 ≤ 1000 by omega))
          · have hkv9 : (upd (upd H7 e1 (.tup [])) pn (.tup (xs ++ [.int (i : Nat)]))) p = some (.dK kvs) := by
              rw [upd_ne (ne_of_none hkv8 hpn)]
              exact hkv8
            have hkl2 : kvs.length < sizeLine := by
              obtain ⟨⟨js, j1, _, j3, _⟩, _⟩ := F7
              have : kvs.length = js.length := by
                have := congrArg List.length j1
                rw [List.length_map, List.length_map] at this
                exact this
              refine small1000 ?_
              rw [List.length_take] at j3
              omega
            refine ⟨.ref p, rfl, .int k, rfl, p, _, rfl, DPut.k (k := Sum.inl k) hkv9 hkl2, ?_⟩
            have x9 : Ex H7 (upd (upd H7 e1 (.tup [])) pn (.tup (xs ++ [.int (i : Nat)]))) := (Ex.new he1).trans (Ex.new hpn)
            have hnew : Dp K (upd (upd H7 e1 (.tup [])) pn (.tup (xs ++ [.int (i : Nat)]))) (.ref pn) (.tuple ((idx (ks.take i) k ++ [((ks.take i).length : Int)]).map .int)) := by
              refine dp_newT upd_same ?_
              have hl : ((ks.take i).length : Int) = ((i : Nat) : Int) := by
                rw [List.length_take]
                omega
              rw [List.map_append, hl]
              exact dpAll_app (dpAll_ex (Ex.new hpn) hxs) (dpAll_one (.int _))
            have F9 := ((F7.kt (Kt.ex x9)).put hnew).kt (Kt.dK (u := .dK (putK kvs (Sum.inl k) (.ref pn))) hkv9)
            have htk : ks.take i ++ [k] = ks.take (i + 1) := by rw [List.take_add_one, hke]; rfl
            rw [htk] at F9
            exact ⟨_, _, _, _, _, rfl, (((ex6.trans e6).trans e7).trans x9).mut hpH, upd_same, dp_kt (Kt.dK hkv9) (noL_ints _) (dp_ex x9 (dp_ex e7 hu7)), F9⟩
        · obtain ⟨kvs, y5, y6, y7, y8, rfl, ex6, hkv, hu6, F6⟩ := hI
          rw [enumD_len, List.length_map, ← hkl, List.take_length] at F6
          obtain ⟨⟨js, j1, j2, j3, j4⟩, j5⟩ := id F6
          have hjs : srt js = srt (dd (0 :: ks)) := srt_set j2 (dd_nodup _) fun k => by
            rw [j4, dd_mem, List.mem_cons]
          have e0 : clsD (classOf rs) = .tuple [.tuple (ws.map .int), .tuple (((srt (dd (0 :: ks))).map PyData.int).map (gOf ks))] := by
            unfold clsD classOf ordD ordK
            rw [hks, hws, List.map_map, List.map_map]
            rfl
          rw [e0] at q
          refine s_ret0 (ed_tup (ead_cons (ed_var rfl hu6) (ead1 (ed_tupleL (ed_lc0 (gOf ks) (evi_lst (ed_is (ed_sortD (ev_var rfl) hkv j1 (by omega)) (by rw [hjs]))) ?_ (fun e he => ?_) fun e he x H8 ex8 hx => ?_)))) (by show 2 ≤ 100000; decide)) ex6 q rfl
          · rw [List.length_map, ← hjs]
            have := (srt_perm js).length_eq
            omega
          · obtain ⟨k, _, rfl⟩ := List.mem_map.mp he
            exact noL_ints _
          · obtain ⟨k, hk, rfl⟩ := List.mem_map.mp he
            cases dp_int hx
            have hk2 : k = 0 ∨ k ∈ ks := by
              have := (srt_perm _).mem_iff.mp hk
              rw [dd_mem, List.mem_cons] at this
              exact this
            obtain ⟨z, hz⟩ := F6.has hk2
            refine ⟨_, gto_name, rfl, fun H9 e9 Q9 q9 => ?_⟩
            have hkv9 : H9 p = some (.dK kvs) := (ex8.trans e9) _ _ hkv
            exact ⟨.ref p, rfl, .int k, rfl, p, z, rfl, (by
              have := DGet.k (k := Sum.inl k) hkv9
              rw [hz] at this
              exact this), q9 z H9 (Ex.refl _) (dp_ex (ex8.trans e9) (j5 k z hz))⟩
end
end Kb
/-! D7: the interface of classes. -/
namespace Kb
open PySem PySem.Spec PyProof.Rows L2 Evl Xd
def okC (c : List Int × List (List Int)) : Prop := 1 ≤ c.1.length ∧ c.1.length ≤ 3 ∧ isCls (c.1.length : Nat) (clsD c) = true ∧ fit 60 (clsD c)
def R_any (d r : PyData) : Prop := ∃ c, d = clsD c ∧ okC c ∧ r = .bool true
def R_reqc (d r : PyData) : Prop := ∃ c, d = clsD c ∧ okC c ∧ r = .none
def R_classof (d r : PyData) : Prop := ∃ rs : List (Int × Int), d = rdD rs ∧ 1 ≤ rs.length ∧ rs.length ≤ 3 ∧ (∀ x ∈ rs, okR x) ∧ r = clsD (classOf rs)
def R_isin (d1 d2 r : PyData) : Prop := ∃ c rs, d1 = clsD c ∧ okC c ∧ d2 = rdD rs ∧ rs.length = c.1.length ∧ (∀ x ∈ rs, okR x) ∧ fit 60 (clsD (classOf rs)) ∧ r = .bool (decide (classOf rs = c))
theorem okR_wide {x : Int × Int} (h : okR x) : wide x := by
  obtain ⟨⟨h1, h2, h3, h4, _⟩, _⟩ := h
  exact ⟨h1, Int.lt_of_lt_of_le h2 (by decide), h3, Int.lt_of_lt_of_le h4 (by decide)⟩
theorem eqvAll_intsT (xs ys : List Int) : PyData.eqv (.tuple (xs.map .int)) (.tuple (ys.map .int)) = decide (xs = ys) := by
  simp only [PyData.eqv]
  exact eqvAll_ints xs ys
theorem eqv_groups : ∀ a b : List (List Int), PyData.eqvAll (a.map fun g => .tuple (g.map .int)) (b.map fun g => .tuple (g.map .int)) = decide (a = b)
  | [], [] => rfl
  | [], y :: ys => by simp [PyData.eqvAll]
  | x :: xs, [] => by simp [PyData.eqvAll]
  | x :: xs, y :: ys => by
    simp only [List.map_cons, PyData.eqvAll, eqvAll_intsT, eqv_groups xs ys]
    rw [Bool.eq_iff_iff]
    simp
theorem eqv_cls (a b : List Int × List (List Int)) : PyData.eqv (clsD a) (clsD b) = decide (a = b) := by
  obtain ⟨a1, a2⟩ := a
  obtain ⟨b1, b2⟩ := b
  unfold clsD ordD
  simp only [PyData.eqv, PyData.eqvAll, eqvAll_ints, eqv_groups, Bool.and_true]
  rw [Bool.eq_iff_iff]
  simp
theorem ed_callCls {K : PySem.W.Frag} {f : Int → PyData → Bool} {E : XK} {ta tb : TE} {σ : L2.St} {H : Hp} {n : Int} {d : PyData} (ha : Ev ta σ H (.int n)) (hb : EvP tb σ H fun v H1 => DpX K H1 v d) (h1 : 1 ≤ n) (h3 : n ≤ 3) (hf : isT d = true → fit 60 d) :
    EvD K (tCall (SpCls K f) [] E (tCons ta (tCons tb tNil))) σ H (.bool (f n d)) := fun H1 e Q q => ha H1 e _ fun H2 e2 => hb H2 (e.trans e2) _ fun v H3 e3 p => ⟨v, n, d, rfl, p, h1, h3, hf, fun v H4 e4 p => q v H4 ((e2.trans e3).trans e4) p⟩
section
variable {P : Program} {w : World} {K : PySem.W.Frag} {mg : Str → Option Value} {base : Heap}
theorem sc_is_class_any : FnScope ["value"] ["value"] (defScope (topS 26)) := ⟨rfl, rfl, rfl, by decide +kernel, rfl, by decide +kernel, by decide +kernel⟩
theorem ok_is_class_any (T : Tb mg) (D : DefAt K mg "is_class_any" (topS 26)) (C_is_class_of : Cal P w K mg base "is_class_of" 5 ["clocks", "value"] (SpCls K isCls)) : Cal P w K mg base "is_class_any" 6 ["value"] (Sr1 K R_any) := by
  refine cal_of D (fun _ _ _ _ _ _ us hl => match us, hl with | [_], _ => rfl) fun f fd F => F.ok sc_is_class_any (fun vs H Q E h => ?_) (fun cdv A outer s H vs Q E hr h => ?_)
  · obtain ⟨v, d, r, rfl, _⟩ := h
    rfl
  · obtain ⟨v, d, r, rfl, hd, ⟨c, rfl, ⟨h1, h3, hc, hf⟩, rfl⟩, q⟩ := h
    refine ⟨_, (pss_cons (ps_if (PW.pt (pw_or (pt_not (pt_val (pe_callB call_isi rfl T.isinstance bt_isinstance (pa_cons (pv 0) (pa_cons (pe_bltn (v := .ty "tuple") rfl T.tuple bt_tuple rfl) pa_nil))))) (pw_or (pt_cmpR op_ne (pe_callB call_len_seq rfl T.len bt_len (pa_cons (pv 0) pa_nil)) (pe_gint rfl T.PAIR_classes) (nomark _)) (pw_or1 (pt_not (pt_val (pe_callB call_isi rfl T.isinstance bt_isinstance (pa_cons (pe_ix ix_tup (pv 0) pe_int (fun _ _ => rfl)) (pa_cons (pe_bltn (v := .ty "tuple") rfl T.tuple bt_tuple rfl) pa_nil))))))))) (pss_one (ps_ret pe_bl)) pss_nil)
      (pss_one (ps_ret (pe_and (pe_chain op_le op_le pe_int (pe_callB call_len_seq rfl T.len bt_len (pa_cons (pe_ix ix_tup (pv 0) pe_int (fun _ _ => rfl)) pa_nil)) (pe_gint rfl T.MOST_CLOCKS)) (pe_one (pe_callC C_is_class_of hr rfl (pa_cons (pe_callB call_len_seq rfl T.len bt_len (pa_cons (pe_ix ix_tup (pv 0) pe_int (fun _ _ => rfl)) pa_nil)) (pa_cons (pv 0) pa_nil)))))))), ?_⟩
    have i0 : ∀ H1, Ex H H1 → EvD K (tOp (rIxT K) (tVar 0) (tC (.int 0))) (start ["value"] [v]) H1 (.tuple (c.1.map .int)) := fun H1 e => ed_ixT (ed_var rfl (dp_ex e hd)) ev_c rfl
    refine q_when (b := false) (et_or (a := false) (et_not (a := true) (et_B (ev_isi (EvP.x (ed_var rfl hd)) (kit_tuple _)))) fun _ => et_or (a := false) (et_test (ev_op (ev_lenT (ed_var rfl hd)) ev_c (rv_ne rfl))) fun _ =>
      et_not (a := true) (et_B (ev_isi (EvP.x (i0 H (Ex.refl H))) (kit_tuple _)))) (fun z => by cases z) fun _ H1 e1 => ?_
    have hl : ∀ H1, Ex H H1 → Ev (tCB (rLenS K) (tCons (tOp (rIxT K) (tVar 0) (tC (.int 0))) tNil)) (start ["value"] [v]) H1 (.int (c.1.length : Nat)) := fun H1 e => ev_is (ev_lenT (i0 H1 e)) (by rw [List.length_map])
    refine s_ret0 (ed_bl (ev_andV (a := true) (b := true) (ev_is (ev_chain ev_c (hl H1 e1) ev_c rv_I0 rv_I0) ?_) fun _ => ev_is (ev_bl (ed_callCls (hl H1 e1) (EvP.x (ed_var rfl (dp_ex e1 hd))) (by omega) (by omega) fun _ => hf)) (by rw [hc]))) e1 q rfl
    rw [decide_eq_true (by omega), decide_eq_true (by omega)]
    rfl
theorem sc_require_class : FnScope ["value"] ["value"] (defScope (topS 30)) := ⟨rfl, rfl, rfl, by decide +kernel, rfl, by decide +kernel, by decide +kernel⟩
theorem ok_require_class (T : Tb mg) (D : DefAt K mg "require_class" (topS 30)) (C_is_class_any : Cal P w K mg base "is_class_any" 6 ["value"] (Sr1 K R_any)) : Cal P w K mg base "require_class" 7 ["value"] (Sr1 K R_reqc) := by
  refine cal_of D (fun _ _ _ _ _ _ us hl => match us, hl with | [_], _ => rfl) fun f fd F => F.ok sc_require_class (fun vs H Q E h => ?_) (fun cdv A outer s H vs Q E hr h => ?_)
  · obtain ⟨v, d, r, rfl, _⟩ := h
    rfl
  · obtain ⟨v, d, r, rfl, hd, ⟨c, rfl, hc, rfl⟩, q⟩ := h
    refine ⟨_, (pss_one (ps_if (pt_not (pt_val (pe_callC C_is_class_any hr rfl (pa_cons (pv 0) pa_nil)))) (pss_one ps_never) pss_nil)), ?_⟩
    exact s_if (b := false) (et_not (a := true) (et_B (ev_bl (ed_callr1 (ead1 (ed_var rfl hd)) ⟨c, rfl, hc, rfl⟩)))) (fun z => by cases z) fun _ H1 e1 => q _ H1 e1 .non
theorem sc_is_class : FnScope ["clocks", "value"] ["clocks", "value"] (defScope (topS 31)) := ⟨rfl, rfl, rfl, by decide +kernel, rfl, by decide +kernel, by decide +kernel⟩
theorem ok_is_class (T : Tb mg) (D : DefAt K mg "is_class" (topS 31)) (C_is_from : Cal P w K mg base "is_from" 2 ["value", "least", "most"] (Sp3 K f_from)) (C_is_class_of : Cal P w K mg base "is_class_of" 5 ["clocks", "value"] (SpCls K isCls)) : Cal P w K mg base "is_class" 6 ["clocks", "value"] (SpCls K isCls) := by
  refine cal_of D (fun _ _ _ _ _ _ us hl => match us, hl with | [_, _], _ => rfl) fun f fd F => F.ok sc_is_class (fun vs H Q E h => ?_) (fun cdv A outer s H vs Q E hr h => ?_)
  · obtain ⟨v, v2, d, rfl, _⟩ := h
    rfl
  · obtain ⟨v2, n, d2, rfl, hX, hn1, hn3, hfit, q⟩ := h
    refine ⟨_, (pss_cons (ps_if (pt_not (pt_val (pe_callC C_is_from hr rfl (pa_cons (pv 0) (pa_cons pe_int (pa_cons (pe_gint rfl T.MOST_CLOCKS) pa_nil)))))) (pss_one ps_never) pss_nil)
      (pss_one (ps_ret (pe_callC C_is_class_of hr rfl (pa_cons (pv 0) (pa_cons (pv 1) pa_nil)))))), ?_⟩
    refine q_when (b := false) (et_not (a := true) (et_B (ev_is (ev_bl (ed_call3 (d1 := .int n) (d2 := .int 1) (d3 := .int 3) (ead_cons (ed_int (ev_var rfl)) (ead_cons (ed_int ev_c) (ead1 (ed_int ev_c)))) rfl)) ?_))) (fun z => by cases z) fun _ H1 e1 => ?_
    · show V.bl (decide (1 ≤ n) && decide (n ≤ 3)) = _
      rw [decide_eq_true hn1, decide_eq_true hn3]
      rfl
    · exact s_ret0 (ed_callCls (ev_var rfl) (fun H2 e Q q => ⟨v2, rfl, q v2 H2 (Ex.refl _) (dpx_ex (e1.trans e) hX)⟩) hn1 hn3 hfit) e1 q rfl
theorem sc_class_of : FnScope ["readings"] ["readings"] (defScope (topS 32)) := ⟨rfl, rfl, rfl, by decide +kernel, rfl, by decide +kernel, by decide +kernel⟩
theorem ok_class_of (T : Tb mg) (D : DefAt K mg "class_of" (topS 32)) (C_require_low : Cal P w K mg base "require_low" 7 ["value", "clocks"] (Sr2 K R_reqlow)) (C_class_in : Cal P w K mg base "class_in" 2 ["readings"] (Sr1 K R_classin)) : Cal P w K mg base "class_of" 8 ["readings"] (Sr1 K R_classof) := by
  refine cal_of D (fun _ _ _ _ _ _ us hl => match us, hl with | [_], _ => rfl) fun f fd F => F.ok sc_class_of (fun vs H Q E h => ?_) (fun cdv A outer s H vs Q E hr h => ?_)
  · obtain ⟨v, d, r, rfl, _⟩ := h
    rfl
  · obtain ⟨v, d, r, rfl, hd, ⟨rs, rfl, h1, h3, hok, rfl⟩, q⟩ := h
    refine ⟨_, (pss_cons (ps_expr (pe_callC C_require_low hr rfl (pa_cons (pv 0) (pa_cons (pe_ifExp (PW.pt (pw_and (pt_val (pe_callB call_isi rfl T.isinstance bt_isinstance (pa_cons (pv 0) (pa_cons (pe_bltn (v := .ty "tuple") rfl T.tuple bt_tuple rfl) pa_nil)))) (pw_and1 (pt_cmpR op_in_seq (pe_callB call_len_seq rfl T.len bt_len (pa_cons (pv 0) pa_nil)) (pe_tup (pa_cons pe_int (pa_cons pe_int (pa_cons pe_int pa_nil)))) (by rfl))))) (pe_callB call_len_seq rfl T.len bt_len (pa_cons (pv 0) pa_nil)) pe_int) pa_nil))))
      (pss_one (ps_ret (pe_callC C_class_in hr rfl (pa_cons (pv 0) pa_nil))))), ?_⟩
    have hl : Ev (tCB (rLenS K) (tCons (tVar 0) tNil)) (start ["readings"] [v]) H (.int (rs.length : Nat)) := ev_is (ev_lenT (ed_var rfl hd)) (by rw [List.length_map])
    have hin : inV (.int (rs.length : Nat)) [.int 1, .int 2, .int 3] = true := by
      have : rs.length = 1 ∨ rs.length = 2 ∨ rs.length = 3 := by omega
      rcases this with z | z | z <;> rw [z] <;> rfl
    refine q_drop (v := .non) (fun H1 e Q q => (ed_callr2 (d := .none) (ead_cons (ed_var rfl hd) (ead1 (ed_int (i := (rs.length : Nat)) (ev_if (b := true) (et_and (a := true) (b := true) (et_B (ev_isi (EvP.x (ed_var rfl hd)) (kit_tuple _))) fun _ => et_test (ev_is (ev_inU hl (eu_tup (ea_cons ev_c (ea_cons ev_c (ea_cons ev_c ea_nil))) (by decide)) rfl rfl) (by rw [hin]))) (fun _ => hl) fun z => by cases z))))
      ⟨rs, rfl, rfl, by omega, hok, rfl⟩) H1 e Q fun v2 H2 e2 p => by cases p; exact q H2 e2) fun H1 e1 => ?_
    exact s_ret0 (ed_callr1 (ead1 (ed_var rfl (dp_ex e1 hd))) ⟨rs, rfl, h3, fun x hx => okR_wide (hok x hx), rfl⟩) e1 q rfl
theorem sc_is_in : FnScope ["cls", "readings"] ["cls", "readings"] (defScope (topS 34)) := ⟨rfl, rfl, rfl, by decide +kernel, rfl, by decide +kernel, by decide +kernel⟩
theorem ok_is_in (T : Tb mg) (D : DefAt K mg "is_in" (topS 34)) (C_require_class : Cal P w K mg base "require_class" 7 ["value"] (Sr1 K R_reqc)) (C_require_low : Cal P w K mg base "require_low" 7 ["value", "clocks"] (Sr2 K R_reqlow)) (C_class_in : Cal P w K mg base "class_in" 2 ["readings"] (Sr1 K R_classin)) : Cal P w K mg base "is_in" 8 ["cls", "readings"] (Sr2 K R_isin) := by
  refine cal_of D (fun _ _ _ _ _ _ us hl => match us, hl with | [_, _], _ => rfl) fun f fd F => F.ok sc_is_in (fun vs H Q E h => ?_) (fun cdv A outer s H vs Q E hr h => ?_)
  · obtain ⟨v, v2, d, d2, r, rfl, _⟩ := h
    rfl
  · obtain ⟨v, v2, d, d2, r, rfl, hd, hd2, ⟨c, rs, rfl, hc, rfl, hl, hok, hfr, rfl⟩, q⟩ := h
    refine ⟨_, (pss_cons (ps_expr (pe_callC C_require_class hr rfl (pa_cons (pv 0) pa_nil)))
      (pss_cons (ps_expr (pe_callC C_require_low hr rfl (pa_cons (pv 1) (pa_cons (pe_callB call_len_seq rfl T.len bt_len (pa_cons (pe_ix ix_tup (pv 0) pe_int (fun _ _ => rfl)) pa_nil)) pa_nil))))
      (pss_one (ps_ret (pe_cmpR (op_eqD hr.units) (pe_callC C_class_in hr rfl (pa_cons (pv 1) pa_nil)) (pv 0) (nomark _)))))), ?_⟩
    have hl3 := hc.2.1
    refine q_drop (v := .non) (fun H1 e Q q => (ed_callr1 (d := .none) (ead1 (ed_var rfl hd)) ⟨c, rfl, hc, rfl⟩) H1 e Q fun v2 H2 e2 p => by cases p; exact q H2 e2) fun H1 e1 => ?_
    refine q_drop (v := .non) (fun H1' e Q q => (ed_callr2 (d := .none) (ead_cons (ed_var rfl (dp_ex e1 hd2)) (ead1 (ed_int (i := (rs.length : Nat)) (ev_is (ev_lenT (ds := c.1.map .int) (ed_ixT (ed_var rfl (dp_ex e1 hd)) ev_c rfl)) (by rw [List.length_map, hl]))))) ⟨rs, rfl, rfl, by omega, hok, rfl⟩) H1' e Q fun v2 H2 e2 p => by cases p; exact q H2 e2) fun H2 e2 => ?_
    exact s_ret0 (ed_bl (ev_is (ev_eqD (ed_callr1 (ead1 (ed_var rfl (dp_ex (e1.trans e2) hd2))) ⟨rs, rfl, by omega, fun x hx => okR_wide (hok x hx), rfl⟩) (ed_var rfl (dp_ex (e1.trans e2) hd)) (hfr.shaped (by decide)) (hc.2.2.2.shaped (by decide))) (by rw [eqv_cls]))) (e1.trans e2) q rfl
end
end Kb
/-! D8: what a class is, in plain words; the class of the points of a class. -/
namespace Kb
open PySem PySem.Spec PyProof.Rows L2 Evl Xd
structure Good (n : Nat) (c : List Int × List (List Int)) : Prop where
  len : c.1.length = n
  ws : ∀ w ∈ c.1, 0 ≤ w ∧ w ≤ 4
  ne : c.2 ≠ []
  els : ∀ g ∈ c.2, ∀ i ∈ g, 0 ≤ i ∧ i ≤ (n : Int) - 1
  asc : ∀ g ∈ c.2, g.Pairwise (· < ·)
  tl : ∀ g ∈ c.2.drop 1, g ≠ []
  perm : srt c.2.flatten = rangeI n
  top : ∀ (i : Nat) (w : Int), c.1[i]? = some w → w < 4 ∨ ∃ g r, c.2 = g :: r ∧ (i : Int) ∈ g
theorem ascD_ints : ∀ g : List Int, ascD (g.map .int) = true ↔ g.Pairwise (· < ·)
  | [] => ⟨fun _ => .nil, fun _ => rfl⟩
  | [a] => ⟨fun _ => List.pairwise_singleton .., fun _ => rfl⟩
  | a :: b :: r => by
    have ih := ascD_ints (b :: r)
    have e : ascD ((a :: b :: r).map .int) = (decide (a < b) && ascD ((b :: r).map .int)) := rfl
    rw [e, Bool.and_eq_true, decide_eq_true_eq, ih]
    constructor
    · rintro ⟨h1, h2⟩
      refine List.pairwise_cons.mpr ⟨fun z hz => ?_, h2⟩
      rcases List.mem_cons.mp hz with e | e
      · rw [e]; exact h1
      · exact Int.lt_trans h1 ((List.pairwise_cons.mp h2).1 z e)
    · intro h
      have h2 := List.pairwise_cons.mp h
      exact ⟨h2.1 b List.mem_cons_self, h2.2⟩
theorem isLot_ints {n : Int} {g : List Int} : isLot n (.tuple (g.map .int)) = true ↔ (∀ i ∈ g, 0 ≤ i ∧ i ≤ n - 1) ∧ g.Pairwise (· < ·) := by
  have e : isLot n (.tuple (g.map .int)) = (((g.map PyData.int).all fun d => isFrom d 0 (n - 1)) && ascD (g.map .int)) := rfl
  rw [e, Bool.and_eq_true, ascD_ints, List.all_eq_true]
  constructor
  · rintro ⟨h1, h2⟩
    refine ⟨fun i hi => ?_, h2⟩
    obtain ⟨j, k1, k2, k3⟩ := isFrom_int (h1 _ (List.mem_map.mpr ⟨i, hi, rfl⟩))
    cases k1
    exact ⟨k2, k3⟩
  · rintro ⟨h1, h2⟩
    refine ⟨fun d hd => ?_, h2⟩
    obtain ⟨i, hi, rfl⟩ := List.mem_map.mp hd
    have := h1 i hi
    simp only [isFrom, Bool.and_eq_true, decide_eq_true_eq]
    exact this
theorem flatI_ord (o : List (List Int)) : flatI (o.map fun g => .tuple (g.map .int)) = o.flatten := by
  unfold flatI
  rw [List.map_map]
  induction o with
  | nil => rfl
  | cons g r ih =>
    rw [List.map_cons, List.flatten_cons, List.filterMap_append, ih, List.flatten_cons]
    show (g.map PyData.int).filterMap int? ++ _ = _
    rw [int_back]
theorem emptyT_ints (g : List Int) : emptyT (.tuple (g.map .int)) = true ↔ g = [] := by
  cases g with
  | nil => exact ⟨fun _ => rfl, fun _ => rfl⟩
  | cons a r => exact ⟨fun h => (by cases h), fun h => (by cases h)⟩
theorem isOrd_ints {n : Nat} {o : List (List Int)} : isOrd n (ordD o) = true ↔ o ≠ [] ∧ (∀ g ∈ o, (∀ i ∈ g, 0 ≤ i ∧ i ≤ (n : Int) - 1) ∧ g.Pairwise (· < ·)) ∧ (∀ g ∈ o.drop 1, g ≠ []) ∧ srt o.flatten = rangeI n := by
  have e : isOrd n (ordD o) = (!(o.map fun g => PyData.tuple (g.map .int)).isEmpty && (o.map fun g => PyData.tuple (g.map .int)).all (isLot n) && !(((o.map fun g => PyData.tuple (g.map .int)).drop 1).any emptyT) && decide (srt (flatI (o.map fun g => .tuple (g.map .int))) = rangeI (n : Int).toNat)) := rfl
  rw [e, flatI_ord, Int.toNat_natCast, Bool.and_eq_true, Bool.and_eq_true, Bool.and_eq_true, decide_eq_true_eq, List.all_eq_true, ← List.map_drop]
  constructor
  · rintro ⟨⟨⟨h1, h2⟩, h3⟩, h4⟩
    refine ⟨fun z => (by rw [z] at h1; cases h1), fun g hg => isLot_ints.mp (h2 _ (List.mem_map.mpr ⟨g, hg, rfl⟩)), fun g hg z => ?_, h4⟩
    have : ((o.drop 1).map fun g => PyData.tuple (g.map .int)).any emptyT = true := List.any_eq_true.mpr ⟨_, List.mem_map.mpr ⟨g, hg, rfl⟩, (emptyT_ints g).mpr z⟩
    rw [this] at h3
    cases h3
  · rintro ⟨h1, h2, h3, h4⟩
    refine ⟨⟨⟨?_, fun d hd => ?_⟩, ?_⟩, h4⟩
    · cases o with
      | nil => exact absurd rfl h1
      | cons _ _ => rfl
    · obtain ⟨g, hg, rfl⟩ := List.mem_map.mp hd
      exact isLot_ints.mpr (h2 g hg)
    · cases h : ((o.drop 1).map fun g => PyData.tuple (g.map .int)).any emptyT with
      | false => rfl
      | true =>
        obtain ⟨d, hd, hd2⟩ := List.any_eq_true.mp h
        obtain ⟨g, hg, rfl⟩ := List.mem_map.mp hd
        exact absurd ((emptyT_ints g).mp hd2) (h3 g hg)
theorem anyInt (g : List Int) (i : Int) : ((g.map PyData.int).any fun z => PyData.eqv z (.int i)) = decide (i ∈ g) := by
  rw [Bool.eq_iff_iff, List.any_eq_true, decide_eq_true_eq]
  constructor
  · rintro ⟨d, hd, h⟩
    obtain ⟨j, hj, rfl⟩ := List.mem_map.mp hd
    simp only [PyData.eqv, decide_eq_true_eq, beq_iff_eq] at h
    rw [← h]
    exact hj
  · intro h
    exact ⟨_, List.mem_map.mpr ⟨i, h, rfl⟩, by simp [PyData.eqv]⟩
theorem topOk_ints {ws : List Int} {o : List (List Int)} : topOk (ws.map .int) (ordD o) = true ↔ ∀ (i : Nat) (w : Int), ws[i]? = some w → w < 4 ∨ ∃ g r, o = g :: r ∧ (i : Int) ∈ g := by
  unfold topOk
  rw [List.all_eq_true]
  have hin : ∀ i : Nat, inFirst (.int (i : Int)) (ordD o) = true ↔ ∃ g r, o = g :: r ∧ (i : Int) ∈ g := fun i => by
    cases o with
    | nil => exact ⟨fun h => (by cases h), fun ⟨_, _, h, _⟩ => (by cases h)⟩
    | cons g r =>
      show (((g.map PyData.int).any fun z => PyData.eqv z (.int (i : Int))) = true) ↔ _
      rw [anyInt, decide_eq_true_eq]
      exact ⟨fun h => ⟨g, r, rfl, h⟩, fun ⟨_, _, h, h2⟩ => by cases h; exact h2⟩
  constructor
  · intro h i w hw
    have h1 := h (.tuple [.int i, .int w]) (List.mem_of_getElem? (enumD_get (by rw [List.getElem?_map, hw]; rfl)))
    simp only [topE, Bool.or_eq_true, decide_eq_true_eq] at h1
    exact h1.imp id (hin i).mp
  · intro h e he
    obtain ⟨i, x, rfl, hx⟩ := enumD_mem he
    rw [List.getElem?_map] at hx
    cases hw : ws[i]? with
    | none => rw [hw] at hx; cases hx
    | some w =>
      rw [hw] at hx
      cases hx
      simp only [topE, Bool.or_eq_true, decide_eq_true_eq]
      exact (h i w hw).imp id (hin i).mpr
theorem allFrom (ws : List Int) (a b : Int) : ((ws.map PyData.int).all fun d => isFrom d a b) = true ↔ ∀ w ∈ ws, a ≤ w ∧ w ≤ b := by
  rw [List.all_eq_true]
  constructor
  · intro h w hw
    obtain ⟨j, k1, k2, k3⟩ := isFrom_int (h _ (List.mem_map.mpr ⟨w, hw, rfl⟩))
    cases k1
    exact ⟨k2, k3⟩
  · intro h d hd
    obtain ⟨w, hw, rfl⟩ := List.mem_map.mp hd
    simp only [isFrom, Bool.and_eq_true, decide_eq_true_eq]
    exact h w hw
theorem isCls_good {n : Nat} {c : List Int × List (List Int)} : isCls n (clsD c) = true ↔ Good n c := by
  have e : isCls n (clsD c) = (decide (((c.1.map PyData.int).length : Int) = n) && ((c.1.map PyData.int).all fun d => isFrom d 0 4) && isOrd n (ordD c.2) && topOk (c.1.map .int) (ordD c.2)) := rfl
  rw [e, Bool.and_eq_true, Bool.and_eq_true, Bool.and_eq_true, isOrd_ints, topOk_ints, allFrom, decide_eq_true_eq, List.length_map]
  constructor
  · rintro ⟨⟨⟨h1, h2⟩, h3, h4, h5, h6⟩, h7⟩
    exact ⟨by omega, h2, h3, fun g hg => (h4 g hg).1, fun g hg => (h4 g hg).2, h5, h6, h7⟩
  · intro h
    exact ⟨⟨⟨by rw [h.len], h.ws⟩, h.ne, fun g hg => ⟨h.els g hg, h.asc g hg⟩, h.tl, h.perm⟩, h.top⟩
/-! ### consequences -/
theorem rangeI_len (n : Nat) : (rangeI n).length = n := by
  unfold rangeI
  rw [List.length_map, List.length_range]
theorem mem_rangeI {n : Nat} {i : Int} : i ∈ rangeI n ↔ 0 ≤ i ∧ i < n := by
  unfold rangeI
  rw [List.mem_map]
  constructor
  · rintro ⟨k, hk, rfl⟩
    have := List.mem_range.mp hk
    omega
  · rintro ⟨h1, h2⟩
    exact ⟨i.toNat, List.mem_range.mpr (by omega), by omega⟩
theorem rangeI_nodup (n : Nat) : (rangeI n).Nodup := by
  unfold rangeI
  exact List.pairwise_map.mpr (List.Pairwise.imp (fun h z => h (by omega)) List.nodup_range)
section
variable {n : Nat} {c : List Int × List (List Int)}
theorem Good.pm (h : Good n c) : c.2.flatten.Perm (rangeI n) := by
  rw [← h.perm]
  exact (srt_perm _).symm
theorem Good.mem (h : Good n c) {i : Int} : i ∈ c.2.flatten ↔ 0 ≤ i ∧ i < n := by rw [h.pm.mem_iff, mem_rangeI]
theorem Good.nodup (h : Good n c) : c.2.flatten.Nodup := h.pm.nodup_iff.mpr (rangeI_nodup n)
theorem len_flat : ∀ {l : List (List Int)}, (∀ g ∈ l, g ≠ []) → l.length ≤ l.flatten.length
  | [], _ => Nat.le_refl _
  | g :: r, h => by
    rw [List.length_cons, List.flatten_cons, List.length_append]
    have h1 := len_flat (l := r) fun g hg => h g (List.mem_cons_of_mem _ hg)
    have h2 : g.length ≠ 0 := fun z => h g List.mem_cons_self (List.length_eq_zero_iff.mp z)
    omega
theorem Good.olen (h : Good n c) : 1 ≤ c.2.length ∧ c.2.length ≤ n + 1 := by
  obtain ⟨ws, o⟩ := c
  cases o with
  | nil => exact absurd rfl h.ne
  | cons g r =>
    have h1 := len_flat (l := r) h.tl
    have h2 := h.pm.length_eq
    rw [rangeI_len, List.flatten_cons, List.length_append] at h2
    simp only [List.length_cons]
    omega
theorem mem_len {l : List (List Int)} {g : List Int} (h : g ∈ l) : g.length ≤ l.flatten.length := by
  obtain ⟨a, b, rfl⟩ := List.append_of_mem h
  rw [List.flatten_append, List.flatten_cons, List.length_append, List.length_append]
  omega
theorem Good.glen (h : Good n c) {g : List Int} (hg : g ∈ c.2) : g.length ≤ n := by
  have h1 := mem_len hg
  have h2 := h.pm.length_eq
  rw [rangeI_len] at h2
  omega
theorem ints_fit {g : List Int} (h : g.length ≤ 60) : fit 1 (.tuple (g.map .int)) := tup_fit (by rw [List.length_map]; exact h) fun d hd => by
  obtain ⟨i, _, rfl⟩ := List.mem_map.mp hd
  exact int_fit i
theorem ord_fit {o : List (List Int)} (h : o.length ≤ 60) (hg : ∀ g ∈ o, g.length ≤ 60) : fit 2 (ordD o) := tup_fit (by rw [List.length_map]; exact h) fun d hd => by
  obtain ⟨g, m, rfl⟩ := List.mem_map.mp hd
  exact ints_fit (hg g m)
theorem Good.ofit (h : Good n c) (hn : n ≤ 3) : fit 2 (ordD c.2) := ord_fit (by have := h.olen; omega) fun g hg => by have := h.glen hg; omega
theorem Good.wfit (h : Good n c) (hn : n ≤ 3) : fit 1 (.tuple (c.1.map .int)) := ints_fit (by have := h.len; omega)
theorem Good.fit (h : Good n c) (hn : n ≤ 3) : fit 3 (clsD c) := tup_fit (show 2 ≤ 60 by decide) fun d hd => by
  rcases List.mem_cons.mp hd with z | z
  · rw [z]; exact (h.wfit hn).mono (by decide)
  · rw [List.mem_singleton.mp z]; exact h.ofit hn
theorem Good.okC (h : Good n c) (h1 : 1 ≤ n) (hn : n ≤ 3) : okC c := by
  have e := h.len
  subst e
  exact ⟨h1, hn, isCls_good.mpr h, (h.fit hn).mono (by decide)⟩
theorem okC.good {c : List Int × List (List Int)} (h : okC c) : Good c.1.length c := isCls_good.mp h.2.2.1
/-! ### the place of a clock -/
def pl (o : List (List Int)) (i : Int) : Nat := o.findIdx fun g => decide (i ∈ g)
theorem pl_at {o : List (List Int)} (hn : o.flatten.Nodup) {k : Nat} {g : List Int} {i : Int} (hk : o[k]? = some g) (hi : i ∈ g) : pl o i = k := by
  unfold pl
  induction o generalizing k with
  | nil => cases hk
  | cons a r ih =>
    rw [List.flatten_cons, List.nodup_append] at hn
    rw [List.findIdx_cons]
    cases k with
    | zero =>
      simp only [List.getElem?_cons_zero, Option.some.injEq] at hk
      subst hk
      rw [decide_eq_true hi]
      rfl
    | succ k =>
      simp only [List.getElem?_cons_succ] at hk
      have hr : i ∈ r.flatten := List.mem_flatten.mpr ⟨g, List.mem_of_getElem? hk, hi⟩
      have hna : i ∉ a := fun z => hn.2.2 i z i hr rfl
      rw [decide_eq_false hna, ih hn.2.1 hk]
      rfl
theorem pl_lt {o : List (List Int)} {i : Int} (h : i ∈ o.flatten) : pl o i < o.length := by
  obtain ⟨g, h1, h2⟩ := List.mem_flatten.mp h
  exact List.findIdx_lt_length_of_exists ⟨g, h1, decide_eq_true h2⟩
theorem pl_mem {o : List (List Int)} {i : Int} (h : i ∈ o.flatten) : ∃ g, o[pl o i]? = some g ∧ i ∈ g := by
  have h1 := pl_lt h
  refine ⟨o[pl o i], List.getElem?_eq_getElem h1, ?_⟩
  have := List.findIdx_getElem (xs := o) (p := fun g => decide (i ∈ g)) (w := h1)
  exact of_decide_eq_true this
end
end Kb
/-! E1: told points. -/
namespace Kb
open PySem PySem.Spec PyProof.Rows L2 Evl Xd
/-! ### a heap without one address -/
def dr (p : Addr) (H : Hp) : Hp := fun b => if b = p then none else H b
theorem dr_self {p : Addr} {H : Hp} : dr p H p = none := if_pos rfl
theorem dr_ne {p b : Addr} {H : Hp} (h : b ≠ p) : dr p H b = H b := if_neg h
theorem dr_ex {p : Addr} {H : Hp} : Ex (dr p H) H := fun a u h => by
  by_cases e : a = p
  · rw [e, dr_self] at h; cases h
  · rw [dr_ne e] at h; exact h
theorem dr_kt {p : Addr} {H : Hp} {xs : List V} (h : H p = some (.lst xs)) : Kt H (dr p H) :=
  ⟨fun b ys e => by rw [dr_ne (fun z => by rw [z, h] at e; cases e)]; exact e, fun b o ys e => by rw [dr_ne (fun z => by rw [z, h] at e; cases e)]; exact e⟩
theorem dr_mono {p : Addr} {H H1 : Hp} (e : Ex H H1) : Ex (dr p H) (dr p H1) := fun a u h => by
  by_cases z : a = p
  · rw [z, dr_self] at h; cases h
  · rw [dr_ne z] at h ⊢; exact e a u h
theorem dr_upd {p : Addr} {H : Hp} {o : HO} : dr p (upd H p o) = dr p H := funext fun b => by
  by_cases z : b = p
  · rw [z, dr_self, dr_self]
  · rw [dr_ne z, dr_ne z, upd_ne z]
theorem dpAll_set {K : PySem.W.Frag} {H : Hp} {v : V} {d : PyData} : ∀ {j : Nat} {vs : List V} {ds : List PyData}, DpAll K H vs ds → Dp K H v d → DpAll K H (vs.set j v) (ds.set j d)
  | _, _, _, .nil, _ => .nil
  | 0, _, _, .cons _ a, h => .cons h a
  | j + 1, _, _, .cons h0 a, h => .cons h0 (dpAll_set a h)
theorem noL_fr (p : Int × Int) : noL (fr p) = true := rfl
theorem noLs_fr (fs : List (Int × Int)) : noLs (fs.map fr) = true := noLs_all fun d hd => by
  obtain ⟨p, _, rfl⟩ := List.mem_map.mp hd
  rfl
theorem noL_groups (o : List (List Int)) : noLs (o.map fun g => .tuple (g.map .int)) = true := noLs_all fun d hd => by
  obtain ⟨g, _, rfl⟩ := List.mem_map.mp hd
  exact noL_ints g
theorem noL_ord (o : List (List Int)) : noL (ordD o) = true := by
  show noL (.tuple _) = true
  simp only [noL]
  exact noL_groups o
theorem noL_cls (c : List Int × List (List Int)) : noL (clsD c) = true := by
  unfold clsD
  simp only [noL, noLs, noL_ord, Bool.and_true]
  exact noLs_all fun d hd => by
    obtain ⟨g, _, rfl⟩ := List.mem_map.mp hd
    rfl
/-- the told points of a class -/
def tp (c : List Int × List (List Int)) (i : Nat) : Int × Int := low (c.1.getD i 0 * (c.2.length : Int) + (pl c.2 i : Int)) (c.2.length : Int)
def toldR (c : List Int × List (List Int)) : List (Int × Int) := (List.range c.1.length).map (tp c)
def R_point (d r : PyData) : Prop := ∃ c, d = clsD c ∧ okC c ∧ r = rdD (toldR c)
theorem take_mem_step {g : List Int} {j : Nat} {i z : Int} (hj : g[j]? = some z) : i ∈ g.take (j + 1) ↔ i ∈ g.take j ∨ i = z := by
  rw [List.take_add_one, hj, List.mem_append]
  simp
theorem q_asgP {te : TE} {tz : TS} {D : Ends} {σ : L2.St} {H : Hp} {i : Nat} {Pd : V → Hp → Prop} (h : EvP te σ H Pd) (k : ∀ v H1, Ex H H1 → Pd v H1 → tz D (σ.set i (some v)) H1) : tSeq (tAsg te (gName i)) tz D σ H :=
  h H (Ex.refl H) _ fun v H1 e p => k v H1 e p
theorem q_asgD {K : PySem.W.Frag} {te : TE} {tz : TS} {D : Ends} {σ : L2.St} {H : Hp} {i : Nat} {d : PyData} (h : EvD K te σ H d) (k : ∀ v H1, Ex H H1 → Dp K H1 v d → tz D (σ.set i (some v)) H1) : tSeq (tAsg te (gName i)) tz D σ H := q_asgP h k
theorem q_asgG {K : PySem.W.Frag} {tz : TS} {σ : L2.St} {H : Hp} {v : V} {d1 d2 : PyData} {i a b : Nat} {D : Ends} (h : σ[i]? = some (some v)) (hd : Dp K H v (.tuple [d1, d2])) (k : ∀ v1 v2, Dp K H v1 d1 → Dp K H v2 d2 → tz D ((σ.set a (some v1)).set b (some v2)) H) :
    tSeq (tAsg (tVar i) (gTup K 2 (gCons (gName a) (gCons (gName b) gNil)))) tz D σ H := s_asgG (D := { D with nx := tz D }) h hd k
/-- a display of data, its cells told -/
theorem evp_lst {K : PySem.W.Frag} {ta : TA} {σ : L2.St} {H : Hp} {ds : List PyData} (h : EvAD K ta σ H ds) (hl : ds.length ≤ 100000) : EvP (tLst ta) σ H fun v H2 => ∃ p xs, v = .ref p ∧ H p = none ∧ H2 p = some (.lst xs) ∧ DpAll K H2 xs ds := fun H1 e Q q =>
  h H1 e _ fun vs H2 e2 ps => ⟨sz_of (by rw [dpAll_len ps]; exact hl), fun p hp => q _ _ (e2.trans (Ex.new hp)) ⟨p, vs, rfl, fresh_back (e.trans e2) hp, upd_same, dpAll_ex (Ex.new hp) ps⟩⟩
theorem dpAll_rep {K : PySem.W.Frag} {H : Hp} {xs : List V} {p : Int × Int} (h : DpAll K H xs [fr p]) : ∀ n : Nat, DpAll K H (List.replicate n xs).flatten ((List.replicate n p).map fr)
  | 0 => .nil
  | n + 1 => by
    rw [List.replicate_succ, List.flatten_cons, List.replicate_succ, List.map_cons]
    exact dpAll_app (ds := [fr p]) h (dpAll_rep h n)
/-- the list of the found points -/
def Pt (K : PySem.W.Frag) (c : List Int × List (List Int)) (p : Addr) (xs : List V) (fs : List (Int × Int)) (H : Hp) : Prop := H p = some (.lst xs) ∧ DpAll K H xs (fs.map fr) ∧ fs.length = c.1.length
theorem Pt.ex {K : PySem.W.Frag} {c : List Int × List (List Int)} {p : Addr} {xs : List V} {fs : List (Int × Int)} {H H1 : Hp} (h : Pt K c p xs fs H) (e : Ex H H1) : Pt K c p xs fs H1 := ⟨e _ _ h.1, dpAll_ex e h.2.1, h.2.2⟩
theorem enumD_at {α : Type} {f : α → PyData} {o : List α} {k : Nat} {e : PyData} (h : (enumD (o.map f))[k]? = some e) : ∃ g, o[k]? = some g ∧ e = .tuple [.int (k : Nat), f g] := by
  have hk := (List.getElem?_eq_some_iff.mp h).1
  rw [enumD_len, List.length_map] at hk
  have h2 := enumD_get (ds := o.map f) (i := k) (d := f o[k]) (by rw [List.getElem?_map, List.getElem?_eq_getElem hk]; rfl)
  rw [h] at h2
  exact ⟨_, List.getElem?_eq_getElem hk, Option.some.inj h2⟩
section
variable {P : Program} {w : World} {K : PySem.W.Frag} {mg : Str → Option Value} {base : Heap}
theorem sc_point_of : FnScope ["cls", "wholes", "order", "found", "place", "group", "clock"] ["cls"] (defScope (topS 28)) := ⟨rfl, rfl, rfl, by decide +kernel, rfl, by decide +kernel, by decide +kernel⟩
theorem ok_point_of (T : Tb mg) (D : DefAt K mg "point_of" (topS 28)) (C_lowest : Cal P w K mg base "lowest" 2 ["top", "bottom"] (Sp2 K f_lowest)) : Cal P w K mg base "point_of" 3 ["cls"] (Sr1 K R_point) := by
  refine cal_of D (fun _ _ _ _ _ _ us hl => match us, hl with | [_], _ => rfl) fun f fd F => F.ok sc_point_of (fun vs H Q E h => ?_) (fun cdv A outer s H vs Q E hr h => ?_)
  · obtain ⟨v, d, r, rfl, _⟩ := h
    rfl
  · obtain ⟨v, d, r, rfl, hd, ⟨c, rfl, hc, rfl⟩, q⟩ := h
    refine ⟨_, (pss_cons (ps_asg (pv 0) (pg_tup rfl (pgs_cons (pg_name (i := 1) sc_point_of.nd rfl (.inl rfl)) (pgs_cons (pg_name (i := 2) sc_point_of.nd rfl (.inl rfl)) pgs_nil))))
      (pss_cons (ps_set (i := 3) sc_point_of.nd rfl (.inl rfl) (pe_op op_rep (pe_lst (pa_cons (pe_tup (pa_cons pe_int (pa_cons pe_int pa_nil))) pa_nil)) (pe_callB call_len_seq rfl T.len bt_len (pa_cons (pv 1) pa_nil))))
      (pss_cons (ps_for PassesOwn.never rfl (Xr.pi_enumT rfl T.enumerate (pa_cons (pv 2) pa_nil)) (pg_tup rfl (pgs_cons (pg_name (i := 4) sc_point_of.nd rfl (.inl rfl)) (pgs_cons (pg_name (i := 5) sc_point_of.nd rfl (.inl rfl)) pgs_nil))) (pss_one (ps_for PassesOwn.never rfl (pi_tup (pv 5)) (pg_name (i := 6) sc_point_of.nd rfl (.inl rfl)) (pss_one (ps_asg (pe_callC C_lowest hr rfl (pa_cons (pe_op op_add (pe_op op_mul (pe_ix ix_tup (pv 1) (pv 6) (fun _ _ => rfl)) (pe_callB call_len_seq rfl T.len bt_len (pa_cons (pv 2) pa_nil))) (pv 4)) (pa_cons (pe_callB call_len_seq rfl T.len bt_len (pa_cons (pv 2) pa_nil)) pa_nil))) (pg_sub (pv 3) (pv 6) set_list))))))
      (pss_one (ps_ret (pe_callTy call_tuple_of rfl T.tuple bt_tuple (pa_cons (pv 3) pa_nil))))))), ?_⟩
    have hg := hc.good
    have h3 := hc.2.1
    obtain ⟨ol1, ol2⟩ := hg.olen
    have hm : 0 < (c.2.length : Int) := by omega
    have hm2 : (c.2.length : Int) < 2 ^ 1000 := Int.lt_of_lt_of_le (show (c.2.length : Int) < 2 ^ 3 by omega) (by decide)
    refine q_asgG rfl hd fun v1 v2 k1 k2 => ?_
    refine q_asgP (Pd := fun u H2 => ∃ p xs, u = .ref p ∧ H p = none ∧ H2 p = some (.lst xs) ∧ DpAll K H2 xs ((List.replicate c.1.length (0, 1)).map fr)) (fun H1 e1 Q q => ?_) fun u H1 e1 hp => ?_
    · refine evp_lst (K := K) (ds := [fr (0, 1)]) (ead1 (ed_tup (ead_cons (ed_int ev_c) (ead1 (ed_int ev_c))) (show 2 ≤ 100000 by decide))) (show 1 ≤ 100000 by decide) H1 e1 _ fun u H2 e2 ⟨p0, xs0, hu, hp0, hx, hdp⟩ => ?_
      subst hu
      refine ev_is (ev_lenT (ds := c.1.map .int) (ed_var rfl (dp_ex (e1.trans e2) k1))) (by rw [List.length_map]) H2 (Ex.refl _) _ fun H3 e3 => ?_
      have hxl := dpAll_len hdp
      refine ⟨p0, (c.1.length : Nat), xs0, rfl, rfl, e3 _ _ hx, by omega, by omega, ?_, fun pn hpn => q _ _ ((e2.trans e3).trans (Ex.new hpn)) ⟨pn, _, rfl, fresh_back ((e1.trans e2).trans e3) hpn, upd_same, ?_⟩⟩
      · rw [hxl, Int.toNat_natCast]
        exact Nat.le_of_lt (small1000 (show 1 * c.1.length ≤ 1000 by omega))
      · rw [Int.toNat_natCast]
        generalize c.1.length = n
        exact dpAll_rep (dpAll_ex (e3.trans (Ex.new hpn)) hdp) n
    · obtain ⟨p, xs, rfl, hpn, hpx, hdp⟩ := hp
      refine q_forJ (H0 := H) (evj_enumT rfl k2) e1 (fun k σ' H' => ∃ y4 y5 y6 xs fs, σ' = [some v, some v1, some v2, some (.ref p), y4, y5, y6] ∧ Ex H H' ∧ Pt K c p xs fs H' ∧ ∀ i, i < c.1.length → pl c.2 i < k → fs[i]? = some (tp c i))
        (fun H2 e2 => ⟨none, none, none, xs, _, rfl, e1.trans e2, ⟨e2 _ _ hpx, dpAll_ex e2 hdp, by rw [List.length_replicate]⟩, fun i _ h => absurd h (Nat.not_lt_zero _)⟩) (fun k σ' H' h => by obtain ⟨_, _, _, _, _, _, h, _⟩ := h; exact h) (fun k e x σ' H' he hI H2 e2 hx => ?_) fun σ' H' hI => ?_
      · obtain ⟨y4, y5, y6, xs', fs, rfl, ex, hP, hfs⟩ := hI
        obtain ⟨g, hgk, rfl⟩ := enumD_at he
        obtain ⟨v4, v5, h4, h5, h6⟩ := gto_two (i := 4) (j := 5) (σ := [some v, some v1, some v2, some (V.ref p), y4, y5, y6]) hx
        cases dp_int h4
        refine h6 _ ?_
        have hmem : g ∈ c.2 := List.mem_of_getElem? hgk
        have hP2 := hP.ex e2
        refine s_forJ (H0 := dr p H2) (evj_tup rfl (dp_kt (dr_kt hP2.1) (noL_ints g) h5)) dr_ex (fun j σ' H' => ∃ y6 xs fs, σ' = [some v, some v1, some v2, some (.ref p), some (.int (k : Nat)), some v5, y6] ∧ (Ex H H' ∧ Ex (dr p H2) H') ∧ Pt K c p xs fs H' ∧ ∀ i, i < c.1.length → (pl c.2 i < k ∨ (i : Int) ∈ g.take j) → fs[i]? = some (tp c i))
          (fun H3 e3 => ⟨y6, xs', fs, rfl, ⟨(ex.trans e2).trans e3, dr_ex.trans e3⟩, hP2.ex e3, fun i hi h => hfs i hi (h.elim id fun z => by rw [List.take_zero] at z; cases z)⟩) (fun j σ' H' h => by obtain ⟨_, _, _, _, h, _⟩ := h; exact h.2) (fun j e x σ' H' he hI H3 e3 hx => ?_) fun σ' H' hI => ?_
        · obtain ⟨y6', xs2, fs2, rfl, ⟨exa, exb⟩, hP3, hfs2⟩ := hI
          rw [List.getElem?_map] at he
          cases hz : g[j]? with
          | none => rw [hz] at he; cases he
          | some z =>
            rw [hz] at he
            cases he
            cases dp_int hx
            have hzg : z ∈ g := List.mem_of_getElem? hz
            have hzi := hg.els g hmem z hzg
            obtain ⟨i0, rfl⟩ : ∃ i0 : Nat, z = i0 := ⟨z.toNat, by omega⟩
            have hi0 : i0 < c.1.length := by omega
            have hpl : pl c.2 (i0 : Int) = k := pl_at hg.nodup hgk hzg
            have hP4 := hP3.ex e3
            have hwi : (c.1.map PyData.int)[i0]? = some (.int (c.1.getD i0 0)) := by
              rw [List.getElem?_map, List.getD_eq_getElem?_getD, List.getElem?_eq_getElem hi0]
              rfl
            have hd3 := dp_ex (exa.trans e3) hd
            have hln : ∀ σ, σ[2]? = some (some v2) → Ev (tCB (rLenS K) (tCons (tVar 2) tNil)) σ H3 (.int (c.2.length : Nat)) := fun σ hσ => ev_is (ev_lenT (ed_var hσ (dp_ex (exa.trans e3) k2))) (by rw [List.length_map])
            refine ed_call2 (K := K) (d1 := .int (c.1.getD i0 0 * (c.2.length : Nat) + (k : Nat))) (d2 := .int (c.2.length : Nat)) (d := fr (tp c i0)) (ead_cons (ed_int (ev_op (ev_op (ev_int (ed_ixT (ed_var rfl (dp_ex (exa.trans e3) k1)) (ev_var rfl) (atI_nat hwi))) (hln _ rfl) (rv_I ?_)) (ev_var rfl) rv_I0)) (ead1 (ed_int (hln _ rfl)))) ?_ H3 (Ex.refl _) _ fun u H4 e4 hu => ?_
            · exact .inr ⟨by omega, by omega⟩
            · show (if 0 < ((c.2.length : Nat) : Int) ∧ ((c.2.length : Nat) : Int) < 2 ^ 1000 then some _ else none) = _
              rw [if_pos ⟨hm, hm2⟩]
              unfold tp
              rw [hpl]
            · obtain ⟨hq1, hq2, hq3⟩ := hP4.ex e4
              refine ⟨.ref p, rfl, .int (i0 : Nat), rfl, p, xs2, (i0 : Nat), i0, rfl, rfl, hq1, ixN_nat ?_, ?_⟩
              · rw [dpAll_len hq2, List.length_map, hq3]
                exact hi0
              · refine ⟨_, _, fs2.set i0 (tp c i0), rfl, ⟨((exa.trans e3).trans e4).mut hpn, ((exb.trans e3).trans e4).mut dr_self⟩, ⟨upd_same, ?_, by rw [List.length_set]; exact hq3⟩, fun i hi h => ?_⟩
                · have := dpAll_kt (Kt.lst (u := .lst (xs2.set i0 u)) hq1) (noLs_fr _) (by rw [List.map_set]; exact dpAll_set (j := i0) hq2 hu : DpAll K H4 (xs2.set i0 u) ((fs2.set i0 (tp c i0)).map fr))
                  exact this
                · by_cases hii : i = i0
                  · rw [hii, List.getElem?_set_self (by omega)]
                  · rw [List.getElem?_set_ne (fun z => hii z.symm)]
                    refine hfs2 i hi (h.imp id fun m => ?_)
                    exact ((take_mem_step hz).mp m).resolve_right fun z => hii (by omega)
        · obtain ⟨y6', xs2, fs2, rfl, ⟨exa, exb⟩, hP3, hfs2⟩ := hI
          refine ⟨_, _, _, xs2, fs2, rfl, exa, hP3, fun i hi h => hfs2 i hi ?_⟩
          rw [List.length_map, List.take_length]
          by_cases hlt : pl c.2 i < k
          · exact .inl hlt
          · obtain ⟨g2, m1, m2⟩ := pl_mem (hg.mem.mpr ⟨by omega, by omega⟩ : (i : Int) ∈ c.2.flatten)
            have e5 : pl c.2 i = k := by omega
            rw [e5, hgk] at m1
            cases m1
            exact .inr m2
      · obtain ⟨y4, y5, y6, xs', fs, rfl, ex, hP, hfs⟩ := hI
        rw [enumD_len, List.length_map] at hfs
        have e5 : fs = toldR c := by
          refine List.ext_getElem? fun i => ?_
          unfold toldR
          rw [List.getElem?_map]
          by_cases hi : i < c.1.length
          · rw [hfs i hi (pl_lt (hg.mem.mpr ⟨by omega, by omega⟩)), List.getElem?_range hi]
            rfl
          · rw [List.getElem?_eq_none (by rw [hP.2.2]; omega), List.getElem?_eq_none (by rw [List.length_range]; omega)]
            rfl
        refine s_ret0 (ed_tupleL (ed_var rfl (dp_newL hP.1 (by rw [← e5]; exact hP.2.1)))) ex q rfl
theorem sc_told_point : FnScope ["cls"] ["cls"] (defScope (topS 33)) := ⟨rfl, rfl, rfl, by decide +kernel, rfl, by decide +kernel, by decide +kernel⟩
theorem ok_told_point (T : Tb mg) (D : DefAt K mg "told_point" (topS 33)) (C_require_class : Cal P w K mg base "require_class" 7 ["value"] (Sr1 K R_reqc)) (C_point_of : Cal P w K mg base "point_of" 3 ["cls"] (Sr1 K R_point)) : Cal P w K mg base "told_point" 8 ["cls"] (Sr1 K R_point) := by
  refine cal_of D (fun _ _ _ _ _ _ us hl => match us, hl with | [_], _ => rfl) fun f fd F => F.ok sc_told_point (fun vs H Q E h => ?_) (fun cdv A outer s H vs Q E hr h => ?_)
  · obtain ⟨v, d, r, rfl, _⟩ := h
    rfl
  · obtain ⟨v, d, r, rfl, hd, hR, q⟩ := h
    refine ⟨_, (pss_cons (ps_expr (pe_callC C_require_class hr rfl (pa_cons (pv 0) pa_nil)))
      (pss_one (ps_ret (pe_callC C_point_of hr rfl (pa_cons (pv 0) pa_nil))))), ?_⟩
    obtain ⟨c, rfl, hc, rfl⟩ := id hR
    refine q_drop (v := .non) (fun H1 e Q q => (ed_callr1 (d := .none) (ead1 (ed_var rfl hd)) ⟨c, rfl, hc, rfl⟩) H1 e Q fun v2 H2 e2 p => by cases p; exact q H2 e2) fun H1 e1 => ?_
    exact s_ret0 (ed_callr1 (ead1 (ed_var rfl (dp_ex e1 hd))) hR) e1 q rfl
end
end Kb
/-! E2: the dice: a list of three whole numbers that is written in place. -/
namespace Kb
open PySem PySem.Spec PyProof.Rows L2 Evl Xd
/-- all is kept but what stands at one address -/
def Ed (a : Addr) (H H1 : Hp) : Prop := ∀ b o, b ≠ a → H b = some o → H1 b = some o
section
variable {a p : Addr} {H H1 H2 : Hp}
theorem Ed.refl : Ed a H H := fun _ _ _ h => h
theorem Ed.trans (x : Ed a H H1) (y : Ed a H1 H2) : Ed a H H2 := fun b o n h => y b o n (x b o n h)
theorem Ed.of (e : Ex H H1) : Ed a H H1 := fun b o _ h => e b o h
theorem Ed.self {o : HO} (x : Ed a H H1) : Ed a H (upd H1 a o) := fun b u n h => by rw [upd_ne n]; exact x b u n h
theorem Ed.mut {o : HO} (x : Ed a H H1) (h : H p = none) : Ed a H (upd H1 p o) := fun b u n e => by
  rw [upd_ne (ne_of_none e h)]
  exact x b u n e
theorem Ed.dr (x : Ed a H H1) : Ex (dr a H) H1 := fun b o h => by
  by_cases z : b = a
  · rw [z, dr_self] at h; cases h
  · rw [dr_ne z] at h; exact x b o z h
theorem Ed.drr (x : Ed a H H1) : Ex (Kb.dr a H) (Kb.dr a H1) := fun b o h => by
  by_cases z : b = a
  · rw [z, dr_self] at h; cases h
  · rw [dr_ne z] at h ⊢; exact x b o z h
theorem Ed.kt {xs : List V} (x : Ed a H H1) (h : H a = some (.lst xs)) : Kt H H1 := ⟨fun b ys e => x b _ (fun z => by rw [z, h] at e; cases e) e, fun b o ys e => x b _ (fun z => by rw [z, h] at e; cases e) e⟩
end
/-- the dice -/
def Dc (a : Addr) (H : Hp) : Prop := ∃ x y z : Int, H a = some (.lst [.int x, .int y, .int z])
theorem Dc.ex {a : Addr} {H H1 : Hp} (h : Dc a H) (e : Ex H H1) : Dc a H1 := by
  obtain ⟨x, y, z, h⟩ := h
  exact ⟨x, y, z, e _ _ h⟩
theorem Ed.ktD {a : Addr} {H H1 : Hp} (x : Ed a H H1) (h : Dc a H) : Kt H H1 := by
  obtain ⟨_, _, _, h⟩ := h
  exact x.kt h
theorem Dc.mut {a p : Addr} {H : Hp} {o : HO} (h : Dc a H) (n : a ≠ p) : Dc a (upd H p o) := by
  obtain ⟨x, y, z, h⟩ := h
  exact ⟨x, y, z, by rw [upd_ne n]; exact h⟩
/-- a roll gives some number below the greatest one -/
def S_roll : Sp := fun vs H Q _ => ∃ (a : Addr) (m : Int), vs = [.ref a, .int m] ∧ Dc a H ∧ 1 ≤ m ∧ m < 2 ^ 30 ∧ ∀ (r : Int) (H1 : Hp), 0 ≤ r → r < m → Ed a H H1 → Dc a H1 → Q (.int r) H1
def S_pick : Sp := fun vs H Q _ => ∃ (a b : Addr) (xs : List V), vs = [.ref a, .ref b] ∧ Dc a H ∧ a ≠ b ∧ H b = some (.lst xs) ∧ 1 ≤ xs.length ∧ xs.length < 2 ^ 30 ∧ ∀ (x : V) (H1 : Hp), x ∈ xs → Ed a H H1 → Dc a H1 → Q x H1
def S_shuf (K : PySem.W.Frag) : Sp := fun vs H Q _ => ∃ (a b : Addr) (ns : List Int), vs = [.ref a, .ref b] ∧ Dc a H ∧ H b = some (.lst (ns.map .int)) ∧ ns.length ≤ 1000 ∧
  ∀ (ms : List Int) (p : Addr) (H1 : Hp), ms.Perm ns → H p = none → Ed a H H1 → Dc a H1 → H1 p = some (.lst (ms.map .int)) → Q (.ref p) H1
def S_dice (K : PySem.W.Frag) : Sp := fun vs H Q _ => ∃ (b : Addr) (ns : List Int) (k : Nat), vs = [.ref b, .int (k : Nat)] ∧ SqL K H b (ns.map .int) ∧ k < 1000 ∧ ∀ (a : Addr) (H1 : Hp), H a = none → Ex H H1 → Dc a H1 → Q (.ref a) H1
section
variable {σ : L2.St} {H : Hp} {ta tb te : TE} {K : PySem.W.Frag}
theorem ev_int1 {i : Int} (h : Ev te σ H (.int i)) : Ev (tCB (fun xs H Q => (∃ i, xs = [.int i] ∧ Q (.int i) H) ∨ ∃ k, xs = [.bl k] ∧ Q (.int (if k then 1 else 0)) H) (tCons te tNil)) σ H (.int i) := fun H1 e Q q =>
  h H1 e _ fun H2 e2 => .inl ⟨i, rfl, q H2 e2⟩
theorem ev_int1b {b : Bool} (h : Ev te σ H (.bl b)) : Ev (tCB (fun xs H Q => (∃ i, xs = [.int i] ∧ Q (.int i) H) ∨ ∃ k, xs = [.bl k] ∧ Q (.int (if k then 1 else 0)) H) (tCons te tNil)) σ H (.int (if b then 1 else 0)) := fun H1 e Q q =>
  h H1 e _ fun H2 e2 => .inr ⟨b, rfl, q H2 e2⟩
theorem ev_ixL0 {p : Addr} {xs : List V} {i : Int} {v : V} (ha : Ev ta σ H (.ref p)) (h : H p = some (.lst xs)) (hi : atI xs i = some v) : Ev (tOp (rIxL K) ta (tC (.int i))) σ H v := ev_op ha ev_c (rv_ixL (sq_of h) hi)
theorem fmod_lo {i j : Int} (h : 0 < j) : 0 ≤ i.fmod j ∧ i.fmod j < j := by
  rw [Int.fmod_eq_emod_of_nonneg _ (by omega)]
  exact ⟨Int.emod_nonneg _ (by omega), Int.emod_lt_of_pos _ h⟩
end
theorem pow_mulW : CMulW ((10 : Int) ^ (Int.toNat 57)) ((10 : Int) ^ (Int.toNat 59)) := by
  unfold CMulW
  decide +kernel
theorem pow_ne : ((10 : Int) ^ (Int.toNat 57)) * ((10 : Int) ^ (Int.toNat 59)) ≠ 0 := by decide +kernel
section
variable {P : Program} {w : World} {K : PySem.W.Frag} {mg : Str → Option Value} {base : Heap}
theorem sc__law_roll : FnScope ["_law_dice_here", "_law_most", "_law_found", "_law_one", "_law_two"] ["_law_dice_here", "_law_most"] (defScope (topS 37)) := ⟨rfl, rfl, rfl, by decide +kernel, rfl, by decide +kernel, by decide +kernel⟩
theorem ok_law_roll (T : Tb mg) (D : DefAt K mg "_law_roll" (topS 37)) : Cal P w K mg base "_law_roll" 1 ["_law_dice_here", "_law_most"] S_roll := by
  refine cal_of D (fun _ _ _ _ _ _ us hl => match us, hl with | [_, _], _ => rfl) fun f fd F => F.ok sc__law_roll (fun vs H Q E h => ?_) (fun cdv A outer s H vs Q E hr h => ?_)
  · obtain ⟨a, m, rfl, _⟩ := h
    rfl
  · obtain ⟨a, m, rfl, ⟨x, y, z, hx⟩, h1, h2, q⟩ := h
    refine ⟨_, (pss_cons (ps_if (pt_cmpR op_gt (pe_ix ix_list (pv 0) pe_int (fun _ _ => rfl)) pe_int (nomark _)) (pss_cons (ps_set (i := 2) sc__law_roll.nd rfl (.inl rfl) (pe_op op_modN (pe_callTy call_int1 rfl T.int bt_int (pa_cons (pe_ix ix_list (pv 0) pe_int (fun _ _ => rfl)) pa_nil)) (pv 1)))
      (pss_cons (ps_asg (pe_op op_fdivN (pe_ix ix_list (pv 0) pe_int (fun _ _ => rfl)) (pv 1)) (pg_sub (pv 0) pe_int set_list))
      (pss_one (ps_ret (pv 2))))) pss_nil)
      (pss_cons (ps_asg (pe_op op_add (pe_ix ix_list (pv 0) pe_int (fun _ _ => rfl)) pe_int) (pg_sub (pv 0) pe_int set_list))
      (pss_cons (ps_set (i := 3) sc__law_roll.nd rfl (.inl rfl) (pe_op op_modN (pe_callTy call_int1 rfl T.int bt_int (pa_cons (pe_op op_add (pe_ix ix_list (pv 0) pe_int (fun _ _ => rfl)) (pe_op op_mul pe_int (pe_ix ix_list (pv 0) pe_int (fun _ _ => rfl)))) pa_nil)) pe_int))
      (pss_cons (ps_set (i := 4) sc__law_roll.nd rfl (.inl rfl) (pe_op op_add (pe_op op_mul (pe_op op_modN (pe_callTy call_int1 rfl T.int bt_int (pa_cons (pe_op op_add (pe_op op_mul (pv 3) (pv 3)) (pe_op op_mul pe_int (pe_ix ix_list (pv 0) pe_int (fun _ _ => rfl)))) pa_nil)) pe_int) pe_int) (pv 3)))
      (pss_one (ps_ret (pe_op op_modN (pe_callTy call_int1 rfl T.int bt_int (pa_cons (pe_op op_fdivN (pv 4) pe_int) pa_nil)) (pv 1)))))))), ?_⟩
    refine q_when (b := decide (0 < x)) (et_test (ev_op (ev_ixL0 (ev_var rfl) hx rfl) ev_c rv_I0)) (fun hb H1 e1 => ?_) fun hb H1 e1 => ?_
    · have hx1 := e1 _ _ hx
      refine q_asg (ev_op (ev_int1 (ev_ixL0 (ev_var rfl) hx1 rfl)) (ev_var rfl) (rv_I (show m ≠ 0 by omega))) fun H2 e2 => ?_
      have hx2 := e2 _ _ hx1
      refine q_setL (j := 0) hx2 (ev_op (ev_ixL0 (ev_var rfl) hx2 rfl) (ev_var rfl) (rv_I ⟨by omega, by omega⟩)) (ev_var rfl) ev_c (show 0 < 3 by decide) fun H3 e3 => ?_
      obtain ⟨g1, g2⟩ := fmod_lo (i := x) (show 0 < m by omega)
      exact ⟨_, rfl, q _ _ g1 g2 (Ed.of ((e1.trans e2).trans e3)).self ⟨_, _, _, upd_same⟩⟩
    · have hx1 := e1 _ _ hx
      refine q_setL (j := 2) hx1 (ev_op (ev_ixL0 (ev_var rfl) hx1 rfl) ev_c rv_I0) (ev_var rfl) ev_c (show 2 < 3 by decide) fun H2 e2 => ?_
      have hx2 : (upd H2 a (.lst ([V.int x, .int y, .int z].set 2 (.int (z + 1))))) a = some (.lst [.int x, .int y, .int (z + 1)]) := upd_same
      generalize hH3 : upd H2 a (.lst ([V.int x, .int y, .int z].set 2 (.int (z + 1)))) = H3 at hx2
      have hE : Ed a H H3 := by
        rw [← hH3]
        exact (Ed.of (e1.trans e2)).self
      refine q_asg (ev_op (ev_int1 (ev_op (ev_ixL0 (ev_var rfl) hx2 rfl) (ev_op ev_c (ev_ixL0 (ev_var rfl) hx2 rfl) (rv_I (.inl ⟨by decide, by decide⟩))) rv_I0)) ev_c (rv_I (by decide))) fun H4 e4 => ?_
      obtain ⟨g1, g2⟩ := fmod_lo (i := y + 71828177 * (z + 1)) (show (0 : Int) < 2305843009213693421 by decide)
      generalize (y + 71828177 * (z + 1)).fmod 2305843009213693421 = one at g1 g2
      have hx4 := e4 _ _ hx2
      refine q_asg (ev_op (ev_op (ev_op (ev_int1 (ev_op (ev_op (ev_var rfl) (ev_var rfl) (rv_I (.inl ⟨by omega, by omega⟩))) (ev_op ev_c (ev_ixL0 (ev_var rfl) hx4 rfl) (rv_I (.inl ⟨by decide, by decide⟩))) rv_I0)) ev_c (rv_I (by decide))) ev_c (rv_I (.inr ⟨by decide, by decide⟩))) (ev_var rfl) rv_I0) fun H5 e5 => ?_
      generalize ((one * one + 89 * (z + 1)).fmod 2305843009213693381 * 8128163 + one) = two
      refine s_ret (ev_op (ev_int1 (ev_op (ev_var rfl) ev_c (rv_I ⟨by decide, by decide⟩))) (ev_var rfl) (rv_I (show m ≠ 0 by omega))) fun H6 e6 => ?_
      obtain ⟨g3, g4⟩ := fmod_lo (i := two.fdiv 65579) (show 0 < m by omega)
      exact q _ _ g3 g4 (hE.trans (Ed.of ((e4.trans e5).trans e6))) ⟨_, _, _, ((e4.trans e5).trans e6) _ _ hx2⟩
theorem sc__law_pick : FnScope ["_law_dice_here", "_law_items"] ["_law_dice_here", "_law_items"] (defScope (topS 38)) := ⟨rfl, rfl, rfl, by decide +kernel, rfl, by decide +kernel, by decide +kernel⟩
theorem ok_law_pick (T : Tb mg) (D : DefAt K mg "_law_pick" (topS 38)) (C__law_roll : Cal P w K mg base "_law_roll" 1 ["_law_dice_here", "_law_most"] S_roll) : Cal P w K mg base "_law_pick" 2 ["_law_dice_here", "_law_items"] S_pick := by
  refine cal_of D (fun _ _ _ _ _ _ us hl => match us, hl with | [_, _], _ => rfl) fun f fd F => F.ok sc__law_pick (fun vs H Q E h => ?_) (fun cdv A outer s H vs Q E hr h => ?_)
  · obtain ⟨a, b, xs, rfl, _⟩ := h
    rfl
  · obtain ⟨a, b, xs, rfl, hD, hne, hb, h1, h2, q⟩ := h
    refine ⟨_, (pss_one (ps_ret (pe_ix ix_list (pv 1) (pe_callC C__law_roll hr rfl (pa_cons (pv 0) (pa_cons (pe_callB call_len_seq rfl T.len bt_len (pa_cons (pv 1) pa_nil)) pa_nil))) (fun _ _ => rfl)))), ?_⟩
    refine ⟨.ref b, rfl, .ref a, rfl, ?_⟩
    refine ev_len (ev_var rfl) (sq_of hb) H (Ex.refl H) _ fun H1 e1 => ?_
    refine ⟨a, (xs.length : Nat), rfl, hD.ex e1, by omega, by omega, fun r H2 g1 g2 ed hd2 => ?_⟩
    obtain ⟨i, rfl⟩ : ∃ i : Nat, r = i := ⟨r.toNat, by omega⟩
    have hi : i < xs.length := by omega
    have hb2 := ed b _ hne.symm (e1 _ _ hb)
    exact ⟨b, xs, (i : Nat), xs[i], rfl, rfl, sq_of hb2, atI_nat (List.getElem?_eq_getElem hi), q _ _ (List.getElem_mem hi) ((Ed.of e1).trans ed) hd2⟩
theorem sc__law_dice : FnScope ["_law_script", "_law_spot", "_law_cell", "_law_left"] ["_law_script", "_law_spot"] (defScope (topS 36)) := ⟨rfl, rfl, rfl, by decide +kernel, rfl, by decide +kernel, by decide +kernel⟩
theorem ok_law_dice (T : Tb mg) (D : DefAt K mg "_law_dice" (topS 36)) : Cal P w K mg base "_law_dice" 1 ["_law_script", "_law_spot"] (S_dice K) := by
  refine cal_of D (fun _ _ _ _ _ _ us hl => match us, hl with | [_, _], _ => rfl) fun f fd F => F.ok sc__law_dice (fun vs H Q E h => ?_) (fun cdv A outer s H vs Q E hr h => ?_)
  · obtain ⟨b, ns, k, rfl, _⟩ := h
    rfl
  · obtain ⟨b, ns, k, rfl, hs, hk, q⟩ := h
    refine ⟨_, (pss_cons (ps_set (i := 2) sc__law_dice.nd rfl (.inl rfl) (pe_ifExp (pt_cmpR op_lt (pv 1) (pe_callB call_len_seq rfl T.len bt_len (pa_cons (pv 0) pa_nil)) (nomark _)) (pe_callTy call_int1 rfl T.int bt_int (pa_cons (pe_ix ix_list (pv 0) (pv 1) (fun _ _ => rfl)) pa_nil)) (pe_op op_add (pe_op op_mul pe_int (pv 1)) pe_int)))
      (pss_cons (ps_set (i := 3) sc__law_dice.nd rfl (.inl rfl) (pe_op op_modN (pe_callB (call_max2 rfl) rfl T.max bt_max (pa_cons pe_int (pa_cons (pe_op op_sub (pe_callB call_abs rfl T.abs bt_abs (pa_cons (pv 2) pa_nil)) (pe_op op_pow pe_int pe_int)) pa_nil))) (pe_op op_mulW (pe_op op_pow pe_int pe_int) (pe_op op_pow pe_int pe_int))))
      (pss_one (ps_ret (pe_lst (pa_cons (pv 3) (pa_cons (pe_op op_add (pe_op op_add (pe_op op_add (pe_op op_mul (pe_op op_modN (pe_callB call_abs rfl T.abs bt_abs (pa_cons (pv 2) pa_nil)) pe_int) pe_int) (pe_op op_mul pe_int (pv 1))) (pe_op op_mul pe_int (pe_callTy call_int1 rfl T.int bt_int (pa_cons (pe_cmpR op_lt (pv 2) pe_int (nomark _)) pa_nil)))) pe_int) (pa_cons pe_int pa_nil)))))))), ?_⟩
    obtain ⟨c, hc⟩ : ∃ c : Int, c = if decide ((k : Int) < (ns.length : Int)) = true then ns.getD k 0 else 71 * (k : Int) + 43 := ⟨_, rfl⟩
    refine q_asg (v := .int c) (ev_if (b := decide ((k : Int) < (ns.length : Int))) (et_test (ev_is (ev_op (ev_var rfl) (ev_len (ev_var rfl) hs) rv_I0) (by rw [List.length_map]))) (fun hb => ?_) fun hb => ?_) fun H1 e1 => ?_
    · have hl : k < ns.length := by
        have := of_decide_eq_true hb
        omega
      rw [if_pos hb] at hc
      refine ev_int1 (ev_op (ev_var rfl) (ev_var rfl) (rv_ixL hs (atI_nat ?_)))
      rw [List.getElem?_map, List.getElem?_eq_getElem hl, hc, List.getD_eq_getElem?_getD, List.getElem?_eq_getElem hl]
      rfl
    · rw [if_neg (by rw [hb]; exact Bool.false_ne_true)] at hc
      subst hc
      exact ev_op (ev_op ev_c (ev_var rfl) (rv_I (.inl ⟨by decide, by decide⟩))) ev_c rv_I0
    · refine q_asg (ev_op (ev_max2 ev_c (ev_op (ev_abs (ev_var rfl)) (ev_op ev_c ev_c (rv_I ⟨by decide, by decide, by decide⟩)) rv_I0)) (ev_op (ev_op ev_c ev_c (rv_I ⟨by decide, by decide, by decide⟩)) (ev_op ev_c ev_c (rv_I ⟨by decide, by decide, by decide⟩)) (rv_I ?_)) (rv_I ?_)) fun H2 e2 => ?_
      · exact pow_mulW
      · exact pow_ne
      · refine s_retL (el_lst (ea_cons (ev_var rfl) (ea_cons (ev_op (ev_op (ev_op (ev_op (ev_op (ev_abs (ev_var rfl)) ev_c (rv_I (by decide))) ev_c (rv_I (Or.inr ⟨by decide, by decide⟩))) (ev_op ev_c (ev_var rfl) (rv_I (Or.inl ⟨by decide, by decide⟩))) rv_I0)
          (ev_op ev_c (ev_int1b (ev_op (ev_var rfl) ev_c rv_I0)) (rv_I (Or.inl ⟨by decide, by decide⟩))) rv_I0) ev_c rv_I0) (ea_cons ev_c ea_nil))) (show 3 ≤ 100000 by decide)) fun p H3 hp e3 h3 => ?_
        exact q _ _ (fresh_back (e1.trans e2) hp) ((e1.trans e2).trans e3) ⟨_, _, _, h3⟩
theorem erase_map (l : List Int) (i : Nat) : (l.map V.int).eraseIdx i = (l.eraseIdx i).map V.int := by
  rw [List.eraseIdx_eq_take_drop_succ, List.eraseIdx_eq_take_drop_succ, List.map_append, List.map_take, List.map_drop]
theorem erase_perm {l : List Int} {i : Nat} (h : i < l.length) : ([l[i]] ++ l.eraseIdx i).Perm l := by
  have e : l.take i ++ l[i] :: l.drop (i + 1) = l := by rw [List.getElem_cons_drop, List.take_append_drop]
  rw [List.eraseIdx_eq_take_drop_succ]
  have h2 : (l.take i ++ l[i] :: l.drop (i + 1)).Perm (l[i] :: (l.take i ++ l.drop (i + 1))) := List.perm_middle
  rw [e] at h2
  exact h2.symm
theorem q_parL {t1 t2 : TE} {tz : TS} {D : Ends} {σ : L2.St} {H : Hp} {xs ys : List V} {i j : Nat} (h1 : EvL t1 σ H xs) (h2 : EvL t2 σ H ys) (k : ∀ p q H1, H p = none → H q = none → p ≠ q → Ex H H1 → H1 p = some (.lst xs) → H1 q = some (.lst ys) → tz D ((σ.set i (some (.ref p))).set j (some (.ref q))) H1) :
    tSeq (tPar i j (tCons t1 (tCons t2 tNil))) tz D σ H := h1 H (Ex.refl H) _ fun p H1 hp e1 h1p => h2 H1 e1 _ fun q H2 hq e2 h2q =>
  ⟨.ref p, .ref q, rfl, k p q H2 hp (fresh_back e1 hq) (fun z => by rw [z, hq] at h1p; cases h1p) (e1.trans e2) (e2 _ _ h1p) h2q⟩
theorem sc__law_shuffled : FnScope ["_law_dice_here", "_law_items", "_law_left", "_law_found"] ["_law_dice_here", "_law_items"] (defScope (topS 39)) := ⟨rfl, rfl, rfl, by decide +kernel, rfl, by decide +kernel, by decide +kernel⟩
theorem ok_law_shuffled (T : Tb mg) (D : DefAt K mg "_law_shuffled" (topS 39)) (C__law_roll : Cal P w K mg base "_law_roll" 1 ["_law_dice_here", "_law_most"] S_roll) : Cal P w K mg base "_law_shuffled" 2 ["_law_dice_here", "_law_items"] (S_shuf K) := by
  refine cal_of D (fun _ _ _ _ _ _ us hl => match us, hl with | [_, _], _ => rfl) fun f fd F => F.ok sc__law_shuffled (fun vs H Q E h => ?_) (fun cdv A outer s H vs Q E hr h => ?_)
  · obtain ⟨a, b, xs, rfl, _⟩ := h
    rfl
  · obtain ⟨a, b, ns, rfl, hD, hb, hn, q⟩ := h
    refine ⟨_, (pss_cons (ps_par (i := 2) (j := 3) rfl sc__law_shuffled.nd rfl rfl (by decide) rfl rfl (pa_cons (pe_callTy call_list_of rfl T.list bt_list (pa_cons (pv 1) pa_nil)) (pa_cons (pe_lst pa_nil) pa_nil)) (by rfl))
      (pss_cons (ps_while PassesOwn.never (pt_cmpR (op_neD hr.units) (pv 2) (pe_lst pa_nil) (nomark _)) (pss_one (ps_expr (pe_bm PySem.F.plainAttrs_list PySem.F.slot_list_append PySem.F.type_list_append mt_append (pv 3) (pa_cons (pe_bm PySem.F.plainAttrs_list PySem.F.slot_list_pop PySem.F.type_list_pop mt_popAt (pv 2) (pa_cons (pe_callC C__law_roll hr rfl (pa_cons (pv 0) (pa_cons (pe_callB call_len_seq rfl T.len bt_len (pa_cons (pv 2) pa_nil)) pa_nil))) pa_nil)) pa_nil)))))
      (pss_one (ps_ret (pv 3))))), ?_⟩
    refine q_parL (ys := []) (el_list (ev_var rfl) (sq_of hb)) (el_lst ea_nil (show 0 ≤ 100000 by decide)) fun l f H1 hl hf hlf e1 hl1 hf1 => ?_
    obtain ⟨_, _, _, hDa⟩ := id hD
    have hla : l ≠ a := fun z => by rw [z, hDa] at hl; cases hl
    have hfa : f ≠ a := fun z => by rw [z, hDa] at hf; cases hf
    refine q_while (fun m σ H' => ∃ left found : List Int, m = left.length ∧ σ = [some (.ref a), some (.ref b), some (.ref l), some (.ref f)] ∧ H' l = some (.lst (left.map .int)) ∧ H' f = some (.lst (found.map .int)) ∧ (found ++ left).Perm ns ∧ Dc a H' ∧ Ed a H H') ns.length
      ⟨ns, [], rfl, rfl, hl1, hf1, List.Perm.refl _, hD.ex e1, Ed.of e1⟩ fun m σ H2 hW => ?_
    obtain ⟨left, found, rfl, rfl, kl, kf, hp, kD, kE⟩ := hW
    have hpl := hp.length_eq
    rw [List.length_append] at hpl
    refine ⟨!decide (left = []), et_test (ev_is (ev_neD (d1 := .list (left.map .int)) (d2 := .list []) (ed_var rfl (dp_newL kl (ints_dpAll _))) (ed_lst ead_nil (show 0 ≤ 100000 by decide)) (shaped_ints left) (shaped_ints [])) ?_), fun ht H3 e3 => ?_, fun ht H3 e3 => ?_⟩
    · rw [show PyData.list [] = .list (([] : List Int).map .int) from rfl, eqv_ints]
    · have hne : left ≠ [] := fun z => by rw [z] at ht; cases ht
      have hlen : 0 < left.length := List.length_pos_iff.mpr hne
      have kl3 := e3 _ _ kl
      have kf3 := e3 _ _ kf
      refine ⟨fun σ' H' => ∃ left' found' : List Int, left'.length < left.length ∧ σ' = [some (.ref a), some (.ref b), some (.ref l), some (.ref f)] ∧ H' l = some (.lst (left'.map .int)) ∧ H' f = some (.lst (found'.map .int)) ∧ (found' ++ left').Perm ns ∧ Dc a H' ∧ Ed a H H', fun σ' H' h => ?_, ?_⟩
      · obtain ⟨left', found', h1, h2, h3⟩ := h
        exact ⟨left'.length, h1, left', found', rfl, h2, h3⟩
      · refine ⟨.ref f, rfl, Or.inl ⟨rfl, _, sq_of kf3⟩, .ref l, rfl, Or.inl ⟨rfl, _, sq_of kl3⟩, .ref a, rfl, ?_⟩
        refine ev_is (ev_len (ev_var rfl) (sq_of kl3)) (by rw [List.length_map]) H3 (Ex.refl _) _ fun H4 e4 => ?_
        refine ⟨a, (left.length : Nat), rfl, (kD.ex e3).ex e4, by omega, by omega, fun r H5 g1 g2 ed hD5 => ?_⟩
        obtain ⟨i, rfl⟩ : ∃ i : Nat, r = i := ⟨r.toNat, by omega⟩
        have hi : i < left.length := by omega
        have kl5 := ed l _ hla (e4 _ _ kl3)
        have kf5 := ed f _ hfa (e4 _ _ kf3)
        refine ⟨l, left.map .int, (i : Nat), i, .int left[i], rfl, rfl, kl5, by omega, by omega, (ixN_seq (ixN_nat (by rw [List.length_map]; exact hi))).1, by rw [List.getElem?_map, List.getElem?_eq_getElem hi]; rfl, ?_⟩
        refine ⟨f, found.map .int, .int left[i], rfl, rfl, by rw [upd_ne hlf.symm]; exact kf5, sz_lt (by rw [List.length_map]; omega), ?_⟩
        refine ⟨left.eraseIdx i, found ++ [left[i]], by rw [List.length_eraseIdx_of_lt hi]; omega, rfl, ?_, ?_, ?_, (hD5.mut hla.symm).mut hfa.symm, ?_⟩
        · rw [upd_ne hlf, upd_same, erase_map]
        · rw [upd_same, List.map_append]
          rfl
        · refine List.Perm.trans ?_ hp
          rw [List.append_assoc]
          exact (erase_perm hi).append_left found
        · exact (((kE.trans (Ed.of (e3.trans e4))).trans ed).mut hl).mut hf
    · have he : left = [] := by
        by_cases z : left = []
        · exact z
        · rw [decide_eq_false z] at ht; cases ht
      subst he
      rw [List.append_nil] at hp
      exact ⟨.ref f, rfl, q found f H3 hp hf (kE.trans (Ed.of e3)) (kD.ex e3) (e3 _ _ kf)⟩
end
end Kb
/-! E3: drawn readings, drawn points. -/
namespace Kb
open PySem PySem.Spec PyProof.Rows L2 Evl Xd
theorem gi_low {a b : Int} (ha : 0 ≤ a) (hb : 0 < b) : gi (low a b).1 (low a b).2 = 1 := by
  unfold low gi
  have e : ((a.natAbs : Nat) : Int).toNat = a.toNat := by omega
  simp only [e]
  have h1 : (a / ((Nat.gcd a.toNat b.toNat : Nat) : Int)).toNat = a.toNat / Nat.gcd a.toNat b.toNat := by
    have : ((a.toNat / Nat.gcd a.toNat b.toNat : Nat) : Int) = a / ((Nat.gcd a.toNat b.toNat : Nat) : Int) := by rw [Int.natCast_ediv, Int.toNat_of_nonneg ha]
    rw [← this, Int.toNat_natCast]
  have h2 : (b / ((Nat.gcd a.toNat b.toNat : Nat) : Int)).toNat = b.toNat / Nat.gcd a.toNat b.toNat := by
    have : ((b.toNat / Nat.gcd a.toNat b.toNat : Nat) : Int) = b / ((Nat.gcd a.toNat b.toNat : Nat) : Int) := by rw [Int.natCast_ediv, Int.toNat_of_nonneg (by omega)]
    rw [← this, Int.toNat_natCast]
  rw [h1, h2, Nat.coprime_div_gcd_div_gcd (Nat.gcd_pos_of_pos_right _ (by omega))]
  rfl
/-- a fraction and its lowest terms -/
theorem low_eq {a b : Int} (ha : 0 ≤ a) (hb : 0 < b) : ∃ g, 0 < g ∧ a = g * (low a b).1 ∧ b = g * (low a b).2 ∧ 0 ≤ (low a b).1 ∧ 0 < (low a b).2 := by
  have e : ((a.natAbs : Nat) : Int).toNat = a.toNat := by omega
  refine ⟨gi a.natAbs b, gi_pos hb, ?_, ?_, ?_, ?_⟩
  · unfold low
    show a = gi a.natAbs b * (a / gi a.natAbs b)
    rw [Int.mul_ediv_cancel']
    unfold gi
    rw [e]
    have := Int.natCast_dvd_natCast.mpr (Nat.gcd_dvd_left a.toNat b.toNat)
    rw [Int.toNat_of_nonneg ha] at this
    exact this
  · unfold low
    show b = gi a.natAbs b * (b / gi a.natAbs b)
    rw [Int.mul_ediv_cancel']
    unfold gi
    rw [e]
    have := Int.natCast_dvd_natCast.mpr (Nat.gcd_dvd_right a.toNat b.toNat)
    rw [Int.toNat_of_nonneg (by omega)] at this
    exact this
  · exact Int.ediv_nonneg ha (Int.le_of_lt (gi_pos hb))
  · show 0 < b / gi a.natAbs b
    exact Int.ediv_pos_of_pos_of_dvd hb (Int.le_of_lt (gi_pos hb)) (by
      unfold gi
      rw [e]
      have := Int.natCast_dvd_natCast.mpr (Nat.gcd_dvd_right a.toNat b.toNat)
      rw [Int.toNat_of_nonneg (show 0 ≤ b by omega)] at this
      exact this)
theorem okR_low {a b : Int} (ha : 0 ≤ a) (hb : 0 < b) (h1 : a < 10 ^ 60) (h2 : b < 10 ^ 60) (h : a ≤ 4 * b) : okR (low a b) := by
  obtain ⟨g, hg, e1, e2, k1, k2⟩ := low_eq ha hb
  have hgi := gi_low ha hb
  generalize (low a b) = p at *
  have l1 : p.1 ≤ a := by
    rw [e1]
    have := Int.mul_le_mul_of_nonneg_right (show 1 ≤ g by omega) k1
    omega
  have l2 : p.2 ≤ b := by
    rw [e2]
    have := Int.mul_le_mul_of_nonneg_right (show 1 ≤ g by omega) (show 0 ≤ p.2 by omega)
    omega
  refine ⟨⟨k1, by omega, k2, by omega, hgi⟩, ?_⟩
  have h3 : g * p.1 ≤ g * (4 * p.2) := by
    rw [Int.mul_left_comm, ← e1, ← e2]
    exact h
  exact Int.le_of_mul_le_mul_left h3 hg
/-! ### steps, the rest behind them -/
section
variable {K : PySem.W.Frag} {te t1 t2 : TE} {ta : TA} {σ : L2.St} {H : Hp} {d : PyData} {i j : Nat} {tz : TS} {D : Ends} {Q : VK} {R : List V → Hp → Prop}
theorem g_par (h : t1 σ H fun v H1 => t2 σ H1 fun z H2 => ∃ v' w, [v, z] = [v', w] ∧ tz D ((σ.set i (some v')).set j (some w)) H2) : tSeq (tPar i j (tCons t1 (tCons t2 tNil))) tz D σ H := h
theorem g_asg {g : TG} (h : te σ H fun x H1 => g x σ H1 (tz D)) : tSeq (tAsg te g) tz D σ H := h
theorem g_cons (h : t1 σ H fun v H1 => ta σ H1 fun vs H2 => R (v :: vs) H2) : tCons t1 ta σ H R := h
theorem g_nil (h : R [] H) : tNil σ H R := h
theorem g_consD (h : EvD K t1 σ H d) (k : ∀ v H1, Ex H H1 → Dp K H1 v d → ta σ H1 fun vs H2 => R (v :: vs) H2) : tCons t1 ta σ H R := h H (Ex.refl H) _ k
theorem g_lst (h : ta σ H fun xs H1 => xs.length ≤ sizeLine ∧ ∀ p, H1 p = none → Q (.ref p) (upd H1 p (.lst xs))) : tLst ta σ H Q := h
theorem g_tup (h : ta σ H fun xs H1 => xs.length ≤ sizeLine ∧ ∀ p, H1 p = none → Q (.ref p) (upd H1 p (.tup xs))) : tTup ta σ H Q := h
end
theorem ed_evI {K : PySem.W.Frag} {te : TE} {σ : L2.St} {H : Hp} {i : Int} (h : Ev te σ H (.int i)) : EvD K te σ H (.int i) := ed_int h
def PickOk (p : Int × Int) : Prop := 0 ≤ p.1 ∧ p.1 < p.2 ∧ p.2 ≤ 10 ^ 20 + 1
def Fnd (K : PySem.W.Frag) (f : Addr) (fs : List (Int × Int)) (H : Hp) : Prop := ∃ fx, H f = some (.lst fx) ∧ DpAll K H fx (fs.map fr)
theorem Fnd.ex {K : PySem.W.Frag} {f : Addr} {fs : List (Int × Int)} {H H1 : Hp} (h : Fnd K f fs H) (e : Ex H H1) : Fnd K f fs H1 := by
  obtain ⟨fx, h1, h2⟩ := h
  exact ⟨fx, e _ _ h1, dpAll_ex e h2⟩
theorem Fnd.ed {K : PySem.W.Frag} {a f : Addr} {fs : List (Int × Int)} {H H1 : Hp} (h : Fnd K f fs H) (hD : Dc a H) (n : f ≠ a) (e : Ed a H H1) : Fnd K f fs H1 := by
  obtain ⟨fx, h1, h2⟩ := h
  exact ⟨fx, e _ _ n h1, dpAll_kt (e.ktD hD) (noLs_fr fs) h2⟩
theorem Fnd.app {K : PySem.W.Frag} {f : Addr} {fs : List (Int × Int)} {H : Hp} {v : V} {p : Int × Int} {fx : List V} (h1 : H f = some (.lst fx)) (h2 : DpAll K H fx (fs.map fr)) (hv : Dp K H v (fr p)) : Fnd K f (fs ++ [p]) (upd H f (.lst (fx ++ [v]))) := by
  refine ⟨_, upd_same, dpAll_kt (Kt.lst h1) (noLs_fr _) ?_⟩
  rw [List.map_append]
  exact dpAll_app h2 (dpAll_one hv)
/-- append of data -/
theorem s_appF {K : PySem.W.Frag} {ta te : TE} {σ : L2.St} {H : Hp} {D : Ends} {f : Addr} {fs : List (Int × Int)} {p : Int × Int} (hf : Fnd K f fs H) (ha : Ev ta σ H (.ref f)) (h : EvD K te σ H (fr p)) (hz : fs.length < 100000)
    (k : ∀ H1 o, Ex H H1 → Fnd K f (fs ++ [p]) (upd H1 f o) → Kt H1 (upd H1 f o) → D.nx σ (upd H1 f o)) : tDrop (tBM K "list" rAppend ta (tCons te tNil)) D σ H := ha H (Ex.refl H) _ fun H1 e1 => by
  obtain ⟨fx, h1, h2⟩ := hf.ex e1
  refine ⟨Or.inl ⟨rfl, fx, sq_of h1⟩, h H1 e1 _ fun v H2 e2 p2 => ?_⟩
  have hl := dpAll_len h2
  rw [List.length_map] at hl
  exact ⟨f, fx, v, rfl, rfl, e2 f _ h1, sz_lt (by omega), k H2 _ (e1.trans e2) (Fnd.app (e2 f _ h1) (dpAll_ex e2 h2) p2) (Kt.lst (e2 f _ h1))⟩
def S_drawn (K : PySem.W.Frag) : Sp := fun vs H Q _ => ∃ (a : Addr) (n : Nat), vs = [.ref a, .int (n : Nat)] ∧ Dc a H ∧ n ≤ 3 ∧
  ∀ (rs : List (Int × Int)) (v : V) (H1 : Hp), rs.length = n → (∀ x ∈ rs, okR x) → Ed a H H1 → Dc a H1 → Dp K H1 v (rdD rs) → Q v H1
section
variable {P : Program} {w : World} {K : PySem.W.Frag} {mg : Str → Option Value} {base : Heap}
theorem sc__law_cq_drawn : FnScope ["_law_dice_here", "_law_clocks", "_law_some", "_law_found", "_law_clock", "_law_whole", "_law_top", "_law_bottom"] ["_law_dice_here", "_law_clocks"] (defScope (topS 43)) := ⟨rfl, rfl, rfl, by decide +kernel, rfl, by decide +kernel, by decide +kernel⟩
theorem ok_law_cq_drawn (T : Tb mg) (D : DefAt K mg "_law_cq_drawn" (topS 43)) (C__law_roll : Cal P w K mg base "_law_roll" 1 ["_law_dice_here", "_law_most"] S_roll) (C__law_pick : Cal P w K mg base "_law_pick" 2 ["_law_dice_here", "_law_items"] S_pick)
    (C__law_fq_low : Cal P w K mg base "_law_fq_low" 1 ["_law_top", "_law_bottom"] (Sp2 K f_lowest)) : Cal P w K mg base "_law_cq_drawn" 3 ["_law_dice_here", "_law_clocks"] (S_drawn K) := by
  refine cal_of D (fun _ _ _ _ _ _ us hl => match us, hl with | [_, _], _ => rfl) fun f fd F => F.ok sc__law_cq_drawn (fun vs H Q E h => ?_) (fun cdv A outer s H vs Q E hr h => ?_)
  · obtain ⟨a, n, rfl, _⟩ := h
    rfl
  · obtain ⟨a, n, rfl, hD, hn, q⟩ := h
    refine ⟨_, (pss_cons (ps_par (i := 2) (j := 3) rfl sc__law_cq_drawn.nd rfl rfl (by decide) rfl rfl (pa_cons (pe_lst (pa_cons (pe_tup (pa_cons pe_int (pa_cons pe_int pa_nil))) (pa_cons (pe_tup (pa_cons pe_int (pa_cons pe_int pa_nil))) (pa_cons (pe_tup (pa_cons pe_int (pa_cons pe_int pa_nil))) (pa_cons (pe_tup (pa_cons pe_int (pa_cons pe_int pa_nil))) (pa_cons (pe_tup (pa_cons pe_int (pa_cons pe_int pa_nil))) (pa_cons (pe_tup (pa_cons pe_int (pa_cons (pe_op op_add pe_int (pe_op op_pow pe_int pe_int)) pa_nil))) (pa_cons (pe_tup (pa_cons (pe_callC C__law_roll hr rfl (pa_cons (pv 0) (pa_cons pe_int pa_nil))) (pa_cons pe_int pa_nil))) pa_nil)))))))) (pa_cons (pe_lst pa_nil) pa_nil)) (by rfl))
      (pss_cons (ps_for PassesOwn.never rfl (pi_range1 rfl T.range (pa_cons (pv 1) pa_nil)) (pg_name (i := 4) sc__law_cq_drawn.nd rfl (.inl rfl)) (pss_cons (ps_asg (pe_tup (pa_cons (pe_callC C__law_roll hr rfl (pa_cons (pv 0) (pa_cons pe_int pa_nil))) (pa_cons (pe_callC C__law_pick hr rfl (pa_cons (pv 0) (pa_cons (pv 2) pa_nil))) pa_nil))) (pg_tup rfl (pgs_cons (pg_name (i := 5) sc__law_cq_drawn.nd rfl (.inl rfl)) (pgs_cons (pg_tup rfl (pgs_cons (pg_name (i := 6) sc__law_cq_drawn.nd rfl (.inl rfl)) (pgs_cons (pg_name (i := 7) sc__law_cq_drawn.nd rfl (.inl rfl)) pgs_nil))) pgs_nil))))
      (pss_one (ps_expr (pe_bm PySem.F.plainAttrs_list PySem.F.slot_list_append PySem.F.type_list_append mt_append (pv 3) (pa_cons (pe_ifExp (pt_cmpR op_eq (pv 5) pe_int (nomark _)) (pe_tup (pa_cons pe_int (pa_cons pe_int pa_nil))) (pe_callC C__law_fq_low hr rfl (pa_cons (pe_op op_add (pe_op op_mul (pv 5) (pv 7)) (pv 6)) (pa_cons (pv 7) pa_nil)))) pa_nil))))))
      (pss_one (ps_ret (pe_callTy call_tuple_of rfl T.tuple bt_tuple (pa_cons (pv 3) pa_nil)))))), ?_⟩
    have pr : ∀ (x y : Int) (H1 : Hp) (tx ty : TE) (σ : L2.St), Ev tx σ H1 (.int x) → Ev ty σ H1 (.int y) → EvD K (tTup (tCons tx (tCons ty tNil))) σ H1 (fr (x, y)) := fun x y H1 tx ty σ h1 h2 => ed_tup (ead_cons (ed_int h1) (ead1 (ed_int h2))) (show 2 ≤ 100000 by decide)
    refine g_par (g_lst (g_consD (pr 0 1 H _ _ _ ev_c ev_c) fun v1 H1 e1 p1 => g_consD (pr 0 1 H1 _ _ _ ev_c ev_c) fun v2 H2 e2 p2 => g_consD (pr 1 2 H2 _ _ _ ev_c ev_c) fun v3 H3 e3 p3 => g_consD (pr 1 3 H3 _ _ _ ev_c ev_c) fun v4 H4 e4 p4 => g_consD (pr 2 3 H4 _ _ _ ev_c ev_c) fun v5 H5 e5 p5 =>
      g_consD (pr 1 (1 + 10 ^ Int.toNat 20) H5 _ _ _ ev_c (ev_op ev_c (ev_op ev_c ev_c (rv_I ⟨by decide, by decide, by decide⟩)) rv_I0)) fun v6 H6 e6 p6 => g_cons (g_tup (g_cons ?_))))
    have x6 := ((((e1.trans e2).trans e3).trans e4).trans e5).trans e6
    refine ⟨.ref a, rfl, ?_⟩
    refine ⟨a, 97, rfl, hD.ex x6, by decide, by decide, fun r H7 g1 g2 ed7 hD7 => ?_⟩
    refine ⟨by show 2 ≤ sizeLine; decide, fun p hp7 => ?_⟩
    have kt7 := (ed7.ktD (hD.ex x6)).trans (Kt.ex (Ex.new (o := .tup [.int r, .int 97]) hp7))
    refine ⟨by show 7 ≤ sizeLine; decide, fun sm hsm => ?_⟩
    obtain ⟨ps, hps⟩ : ∃ ps : List (Int × Int), ps = [(0, 1), (0, 1), (1, 2), (1, 3), (2, 3), (1, 1 + 10 ^ Int.toNat 20), (r, 97)] := ⟨_, rfl⟩
    have hpk : ∀ z ∈ ps, PickOk z := by
      intro z hz
      rw [hps] at hz
      simp only [List.mem_cons, List.not_mem_nil, or_false] at hz
      rcases hz with z | z | z | z | z | z | z <;> subst z <;> refine ⟨?_, ?_, ?_⟩ <;> first | decide | (show r < 97; omega) | (show 0 ≤ r; omega) | (show (97 : Int) ≤ 10 ^ 20 + 1; decide)
    have hpl : ps.length = 7 := by rw [hps]; rfl
    have hdp : DpAll K (upd (upd H7 p (.tup [.int r, .int 97])) sm (.lst [v1, v2, v3, v4, v5, v6, .ref p])) [v1, v2, v3, v4, v5, v6, .ref p] (ps.map fr) := by
      rw [hps]
      have t : Kt H6 (upd (upd H7 p (.tup [.int r, .int 97])) sm (.lst [v1, v2, v3, v4, v5, v6, .ref p])) := kt7.trans (Kt.ex (Ex.new hsm))
      refine .cons (dp_kt t rfl (dp_ex ((((e2.trans e3).trans e4).trans e5).trans e6) p1)) (.cons (dp_kt t rfl (dp_ex (((e3.trans e4).trans e5).trans e6) p2)) (.cons (dp_kt t rfl (dp_ex ((e4.trans e5).trans e6) p3)) (.cons (dp_kt t rfl (dp_ex (e5.trans e6) p4))
        (.cons (dp_kt t rfl (dp_ex e6 p5)) (.cons (dp_kt t rfl p6) (dpAll_one (dp_ex (Ex.new hsm) (dp_newT upd_same (.cons (.int r) (dpAll_one (.int 97))))))))))) 
    generalize hHs : upd (upd H7 p (.tup [.int r, .int 97])) sm (.lst [v1, v2, v3, v4, v5, v6, .ref p]) = H8 at hdp
    have hs8 : H8 sm = some (.lst [v1, v2, v3, v4, v5, v6, .ref p]) := by rw [← hHs]; exact upd_same
    have hx8 : Ex H7 H8 := by rw [← hHs]; exact (Ex.new hp7).trans (Ex.new hsm)
    have hsma : sm ≠ a := fun z => by
      obtain ⟨_, _, _, h⟩ := hD7
      rw [z, Ex.new hp7 _ _ h] at hsm
      cases hsm
    generalize hvs : [v1, v2, v3, v4, v5, v6, V.ref p] = xs at hdp hs8
    have hxs : xs.length = 7 := by rw [← hvs]; rfl
    have hE8 : Ed a H H8 := ((Ed.of x6).trans ed7).trans (Ed.of hx8)
    have hD8 := hD7.ex hx8
    clear hHs hvs
    refine g_lst (g_nil ⟨by show 0 ≤ sizeLine; decide, fun f hf => ⟨_, _, rfl, ?_⟩⟩)
    have hfa : f ≠ a := fun z => by
      obtain ⟨_, _, _, h⟩ := hD8
      rw [z, h] at hf
      cases hf
    have hfs : f ≠ sm := fun z => by rw [z, hs8] at hf; cases hf
    have hfH : H f = none := by
      cases h : H f with
      | none => rfl
      | some o => rw [hE8 f o hfa h] at hf; cases hf
    refine q_forR1 (n := (n : Nat)) (ea_cons (ev_var rfl) ea_nil) ⟨by omega, by omega⟩ (fun i σ' H' => ∃ y4 y5 y6 y7 fs, σ' = [some (.ref a), some (.int (n : Nat)), some (.ref sm), some (.ref f), y4, y5, y6, y7] ∧ Ed a H H' ∧ Dc a H' ∧ H' sm = some (.lst xs) ∧ DpAll K H' xs (ps.map fr) ∧ Fnd K f fs H' ∧ fs.length = i ∧ ∀ x ∈ fs, okR x)
      (fun H9 e9 => ⟨none, none, none, none, [], rfl, (hE8.trans (Ed.of (Ex.new hf))).trans (Ed.of e9), (hD8.ex (Ex.new hf)).ex e9, e9 _ _ (Ex.new hf _ _ hs8), dpAll_ex ((Ex.new hf).trans e9) hdp, ⟨[], e9 _ _ upd_same, .nil⟩, rfl, fun _ h => by cases h⟩) (fun i σ' H9 hi hI => ?_) fun σ' H9 hI => ?_
    · obtain ⟨y4, y5, y6, y7, fs, rfl, hE9, hD9, hs9, hd9, hF9, hfl, hok⟩ := hI
      refine g_asg (g_tup (g_cons ⟨.ref a, rfl, a, 5, rfl, hD9, by decide, by decide, fun r2 H10 k1 k2 ed10 hD10 => g_cons ⟨.ref a, rfl, .ref sm, rfl, a, sm, xs, rfl, hD10, hsma.symm, ed10 _ _ hsma hs9, by omega, by omega, fun x H11 hx ed11 hD11 => ⟨by show 2 ≤ sizeLine; decide, fun p2 hp2 => ?_⟩⟩⟩))
      have edk := ed10.trans ed11
      have kt11 := edk.ktD hD9
      have hd11 := dpAll_kt kt11 (noLs_fr ps) hd9
      obtain ⟨j, hj⟩ := List.mem_iff_getElem?.mp hx
      obtain ⟨d, hd1, hd2⟩ := dpAll_at hd11 hj
      rw [List.getElem?_map] at hd1
      cases hpj : ps[j]? with
      | none => rw [hpj] at hd1; cases hd1
      | some pk =>
        rw [hpj] at hd1
        cases hd1
        obtain ⟨c1, c2, c3⟩ := hpk pk (List.mem_of_getElem? hpj)
        have hx12 : Ex H11 (upd H11 p2 (.tup [.int r2, x])) := Ex.new hp2
        obtain ⟨w0, w1, w2, z0, z1, z2, z3⟩ := gto_nest (K := K) (i := 5) (j := 6) (k := 7) (σ := [some (.ref a), some (.int (n : Nat)), some (.ref sm), some (.ref f), some (.int (i : Nat)), y5, y6, y7]) (d := .int r2) (d1 := .int pk.1) (d2 := .int pk.2) (H := upd H11 p2 (.tup [.int r2, x])) (x := .ref p2) (dp_newT upd_same (.cons (.int r2) (dpAll_one (dp_ex hx12 hd2))))
        cases dp_int z0
        cases dp_int z1
        cases dp_int z2
        refine z3 _ ?_
        have hF12 := (hF9.ed hD9 hfa edk).ex hx12
        obtain ⟨np, hnp⟩ : ∃ np : Int × Int, np = if decide (V.int r2 = V.int 4) = true then (4, 1) else low (r2 * pk.2 + pk.1) pk.2 := ⟨_, rfl⟩
        have c4 : pk.2 < 10 ^ 60 := Int.lt_of_le_of_lt c3 (by decide)
        have c5 : r2 * pk.2 ≤ 4 * pk.2 := Int.mul_le_mul_of_nonneg_right (by omega) (by omega)
        have c6 : 0 ≤ r2 * pk.2 := Int.mul_nonneg k1 (by omega)
        refine s_appF (p := np) hF12 (ev_var rfl) (ed_if (b := decide (V.int r2 = V.int 4)) (et_test (ev_op (ev_var rfl) ev_c (rv_eq rfl))) (fun hb => ?_) fun hb => ?_) (by omega) fun H13 o e13 hF13 hK13 => ?_
        · rw [hnp, if_pos hb]
          exact pr 4 1 _ _ _ _ ev_c ev_c
        · rw [hnp, if_neg (by rw [hb]; exact Bool.false_ne_true)]
          refine ed_call2 (d1 := .int (r2 * pk.2 + pk.1)) (d2 := .int pk.2) (ead_cons (ed_int (ev_op (ev_op (ev_var rfl) (ev_var rfl) (rv_I (.inl ⟨by omega, by omega⟩))) (ev_var rfl) rv_I0)) (ead1 (ed_int (ev_var rfl)))) (if_pos ⟨by omega, Int.lt_of_le_of_lt c3 (by decide)⟩)
        · have hE13 : Ed a H H13 := ((hE9.trans edk).trans (Ed.of hx12)).trans (Ed.of e13)
          have hs13 : H13 sm = some (.lst xs) := (hx12.trans e13) _ _ (edk _ _ hsma hs9)
          refine ⟨_, _, _, _, fs ++ [np], rfl, hE13.mut hfH, (hD11.ex (hx12.trans e13)).mut hfa.symm, ?_, ?_, hF13, ?_, fun x hx => ?_⟩
          · rw [upd_ne hfs.symm]
            exact hs13
          · exact dpAll_kt hK13 (noLs_fr ps) (dpAll_ex (hx12.trans e13) hd11)
          · rw [List.length_append, hfl]
            rfl
          · rcases List.mem_append.mp hx with m | m
            · exact hok x m
            · rw [List.mem_singleton.mp m, hnp]
              by_cases hb : decide (V.int r2 = V.int 4) = true
              · rw [if_pos hb]
                exact ⟨⟨by decide, by decide, by decide, by decide, by decide⟩, by decide⟩
              · rw [if_neg hb]
                have hr : r2 ≠ 4 := fun z => hb (by rw [z]; rfl)
                have c7 : r2 * pk.2 ≤ 3 * pk.2 := Int.mul_le_mul_of_nonneg_right (by omega) (by omega)
                have c8 : pk.2 ≤ 10 ^ 20 + 1 := c3
                exact okR_low (by omega) (by omega) (by omega) c4 (by omega)
    · obtain ⟨y4, y5, y6, y7, fs, rfl, hE9, hD9, hs9, hd9, hF9, hfl, hok⟩ := hI
      obtain ⟨fx, hf1, hf2⟩ := hF9
      rw [Int.toNat_natCast] at hfl
      exact s_retD (ed_tupleL (ed_var rfl (dp_newL hf1 hf2))) fun v H10 e10 p10 => q fs v H10 hfl hok (hE9.trans (Ed.of e10)) (hD9.ex e10) p10
end
end Kb
/-! E4: drawn points of a class. -/
namespace Kb
open PySem PySem.Spec PyProof.Rows L2 Evl Xd
/-- steps over which a class's rests may stand -/
structure Tops (b : Int) (ts : List Int) (m : Nat) : Prop where
  len : ts.length = m
  zero : ts[0]? = some 0
  up : ts.Pairwise (· < ·)
  els : ∀ t ∈ ts, 0 ≤ t ∧ t < b
  pos : 0 < b
  most : b ≤ 100
def ptAt (c : List Int × List (List Int)) (b : Int) (ts : List Int) (i : Nat) : Int × Int := low (c.1.getD i 0 * b + ts.getD (pl c.2 i) 0) b
def ptR (c : List Int × List (List Int)) (b : Int) (ts : List Int) : List (Int × Int) := (List.range c.1.length).map (ptAt c b ts)
section
variable {n : Nat} {c : List Int × List (List Int)} {b : Int} {ts : List Int}
theorem Good.plt (h : Good n c) {i : Nat} (hi : i < n) : pl c.2 (i : Int) < c.2.length := pl_lt (h.mem.mpr ⟨by omega, by omega⟩)
theorem Tops.get (t : Tops b ts c.2.length) {k : Nat} (hk : k < c.2.length) : ∃ z, ts[k]? = some z ∧ ts.getD k 0 = z ∧ 0 ≤ z ∧ z < b := by
  have hl : k < ts.length := by rw [t.len]; exact hk
  refine ⟨ts[k], List.getElem?_eq_getElem hl, ?_, t.els _ (List.getElem_mem hl)⟩
  rw [List.getD_eq_getElem?_getD, List.getElem?_eq_getElem hl]
  rfl
theorem ptR_len : (ptR c b ts).length = c.1.length := by
  unfold ptR
  rw [List.length_map, List.length_range]
theorem Good.wAt (h : Good n c) {i : Nat} (hi : i < n) : ∃ w, c.1[i]? = some w ∧ c.1.getD i 0 = w ∧ 0 ≤ w ∧ w ≤ 4 := by
  have hl : i < c.1.length := by rw [h.len]; exact hi
  refine ⟨c.1[i], List.getElem?_eq_getElem hl, ?_, h.ws _ (List.getElem_mem hl)⟩
  rw [List.getD_eq_getElem?_getD, List.getElem?_eq_getElem hl]
  rfl
theorem ptR_okR (h : Good n c) (t : Tops b ts c.2.length) : ∀ x ∈ ptR c b ts, okR x := by
  intro x hx
  obtain ⟨i, hi, rfl⟩ := List.mem_map.mp hx
  have hi2 : i < n := by
    have := List.mem_range.mp hi
    rw [h.len] at this
    exact this
  obtain ⟨w, w1, w2, w3, w4⟩ := h.wAt hi2
  obtain ⟨z, z1, z2, z3, z4⟩ := t.get (h.plt hi2)
  unfold ptAt
  rw [w2, z2]
  have p1 := t.pos
  have p2 := t.most
  have a1 : 0 ≤ w * b := Int.mul_nonneg w3 (by omega)
  have a2 : w * b + z ≤ 4 * b := by
    rcases h.top i w w1 with q | ⟨g, r, q1, q2⟩
    · have := Int.mul_le_mul_of_nonneg_right (show w ≤ 3 by omega) (show 0 ≤ b by omega)
      omega
    · have e0 : pl c.2 (i : Int) = 0 := pl_at (g := g) h.nodup (by rw [q1]; rfl) q2
      rw [e0, t.zero] at z1
      cases z1
      have := Int.mul_le_mul_of_nonneg_right w4 (show 0 ≤ b by omega)
      omega
  exact okR_low (by omega) p1 (by omega) (by omega) a2
theorem told_pt (h : Good n c) (hn : n ≤ 3) : toldR c = ptR c c.2.length (rangeI c.2.length) ∧ Tops c.2.length (rangeI c.2.length) c.2.length := by
  obtain ⟨o1, o2⟩ := h.olen
  refine ⟨?_, ⟨rangeI_len _, ?_, ?_, ?_, by omega, by omega⟩⟩
  · unfold toldR ptR
    refine List.map_congr_left fun i hi => ?_
    have hi2 : i < n := by
      have := List.mem_range.mp hi
      rw [h.len] at this
      exact this
    have hk := h.plt hi2
    unfold tp ptAt
    have e : (rangeI c.2.length).getD (pl c.2 i) 0 = (pl c.2 i : Int) := by
      unfold rangeI
      rw [List.getD_eq_getElem?_getD, List.getElem?_map, List.getElem?_range hk]
      rfl
    rw [e]
  · unfold rangeI
    rw [List.getElem?_map, List.getElem?_range (by omega)]
    rfl
  · unfold rangeI
    exact List.pairwise_map.mpr (List.Pairwise.imp (fun h => by omega) List.pairwise_lt_range)
  · intro t ht
    exact mem_rangeI.mp ht
end
/-! ### the place, as the law finds it -/
def hasP (c : PyData) : PyData → Bool
  | .tuple [_, g] => (grp g).any fun z => PyData.eqv z c
  | _ => false
def fstD : PyData → PyData
  | .tuple (x :: _) => x
  | _ => .none
theorem place_at {o : List (List Int)} {i : Int} (h : i ∈ o.flatten) : atI (((enumD (o.map fun g => .tuple (g.map .int))).filter (hasP (.int i))).map fstD) 0 = some (.int (pl o i)) := by
  have hk := pl_lt h
  obtain ⟨g, hg1, hg2⟩ := pl_mem h
  have hf : (enumD (o.map fun g => PyData.tuple (g.map .int))).find? (hasP (.int i)) = some (.tuple [.int (pl o i), .tuple (g.map .int)]) := by
    rw [List.find?_eq_some_iff_getElem]
    refine ⟨?_, pl o i, by rw [enumD_len, List.length_map]; exact hk, ?_, fun j hj => ?_⟩
    · show ((g.map PyData.int).any fun z => PyData.eqv z (.int i)) = true
      rw [anyInt]
      exact decide_eq_true hg2
    · have := enumD_get (ds := o.map fun g => PyData.tuple (g.map .int)) (i := pl o i) (d := .tuple (g.map .int)) (by rw [List.getElem?_map, hg1]; rfl)
      exact (List.getElem?_eq_some_iff.mp this).2
    · have hj2 : j < o.length := by omega
      have := enumD_get (ds := o.map fun g => PyData.tuple (g.map .int)) (i := j) (d := .tuple (o[j].map .int)) (by rw [List.getElem?_map, List.getElem?_eq_getElem hj2]; rfl)
      rw [(List.getElem?_eq_some_iff.mp this).2]
      show (!((o[j].map PyData.int).any fun z => PyData.eqv z (.int i))) = true
      rw [anyInt]
      have := List.not_of_lt_findIdx (p := fun g => decide (i ∈ g)) (xs := o) (i := j) hj
      rw [this]
      rfl
  refine atI_nat (j := 0) ?_
  rw [List.getElem?_map, ← List.head?_eq_getElem?, List.head?_filter, hf]
  rfl
def S_point (K : PySem.W.Frag) : Sp := fun vs H Q _ => ∃ (a : Addr) (v : V) (c : List Int × List (List Int)), vs = [.ref a, v] ∧ Dc a H ∧ Dp K H v (clsD c) ∧ okC c ∧
  ∀ (b : Int) (ts : List Int) (u : V) (H1 : Hp), Tops b ts c.2.length → Ed a H H1 → Dc a H1 → Dp K H1 u (rdD (ptR c b ts)) → Q u H1
theorem cutV_to (xs : List V) (k : Nat) : cutV xs none (some (k : Int)) = xs.take k := by
  unfold cutV
  rw [HT.sIx_nat, HT.sIx_none, List.drop_zero, Nat.sub_zero]
  by_cases h : k ≤ xs.length
  · rw [Nat.min_eq_left h]
  · rw [Nat.min_eq_right (by omega), List.take_length, List.take_of_length_le (by omega)]
/-- lot of numbers from 1 on -/
def lotI (b : Int) : List Int := (List.range (b - 1).toNat).map fun (i : Nat) => 1 + (i : Int)
theorem rgV_lot (b : Int) : rgV 1 b = (lotI b).map V.int := by
  unfold rgV lotI
  rw [List.map_map]
  rfl
theorem tops_of {b : Int} {ms ns : List Int} {m : Nat} (hb : b ≤ 100) (hm : (m : Int) < b) (hp : ms.Perm (lotI b)) (hp2 : ns.Perm (ms.take m)) (hs : ns.Pairwise (· ≤ ·)) : Tops b (0 :: ns) (m + 1) := by
  have hll : (lotI b).length = (b - 1).toNat := by unfold lotI; rw [List.length_map, List.length_range]
  have hml := hp.length_eq
  have hnl := hp2.length_eq
  rw [List.length_take] at hnl
  have hnd : (lotI b).Nodup := by
    unfold lotI
    exact List.pairwise_map.mpr (List.Pairwise.imp (fun h z => h (by omega)) List.nodup_range)
  have hel : ∀ t ∈ ns, 1 ≤ t ∧ t < b := fun t ht => by
    have h1 := hp.mem_iff.mp (List.mem_of_mem_take (hp2.mem_iff.mp ht))
    unfold lotI at h1
    obtain ⟨i, hi, rfl⟩ := List.mem_map.mp h1
    have := List.mem_range.mp hi
    omega
  have hnn : ns.Nodup := hp2.nodup_iff.mpr ((hp.nodup_iff.mpr hnd).sublist (List.take_sublist _ _))
  refine ⟨by rw [List.length_cons]; omega, rfl, List.pairwise_cons.mpr ⟨fun t ht => by have := hel t ht; omega, ?_⟩, fun t ht => ?_, by omega, hb⟩
  · exact (List.Pairwise.and hs hnn).imp fun ⟨h1, h2⟩ => by omega
  · rcases List.mem_cons.mp ht with z | z
    · omega
    · have := hel t z
      omega
section
variable {te tb : TE} {tz : TS} {D : Ends} {σ : L2.St} {H : Hp} {v : V} {r : R2} {Q : VK}
theorem g_opT {ta : TE} (h : ta σ H fun x H1 => tb σ H1 fun y H2 => r x y H2 Q) : tOp r ta tb σ H Q := h
theorem g_c (h : Q v H) : tC v σ H Q := h
theorem g_opE (h : Ev te σ H v) (k : ∀ H1, Ex H H1 → tb σ H1 fun y H2 => r v y H2 Q) : tOp r te tb σ H Q := h H (Ex.refl H) _ k
end
section
variable {P : Program} {w : World} {K : PySem.W.Frag} {mg : Str → Option Value} {base : Heap}
theorem sc__law_cq_point : FnScope ["_law_dice_here", "_law_cls", "_law_wholes", "_law_order", "_law_many", "_law_bottom", "_law_tops", "_law_found", "_law_clock", "_law_whole", "_law_place", "_law_at", "_law_group"] ["_law_dice_here", "_law_cls"] (defScope (topS 44)) := ⟨rfl, rfl, rfl, by decide +kernel, rfl, by decide +kernel, by decide +kernel⟩
theorem ok_law_cq_point (T : Tb mg) (D : DefAt K mg "_law_cq_point" (topS 44)) (C__law_roll : Cal P w K mg base "_law_roll" 1 ["_law_dice_here", "_law_most"] S_roll) (C__law_shuffled : Cal P w K mg base "_law_shuffled" 2 ["_law_dice_here", "_law_items"] (S_shuf K))
    (C__law_fq_low : Cal P w K mg base "_law_fq_low" 1 ["_law_top", "_law_bottom"] (Sp2 K f_lowest)) : Cal P w K mg base "_law_cq_point" 3 ["_law_dice_here", "_law_cls"] (S_point K) := by
  refine cal_of D (fun _ _ _ _ _ _ us hl => match us, hl with | [_, _], _ => rfl) fun f fd F => F.ok sc__law_cq_point (fun vs H Q E h => ?_) (fun cdv A outer s H vs Q E hr h => ?_)
  · obtain ⟨a, v, c, rfl, _⟩ := h
    rfl
  · obtain ⟨a, v, c, rfl, hD, hd, hc, q⟩ := h
    refine ⟨_, (pss_cons (ps_asg (pv 1) (pg_tup rfl (pgs_cons (pg_name (i := 2) sc__law_cq_point.nd rfl (.inl rfl)) (pgs_cons (pg_name (i := 3) sc__law_cq_point.nd rfl (.inl rfl)) pgs_nil))))
      (pss_cons (ps_set (i := 4) sc__law_cq_point.nd rfl (.inl rfl) (pe_op op_sub (pe_callB call_len_seq rfl T.len bt_len (pa_cons (pv 3) pa_nil)) pe_int))
      (pss_cons (ps_set (i := 5) sc__law_cq_point.nd rfl (.inl rfl) (pe_op op_add (pe_op op_add (pv 4) pe_int) (pe_callC C__law_roll hr rfl (pa_cons (pv 0) (pa_cons pe_int pa_nil)))))
      (pss_cons (ps_set (i := 6) sc__law_cq_point.nd rfl (.inl rfl) (pe_callB cr_sortedI rfl T.sorted bt_sorted (pa_cons (pe_slice sl_list (pe_callC C__law_shuffled hr rfl (pa_cons (pv 0) (pa_cons (pe_listRg rfl rfl T.list (prg_2 rfl T.range pe_int (pv 5))) pa_nil))) po_none (po_some (pv 4))) pa_nil)))
      (pss_cons (ps_set (i := 7) sc__law_cq_point.nd rfl (.inl rfl) (pe_lst pa_nil))
      (pss_cons (ps_for PassesOwn.never rfl (Xr.pi_enumT rfl T.enumerate (pa_cons (pv 2) pa_nil)) (pg_tup rfl (pgs_cons (pg_name (i := 8) sc__law_cq_point.nd rfl (.inr rfl)) (pgs_cons (pg_name (i := 9) sc__law_cq_point.nd rfl (.inl rfl)) pgs_nil))) (pss_cons (ps_set (i := 10) sc__law_cq_point.nd rfl (.inl rfl) (pe_ix ix_list (pe_lc (own := [("_law_at", 11), ("_law_group", 12)]) (g := (gTup K 2 (gCons (gName 11) (gCons (gName 12) gNil)))) (tt := (tTest (tOp (Xr.rInT K) (tVar 8) (tVar 12)))) (te := (tVar 11)) rfl sc__law_cq_point.nd (Xr.pi_enumT rfl T.enumerate (pa_cons (pv 3) pa_nil)) (blkOk_by (own := [("_law_at", 11), ("_law_group", 12)]) (N := ["_law_dice_here", "_law_cls", "_law_wholes", "_law_order", "_law_many", "_law_bottom", "_law_tops", "_law_found", "_law_clock", "_law_whole", "_law_place", "_law_at", "_law_group"]) (sc := (defScope (topS 44))) (by decide +kernel)) (fun _ _ _ _ _ => (pg_tup rfl (pgs_cons (pg_name (i := 11) sc__law_cq_point.nd rfl (.inl rfl)) (pgs_cons (pg_name (i := 12) sc__law_cq_point.nd rfl (.inl rfl)) pgs_nil)))) (fun _ _ _ _ _ => pts_one (pt_cmpR (Xr.op_inT (u65 hr)) (pv 8) (pv 12) (by rfl))) (fun _ _ _ _ _ => (pv 11))) pe_int (fun _ _ => rfl)))
      (pss_one (ps_expr (pe_bm PySem.F.plainAttrs_list PySem.F.slot_list_append PySem.F.type_list_append mt_append (pv 7) (pa_cons (pe_callC C__law_fq_low hr rfl (pa_cons (pe_op op_add (pe_op op_mul (pv 9) (pv 5)) (pe_ix ix_list (pe_op op_cat (pe_lst (pa_cons pe_int pa_nil)) (pv 6)) (pv 10) (fun _ _ => rfl))) (pa_cons (pv 5) pa_nil))) pa_nil))))))
      (pss_one (ps_ret (pe_callTy call_tuple_of rfl T.tuple bt_tuple (pa_cons (pv 7) pa_nil)))))))))), ?_⟩
    have hg := hc.good
    have h3 := hc.2.1
    obtain ⟨ol1, ol2⟩ := hg.olen
    refine q_asgG rfl hd fun v1 v2 k1 k2 => ?_
    obtain ⟨m, hm⟩ : ∃ m : Nat, c.2.length = m + 1 := ⟨c.2.length - 1, by omega⟩
    refine q_asg (v := .int (m : Nat)) (ev_is (ev_op (ev_lenT (ed_var rfl k2)) ev_c rv_I0) ?_) fun H1 e1 => ?_
    · rw [List.length_map, hm]
      exact congrArg V.int (by omega)
    refine g_asg (g_opE (ev_op (ev_var rfl) ev_c rv_I0) fun H2 e2 => ⟨.ref a, rfl, a, 7, rfl, (hD.ex e1).ex e2, by decide, by decide, fun r H3 r1 r2 ed3 hD3 => ⟨_, _, rfl, rfl, ?_⟩⟩)
    obtain ⟨b, hb⟩ : ∃ b : Int, b = (m : Int) + 1 + r := ⟨_, rfl⟩
    show gName 5 (.int ((m : Int) + 1 + r)) _ H3 _
    rw [← hb]
    refine g_asg (g_cons ⟨.ref a, rfl, .int b, rfl, 1, b, rfl, rfl, RgOk.of_le (by omega) (by omega) (by omega) (by omega), fun l hl => ?_⟩)
    have hD4 := hD3.ex (Ex.new (o := .lst (rgV 1 b)) hl)
    have hll : (lotI b).length = (b - 1).toNat := by unfold lotI; rw [List.length_map, List.length_range]
    refine ⟨a, l, lotI b, rfl, hD4, by rw [upd_same, rgV_lot], by omega, fun ms p H5 hp hpn ed5 hD5 hp5 => ?_⟩
    refine ⟨.int (m : Nat), rfl, (m : Nat), rfl, p, ms.map .int, rfl, sq_of hp5, fun s hs => ?_⟩
    refine ⟨s, ms.take m, rfl, sq_of (by rw [upd_same, cutV_to, List.map_take]), fun ns t hns hup ht => ?_⟩
    have htops := tops_of (by omega) (by omega) hp hns hup
    have x5 : Ex H5 (upd (upd H5 s (.lst (cutV (ms.map .int) none (some (m : Nat))))) t (.lst (ns.map .int))) := (Ex.new hs).trans (Ex.new ht)
    generalize hH6 : upd (upd H5 s (.lst (cutV (ms.map .int) none (some (m : Nat))))) t (.lst (ns.map .int)) = H6 at x5
    have ht6 : H6 t = some (.lst (ns.map .int)) := by rw [← hH6]; exact upd_same
    have hE6 : Ed a H H6 := ((((Ed.of (e1.trans e2)).trans ed3).trans (Ed.of (Ex.new hl))).trans ed5).trans (Ed.of x5)
    have hD6 := hD5.ex x5
    have kt6 := hE6.ktD hD
    have j0 := dp_kt kt6 (noL_cls c) hd
    have j1 := dp_kt kt6 (noL_ints c.1) k1
    have j2 := dp_kt kt6 (noL_ord c.2) k2
    clear hH6
    rw [← hm] at htops
    generalize hts : (0 : Int) :: ns = ts at htops
    refine q_asgP (Pd := fun u H2 => ∃ p xs, u = .ref p ∧ H6 p = none ∧ H2 p = some (.lst xs) ∧ DpAll K H2 xs []) (evp_lst ead_nil (show 0 ≤ 100000 by decide)) fun u H7 e7 hp => ?_
    obtain ⟨fo, xs, rfl, hfo, hfx, hfd⟩ := hp
    refine q_forJ (H0 := H6) (evj_enumT rfl j1) e7 (fun i σ' H' => ∃ y8 y9 y10 y11 y12 fs, σ' = [some (.ref a), some v, some v1, some v2, some (.int (m : Nat)), some (.int b), some (.ref t), some (.ref fo), y8, y9, y10, y11, y12] ∧ Ex H6 H' ∧ Fnd K fo fs H' ∧ fs = (List.range i).map (ptAt c b ts))
      (fun H8 e8 => ⟨none, none, none, none, none, [], rfl, e7.trans e8, ⟨xs, e8 _ _ hfx, dpAll_ex e8 hfd⟩, rfl⟩) (fun k σ' H' h => by obtain ⟨_, _, _, _, _, _, _, h, _⟩ := h; exact h) (fun i e x σ' H' he hI H8 e8 hx => ?_) fun σ' H' hI => ?_
    · obtain ⟨y8, y9, y10, y11, y12, fs, rfl, ex, hF, hfs⟩ := hI
      obtain ⟨wi, hwi, rfl⟩ := enumD_at he
      have hi : i < c.1.length := (List.getElem?_eq_some_iff.mp hwi).1
      obtain ⟨u8, u9, z8, z9, z10⟩ := gto_two (K := K) (i := 8) (j := 9) (σ := [some (.ref a), some v, some v1, some v2, some (.int (m : Nat)), some (.int b), some (.ref t), some (.ref fo), y8, y9, y10, y11, y12]) hx
      cases dp_int z8
      cases dp_int z9
      refine z10 _ ?_
      have x8 := ex.trans e8
      have hin : ((i : Nat) : Int) ∈ c.2.flatten := hg.mem.mpr ⟨by omega, by omega⟩
      have hpl := pl_lt hin
      obtain ⟨zt, zt1, zt2, zt3, zt4⟩ := htops.get hpl
      have hpk := htops.pos
      have hpm := htops.most
      refine q_asg (v := .int (pl c.2 (i : Int) : Nat)) (ev_int (ed_ixL (ed_lc (hasP (.int (i : Nat))) fstD (evi_enumT (ed_var rfl (dp_ex x8 j2))) ?_ (fun e he hpe => ?_) fun e he x H9 ex9 hx9 => ?_) ev_c (place_at hin))) fun H9 e9 => ?_
      · rw [enumD_len, List.length_map]
        omega
      · obtain ⟨k, d, rfl, _⟩ := enumD_mem he
        rfl
      · obtain ⟨k, hk⟩ := List.mem_iff_getElem?.mp he
        obtain ⟨g, hgk, rfl⟩ := enumD_at hk
        obtain ⟨u11, u12, q11, q12, q13⟩ := gto_two (K := K) (i := 11) (j := 12) (σ := wipe [some (.ref a), some v, some v1, some v2, some (.int (m : Nat)), some (.int b), some (.ref t), some (.ref fo), some (.int (i : Nat)), some (.int wi), y10, y11, y12] [11, 12]) hx9
        cases dp_int q11
        refine ⟨_, q13, rfl, et_test (ev_is (ev_inT (d := .int (i : Nat)) (ed_int (ev_var rfl)) (ed_var rfl q12) rfl ?_) rfl), fun _ => ed_int (ev_var rfl)⟩
        have hgl := hg.glen (List.mem_of_getElem? hgk)
        exact (ints_fit (by omega)).shaped (by decide)
      · have x9 := x8.trans e9
        have hlen : (List.range i).length = i := List.length_range
        refine s_appF (p := ptAt c b ts i) ((hF.ex e8).ex e9) (ev_var rfl) (ed_call2 (d1 := .int (wi * b + zt)) (d2 := .int b) (ead_cons (ed_int (ev_op (ev_op (ev_var rfl) (ev_var rfl) (rv_I (.inr ⟨by omega, by omega⟩))) (fun Ha ea Q q => ?_) rv_I0)) (ead1 (ed_int (ev_var rfl)))) ?_) (by rw [hfs, List.length_map, hlen]; omega) fun H10 o e10 hF10 hK10 => ?_
        · refine g_opT (g_opT (g_lst (g_cons (g_c (g_nil ⟨by show 1 ≤ sizeLine; decide, fun p1 hp1 => ?_⟩)))))
          have ht9 : (upd Ha p1 (.lst [V.int 0])) t = some (.lst (ns.map .int)) := (Ex.new hp1) _ _ (ea _ _ (x9 _ _ ht6))
          refine ⟨.ref t, rfl, p1, t, [.int 0], ns.map .int, rfl, rfl, upd_same, ht9, ?_, fun p2 hp2 => ?_⟩
          · have := htops.len
            rw [← hts, List.length_cons] at this
            rw [List.length_map]
            exact Nat.le_of_lt (small1000 (show 1 + ns.length ≤ 1000 by omega))
          · refine ⟨.int (pl c.2 (i : Int) : Nat), rfl, p2, [.int 0] ++ ns.map .int, (pl c.2 (i : Int) : Nat), .int zt, rfl, rfl, sq_of upd_same, atI_nat ?_, q _ ((Ex.new hp1).trans (Ex.new hp2))⟩
            have : ([V.int 0] ++ ns.map .int) = ts.map .int := by rw [← hts]; rfl
            rw [this, List.getElem?_map, zt1]
            rfl
        · unfold ptAt
          rw [zt2, List.getD_eq_getElem?_getD, hwi]
          exact if_pos ⟨hpk, Int.lt_of_le_of_lt hpm (by decide)⟩
        · exact ⟨_, _, _, _, _, fs ++ [ptAt c b ts i], rfl, (x9.trans e10).mut hfo, hF10, by rw [List.range_succ, List.map_append, hfs]; rfl⟩
    · obtain ⟨y8, y9, y10, y11, y12, fs, rfl, ex, ⟨fx, hf1, hf2⟩, hfs⟩ := hI
      rw [enumD_len, List.length_map] at hfs
      have hfs2 : fs = ptR c b ts := hfs
      rw [hfs2] at hf2
      exact s_retD (ed_tupleL (ed_var rfl (dp_newL hf1 hf2))) fun u H9 e9 p9 => q b ts u H9 htops (hE6.trans (Ed.of (ex.trans e9))) (hD6.ex (ex.trans e9)) p9
end
end Kb
/-! E5: the law's own judgement whether data are a class. -/
namespace Kb
open PySem PySem.Spec PyProof.Rows L2 Evl Xd
def isWh (m : Int) : PyData → Bool
  | .tuple ds => ds.all fun x => isFrom x 0 m
  | _ => false
def R_arewh (d1 d2 r : PyData) : Prop := ∃ m : Int, d2 = .int m ∧ fit 60 d1 ∧ r = .bool (isWh m d1)
theorem all_ints {m : Int} : ∀ {l : List PyData}, (l.all fun d => isFrom d 0 m) = true → ∃ ns : List Int, l = ns.map .int ∧ ∀ i ∈ ns, 0 ≤ i ∧ i ≤ m
  | [], _ => ⟨[], rfl, fun _ z => by cases z⟩
  | a :: r, h => by
    simp only [List.all_cons, Bool.and_eq_true] at h
    obtain ⟨i, rfl, k1, k2⟩ := isFrom_int h.1
    obtain ⟨ns, rfl, k3⟩ := all_ints h.2
    exact ⟨i :: ns, rfl, fun j hj => (List.mem_cons.mp hj).elim (fun z => by rw [z]; exact ⟨k1, k2⟩) (k3 j)⟩
theorem isWh_ints {m : Int} {d : PyData} (h : isWh m d = true) : ∃ ns : List Int, d = .tuple (ns.map .int) ∧ ∀ i ∈ ns, 0 ≤ i ∧ i ≤ m := by
  cases d with
  | tuple ds =>
    obtain ⟨ns, rfl, k⟩ := all_ints h
    exact ⟨ns, rfl, k⟩
  | _ => simp [isWh] at h
theorem groups_ints {m : Int} : ∀ {gs : List PyData}, gs.all (isWh m) = true → ∃ o : List (List Int), gs = o.map (fun g => .tuple (g.map .int)) ∧ ∀ g ∈ o, ∀ i ∈ g, 0 ≤ i ∧ i ≤ m
  | [], _ => ⟨[], rfl, fun _ z => by cases z⟩
  | a :: r, h => by
    simp only [List.all_cons, Bool.and_eq_true] at h
    obtain ⟨ns, rfl, k⟩ := isWh_ints h.1
    obtain ⟨o, rfl, k2⟩ := groups_ints h.2
    exact ⟨ns :: o, rfl, fun g hg => (List.mem_cons.mp hg).elim (fun z => by rw [z]; exact k) (k2 g)⟩
theorem lots_ints {m : Int} : ∀ {gs : List PyData}, gs.all (isLot m) = true → ∃ o : List (List Int), gs = o.map (fun g => .tuple (g.map .int))
  | [], _ => ⟨[], rfl⟩
  | a :: r, h => by
    simp only [List.all_cons, Bool.and_eq_true] at h
    obtain ⟨ns, rfl, k⟩ := lot_ints h.1
    obtain ⟨o, rfl⟩ := lots_ints h.2
    exact ⟨ns :: o, rfl⟩
/-- what is judged a class stands for one -/
theorem isCls_form {n : Nat} {d : PyData} (h : isCls n d = true) : ∃ c, d = clsD c ∧ Good n c := by
  unfold isCls at h
  split at h
  · rename_i ws o
    have h0 := h
    simp only [Bool.and_eq_true] at h
    obtain ⟨⟨⟨h1, h2⟩, h3⟩, h4⟩ := h
    obtain ⟨w, rfl, _⟩ := all_ints h2
    have ho : ∃ o' : List (List Int), o = ordD o' := by
      unfold isOrd at h3
      split at h3
      · rename_i gs
        simp only [Bool.and_eq_true] at h3
        obtain ⟨o', rfl⟩ := lots_ints h3.1.1.2
        exact ⟨o', rfl⟩
      · cases h3
    obtain ⟨o', rfl⟩ := ho
    exact ⟨(w, o'), rfl, isCls_good.mp h0⟩
  · cases h
theorem asc_set (g : List Int) : g = srt (dd g) ↔ g.Pairwise (· < ·) := by
  constructor
  · intro h
    have h1 := srt_up (dd g)
    have h2 : (srt (dd g)).Nodup := (srt_perm _).nodup_iff.mpr (dd_nodup g)
    rw [h]
    exact (List.Pairwise.and h1 h2).imp fun ⟨a, b⟩ => by omega
  · intro h
    exact srt_eq ((List.perm_ext_iff_of_nodup (h.imp fun a => by omega) (dd_nodup g)).mpr fun k => dd_mem.symm) (h.imp fun a => by omega)
section
variable {K : PySem.W.Frag} {σ : L2.St} {H : Hp} {ta tb te : TE} {tt : TT} {wi : TI} {g : TG} {vs : List Nat} {es : List PyData} {p : PyData → Bool} {v : V} {w : World}
theorem ed_sortedSet {ns : List Int} (h : EvD K te σ H (.tuple (ns.map .int))) (hl : ns.length ≤ 60) : EvD K (tCB (rSortedSet w) (tCons (tCB (Xr.rSetT K w) (tCons te tNil)) tNil)) σ H (.list ((srt (dd ns)).map .int)) := fun H1 e Q q =>
  h H1 e _ fun v H2 e2 p => by
    obtain ⟨a, xs, rfl, hs, hx⟩ := dp_tup p
    rw [dpAll_ints hx] at hs
    refine ⟨a, ns, rfl, hs, by omega, fun b c hc hb => ?_⟩
    refine ⟨b, _, c, rfl, upd_same, by omega, fun ms q2 hup hm hlen hq => q _ _ ((e2.trans (Ex.new hb)).trans (Ex.new hq)) (dp_newL upd_same ?_)⟩
    have : ms = srt (dd ns) := srt_eq ((List.perm_ext_iff_of_nodup (hup.imp fun a => by omega) (dd_nodup ns)).mpr fun k => by rw [hm, dd_mem, decide_eq_true_eq]) (hup.imp fun a => by omega)
    rw [← this]
    exact ints_dpAll _
theorem ed_ones (hi : EvI K wi σ H es) (hn : es.length ≤ 40000) (ht : ∀ e ∈ es, ∀ x H1, Ex H H1 → Dp K H1 x e → ∃ σ2, GTo g x (wipe σ vs) H1 σ2 ∧ wipe σ2 vs = wipe σ vs ∧ EvT tt σ2 H1 (p e)) :
    EvD K (tLc wi g tt (tC (.int 1)) vs) σ H (.list (((es.filter p).map fun _ => (1 : Int)).map .int)) := by
  refine ed_is (ed_lc p (fun _ => .int 1) hi hn (fun _ _ _ => rfl) fun e he x H1 ex hx => ?_) (by rw [List.map_map]; rfl)
  obtain ⟨σ2, h1, h2, h3⟩ := ht e he x H1 ex hx
  exact ⟨σ2, h1, h2, h3, fun _ => ed_int ev_c⟩
theorem ones_nil : decide (((es.filter p).map fun _ => (1 : Int)) = []) = !es.any p := by
  rw [Bool.eq_iff_iff, decide_eq_true_eq, List.map_eq_nil_iff, List.filter_eq_nil_iff, Bool.not_eq_true', List.any_eq_false]
theorem ev_onesEq (hi : EvI K wi σ H es) (hn : es.length ≤ 40000) (ht : ∀ e ∈ es, ∀ x H1, Ex H H1 → Dp K H1 x e → ∃ σ2, GTo g x (wipe σ vs) H1 σ2 ∧ wipe σ2 vs = wipe σ vs ∧ EvT tt σ2 H1 (p e)) :
    Ev (tOp (rEqD K) (tLc wi g tt (tC (.int 1)) vs) (tLst tNil)) σ H (.bl (!es.any p)) :=
  ev_is (ev_eqD (d2 := .list (([] : List Int).map .int)) (ed_ones hi hn ht) (ed_lst ead_nil (show 0 ≤ 100000 by decide)) (shaped_ints _) (shaped_ints _)) (by rw [eqv_ints, ones_nil])
theorem ev_onesNe (hi : EvI K wi σ H es) (hn : es.length ≤ 40000) (ht : ∀ e ∈ es, ∀ x H1, Ex H H1 → Dp K H1 x e → ∃ σ2, GTo g x (wipe σ vs) H1 σ2 ∧ wipe σ2 vs = wipe σ vs ∧ EvT tt σ2 H1 (p e)) :
    Ev (tOp (rNeD K) (tLc wi g tt (tC (.int 1)) vs) (tLst tNil)) σ H (.bl (es.any p)) :=
  ev_is (ev_neD (d2 := .list (([] : List Int).map .int)) (ed_ones hi hn ht) (ed_lst ead_nil (show 0 ≤ 100000 by decide)) (shaped_ints _) (shaped_ints _)) (by rw [eqv_ints, ones_nil, Bool.not_not])
theorem evj_ix1 {i : Nat} {d0 : PyData} {gs : List PyData} (h : σ[i]? = some (some v)) (hd : Dp K H v (.tuple [d0, .tuple gs])) : EvJ K (iTup K (tOp (rIxT K) (tVar i) (tC (.int 1)))) σ H gs := fun H1 e R r => by
  obtain ⟨a, xs, rfl, hs, hx⟩ := dp_tup hd
  cases hx with
  | cons p0 hx =>
    cases hx with
    | cons p1 hx =>
      cases hx
      obtain ⟨b, ys, rfl, ht, hy⟩ := dp_tup p1
      exact ⟨_, h, a, _, 1, .ref b, rfl, rfl, ex_t e hs, rfl, b, rfl, ⟨ys, ex_t e ht⟩, r _ _ (Ex.refl _) (walkd_tup ht hy)⟩
end
section
variable {P : Program} {w : World} {K : PySem.W.Frag} {mg : Str → Option Value} {base : Heap}
theorem sc__law_are_whole : FnScope ["_law_value", "_law_most", "_law_one"] ["_law_value", "_law_most"] (defScope (topS 46)) := ⟨rfl, rfl, rfl, by decide +kernel, rfl, by decide +kernel, by decide +kernel⟩
theorem ok_law_are_whole (T : Tb mg) (D : DefAt K mg "_law_are_whole" (topS 46)) : Cal P w K mg base "_law_are_whole" 1 ["_law_value", "_law_most"] (Sr2 K R_arewh) := by
  refine cal_of D (fun _ _ _ _ _ _ us hl => match us, hl with | [_, _], _ => rfl) fun f fd F => F.ok sc__law_are_whole (fun vs H Q E h => ?_) (fun cdv A outer s H vs Q E hr h => ?_)
  · obtain ⟨v, v2, d, d2, r, rfl, _⟩ := h
    rfl
  · obtain ⟨v, v2, d, d2, r, rfl, hd, hd2, ⟨m, rfl, hfit, rfl⟩, q⟩ := h
    cases dp_int hd2
    refine ⟨_, (pss_cons (ps_if (pt_not (pt_val (pe_callB call_isi rfl T.isinstance bt_isinstance (pa_cons (pv 0) (pa_cons (pe_bltn (v := .ty "tuple") rfl T.tuple bt_tuple rfl) pa_nil))))) (pss_one (ps_ret pe_bl)) pss_nil)
      (pss_one (ps_ret (pe_cmpR (op_eqD hr.units) (pe_lc (own := [("_law_one", 2)]) (tt := (tOr (tB (tCB (rIsi K) (tCons (tVar 2) (tCons (tC (.ty "bool")) tNil)))) (tOr (tNot (tB (tCB (rIsi K) (tCons (tVar 2) (tCons (tC (.ty "int")) tNil))))) (tNot (tTest (tChain (rI0 fun i j => .bl (decide (i ≤ j))) (rI0 fun i j => .bl (decide (i ≤ j))) (tC (.int 0)) (tVar 2) (tVar 1))))))) (te := (tC (.int 1))) rfl sc__law_are_whole.nd (pi_tup (pv 0)) (blkOk_by (own := [("_law_one", 2)]) (N := ["_law_value", "_law_most", "_law_one"]) (sc := (defScope (topS 46))) (by decide +kernel)) (fun _ _ _ _ _ => (pg_name (i := 2) sc__law_are_whole.nd rfl (.inl rfl))) (fun _ _ _ _ _ => pts_one (PW.pt (pw_or (pt_val (pe_callB call_isi rfl T.isinstance bt_isinstance (pa_cons (pv 2) (pa_cons (pe_bltn (v := .ty "bool") rfl T.bool bt_bool rfl) pa_nil)))) (pw_or (pt_not (pt_val (pe_callB call_isi rfl T.isinstance bt_isinstance (pa_cons (pv 2) (pa_cons (pe_bltn (v := .ty "int") rfl T.int bt_int rfl) pa_nil))))) (pw_or1 (pt_not (pt_chain op_le op_le pe_int (pv 2) (pv 1)))))))) (fun _ _ _ _ _ => pe_int)) (pe_lst pa_nil) (nomark _))))), ?_⟩
    cases hT : isT d with
    | false =>
      have e0 : isWh m d = false := by cases d <;> first | rfl | cases hT
      rw [e0] at q
      exact q_when (b := true) (et_not (a := false) (et_B (ev_is (ev_isi (EvP.x (ed_var rfl hd)) (kit_tuple _)) (by rw [hT])))) (fun _ H1 e1 => s_ret0 (ed_bl ev_c) e1 q rfl) fun z => by cases z
    | true =>
      obtain ⟨ds, rfl⟩ : ∃ ds, d = .tuple ds := by cases d <;> first | exact ⟨_, rfl⟩ | cases hT
      obtain ⟨hlen, hmem⟩ := fit_tup hfit
      refine q_when (b := false) (et_not (a := true) (et_B (ev_isi (EvP.x (ed_var rfl hd)) (kit_tuple _)))) (fun z => by cases z) fun _ H1 e1 => ?_
      refine s_ret0 (ed_bl (ev_is (ev_onesEq (p := fun x => !isFrom x 0 m) (evj_tup rfl (dp_ex e1 hd)).i (by omega) fun e he x H2 ex hx => ⟨_, gto_name, rfl, ?_⟩) ?_)) e1 q rfl
      · cases e with
        | int i =>
          cases dp_int hx
          refine et_is (et_or (a := false) (et_B (ev_isi (EvP.x (ed_var rfl hx)) (kit_bool _))) fun _ => et_or (a := false) (et_not (a := true) (et_B (ev_isi (EvP.x (ed_var rfl hx)) (kit_int _)))) fun _ => et_not (et_test (ev_chain ev_c (ev_var rfl) (ev_var rfl) rv_I0 rv_I0))) ?_
          show (false || (false || !(decide (0 ≤ i) && decide (i ≤ m)))) = !(decide (0 ≤ i) && decide (i ≤ m))
          rw [Bool.false_or, Bool.false_or]
        | bool b => exact et_or (a := true) (b := false) (et_B (ev_isi (EvP.x (ed_var rfl hx)) (kit_bool _))) fun z => by cases z
        | none => exact et_or (a := false) (b := true) (et_B (ev_isi (EvP.x (ed_var rfl hx)) (kit_bool _))) fun _ => et_or (a := true) (b := false) (et_not (a := false) (et_B (ev_isi (EvP.x (ed_var rfl hx)) (kit_int _)))) fun z => by cases z
        | str s => exact et_or (a := false) (b := true) (et_B (ev_isi (EvP.x (ed_var rfl hx)) (kit_bool _))) fun _ => et_or (a := true) (b := false) (et_not (a := false) (et_B (ev_isi (EvP.x (ed_var rfl hx)) (kit_int _)))) fun z => by cases z
        | list s => exact et_or (a := false) (b := true) (et_B (ev_isi (EvP.x (ed_var rfl hx)) (kit_bool _))) fun _ => et_or (a := true) (b := false) (et_not (a := false) (et_B (ev_isi (EvP.x (ed_var rfl hx)) (kit_int _)))) fun z => by cases z
        | tuple s => exact et_or (a := false) (b := true) (et_B (ev_isi (EvP.x (ed_var rfl hx)) (kit_bool _))) fun _ => et_or (a := true) (b := false) (et_not (a := false) (et_B (ev_isi (EvP.x (ed_var rfl hx)) (kit_int _)))) fun z => by cases z
        | dict s => cases hx
      · congr 1
        show (!ds.any fun x => !isFrom x 0 m) = ds.all fun x => isFrom x 0 m
        rw [List.not_any_eq_all_not]
        simp only [Bool.not_not]
end
end Kb
/-! E6: the law's own judgement whether data are a class (2). -/
namespace Kb
open PySem PySem.Spec PyProof.Rows L2 Evl Xd
abbrev gsD (o : List (List Int)) : List PyData := o.map fun g => .tuple (g.map .int)
def topBad (o : PyData) : PyData → Bool
  | .tuple [c, .int w] => decide (w = 4) && !inFirst c o
  | _ => false
theorem not_form {n : Nat} {d : PyData} (h : ∀ c, d = clsD c → Good n c → False) : isCls n d = false := by
  cases e : isCls n d with
  | false => rfl
  | true =>
    obtain ⟨c, h1, h2⟩ := isCls_form e
    exact (h c h1 h2).elim
theorem isWh_all {m : Int} {ws : List Int} : isWh m (.tuple (ws.map .int)) = true ↔ ∀ w ∈ ws, 0 ≤ w ∧ w ≤ m := allFrom ws 0 m
section
variable {P : Program} {w : World} {K : PySem.W.Frag} {mg : Str → Option Value} {base : Heap}
theorem sc__law_is_class : FnScope ["_law_clocks", "_law_value", "_law_told", "_law_group", "_law_clock", "_law_whole"] ["_law_clocks", "_law_value"] (defScope (topS 45)) := ⟨rfl, rfl, rfl, by decide +kernel, rfl, by decide +kernel, by decide +kernel⟩
theorem ok_law_is_class (T : Tb mg) (D : DefAt K mg "_law_is_class" (topS 45)) (C__law_are_whole : Cal P w K mg base "_law_are_whole" 1 ["_law_value", "_law_most"] (Sr2 K R_arewh)) : Cal P w K mg base "_law_is_class" 2 ["_law_clocks", "_law_value"] (SpCls K isCls) := by
  refine cal_of D (fun _ _ _ _ _ _ us hl => match us, hl with | [_, _], _ => rfl) fun f fd F => F.ok sc__law_is_class (fun vs H Q E h => ?_) (fun cdv A outer s H vs Q E hr h => ?_)
  · obtain ⟨v, n, d, rfl, _⟩ := h
    rfl
  · obtain ⟨v2, n, d, rfl, hX, hn1, hn3, hfit, q⟩ := h
    refine ⟨_, (pss_cons (ps_if (PW.pt (pw_or (pt_not (pt_val (pe_callB call_isi rfl T.isinstance bt_isinstance (pa_cons (pv 1) (pa_cons (pe_bltn (v := .ty "tuple") rfl T.tuple bt_tuple rfl) pa_nil))))) (pw_or (pt_cmpR op_ne (pe_callB call_len_seq rfl T.len bt_len (pa_cons (pv 1) pa_nil)) pe_int (nomark _)) (pw_or (pt_not (pt_val (pe_callC C__law_are_whole hr rfl (pa_cons (pe_ix ix_tup (pv 1) pe_int (fun _ _ => rfl)) (pa_cons pe_int pa_nil))))) (pw_or1 (pt_cmpR op_ne (pe_callB call_len_seq rfl T.len bt_len (pa_cons (pe_ix ix_tup (pv 1) pe_int (fun _ _ => rfl)) pa_nil)) (pv 0) (nomark _))))))) (pss_one (ps_ret pe_bl)) pss_nil)
      (pss_cons (ps_if (PW.pt (pw_or (pt_not (pt_val (pe_callB call_isi rfl T.isinstance bt_isinstance (pa_cons (pe_ix ix_tup (pv 1) pe_int (fun _ _ => rfl)) (pa_cons (pe_bltn (v := .ty "tuple") rfl T.tuple bt_tuple rfl) pa_nil))))) (pw_or (pt_cmpR (op_eqD hr.units) (pe_ix ix_tup (pv 1) pe_int (fun _ _ => rfl)) (pe_tup pa_nil) (nomark _)) (pw_or1 (pt_cmpR (op_neD hr.units) (pe_lc (own := [("_law_group", 3)]) (tt := (tNot (tB (tCall (Sr2 K R_arewh) [] E0 (tCons (tVar 3) (tCons (tC (.int 2)) tNil)))))) (te := (tC (.int 1))) rfl sc__law_is_class.nd (pi_tup (pe_ix ix_tup (pv 1) pe_int (fun _ _ => rfl))) (blkOk_by (own := [("_law_group", 3)]) (N := ["_law_clocks", "_law_value", "_law_told", "_law_group", "_law_clock", "_law_whole"]) (sc := (defScope (topS 45))) (by decide +kernel)) (fun _ _ _ _ _ => (pg_name (i := 3) sc__law_is_class.nd rfl (.inl rfl))) (fun _ _ _ _ _ => pts_one (pt_not (pt_val (pe_callC C__law_are_whole hr rfl (pa_cons (pv 3) (pa_cons pe_int pa_nil)))))) (fun _ _ _ _ _ => pe_int)) (pe_lst pa_nil) (nomark _)))))) (pss_one (ps_ret pe_bl)) pss_nil)
      (pss_cons (ps_if (PW.pt (pw_or (pt_cmpR (op_neD hr.units) (pe_lc (own := [("_law_group", 3)]) (tt := (tTest (tOp (rNeD K) (tCB (rListS K) (tCons (tVar 3) tNil)) (tCB (rSortedSet w) (tCons (tCB (Xr.rSetT K w) (tCons (tVar 3) tNil)) tNil))))) (te := (tC (.int 1))) rfl sc__law_is_class.nd (pi_tup (pe_ix ix_tup (pv 1) pe_int (fun _ _ => rfl))) (blkOk_by (own := [("_law_group", 3)]) (N := ["_law_clocks", "_law_value", "_law_told", "_law_group", "_law_clock", "_law_whole"]) (sc := (defScope (topS 45))) (by decide +kernel)) (fun _ _ _ _ _ => (pg_name (i := 3) sc__law_is_class.nd rfl (.inl rfl))) (fun _ _ _ _ _ => pts_one (pt_cmpR (op_neD hr.units) (pe_callTy call_list_of rfl T.list bt_list (pa_cons (pv 3) pa_nil)) (pe_callB (cr_sortedSet rfl) (by rfl) T.sorted bt_sorted (pa_cons (pe_callTy (Xr.cr_setT rfl) rfl T.set bt_set (pa_cons (pv 3) pa_nil)) pa_nil)) (nomark _))) (fun _ _ _ _ _ => pe_int)) (pe_lst pa_nil) (nomark _)) (pw_or1 (pt_cmpR (Xr.op_inT (u65 hr)) (pe_tup pa_nil) (pe_slice sl_tupA (pe_ix ix_tup (pv 1) pe_int (fun _ _ => rfl)) (po_some pe_int) po_none) (by rfl))))) (pss_one (ps_ret pe_bl)) pss_nil)
      (pss_cons (ps_set (i := 2) sc__law_is_class.nd rfl (.inl rfl) (pe_lst pa_nil))
      (pss_cons (ps_for PassesOwn.never rfl (pi_tup (pe_ix ix_tup (pv 1) pe_int (fun _ _ => rfl))) (pg_name (i := 3) sc__law_is_class.nd rfl (.inl rfl)) (pss_one (ps_expr (pe_bm PySem.F.plainAttrs_list PySem.F.slot_list_extend PySem.F.type_list_extend mt_extend (pv 2) (pa_cons (pe_callTy call_list_of rfl T.list bt_list (pa_cons (pv 3) pa_nil)) pa_nil)))))
      (pss_cons (ps_if (pt_cmpR (op_neD hr.units) (pe_callB cr_sortedI rfl T.sorted bt_sorted (pa_cons (pv 2) pa_nil)) (pe_listRg rfl rfl T.list (prg_1 rfl T.range (pv 0))) (nomark _)) (pss_one (ps_ret pe_bl)) pss_nil)
      (pss_one (ps_ret (pe_cmpR (op_eqD hr.units) (pe_lc (own := [("_law_clock", 4), ("_law_whole", 5)]) (g := (gTup K 2 (gCons (gName 4) (gCons (gName 5) gNil)))) (tt := (tAnd (tTest (tOp rEq (tVar 5) (tC (.int 4)))) (tTest (tOp (Xr.rNotInT K) (tVar 4) (tOp (rIxT K) (tOp (rIxT K) (tVar 1) (tC (.int 1))) (tC (.int 0))))))) (te := (tC (.int 1))) rfl sc__law_is_class.nd (Xr.pi_enumT rfl T.enumerate (pa_cons (pe_ix ix_tup (pv 1) pe_int (fun _ _ => rfl)) pa_nil)) (blkOk_by (own := [("_law_clock", 4), ("_law_whole", 5)]) (N := ["_law_clocks", "_law_value", "_law_told", "_law_group", "_law_clock", "_law_whole"]) (sc := (defScope (topS 45))) (by decide +kernel)) (fun _ _ _ _ _ => (pg_tup rfl (pgs_cons (pg_name (i := 4) sc__law_is_class.nd rfl (.inl rfl)) (pgs_cons (pg_name (i := 5) sc__law_is_class.nd rfl (.inl rfl)) pgs_nil)))) (fun _ _ _ _ _ => pts_one (PW.pt (pw_and (pt_cmpR op_eq (pv 5) pe_int (nomark _)) (pw_and1 (pt_cmpR (Xr.op_notInT (u65 hr)) (pv 4) (pe_ix ix_tup (pe_ix ix_tup (pv 1) pe_int (fun _ _ => rfl)) pe_int (fun _ _ => rfl)) (by rfl)))))) (fun _ _ _ _ _ => pe_int)) (pe_lst pa_nil) (nomark _)))))))))), ?_⟩
    obtain ⟨n, rfl⟩ : ∃ k : Nat, n = k := ⟨n.toNat, by omega⟩
    have x0 : EvP (tVar 1) (start ["_law_clocks", "_law_value", "_law_told", "_law_group", "_law_clock", "_law_whole"] [V.int (n : Nat), v2]) H fun v H1 => DpX K H1 v d := fun H1 e Q q => ⟨v2, rfl, q v2 H1 (Ex.refl _) (dpx_ex e hX)⟩
    cases hT : isT d with
    | false =>
      rw [not_cls hT] at q
      exact q_when (b := true) (et_or (a := true) (b := true) (et_not (a := false) (et_B (ev_is (ev_isi x0 (kit_tuple _)) (by rw [hT])))) fun z => by cases z) (fun _ H1 e1 => s_ret0 (ed_bl ev_c) e1 q rfl) fun z => by cases z
    | true =>
      obtain ⟨ds, rfl⟩ : ∃ ds, d = .tuple ds := by cases d <;> first | exact ⟨_, rfl⟩ | cases hT
      have hd : Dp K H v2 (.tuple ds) := by
        rcases hX with h | ⟨h, _⟩
        · exact h
        · cases h
      have hfit := hfit rfl
      obtain ⟨hlen, hmem⟩ := fit_tup hfit
      have t1 : EvT (tNot (tB (tCB (rIsi K) (tCons (tVar 1) (tCons (tC (.ty "tuple")) tNil))))) (start ["_law_clocks", "_law_value", "_law_told", "_law_group", "_law_clock", "_law_whole"] [V.int (n : Nat), v2]) H false := et_not (a := true) (et_B (ev_isi x0 (kit_tuple _)))
      have t2 : EvT (tTest (tOp rNe (tCB (rLenS K) (tCons (tVar 1) tNil)) (tC (.int 2)))) (start ["_law_clocks", "_law_value", "_law_told", "_law_group", "_law_clock", "_law_whole"] [V.int (n : Nat), v2]) H (!decide (V.int (ds.length : Nat) = V.int 2)) := et_test (ev_op (ev_lenT (ed_var rfl hd)) ev_c (rv_ne rfl))
      by_cases h2 : ds.length = 2
      rotate_left
      · rw [not_form fun c hc _ => by cases hc; exact h2 rfl] at q
        refine q_when (b := true) (et_or (a := false) (b := true) t1 fun _ => et_or (a := true) (b := true) (et_is t2 ?_) fun z => by cases z) (fun _ H1 e1 => s_ret0 (ed_bl ev_c) e1 q rfl) fun z => by cases z
        rw [decide_eq_false fun z => h2 (by have := V.int.inj z; omega)]
        rfl
      obtain ⟨d0, d1, rfl⟩ : ∃ d0 d1, ds = [d0, d1] := by
        match ds, h2 with
        | [d0, d1], _ => exact ⟨d0, d1, rfl⟩
      have f0 : fit 60 d0 := hmem d0 List.mem_cons_self
      have f1 : fit 60 d1 := hmem d1 (List.mem_cons_of_mem _ List.mem_cons_self)
      have i0 : ∀ H1, Ex H H1 → EvD K (tOp (rIxT K) (tVar 1) (tC (.int 0))) (start ["_law_clocks", "_law_value", "_law_told", "_law_group", "_law_clock", "_law_whole"] [V.int (n : Nat), v2]) H1 d0 := fun H1 e => ed_ixT (ed_var rfl (dp_ex e hd)) ev_c rfl
      have t3 : EvT (tNot (tB (tCall (Sr2 K R_arewh) [] E0 (tCons (tOp (rIxT K) (tVar 1) (tC (.int 0))) (tCons (tC (.int 4)) tNil))))) (start ["_law_clocks", "_law_value", "_law_told", "_law_group", "_law_clock", "_law_whole"] [V.int (n : Nat), v2]) H (!isWh 4 d0) := et_not (et_B (ev_bl (ed_callr2 (ead_cons (i0 H (Ex.refl H)) (ead1 (ed_int ev_c))) ⟨4, rfl, f0, rfl⟩)))
      have t2' : EvT (tTest (tOp rNe (tCB (rLenS K) (tCons (tVar 1) tNil)) (tC (.int 2)))) (start ["_law_clocks", "_law_value", "_law_told", "_law_group", "_law_clock", "_law_whole"] [V.int (n : Nat), v2]) H false := t2
      cases hw : isWh 4 d0 with
      | false =>
        rw [not_form fun c hc g => by
          cases hc
          rw [isWh_all.mpr g.ws] at hw
          cases hw] at q
        exact q_when (b := true) (et_or (a := false) (b := true) t1 fun _ => et_or (a := false) (b := true) t2' fun _ => et_or (a := true) (b := true) (et_is t3 (by rw [hw]; rfl)) fun z => by cases z) (fun _ H1 e1 => s_ret0 (ed_bl ev_c) e1 q rfl) fun z => by cases z
      | true =>
        obtain ⟨ws, rfl, hws⟩ := isWh_ints hw
        refine q_when (b := !decide (V.int (ws.length : Nat) = V.int (n : Nat))) (et_or (a := false) t1 fun _ => et_or (a := false) t2' fun _ => et_or (a := false) (et_is t3 (by rw [hw]; rfl)) fun _ => et_test (ev_is (ev_op (ev_lenT (i0 H (Ex.refl H))) (ev_var rfl) (rv_ne rfl)) (by rw [List.length_map]; rfl))) (fun hb H1 e1 => ?_) fun hb H1 e1 => ?_
        · rw [not_form fun c hc g => by
            simp only [clsD, PyData.tuple.injEq, List.cons.injEq, and_true] at hc
            have hl := congrArg List.length hc.1
            rw [List.length_map, List.length_map, g.len] at hl
            rw [hl, decide_eq_true rfl] at hb
            cases hb] at q
          exact s_ret0 (ed_bl ev_c) e1 q rfl
        · have hwl : ws.length = n := by
            have : decide (V.int (ws.length : Nat) = V.int (n : Nat)) = true := by
              cases e : decide (V.int (ws.length : Nat) = V.int (n : Nat)) with
              | true => rfl
              | false => rw [e] at hb; cases hb
            have := V.int.inj (of_decide_eq_true this)
            omega
          have hd1 := dp_ex e1 hd
          have i1 : ∀ H2, Ex H1 H2 → EvD K (tOp (rIxT K) (tVar 1) (tC (.int 1))) (start ["_law_clocks", "_law_value", "_law_told", "_law_group", "_law_clock", "_law_whole"] [V.int (n : Nat), v2]) H2 d1 := fun H2 e => ed_ixT (ed_var rfl (dp_ex e hd1)) ev_c rfl
          have no : ∀ H2, Ex H H2 → isCls n (.tuple [.tuple (ws.map .int), d1]) = false → Q (V.bl false) H2 := fun H2 e z => by
            rw [z] at q
            exact q _ H2 e (.bl false)
          cases hT1 : isT d1 with
          | false =>
            have z := not_form (n := n) (d := .tuple [.tuple (ws.map .int), d1]) fun c hc _ => by
              simp only [clsD, PyData.tuple.injEq, List.cons.injEq, and_true] at hc
              rw [hc.2] at hT1
              cases hT1
            exact q_when (b := true) (et_or (a := true) (b := true) (et_not (a := false) (et_B (ev_is (ev_isi (EvP.x (i1 H1 (Ex.refl _))) (kit_tuple _)) (by rw [hT1])))) fun z => by cases z) (fun _ H2 e2 => s_ret ev_c fun H3 e3 => no H3 ((e1.trans e2).trans e3) z) fun z => by cases z
          | true =>
            obtain ⟨gs, rfl⟩ : ∃ gs, d1 = .tuple gs := by cases d1 <;> first | exact ⟨_, rfl⟩ | cases hT1
            obtain ⟨gl, gm⟩ := fit_tup f1
            have u1 : EvT (tNot (tB (tCB (rIsi K) (tCons (tOp (rIxT K) (tVar 1) (tC (.int 1))) (tCons (tC (.ty "tuple")) tNil))))) (start ["_law_clocks", "_law_value", "_law_told", "_law_group", "_law_clock", "_law_whole"] [V.int (n : Nat), v2]) H1 false := et_not (a := true) (et_B (ev_isi (EvP.x (i1 H1 (Ex.refl _))) (kit_tuple _)))
            refine q_when (b := false || (emptyT (.tuple gs) || gs.any fun g => !isWh 2 g)) (et_or (a := false) u1 fun _ => et_or (a := emptyT (.tuple gs)) (et_test (ev_is (ev_eqD (i1 H1 (Ex.refl _)) (ed_tup ead_nil (show 0 ≤ 100000 by decide)) (f1.shaped (by decide)) rfl) (by rw [eqv_emptyT]))) fun _ =>
              et_test (ev_onesNe (p := fun g => !isWh 2 g) (evj_ix1 rfl hd1).i (by omega) fun e he x H2 ex hx => ⟨_, gto_name, rfl, et_not (et_B (ev_bl (ed_callr2 (ead_cons (ed_var rfl hx) (ead1 (ed_int ev_c))) ⟨2, rfl, gm e he, rfl⟩)))⟩)) (fun hb H2 e2 => ?_) fun hb H2 e2 => ?_
            · refine s_ret ev_c fun H3 e3 => no H3 ((e1.trans e2).trans e3) (not_form fun c hc g => ?_)
              simp only [clsD, ordD, PyData.tuple.injEq, List.cons.injEq, and_true] at hc
              rw [hc.2, Bool.false_or, Bool.or_eq_true] at hb
              rcases hb with hb | hb
              · cases ho : c.2 with
                | nil => exact g.ne ho
                | cons a r => rw [ho] at hb; cases hb
              · obtain ⟨d, hd, hd2⟩ := List.any_eq_true.mp hb
                obtain ⟨g0, hg0, rfl⟩ := List.mem_map.mp hd
                rw [isWh_all.mpr fun i hi => by have := g.els g0 hg0 i hi; omega] at hd2
                cases hd2
            · rw [Bool.false_or, Bool.or_eq_false_iff] at hb
              obtain ⟨hb1, hb2⟩ := hb
              have hall : gs.all (isWh 2) = true := List.all_eq_true.mpr fun g hg => by
                have := List.any_eq_false.mp hb2 g hg
                simpa using this
              obtain ⟨o, rfl, ho2⟩ := groups_ints hall
              have hone : o ≠ [] := fun z => by rw [z] at hb1; cases hb1
              have hd2 := dp_ex e2 hd1
              have i2 : ∀ H3, Ex H2 H3 → EvD K (tOp (rIxT K) (tVar 1) (tC (.int 1))) (start ["_law_clocks", "_law_value", "_law_told", "_law_group", "_law_clock", "_law_whole"] [V.int (n : Nat), v2]) H3 (ordD o) := fun H3 e => ed_ixT (ed_var rfl (dp_ex e hd2)) ev_c rfl
              have hgl : ∀ g ∈ o, g.length ≤ 60 := fun g hg => by
                have := (fit_tup (gm _ (List.mem_map.mpr ⟨g, hg, rfl⟩))).1
                rw [List.length_map] at this
                exact this
              have hol : o.length ≤ 60 := by
                rw [List.length_map] at gl
                exact gl
              have x2 := e1.trans e2
              have bad : ∀ H3, Ex H2 H3 → (Good n (ws, o) → False) → Q (V.bl false) H3 := fun H3 e z => no H3 (x2.trans e) (by
                cases hh : isCls n (.tuple [.tuple (ws.map .int), .tuple (o.map fun g => .tuple (g.map .int))]) with
                | false => rfl
                | true => exact (z (isCls_good.mp hh)).elim)
              obtain ⟨c1, hc1⟩ : ∃ c1 : Bool, c1 = (gsD o).any fun g => !ascD (grp g) := ⟨_, rfl⟩
              obtain ⟨c2, hc2⟩ : ∃ c2 : Bool, c2 = ((gsD o).drop 1).any fun z => PyData.eqv z (.tuple []) := ⟨_, rfl⟩
              refine q_when (b := c1 || c2) (et_or (a := c1) (b := c2) (et_is (et_test (ev_onesNe (es := gsD o) (p := fun g => !ascD (grp g)) (evj_ix1 rfl hd2).i (by rw [List.length_map]; omega) fun e he x H3 ex hx => ⟨_, gto_name, rfl, ?_⟩)) hc1.symm)
                fun _ => et_is (et_test (ev_inT (ds := (gsD o).drop 1) (ed_tup ead_nil (show 0 ≤ 100000 by decide)) (ed_is (ed_slT (i2 H2 (Ex.refl _)) (eo_some ev_c) eo_none) (by rw [show (1 : Int) = ((1 : Nat) : Int) from rfl, cutD_from])) rfl ?_)) hc2.symm) (fun hb H3 e3 => ?_) fun hb H3 e3 => ?_
              · obtain ⟨g, hg, rfl⟩ := List.mem_map.mp he
                refine et_test (ev_is (ev_neD (ed_listT (ed_var rfl hx)) (ed_sortedSet (ed_var rfl hx) (hgl g hg)) (shaped_ints _) (shaped_ints _)) ?_)
                rw [eqv_ints]
                have h9 : decide (g = srt (dd g)) = ascD (g.map .int) := by rw [Bool.eq_iff_iff, decide_eq_true_eq, asc_set, ascD_ints]
                rw [h9]
                rfl
              · rw [← List.map_drop]
                exact (ord_fit (by rw [List.length_drop]; omega) fun g hg => hgl g (List.mem_of_mem_drop hg)).shaped (by decide)
              · refine s_ret ev_c fun H4 e4 => bad H4 (e3.trans e4) fun g => ?_
                rw [Bool.or_eq_true, hc1, hc2] at hb
                rcases hb with hb | hb
                · obtain ⟨d, hd, hd2⟩ := List.any_eq_true.mp hb
                  obtain ⟨g0, hg0, rfl⟩ := List.mem_map.mp hd
                  have := (ascD_ints g0).mpr (g.asc g0 hg0)
                  rw [show grp (.tuple (g0.map .int)) = g0.map .int from rfl, this] at hd2
                  cases hd2
                · obtain ⟨d, hd, hd2⟩ := List.any_eq_true.mp hb
                  rw [← List.map_drop] at hd
                  obtain ⟨g0, hg0, rfl⟩ := List.mem_map.mp hd
                  rw [eqv_emptyT, emptyT_ints] at hd2
                  exact g.tl g0 hg0 hd2
              · rw [Bool.or_eq_false_iff, hc1, hc2] at hb
                obtain ⟨hb3, hb4⟩ := hb
                have hasc : ∀ g ∈ o, g.Pairwise (· < ·) := fun g hg => by
                  have := List.any_eq_false.mp hb3 _ (List.mem_map.mpr ⟨g, hg, rfl⟩)
                  refine (ascD_ints g).mp ?_
                  simpa [grp] using this
                have htl : ∀ g ∈ o.drop 1, g ≠ [] := fun g hg z => by
                  rw [← List.map_drop] at hb4
                  have := List.any_eq_false.mp hb4 _ (List.mem_map.mpr ⟨g, hg, rfl⟩)
                  rw [eqv_emptyT] at this
                  exact this ((emptyT_ints g).mpr z)
                have x3 := x2.trans e3
                have hd3 := dp_ex e3 hd2
                refine q_asgP (Pd := fun u H2 => ∃ p xs, u = .ref p ∧ H3 p = none ∧ H2 p = some (.lst xs) ∧ DpAll K H2 xs []) (evp_lst ead_nil (show 0 ≤ 100000 by decide)) fun u H4 e4 hp => ?_
                obtain ⟨p, xs, rfl, hp3, hp4, hpd⟩ := hp
                cases hpd
                refine q_forJ (H0 := H3) (evj_ix1 rfl hd3) e4 (fun i σ' H' => ∃ y3, σ' = [some (.int (n : Nat)), some v2, some (.ref p), y3, none, none] ∧ Ex H3 H' ∧ H' p = some (.lst ((o.take i).flatten.map V.int)))
                  (fun H5 e5 => ⟨none, rfl, e4.trans e5, e5 _ _ hp4⟩) (fun i σ' H' h => by obtain ⟨_, _, h, _⟩ := h; exact h) (fun i e x σ' H' he hI H5 e5 hx => ?_) fun σ' H' hI => ?_
                · obtain ⟨y3, rfl, ex, hpt⟩ := hI
                  rw [List.getElem?_map] at he
                  cases hg : o[i]? with
                  | none => rw [hg] at he; cases he
                  | some g =>
                    rw [hg] at he
                    cases he
                    obtain ⟨b, ys, rfl, hs, hy⟩ := dp_tup hx
                    rw [dpAll_ints hy] at hs
                    have hp5 := e5 _ _ hpt
                    have hfl : ∀ l : List (List Int), (∀ g ∈ l, g.length ≤ 60) → l.flatten.length ≤ l.length * 60 := fun l => by
                      induction l with
                      | nil => intro _; exact Nat.le_refl _
                      | cons a r ih =>
                        intro h
                        rw [List.flatten_cons, List.length_append, List.length_cons]
                        have := h a List.mem_cons_self
                        have := ih fun g hg => h g (List.mem_cons_of_mem _ hg)
                        omega
                    have hl1 := hfl (o.take i) fun g hg => hgl g (List.mem_of_mem_take hg)
                    have hl2 : (o.take i).length ≤ 60 := by rw [List.length_take]; omega
                    have hl3 := hgl g (List.mem_of_getElem? hg)
                    refine ⟨.ref p, rfl, Or.inl ⟨rfl, _, sq_of hp5⟩, .ref b, rfl, b, g.map .int, rfl, Or.inr hs, fun l hl => ?_⟩
                    refine ⟨p, l, _, _, rfl, rfl, Ex.new hl _ _ hp5, upd_same, ?_, _, rfl, ((ex.trans e5).trans (Ex.new hl)).mut hp3, ?_⟩
                    · rw [List.length_map, List.length_map]
                      exact Nat.le_of_lt (sz_lt (by omega))
                    · rw [upd_same, ← List.map_append, List.take_add_one, hg, List.flatten_append]
                      show some (HO.lst _) = some (HO.lst _)
                      rw [show (some g).toList.flatten = g by simp]
                · obtain ⟨y3, rfl, ex, hpt⟩ := hI
                  rw [List.length_map, List.take_length] at hpt
                  have hx6 := x3.trans ex
                  refine q_when (b := !decide (srt o.flatten = rangeI n)) (et_test (ev_is (ev_neD (ed_sorted (ed_var rfl (dp_newL hpt (ints_dpAll _)))) (ed_listRg1 (n := n) (ev_var rfl) (by omega)) (shaped_ints _) (shaped_ints _)) (by rw [eqv_ints]))) (fun hb H6 e6 => ?_) fun hb H6 e6 => ?_
                  · refine s_ret ev_c fun H7 e7 => bad H7 (((e3.trans ex).trans e6).trans e7) fun g => ?_
                    rw [decide_eq_true g.perm] at hb
                    cases hb
                  · have hperm : srt o.flatten = rangeI n := by
                      cases h : decide (srt o.flatten = rangeI n) with
                      | true => exact of_decide_eq_true h
                      | false => rw [h] at hb; cases hb
                    have key : isCls n (clsD (ws, o)) = topOk (ws.map .int) (ordD o) := by
                      rw [Bool.eq_iff_iff]
                      constructor
                      · intro h
                        exact topOk_ints.mpr (isCls_good.mp h).top
                      · intro h
                        refine isCls_good.mpr ⟨hwl, hws, hone, fun g hg i hi => ?_, hasc, htl, hperm, topOk_ints.mp h⟩
                        have h1 : i ∈ rangeI n := by
                          rw [← hperm]
                          exact (srt_perm _).mem_iff.mpr (List.mem_flatten.mpr ⟨g, hg, hi⟩)
                        have := mem_rangeI.mp h1
                        omega
                    have key2 : topOk (ws.map .int) (ordD o) = !(enumD (ws.map .int)).any (topBad (ordD o)) := by
                      unfold topOk
                      rw [List.not_any_eq_all_not]
                      rw [Bool.eq_iff_iff, List.all_eq_true, List.all_eq_true]
                      have hp : ∀ e ∈ enumD (ws.map PyData.int), topE (ordD o) e = !topBad (ordD o) e := fun e he => by
                        obtain ⟨k, d, rfl, hk⟩ := enumD_mem he
                        rw [List.getElem?_map] at hk
                        cases hz : ws[k]? with
                        | none => rw [hz] at hk; cases hk
                        | some z =>
                          rw [hz] at hk
                          cases hk
                          have := hws z (List.mem_of_getElem? hz)
                          show (decide (z < 4) || inFirst _ _) = !(decide (z = 4) && !inFirst _ _)
                          rw [Bool.not_and, Bool.not_not]
                          congr 1
                          rw [Bool.eq_iff_iff]
                          simp
                          omega
                      exact ⟨fun h e he => by rw [← hp e he]; exact h e he, fun h e he => by rw [hp e he]; exact h e he⟩
                    have e0 : isCls n (.tuple [.tuple (ws.map .int), .tuple (o.map fun g => .tuple (g.map .int))]) = !(enumD (ws.map .int)).any (topBad (ordD o)) := key.trans key2
                    rw [e0] at q
                    have x7 := hx6.trans e6
                    have x71 := (e2.trans (e3.trans ex)).trans e6
                    have hd7 := dp_ex x71 hd1
                    refine s_ret0 (ed_bl (ev_onesEq (p := topBad (ordD o)) (evi_enumT (ed_ixT (i := 0) (ed_var rfl hd7) ev_c rfl)) (by rw [enumD_len, List.length_map]; omega) fun e he x H8 ex8 hx => ?_)) x7 q rfl
                    obtain ⟨k, hk⟩ := List.mem_iff_getElem?.mp he
                    obtain ⟨z, hz, rfl⟩ := enumD_at hk
                    obtain ⟨u4, u5, k4, k5, k6⟩ := gto_two (K := K) (i := 4) (j := 5) (σ := wipe [some (.int (n : Nat)), some v2, some (.ref p), y3, none, none] [4, 5]) hx
                    cases dp_int k4
                    cases dp_int k5
                    cases o with
                    | nil => exact (hone rfl).elim
                    | cons g0 r =>
                      refine ⟨_, k6, rfl, et_and (a := decide (z = 4)) (b := !inFirst (.int (k : Nat)) (ordD (g0 :: r))) (et_is (et_test (ev_op (ev_var rfl) ev_c (rv_eq rfl))) ?_) fun _ => et_test (ev_is (ev_notInT (d := .int (k : Nat)) (ds := g0.map .int) (ed_int (ev_var rfl)) (ed_ixT (i := 0) (ed_ixT (i := 1) (ed_var rfl (dp_ex ex8 hd7)) ev_c rfl) ev_c (atI_nat (j := 0) rfl)) rfl ?_) rfl)⟩
                      · rw [Bool.eq_iff_iff, decide_eq_true_eq, decide_eq_true_eq]
                        exact ⟨fun h => V.int.inj h, fun h => by rw [h]⟩
                      · exact (ints_fit (hgl g0 List.mem_cons_self)).shaped (by decide)
end
end Kb
/-! E7: values near a class. -/
namespace Kb
open PySem PySem.Spec PyProof.Rows L2 Evl Xd
/-! ### data outside some addresses -/
def drL (S : List Addr) (H : Hp) : Hp := fun b => if b ∈ S then none else H b
def Al (S : List Addr) (H : Hp) : Prop := ∀ b ∈ S, ∃ o, H b = some o
section
variable {S : List Addr} {H H1 : Hp} {p b : Addr} {o : HO}
theorem drL_in (h : b ∈ S) : drL S H b = none := if_pos h
theorem drL_out (h : b ∉ S) : drL S H b = H b := if_neg h
theorem drL_ex : Ex (drL S H) H := fun b o h => by
  by_cases z : b ∈ S
  · rw [drL_in z] at h; cases h
  · rw [drL_out z] at h; exact h
theorem drL_mono (e : Ex H H1) : Ex (drL S H) (drL S H1) := fun b o h => by
  by_cases z : b ∈ S
  · rw [drL_in z] at h; cases h
  · rw [drL_out z] at h ⊢; exact e b o h
theorem drL_upd (h : b ∈ S) : drL S (upd H b o) = drL S H := funext fun c => by
  by_cases z : c ∈ S
  · rw [drL_in z, drL_in z]
  · rw [drL_out z, drL_out z, upd_ne (fun e => z (by rw [e]; exact h))]
theorem Al.ex (a : Al S H) (e : Ex H H1) : Al S H1 := fun b hb => by
  obtain ⟨o, h⟩ := a b hb
  exact ⟨o, e _ _ h⟩
theorem Al.out (a : Al S H) (hp : H p = none) : p ∉ S := fun z => by
  obtain ⟨o, h⟩ := a p z
  rw [hp] at h; cases h
theorem drL_new (a : Al S H) (hp : H p = none) : drL S (upd H p o) p = some o := by rw [drL_out (a.out hp), upd_same]
end
def FN (K : PySem.W.Frag) (S : List Addr) (k : Nat) (v : V) (H : Hp) : Prop := ∃ d, Dp K (drL S H) v d ∧ fit k d
def TDp (K : PySem.W.Frag) (S : List Addr) (k m : Nat) (v : V) (H : Hp) : Prop := ∃ ds, Dp K (drL S H) v (.tuple ds) ∧ ds.length ≤ m ∧ ∀ e ∈ ds, fit k e
def IX (K : PySem.W.Frag) (S : List Addr) (v : V) (H : Hp) : Prop := ∃ d, DpX K (drL S H) v d ∧ (isT d = true → fit 60 d)
abbrev EFN (K : PySem.W.Frag) (S : List Addr) (k : Nat) (te : TE) (σ : L2.St) (H : Hp) : Prop := EvP te σ H (FN K S k)
abbrev ETD (K : PySem.W.Frag) (S : List Addr) (k m : Nat) (te : TE) (σ : L2.St) (H : Hp) : Prop := EvP te σ H (TDp K S k m)
abbrev EIX (K : PySem.W.Frag) (S : List Addr) (te : TE) (σ : L2.St) (H : Hp) : Prop := EvP te σ H (IX K S)
def EFA (K : PySem.W.Frag) (S : List Addr) (k n : Nat) (ta : TA) (σ : L2.St) (H : Hp) : Prop := ∀ H1, Ex H H1 → ∀ Q : List V → Hp → Prop, (∀ vs H2, Ex H1 H2 → (∃ ds, DpAll K (drL S H2) vs ds ∧ ds.length = n ∧ ∀ e ∈ ds, fit k e) → Q vs H2) → ta σ H1 Q
def EXA (K : PySem.W.Frag) (S : List Addr) (n : Nat) (ta : TA) (σ : L2.St) (H : Hp) : Prop := ∀ H1, Ex H H1 → ∀ Q : List V → Hp → Prop, (∀ vs H2, Ex H1 H2 → vs.length = n → (∀ v ∈ vs, IX K S v H2) → Q vs H2) → ta σ H1 Q
section
variable {K : PySem.W.Frag} {S S' : List Addr} {k k' m m' n : Nat} {v : V} {H H1 : Hp} {σ : L2.St} {ta tb te : TE} {tas trr : TA}
theorem FN.go (h : FN K S k v H) (e : Ex (drL S H) (drL S' H1)) : FN K S' k v H1 := by
  obtain ⟨d, h1, h2⟩ := h
  exact ⟨d, dp_ex e h1, h2⟩
theorem TDp.go (h : TDp K S k m v H) (e : Ex (drL S H) (drL S' H1)) : TDp K S' k m v H1 := by
  obtain ⟨d, h1, h2⟩ := h
  exact ⟨d, dp_ex e h1, h2⟩
theorem IX.go (h : IX K S v H) (e : Ex (drL S H) (drL S' H1)) : IX K S' v H1 := by
  obtain ⟨d, h1, h2⟩ := h
  exact ⟨d, dpx_ex e h1, h2⟩
theorem TDp.fn (h : TDp K S k m v H) (hm : m ≤ 60) : FN K S (k + 1) v H := by
  obtain ⟨ds, h1, h2, h3⟩ := h
  exact ⟨_, h1, tup_fit (by omega) h3⟩
theorem FN.ix (h : FN K S k v H) (hk : k ≤ 60) : IX K S v H := by
  obtain ⟨d, h1, h2⟩ := h
  exact ⟨d, .inl h1, fun _ => h2.mono hk⟩
theorem etd_fn (h : ETD K S k m te σ H) (hm : m ≤ 60) (hk : k + 1 ≤ k') : EFN K S k' te σ H := h.imp fun v H1 p => by
  obtain ⟨d, h1, h2⟩ := p.fn hm
  exact ⟨d, h1, h2.mono hk⟩
theorem efn_ix (h : EFN K S k te σ H) (hk : k ≤ 60) : EIX K S te σ H := h.imp fun v H1 p => p.ix hk
theorem efn_up (h : EFN K S k te σ H) (hk : k ≤ k') : EFN K S k' te σ H := h.imp fun v H1 p => by
  obtain ⟨d, h1, h2⟩ := p
  exact ⟨d, h1, h2.mono hk⟩
theorem efn_int {i : Int} (h : Ev te σ H (.int i)) : EFN K S k te σ H := fun H1 e Q q => h H1 e Q fun H2 e2 => q _ H2 e2 ⟨.int i, .int i, (int_fit i).mono (Nat.zero_le _)⟩
theorem efn_non (h : Ev te σ H .non) : EFN K S k te σ H := fun H1 e Q q => h H1 e Q fun H2 e2 => q _ H2 e2 ⟨.none, .non, rfl, Nat.zero_le _, rfl⟩
theorem efn_str {x : Str} (h : Ev te σ H (.str x)) (hf : fit 0 (.str x)) : EFN K S k te σ H := fun H1 e Q q => h H1 e Q fun H2 e2 => q _ H2 e2 ⟨.str x, .str x, hf.mono (Nat.zero_le _)⟩
theorem efn_bl {b : Bool} (h : Ev te σ H (.bl b)) : EFN K S k te σ H := fun H1 e Q q => h H1 e Q fun H2 e2 => q _ H2 e2 ⟨.bool b, .bl b, rfl, Nat.zero_le _, rfl⟩
theorem efn_var {i : Nat} (h : σ[i]? = some (some v)) (p : FN K S k v H) : EFN K S k (tVar i) σ H := fun H1 e Q q => ⟨v, h, q v H1 (Ex.refl _) (p.go (drL_mono e))⟩
theorem etd_var {i : Nat} (h : σ[i]? = some (some v)) (p : TDp K S k m v H) : ETD K S k m (tVar i) σ H := fun H1 e Q q => ⟨v, h, q v H1 (Ex.refl _) (p.go (drL_mono e))⟩
theorem efa_nil : EFA K S k 0 tNil σ H := fun H1 _ _ q => q [] H1 (Ex.refl H1) ⟨[], .nil, rfl, fun _ h => by cases h⟩
theorem efa_cons (h : EFN K S k te σ H) (hr : EFA K S k n trr σ H) : EFA K S k (n + 1) (tCons te trr) σ H := fun H1 e Q q =>
  h H1 e _ fun v H2 e2 ⟨d, p1, p2⟩ => hr H2 (e.trans e2) _ fun vs H3 e3 ⟨ds, p3, p4, p5⟩ => q (v :: vs) H3 (e2.trans e3) ⟨d :: ds, .cons (dp_ex (drL_mono e3) p1) p3, by rw [List.length_cons, p4], fun z hz => by
    rcases List.mem_cons.mp hz with y | y
    · rw [y]; exact p2
    · exact p5 z y⟩
theorem etd_tup (hA : Al S H) (h : EFA K S k n tas σ H) (hn : n ≤ 1000) : ETD K S k n (tTup tas) σ H := fun H1 e Q q =>
  h H1 e _ fun vs H2 e2 ⟨ds, p1, p2, p3⟩ => ⟨sz_of (by rw [dpAll_len p1]; omega), fun p hp => q _ _ (e2.trans (Ex.new hp)) ⟨ds, dp_newT (drL_new ((hA.ex e).ex e2) hp) (dpAll_ex (drL_mono (Ex.new hp)) p1), by omega, p3⟩⟩
theorem etd_one (hA : Al S H) (h : EFN K S k te σ H) : ETD K S k 1 (tTup (tCons te tNil)) σ H := etd_tup hA (efa_cons h efa_nil) (by decide)
theorem etd_two (hA : Al S H) (h : EFN K S k ta σ H) (h2 : EFN K S k tb σ H) : ETD K S k 2 (tTup (tCons ta (tCons tb tNil))) σ H := etd_tup hA (efa_cons h (efa_cons h2 efa_nil)) (by decide)
theorem etd_nil (hA : Al S H) : ETD K S k 0 (tTup tNil) σ H := etd_tup hA efa_nil (by decide)
theorem etd_up (h : ETD K S k m te σ H) (hm : m ≤ m') : ETD K S k m' te σ H := h.imp fun v H1 ⟨ds, p1, p2, p3⟩ => ⟨ds, p1, by omega, p3⟩
theorem cut_sub {ds : List PyData} {lo hi : Option Int} : (cutD ds lo hi).length ≤ ds.length ∧ ∀ e ∈ cutD ds lo hi, e ∈ ds := by
  unfold Xd.cutD
  refine ⟨?_, fun e he => List.mem_of_mem_drop (List.mem_of_mem_take he)⟩
  rw [List.length_take, List.length_drop]
  omega
theorem etd_sl {tl th : TO} {lo hi : Option Int} (hA : Al S H) (h : ETD K S k m te σ H) (h1 : EvO tl σ H lo) (h2 : EvO th σ H hi) : ETD K S k m (tSl (rSlA K) te tl th) σ H := fun H1 e Q q =>
  h H1 e _ fun v H2 e2 ⟨ds, p1, p2, p3⟩ => h1 H2 (e.trans e2) _ fun H3 e3 => h2 H3 ((e.trans e2).trans e3) _ fun H4 e4 => by
    have e34 := e3.trans e4
    obtain ⟨a, xs, rfl, hs, hx⟩ := dp_tup (dp_ex (drL_mono e34) p1)
    have hl := dpAll_len hx
    have hc := cut_sub (ds := ds) (lo := lo) (hi := hi)
    refine ⟨a, xs, rfl, ex_t drL_ex hs, fun hw => q _ H4 (e2.trans e34) ⟨ds, .tup hs hx, p2, p3⟩, fun _ p hp => q _ _ ((e2.trans e34).trans (Ex.new hp)) ⟨cutD ds lo hi, dp_newT (drL_new (((hA.ex e).ex e2).ex e34) hp) (dpAll_ex (drL_mono (Ex.new hp)) ?_), by omega, fun z hz => p3 z (hc.2 z hz)⟩⟩
    unfold Xd.cutD cutV
    rw [hl]
    exact dpAll_take _ (dpAll_drop _ hx)
theorem etd_cat (hA : Al S H) (h1 : ETD K S k m ta σ H) (h2 : ETD K S k m' tb σ H) (hn : n ≤ 1000) (hm : m + m' ≤ n) : ETD K S k n (tOp (rCatA K) ta tb) σ H := fun H1 e Q q =>
  h1 H1 e _ fun v H2 e2 ⟨ds, p1, p2, p3⟩ => h2 H2 (e.trans e2) _ fun z H3 e3 ⟨es, r1, r2, r3⟩ => by
    obtain ⟨a, xs, rfl, hs, hx⟩ := dp_tup (dp_ex (drL_mono e3) p1)
    obtain ⟨b, ys, rfl, ht, hy⟩ := dp_tup r1
    have hl := dpAll_len hx
    have hl2 := dpAll_len hy
    refine ⟨a, b, xs, ys, rfl, rfl, ex_t drL_ex hs, ex_t drL_ex ht, Nat.le_of_lt (small1000 (by omega)), fun _ => q _ H3 (e2.trans e3) ⟨es, .tup ht hy, by omega, r3⟩, fun _ _ => q _ H3 (e2.trans e3) ⟨ds, .tup hs hx, by omega, p3⟩, fun _ _ p hp => q _ _ ((e2.trans e3).trans (Ex.new hp)) ⟨ds ++ es, dp_newT (drL_new (((hA.ex e).ex e2).ex e3) hp) (dpAll_ex (drL_mono (Ex.new hp)) (dpAll_app hx hy)), by rw [List.length_append]; omega, fun w hw => ?_⟩⟩
    exact (List.mem_append.mp hw).elim (p3 w) (r3 w)
theorem back_dp {H : Hp} {ds : List PyData} {f : Nat → Nat} {xs : List V} (h : DpAll K H xs ds) : ∀ l : List Nat, DpAll K H (l.filterMap fun i => xs[f i]?) (l.filterMap fun i => ds[f i]?)
  | [] => .nil
  | i :: l => by
    rw [List.filterMap_cons, List.filterMap_cons]
    cases e : ds[f i]? with
    | none =>
      have : xs[f i]? = none := by
        rw [List.getElem?_eq_none_iff] at e ⊢
        rw [dpAll_len h]
        exact e
      rw [this]
      exact back_dp h l
    | some d =>
      obtain ⟨v, h1, h2⟩ := dpAll_get h e
      rw [h1]
      exact .cons h2 (back_dp h l)
theorem etd_rev (hA : Al S H) (h : ETD K S k m te σ H) : ETD K S k m (Xr.tRevT K te) σ H := fun H1 e Q q =>
  h H1 e _ fun v H2 e2 ⟨ds, p1, p2, p3⟩ => by
    obtain ⟨a, xs, rfl, hs, hx⟩ := dp_tup p1
    have hl := dpAll_len hx
    refine ⟨a, xs, rfl, ex_t drL_ex hs, fun p hp => q _ _ (e2.trans (Ex.new hp)) ⟨(List.range xs.length).filterMap fun (i : Nat) => ds[((xs.length : Int) - 1 + (i : Int) * -1).toNat]?, dp_newT (drL_new ((hA.ex e).ex e2) hp) (dpAll_ex (drL_mono (Ex.new hp)) ?_), ?_, fun w hw => ?_⟩⟩
    · exact back_dp (f := fun i => ((xs.length : Int) - 1 + (i : Int) * -1).toNat) hx _
    · refine Nat.le_trans (List.length_filterMap_le _ _) ?_
      rw [List.length_range]
      omega
    · obtain ⟨i, _, hi⟩ := List.mem_filterMap.mp hw
      exact p3 w (List.mem_of_getElem? hi)
theorem efn_list (hA : Al S H) (h : ETD K S k m te σ H) (hm : m ≤ 60) (hk : k + 1 ≤ k') : EFN K S k' (tCB (rListS K) (tCons te tNil)) σ H := fun H1 e Q q =>
  h H1 e _ fun v H2 e2 ⟨ds, p1, p2, p3⟩ => by
    obtain ⟨a, xs, rfl, hs, hx⟩ := dp_tup p1
    exact ⟨a, xs, rfl, .inr (ex_t drL_ex hs), fun l hl => q _ _ (e2.trans (Ex.new hl)) ⟨.list ds, dp_newL (drL_new ((hA.ex e).ex e2) hl) (dpAll_ex (drL_mono (Ex.new hl)) hx), (lst_fit (by omega) p3).mono hk⟩⟩
theorem efn_pair (hA : Al S H) (h : EFN K S k ta σ H) (h2 : EFN K S k tb σ H) (hk : k + 1 ≤ k') : EFN K S k' (tTup (tCons ta (tCons tb tNil))) σ H := etd_fn (etd_two hA h h2) (by decide) hk
theorem eix_dict (hA : Al S H) : EIX K S tDNewK σ H := fun H1 e Q q => fun p hp => q _ _ (Ex.new hp) ⟨.dict [], .inr ⟨rfl, p, rfl, drL_new (hA.ex e) hp⟩, fun z => by cases z⟩
theorem exa_nil : EXA K S 0 tNil σ H := fun H1 _ _ q => q [] H1 (Ex.refl H1) rfl fun _ h => by cases h
theorem exa_cons (h : EIX K S te σ H) (hr : EXA K S n trr σ H) : EXA K S (n + 1) (tCons te trr) σ H := fun H1 e Q q =>
  h H1 e _ fun v H2 e2 p => hr H2 (e.trans e2) _ fun vs H3 e3 p4 p5 => q (v :: vs) H3 (e2.trans e3) (by rw [List.length_cons, p4]) fun z hz => by
    rcases List.mem_cons.mp hz with y | y
    · rw [y]; exact p.go (drL_mono e3)
    · exact p5 z y
end
section
variable {K : PySem.W.Frag} {S : List Addr} {k m n : Nat} {v : V} {H H1 Hb : Hp} {σ : L2.St} {ta tb te : TE} {tas : TA} {tz : TS} {D : Ends} {a p : Addr}
theorem drL_kt {xs : List V} (h : H a = some (.lst xs)) : Kt H (drL [a] H) :=
  ⟨fun b ys e => by rw [drL_out (fun z => by rw [List.mem_singleton.mp z, h] at e; cases e)]; exact e, fun b o ys e => by rw [drL_out (fun z => by rw [List.mem_singleton.mp z, h] at e; cases e)]; exact e⟩
theorem drL_two (hp : Hb p = none) (e : ∀ b o, b ≠ a → Hb b = some o → H b = some o) : Ex (drL [a] Hb) (drL [a, p] H) := fun b o h => by
  by_cases z : b ∈ [a]
  · rw [drL_in z] at h; cases h
  · rw [drL_out z] at h
    have hba : b ≠ a := fun y => z (by rw [y]; exact List.mem_singleton_self a)
    have hbp : b ≠ p := fun y => by rw [y, hp] at h; cases h
    rw [drL_out (by simp [hba, hbp])]
    exact e b o hba h
theorem drL_less : Ex (drL [a, p] H) (drL [a] H) := fun b o h => by
  by_cases z : b ∈ [a, p]
  · rw [drL_in z] at h; cases h
  · rw [drL_out z] at h
    rw [drL_out (fun y => z (by rw [List.mem_singleton.mp y]; exact List.mem_cons_self))]
    exact h
theorem evp_lstX (h : EXA K S n tas σ H) (hn : n ≤ 1000) : EvP (tLst tas) σ H fun v H2 => ∃ p xs Hb, v = .ref p ∧ Ex H Hb ∧ Hb p = none ∧ H2 = upd Hb p (.lst xs) ∧ xs.length = n ∧ ∀ x ∈ xs, IX K S x Hb := fun H1 e Q q =>
  h H1 e _ fun vs H2 e2 h1 h2 => ⟨sz_of (by omega), fun p hp => q _ _ (e2.trans (Ex.new hp)) ⟨p, vs, H2, rfl, e.trans e2, hp, rfl, h1, h2⟩⟩
/-- the list of near values, while it grows -/
def NS (K : PySem.W.Frag) (a p : Addr) (Hb : Hp) (n : Nat) (H : Hp) : Prop := Ex (drL [a] Hb) (drL [a, p] H) ∧ Dc a H ∧ a ≠ p ∧ ∃ xs, H p = some (.lst xs) ∧ xs.length ≤ n ∧ ∀ x ∈ xs, IX K [a, p] x H
theorem NS.ex (h : NS K a p Hb n H) (e : Ex H H1) : NS K a p Hb n H1 := by
  obtain ⟨h1, h2, h3, xs, h4, h5, h6⟩ := h
  exact ⟨h1.trans (drL_mono e), h2.ex e, h3, xs, e _ _ h4, h5, fun x hx => (h6 x hx).go (drL_mono e)⟩
theorem NS.al (h : NS K a p Hb n H) : Al [a, p] H := fun b hb => by
  obtain ⟨_, ⟨x, y, z, h2⟩, _, xs, h4, _⟩ := h
  rcases List.mem_cons.mp hb with e | e
  · rw [e]; exact ⟨_, h2⟩
  · rw [List.mem_singleton.mp e]; exact ⟨_, h4⟩
theorem s_appX {i : Nat} (hN : NS K a p Hb n H) (hv : σ[i]? = some (some (.ref p))) (h : EIX K [a, p] te σ H) (hn : n < 1000) (k : ∀ H1, NS K a p Hb (n + 1) H1 → Kt H H1 → D.nx σ H1) : tDrop (tBM K "list" rAppend (tVar i) (tCons te tNil)) D σ H := by
  obtain ⟨_, _, _, xs, h4, h5, _⟩ := id hN
  refine ⟨.ref p, hv, Or.inl ⟨rfl, xs, sq_of h4⟩, h H (Ex.refl H) _ fun v H2 e2 hx => ?_⟩
  obtain ⟨g1, g2, g3, ys, g4, g5, g6⟩ := hN.ex e2
  have hy := e2 _ _ h4
  rw [g4] at hy
  cases hy
  have hpm : p ∈ [a, p] := List.mem_cons_of_mem _ List.mem_cons_self
  refine ⟨p, xs, v, rfl, rfl, g4, sz_lt (by omega), k _ ⟨by rw [drL_upd hpm]; exact g1, g2.mut g3, g3, _, upd_same, by rw [List.length_append]; simp; omega, fun x hxm => ?_⟩ ((Kt.ex e2).trans (Kt.lst g4))⟩
  have e0 : Ex (drL [a, p] H2) (drL [a, p] (upd H2 p (.lst (xs ++ [v])))) := by rw [drL_upd hpm]; exact Ex.refl _
  rcases List.mem_append.mp hxm with y | y
  · exact (g6 x y).go e0
  · rw [List.mem_singleton.mp y]; exact hx.go e0
theorem q_appX {i : Nat} (hN : NS K a p Hb n H) (hv : σ[i]? = some (some (.ref p))) (h : EIX K [a, p] te σ H) (hn : n < 1000) (k : ∀ H1, NS K a p Hb (n + 1) H1 → tz D σ H1) : tSeq (tDrop (tBM K "list" rAppend (tVar i) (tCons te tNil))) tz D σ H :=
  s_appX (D := { D with nx := tz D }) hN hv h hn fun H1 h _ => k H1 h
theorem ev_catX {i : Nat} {q : Addr} {xs : List V} (hA : Al [a] H) (hv : σ[i]? = some (some (.ref q))) (hq : H q = some (.lst xs)) (hx : ∀ x ∈ xs, IX K [a] x H) (h : EXA K [a] n tas σ H) (hn : xs.length + n ≤ 1000) :
    EvP (tOp rCat (tVar i) (tLst tas)) σ H fun v H2 => ∃ p ys, v = .ref p ∧ p ≠ a ∧ H2 p = some (.lst ys) ∧ ys.length = xs.length + n ∧ ∀ y ∈ ys, IX K [a] y H2 := fun H1 e Q qq =>
  ⟨.ref q, hv, h H1 e _ fun vs H2 e2 h1 h2 => ⟨sz_of (by omega), fun b hb => ⟨q, b, xs, vs, rfl, rfl, Ex.new hb _ _ ((e.trans e2) _ _ hq), upd_same, Nat.le_of_lt (small1000 (by omega)), fun p hp => by
    have hA2 := (hA.ex (e.trans e2)).ex (Ex.new (o := .lst vs) hb)
    have x3 := (e2.trans (Ex.new hb)).trans (Ex.new (o := .lst (xs ++ vs)) hp)
    refine qq _ _ x3 ⟨p, xs ++ vs, rfl, fun z => hA2.out hp (by rw [z]; exact List.mem_singleton_self a), upd_same, by rw [List.length_append, h1], fun y hy => ?_⟩
    rcases List.mem_append.mp hy with z | z
    · exact (hx y z).go (drL_mono (e.trans x3))
    · exact (h2 y z).go (drL_mono ((Ex.new hb).trans (Ex.new hp)))⟩⟩⟩
theorem etd_ord {i : Nat} {o : List (List Int)} {v2 : V} (h3 : σ[3]? = some (some v2)) (h4 : σ[4]? = some (some (.int (i : Nat)))) (hd : Dp K (drL S H) v2 (ordD o)) (hi : i < o.length) (hl : ∀ g ∈ o, g.length ≤ 3) : ETD K S 0 3 (tOp (rIxT K) (tVar 3) (tVar 4)) σ H := fun H1 e Q q => by
  obtain ⟨b, xs, rfl, hs, hx⟩ := dp_tup (dp_ex (drL_mono e) hd)
  obtain ⟨z, z1, z2⟩ := atI_dp hx (atI_nat (j := i) (v := .tuple (o[i].map .int)) (by rw [List.getElem?_map, List.getElem?_eq_getElem hi]; rfl))
  refine ⟨_, h3, _, h4, b, xs, (i : Nat), z, rfl, rfl, ex_t drL_ex hs, z1, q z H1 (Ex.refl _) ⟨_, z2, by rw [List.length_map]; exact hl _ (List.getElem_mem hi), fun y hy => ?_⟩⟩
  obtain ⟨j, _, rfl⟩ := List.mem_map.mp hy
  exact int_fit j
theorem walkd_tupK {b : Addr} {xs : List V} {ds : List PyData} (hs : SqT K H b xs) (hx : DpAll K H xs ds) (hn : noLs ds = true) : WalkD K (Itt K b) ds (Kt H) := by
  have hl := dpAll_len hx
  refine ⟨fun i H1 hi e => ?_, fun H1 e => ⟨xs, e.sq _ _ hs, by rw [← hl]; exact Nat.le_refl _⟩, fun i H1 x H2 hi e y => ?_⟩
  · exact ⟨xs, xs[i]'(by omega), e.sq _ _ hs, by simp [show i < xs.length by omega]⟩
  · obtain ⟨e2, y2⟩ := y
    subst e2
    obtain ⟨d, h1, h2⟩ := dpAll_at (dpAll_kt e hn hx) (y2 xs (e.sq _ _ hs))
    exact ⟨Ex.refl _, d, h1, h2⟩
/-- a for over a tuple of data without lists, the tuples kept -/
theorem q_forK {es : List PyData} {g : TG} {tu : TS} (h : EvD K te σ H (.tuple es)) (hn : noLs es = true) (Pv : Nat → L2.St → Hp → Prop) (h0 : ∀ H1, Ex H H1 → Pv 0 σ H1)
    (hs : ∀ i e x σ' H', es[i]? = some e → Pv i σ' H' → Dp K H' x e → g x σ' H' fun σ2 H3 => tu { D with nx := fun s h => Pv (i + 1) s h ∧ Kt H' h, ct := fun s h => Pv (i + 1) s h ∧ Kt H' h, bk := tz D } σ2 H3) (hd : ∀ σ' H', Pv es.length σ' H' → tz D σ' H') : tSeq (tFor (iTup K te) g tu) tz D σ H :=
  h H (Ex.refl H) _ fun v H2 e2 pv => by
    obtain ⟨b, xs, rfl, hsq, hx⟩ := dp_tup pv
    have w := walkd_tupK hsq hx hn
    refine ⟨b, rfl, ⟨xs, hsq⟩, fun i m σ' H' => m = es.length - i ∧ i ≤ es.length ∧ Pv i σ' H' ∧ Kt H2 H', ⟨_, rfl, Nat.zero_le _, h0 H2 e2, Kt.refl H2⟩, fun i m σ' H' hW => ?_⟩
    obtain ⟨rfl, hle, p, kt⟩ := hW
    by_cases hlt : i < es.length
    · refine .inr ⟨w.goes i H' hlt kt, fun s h => Pv (i + 1) s h ∧ Kt H' h, fun σ2 H3 p2 => ⟨es.length - (i + 1), by omega, rfl, hlt, p2.1, kt.trans p2.2⟩, fun x H3 y => ?_⟩
      obtain ⟨rfl, y2⟩ := y
      obtain ⟨_, e, he, hd2⟩ := w.yields i _ x _ hlt kt ⟨rfl, y2⟩
      exact hs i e x σ' _ he p hd2
    · have hie : i = es.length := by omega
      subst hie
      exact .inl ⟨w.stops H' kt, hd σ' H' p⟩
end
def S_near (K : PySem.W.Frag) : Sp := fun vs H Q _ => ∃ (a : Addr) (v : V) (c : List Int × List (List Int)), vs = [.ref a, v] ∧ Dc a H ∧ Dp K H v (clsD c) ∧ okC c ∧
  ∀ (p : Addr) (xs : List V) (H1 : Hp), Ed a H H1 → Dc a H1 → p ≠ a → H1 p = some (.lst xs) → xs.length ≤ 100 → (∀ x ∈ xs, IX K [a] x H1) → Q (.ref p) H1
section
variable {P : Program} {w : World} {K : PySem.W.Frag} {mg : Str → Option Value} {base : Heap}
theorem sc__law_near : FnScope ["_law_dice_here", "_law_cls", "_law_wholes", "_law_order", "_law_at", "_law_clock", "_law_found", "_law_number"] ["_law_dice_here", "_law_cls"] (defScope (topS 47)) := ⟨rfl, rfl, rfl, by decide +kernel, rfl, by decide +kernel, by decide +kernel⟩
theorem ok_law_near (T : Tb mg) (D : DefAt K mg "_law_near" (topS 47)) (C__law_roll : Cal P w K mg base "_law_roll" 1 ["_law_dice_here", "_law_most"] S_roll) : Cal P w K mg base "_law_near" 2 ["_law_dice_here", "_law_cls"] (S_near K) := by
  refine cal_of D (fun _ _ _ _ _ _ us hl => match us, hl with | [_, _], _ => rfl) fun f fd F => F.ok sc__law_near (fun vs H Q E h => ?_) (fun cdv A outer s H vs Q E hr h => ?_)
  · obtain ⟨a, v, c, rfl, _⟩ := h
    rfl
  · obtain ⟨a, v, c, rfl, hD, hd, hc, q⟩ := h
    refine ⟨_, (pss_cons (ps_asg (pv 1) (pg_tup rfl (pgs_cons (pg_name (i := 2) sc__law_near.nd rfl (.inl rfl)) (pgs_cons (pg_name (i := 3) sc__law_near.nd rfl (.inl rfl)) pgs_nil))))
      (pss_cons (ps_set (i := 4) sc__law_near.nd rfl (.inl rfl) (pe_callC C__law_roll hr rfl (pa_cons (pv 0) (pa_cons (pe_callB call_len_seq rfl T.len bt_len (pa_cons (pv 3) pa_nil)) pa_nil))))
      (pss_cons (ps_set (i := 5) sc__law_near.nd rfl (.inl rfl) (pe_callC C__law_roll hr rfl (pa_cons (pv 0) (pa_cons (pe_callB call_len_seq rfl T.len bt_len (pa_cons (pv 2) pa_nil)) pa_nil))))
      (pss_cons (ps_set (i := 6) sc__law_near.nd rfl (.inl rfl) (pe_lst (pa_cons (pv 1) (pa_cons (pe_callTy call_list_of rfl T.list bt_list (pa_cons (pv 1) pa_nil)) (pa_cons (Xr.pe_revT (pv 1)) (pa_cons (pe_slice sl_tupA (pv 1) po_none (po_some pe_int)) (pa_cons (pe_op op_catA (pv 1) (pe_tup (pa_cons (pe_tup pa_nil) pa_nil))) (pa_cons (pe_tup (pa_cons (pe_callTy call_list_of rfl T.list bt_list (pa_cons (pv 2) pa_nil)) (pa_cons (pv 3) pa_nil))) (pa_cons (pe_tup (pa_cons (pv 2) (pa_cons (pe_callTy call_list_of rfl T.list bt_list (pa_cons (pv 3) pa_nil)) pa_nil))) (pa_cons (pe_tup (pa_cons (pv 2) (pa_cons (pe_tup pa_nil) pa_nil))) (pa_cons pe_non (pa_cons (pe_tup pa_nil) (pa_cons pe_str (pa_cons pe_int (pa_cons pe_dnewK pa_nil)))))))))))))))
      (pss_cons (ps_for PassesOwn.never rfl (pi_tup (pe_tup (pa_cons pe_int (pa_cons pe_int (pa_cons pe_int (pa_cons (pe_un un_neg pe_int) (pa_cons pe_bl (pa_cons pe_non (pa_cons pe_str pa_nil))))))))) (pg_name (i := 7) sc__law_near.nd rfl (.inl rfl)) (pss_one (ps_expr (pe_bm PySem.F.plainAttrs_list PySem.F.slot_list_append PySem.F.type_list_append mt_append (pv 6) (pa_cons (pe_tup (pa_cons (pe_op op_catA (pe_op op_catA (pe_slice sl_tupA (pv 2) po_none (po_some (pv 5))) (pe_tup (pa_cons (pv 7) pa_nil))) (pe_slice sl_tupA (pv 2) (po_some (pe_op op_add (pv 5) pe_int)) po_none)) (pa_cons (pv 3) pa_nil))) pa_nil)))))
      (pss_cons (ps_expr (pe_bm PySem.F.plainAttrs_list PySem.F.slot_list_append PySem.F.type_list_append mt_append (pv 6) (pa_cons (pe_tup (pa_cons (pv 2) (pa_cons (pe_op op_catA (pe_slice sl_tupA (pv 3) po_none (po_some (pv 4))) (pe_slice sl_tupA (pv 3) (po_some (pe_op op_add (pv 4) pe_int)) po_none)) pa_nil))) pa_nil)))
      (pss_cons (ps_expr (pe_bm PySem.F.plainAttrs_list PySem.F.slot_list_append PySem.F.type_list_append mt_append (pv 6) (pa_cons (pe_tup (pa_cons (pv 2) (pa_cons (pe_op op_catA (pe_op op_catA (pe_slice sl_tupA (pv 3) po_none (po_some (pv 4))) (pe_tup (pa_cons (pe_tup pa_nil) pa_nil))) (pe_slice sl_tupA (pv 3) (po_some (pv 4)) po_none)) pa_nil))) pa_nil)))
      (pss_cons (ps_expr (pe_bm PySem.F.plainAttrs_list PySem.F.slot_list_append PySem.F.type_list_append mt_append (pv 6) (pa_cons (pe_tup (pa_cons (pv 2) (pa_cons (pe_op op_catA (pe_op op_catA (pe_slice sl_tupA (pv 3) po_none (po_some (pv 4))) (pe_tup (pa_cons (Xr.pe_revT (pe_ix ix_tup (pv 3) (pv 4) (fun _ _ => rfl))) pa_nil))) (pe_slice sl_tupA (pv 3) (po_some (pe_op op_add (pv 4) pe_int)) po_none)) pa_nil))) pa_nil)))
      (pss_cons (ps_expr (pe_bm PySem.F.plainAttrs_list PySem.F.slot_list_append PySem.F.type_list_append mt_append (pv 6) (pa_cons (pe_tup (pa_cons (pv 2) (pa_cons (pe_op op_catA (pe_op op_catA (pe_slice sl_tupA (pv 3) po_none (po_some (pv 4))) (pe_tup (pa_cons (pe_op op_catA (pe_ix ix_tup (pv 3) (pv 4) (fun _ _ => rfl)) (pe_tup (pa_cons (pv 5) pa_nil))) pa_nil))) (pe_slice sl_tupA (pv 3) (po_some (pe_op op_add (pv 4) pe_int)) po_none)) pa_nil))) pa_nil)))
      (pss_cons (ps_expr (pe_bm PySem.F.plainAttrs_list PySem.F.slot_list_append PySem.F.type_list_append mt_append (pv 6) (pa_cons (pe_tup (pa_cons (pv 2) (pa_cons (pe_op op_catA (pe_op op_catA (pe_slice sl_tupA (pv 3) po_none (po_some (pv 4))) (pe_tup (pa_cons (pe_op op_catA (pe_ix ix_tup (pv 3) (pv 4) (fun _ _ => rfl)) (pe_tup (pa_cons pe_int pa_nil))) pa_nil))) (pe_slice sl_tupA (pv 3) (po_some (pe_op op_add (pv 4) pe_int)) po_none)) pa_nil))) pa_nil)))
      (pss_cons (ps_expr (pe_bm PySem.F.plainAttrs_list PySem.F.slot_list_append PySem.F.type_list_append mt_append (pv 6) (pa_cons (pe_tup (pa_cons (pv 2) (pa_cons (pe_op op_catA (pe_op op_catA (pe_slice sl_tupA (pv 3) po_none (po_some (pv 4))) (pe_tup (pa_cons (pe_slice sl_tupA (pe_ix ix_tup (pv 3) (pv 4) (fun _ _ => rfl)) (po_some pe_int) po_none) (pa_cons (pe_slice sl_tupA (pe_ix ix_tup (pv 3) (pv 4) (fun _ _ => rfl)) po_none (po_some pe_int)) pa_nil)))) (pe_slice sl_tupA (pv 3) (po_some (pe_op op_add (pv 4) pe_int)) po_none)) pa_nil))) pa_nil)))
      (pss_cons (ps_set (i := 6) sc__law_near.nd rfl (.inl rfl) (pe_op op_cat (pv 6) (pe_lst (pa_cons (pe_tup (pa_cons (pv 2) (pa_cons (pe_op op_catA (pe_op op_catA (pe_slice sl_tupA (pv 3) po_none (po_some (pv 4))) (pe_tup (pa_cons (pe_callTy call_list_of rfl T.list bt_list (pa_cons (pe_ix ix_tup (pv 3) (pv 4) (fun _ _ => rfl)) pa_nil)) pa_nil))) (pe_slice sl_tupA (pv 3) (po_some (pe_op op_add (pv 4) pe_int)) po_none)) pa_nil))) (pa_cons (pe_tup (pa_cons (pv 2) (pa_cons (pe_op op_catA (pe_tup (pa_cons (pe_tup pa_nil) pa_nil)) (pv 3)) pa_nil))) (pa_cons (pe_tup (pa_cons (pv 2) (pa_cons (pe_op op_catA (pv 3) (pe_slice sl_tupA (pv 3) (po_some (pe_un un_neg pe_int)) po_none)) pa_nil))) pa_nil))))))
      (pss_one (ps_ret (pe_op op_cat (pv 6) (pe_lst (pa_cons (pe_tup (pa_cons (pv 2) (pa_cons (pe_op op_catA (pe_slice sl_tupA (pv 3) po_none (po_some pe_int)) (Xr.pe_revT (pe_slice sl_tupA (pv 3) (po_some pe_int) po_none))) pa_nil))) (pa_cons (pe_tup (pa_cons (pe_slice sl_tupA (pv 2) (po_some pe_int) po_none) (pa_cons (pv 3) pa_nil))) (pa_cons (pe_tup (pa_cons (pe_op op_catA (pv 2) (pe_tup (pa_cons pe_int pa_nil))) (pa_cons (pv 3) pa_nil))) (pa_cons (pe_tup (pa_cons (pv 2) (pa_cons (pe_op op_catA (pv 3) (pe_tup (pa_cons (pe_tup (pa_cons (pe_callB call_len_seq rfl T.len bt_len (pa_cons (pv 2) pa_nil)) pa_nil)) pa_nil))) pa_nil))) pa_nil)))))))))))))))))))), ?_⟩
    have hg := hc.good
    have h3 := hc.2.1
    have hc1 := hc.1
    obtain ⟨ol1, ol2⟩ := hg.olen
    refine q_asgG rfl hd fun v1 v2 k1 k2 => ?_
    refine g_asg ⟨.ref a, rfl, ev_is (ev_lenT (ed_var rfl k2)) (by rw [List.length_map]) H (Ex.refl H) _ fun H1 e1 => ⟨a, (c.2.length : Nat), rfl, hD.ex e1, by omega, by omega, fun r H2 r1 r2 ed2 hD2 => ?_⟩⟩
    obtain ⟨i, rfl⟩ : ∃ i : Nat, r = i := ⟨r.toNat, by omega⟩
    have hi : i < c.2.length := by omega
    have kt2 := (Kt.ex e1).trans (ed2.ktD (hD.ex e1))
    refine g_asg ⟨.ref a, rfl, ev_is (ev_lenT (ed_var rfl (dp_kt kt2 (noL_ints _) k1))) (by rw [List.length_map]) H2 (Ex.refl H2) _ fun H3 e3 => ⟨a, (c.1.length : Nat), rfl, hD2.ex e3, by omega, by omega, fun r H4 r3 r4 ed4 hD4 => ?_⟩⟩
    obtain ⟨j, rfl⟩ : ∃ j : Nat, r = j := ⟨r.toNat, by omega⟩
    have hE4 : Ed a H H4 := (((Ed.of e1).trans ed2).trans (Ed.of e3)).trans ed4
    obtain ⟨x4, y4, z4, hD4'⟩ := id hD4
    have kt4 := (hE4.ktD hD).trans (drL_kt hD4')
    have hA4 : Al [a] H4 := fun b hb => by rw [List.mem_singleton.mp hb]; exact ⟨_, hD4'⟩
    have hgl : ∀ g ∈ c.2, g.length ≤ 3 := fun g hg' => by have := hg.glen hg'; omega
    have tW : TDp K [a] 0 3 v1 H4 := ⟨_, dp_kt kt4 (noL_ints _) k1, by rw [List.length_map]; omega, fun d hd => by
      obtain ⟨z, _, rfl⟩ := List.mem_map.mp hd
      exact int_fit z⟩
    have tOd : Dp K (drL [a] H4) v2 (ordD c.2) := dp_kt kt4 (noL_ord _) k2
    have tO : TDp K [a] 1 4 v2 H4 := ⟨_, tOd, by rw [List.length_map]; omega, fun d hd => by
      obtain ⟨g, hg', rfl⟩ := List.mem_map.mp hd
      exact ints_fit (by have := hgl g hg'; omega)⟩
    have tC' : TDp K [a] 2 2 v H4 := ⟨_, dp_kt kt4 (noL_cls c) hd, show 2 ≤ 2 by decide, fun d hd => by
      rcases List.mem_cons.mp hd with z | z
      · rw [z]; exact (hg.wfit h3).mono (by decide)
      · rw [List.mem_singleton.mp z]; exact hg.ofit h3⟩
    have eW := etd_var (σ := [some (.ref a), some v, some v1, some v2, some (.int (i : Nat)), some (.int (j : Nat)), none, none]) (i := 2) rfl tW
    have eO := etd_var (σ := [some (.ref a), some v, some v1, some v2, some (.int (i : Nat)), some (.int (j : Nat)), none, none]) (i := 3) rfl tO
    have eC := etd_var (σ := [some (.ref a), some v, some v1, some v2, some (.int (i : Nat)), some (.int (j : Nat)), none, none]) (i := 1) rfl tC'
    refine q_asgP (evp_lstX (K := K) (S := [a]) (n := 13) (exa_cons (efn_ix (etd_fn eC (by decide) (k' := 3) (by decide)) (by decide)) (exa_cons (efn_ix (efn_list (k' := 3) hA4 eC (by decide) (by decide)) (by decide)) (exa_cons (efn_ix (etd_fn (etd_rev hA4 eC) (by decide) (k' := 3) (by decide)) (by decide))
      (exa_cons (efn_ix (etd_fn (etd_sl hA4 eC eo_none (eo_some ev_c)) (by decide) (k' := 3) (by decide)) (by decide)) (exa_cons (efn_ix (etd_fn (etd_cat (n := 3) hA4 eC (etd_one hA4 (etd_fn (k' := 2) (etd_nil (k := 1) hA4) (by decide) (by decide))) (by decide) (by decide)) (by decide) (k' := 3) (by decide)) (by decide))
      (exa_cons (efn_ix (efn_pair (k := 2) (k' := 3) hA4 (efn_list hA4 eW (by decide) (by decide)) (etd_fn eO (by decide) (by decide)) (by decide)) (by decide)) (exa_cons (efn_ix (efn_pair (k := 2) (k' := 3) hA4 (etd_fn eW (by decide) (by decide)) (efn_list hA4 eO (by decide) (by decide)) (by decide)) (by decide))
      (exa_cons (efn_ix (efn_pair (k := 2) (k' := 3) hA4 (etd_fn eW (by decide) (by decide)) (etd_fn (etd_nil (k := 1) hA4) (by decide) (by decide)) (by decide)) (by decide)) (exa_cons (efn_ix (efn_non (k := 0) ev_c) (by decide)) (exa_cons (efn_ix (etd_fn (k' := 2) (etd_nil (k := 1) hA4) (by decide) (by decide)) (by decide))
      (exa_cons (efn_ix (efn_str (k := 0) ev_c ⟨by decide +kernel, Nat.le_refl _, rfl⟩) (by decide)) (exa_cons (efn_ix (efn_int (k := 0) ev_c) (by decide)) (exa_cons (eix_dict hA4) exa_nil))))))))))))) (by decide)) fun u H5 e5 hp => ?_
    obtain ⟨p, xs, Hb, rfl, x4b, hpb, rfl, hxl, hix⟩ := hp
    have eqs : ∀ n H', NS K a p Hb n H' → Ex (drL [a] H4) (drL [a, p] H') := fun n H' h => (drL_mono x4b).trans h.1
    have hap : a ≠ p := fun z => by
      have := x4b _ _ hD4'
      rw [z, hpb] at this
      cases this
    have go0 : Ex (drL [a] Hb) (drL [a, p] (upd Hb p (.lst xs))) := drL_two hpb fun b o _ h => Ex.new hpb b o h
    have hN0 : NS K a p Hb 13 (upd Hb p (.lst xs)) := ⟨go0, (hD4.ex x4b).mut hap, hap, xs, upd_same, by omega, fun x hx => (hix x hx).go go0⟩
    obtain ⟨es, hes⟩ : ∃ es : List PyData, es = [.int 0, .int 4, .int 5, .int (-1), .bool true, .none, .str "1"] := ⟨_, rfl⟩
    have hesl : es.length = 7 := by rw [hes]; rfl
    have hfx : ∀ e ∈ es, ∀ x H', Dp K H' x e → FN K [a, p] 0 x H' := fun e he x H' hx => by
      rw [hes] at he
      simp only [List.mem_cons, List.not_mem_nil, or_false] at he
      rcases he with z | z | z | z | z | z | z <;> subst z <;> cases hx <;> first | exact ⟨_, .int _, rfl, Nat.le_refl _, rfl⟩ | exact ⟨_, .bl _, rfl, Nat.le_refl _, rfl⟩ | exact ⟨_, .non, rfl, Nat.le_refl _, rfl⟩ | exact ⟨_, .str _, by decide +kernel, Nat.le_refl _, rfl⟩
    refine q_forK (es := es) (ed_is (ed_tup (ead_cons (ed_int ev_c) (ead_cons (ed_int ev_c) (ead_cons (ed_int ev_c) (ead_cons (ed_int (ev_un ev_c ru_neg)) (ead_cons (ed_bl ev_c) (ead_cons (ed_of ev_c .non) (ead_cons (ed_of ev_c (.str _)) ead_nil))))))) (show 7 ≤ 100000 by decide)) (by rw [hes])) (by rw [hes]; rfl)
      (fun k σ' H' => ∃ y7, σ' = [some (.ref a), some v, some v1, some v2, some (.int (i : Nat)), some (.int (j : Nat)), some (.ref p), y7] ∧ NS K a p Hb (13 + k) H') (fun H6 e6 => ⟨none, rfl, hN0.ex e6⟩) (fun k e x σ' H' he hI hx => ?_) fun σ' H' hI => ?_
    · obtain ⟨y7, rfl, hN⟩ := hI
      have hk := (List.getElem?_eq_some_iff.mp he).1
      have hA := hN.al
      have hgo := eqs _ _ hN
      have eW := etd_var (σ := [some (.ref a), some v, some v1, some v2, some (.int (i : Nat)), some (.int (j : Nat)), some (.ref p), some x]) (i := 2) rfl (tW.go hgo)
      have eO := etd_var (σ := [some (.ref a), some v, some v1, some v2, some (.int (i : Nat)), some (.int (j : Nat)), some (.ref p), some x]) (i := 3) rfl (tO.go hgo)
      refine s_appX (K := K) (i := 6) (σ := [some (.ref a), some v, some v1, some v2, some (.int (i : Nat)), some (.int (j : Nat)), some (.ref p), some x]) hN rfl (efn_ix (efn_pair (k := 2) (k' := 3) hA (etd_fn (etd_cat (n := 12) hA (etd_cat (n := 6) hA (etd_sl hA eW eo_none (eo_some (ev_var rfl))) (etd_one hA (efn_var rfl (hfx e (List.mem_of_getElem? he) x _ hx))) (by decide) (by decide)) (etd_sl hA eW (eo_some (ev_op (ev_var rfl) ev_c rv_I0)) eo_none) (by decide) (by decide)) (by decide) (by decide)) (etd_fn eO (by decide) (by decide)) (by decide)) (by decide)) (by omega) fun H1 hN1 kt1 => ⟨⟨_, rfl, hN1⟩, kt1⟩
    · obtain ⟨y7, rfl, hN⟩ := hI
      rw [hesl] at hN
      obtain ⟨σ7, hσ7⟩ : ∃ σ7 : L2.St, σ7 = [some (.ref a), some v, some v1, some v2, some (.int (i : Nat)), some (.int (j : Nat)), some (.ref p), y7] := ⟨_, rfl⟩
      have mk : ∀ n H', NS K a p Hb n H' → Al [a, p] H' ∧ ETD K [a, p] 0 3 (tVar 2) σ7 H' ∧ ETD K [a, p] 1 4 (tVar 3) σ7 H' ∧ ETD K [a, p] 0 3 (tOp (rIxT K) (tVar 3) (tVar 4)) σ7 H' := fun n H' h => by
        rw [hσ7]
        exact ⟨h.al, etd_var rfl (tW.go (eqs _ _ h)), etd_var rfl (tO.go (eqs _ _ h)), etd_ord rfl rfl (dp_ex (eqs _ _ h) tOd) hi hgl⟩
      subst hσ7
      obtain ⟨hA, eW, eO, eA⟩ := mk _ _ hN
      refine q_appX (K := K) (i := 6) hN rfl (efn_ix (efn_pair (k := 2) (k' := 3) hA (etd_fn eW (by decide) (by decide)) (etd_fn (etd_cat (n := 12) hA (etd_sl hA eO eo_none (eo_some (ev_var rfl))) (etd_sl hA eO (eo_some (ev_op (ev_var rfl) ev_c rv_I0)) eo_none) (by decide) (by decide)) (by decide) (by decide)) (by decide)) (by decide)) (by decide) fun Hn1 hN1 => ?_
      obtain ⟨hA, eW, eO, eA⟩ := mk _ _ hN1
      refine q_appX (K := K) (i := 6) hN1 rfl (efn_ix (efn_pair (k := 2) (k' := 3) hA (etd_fn eW (by decide) (by decide)) (etd_fn (etd_cat (n := 12) hA (etd_cat (n := 6) hA (etd_sl hA eO eo_none (eo_some (ev_var rfl))) (etd_one hA (etd_fn (k' := 1) (etd_nil (k := 0) hA) (by decide) (by decide))) (by decide) (by decide)) (etd_sl hA eO (eo_some (ev_var rfl)) eo_none) (by decide) (by decide)) (by decide) (by decide)) (by decide)) (by decide)) (by decide) fun Hn2 hN2 => ?_
      obtain ⟨hA, eW, eO, eA⟩ := mk _ _ hN2
      refine q_appX (K := K) (i := 6) hN2 rfl (efn_ix (efn_pair (k := 2) (k' := 3) hA (etd_fn eW (by decide) (by decide)) (etd_fn (etd_cat (n := 12) hA (etd_cat (n := 6) hA (etd_sl hA eO eo_none (eo_some (ev_var rfl))) (etd_one hA (etd_fn (k' := 1) (etd_rev hA eA) (by decide) (by decide))) (by decide) (by decide)) (etd_sl hA eO (eo_some (ev_op (ev_var rfl) ev_c rv_I0)) eo_none) (by decide) (by decide)) (by decide) (by decide)) (by decide)) (by decide)) (by decide) fun Hn3 hN3 => ?_
      obtain ⟨hA, eW, eO, eA⟩ := mk _ _ hN3
      refine q_appX (K := K) (i := 6) hN3 rfl (efn_ix (efn_pair (k := 2) (k' := 3) hA (etd_fn eW (by decide) (by decide)) (etd_fn (etd_cat (n := 12) hA (etd_cat (n := 6) hA (etd_sl hA eO eo_none (eo_some (ev_var rfl))) (etd_one hA (etd_fn (k' := 1) (etd_cat (n := 4) hA eA (etd_one hA (efn_int (ev_var rfl))) (by decide) (by decide)) (by decide) (by decide))) (by decide) (by decide)) (etd_sl hA eO (eo_some (ev_op (ev_var rfl) ev_c rv_I0)) eo_none) (by decide) (by decide)) (by decide) (by decide)) (by decide)) (by decide)) (by decide) fun Hn4 hN4 => ?_
      obtain ⟨hA, eW, eO, eA⟩ := mk _ _ hN4
      refine q_appX (K := K) (i := 6) hN4 rfl (efn_ix (efn_pair (k := 2) (k' := 3) hA (etd_fn eW (by decide) (by decide)) (etd_fn (etd_cat (n := 12) hA (etd_cat (n := 6) hA (etd_sl hA eO eo_none (eo_some (ev_var rfl))) (etd_one hA (etd_fn (k' := 1) (etd_cat (n := 4) hA eA (etd_one hA (efn_int ev_c)) (by decide) (by decide)) (by decide) (by decide))) (by decide) (by decide)) (etd_sl hA eO (eo_some (ev_op (ev_var rfl) ev_c rv_I0)) eo_none) (by decide) (by decide)) (by decide) (by decide)) (by decide)) (by decide)) (by decide) fun Hn5 hN5 => ?_
      obtain ⟨hA, eW, eO, eA⟩ := mk _ _ hN5
      refine q_appX (K := K) (i := 6) hN5 rfl (efn_ix (efn_pair (k := 2) (k' := 3) hA (etd_fn eW (by decide) (by decide)) (etd_fn (etd_cat (n := 12) hA (etd_cat (n := 6) hA (etd_sl hA eO eo_none (eo_some (ev_var rfl))) (etd_two hA (etd_fn (k' := 1) (etd_sl hA eA (eo_some ev_c) eo_none) (by decide) (by decide)) (etd_fn (k' := 1) (etd_sl hA eA eo_none (eo_some ev_c)) (by decide) (by decide))) (by decide) (by decide)) (etd_sl hA eO (eo_some (ev_op (ev_var rfl) ev_c rv_I0)) eo_none) (by decide) (by decide)) (by decide) (by decide)) (by decide)) (by decide)) (by decide) fun Hn6 hN6 => ?_
      obtain ⟨ha1, ha2, ha3, zs, ha4, ha5, ha6⟩ := id hN6
      have hgoA : Ex (drL [a] H4) (drL [a] Hn6) := (eqs _ _ hN6).trans drL_less
      have hixA : ∀ x ∈ zs, IX K [a] x Hn6 := fun x hx => (ha6 x hx).go drL_less
      have hEb : Ed a Hb Hn6 := fun b o hb h => drL_ex _ _ (ha1 b o (by rw [drL_out (fun z => hb (List.mem_singleton.mp z))]; exact h))
      have hE6 : Ed a H Hn6 := (hE4.trans (Ed.of x4b)).trans hEb
      have mk2 : ∀ (s6 : Option V) H', Ex Hn6 H' → Al [a] H' ∧ ETD K [a] 0 3 (tVar 2) [some (.ref a), some v, some v1, some v2, some (.int (i : Nat)), some (.int (j : Nat)), s6, y7] H' ∧ ETD K [a] 1 4 (tVar 3) [some (.ref a), some v, some v1, some v2, some (.int (i : Nat)), some (.int (j : Nat)), s6, y7] H' ∧
          ETD K [a] 0 3 (tOp (rIxT K) (tVar 3) (tVar 4)) [some (.ref a), some v, some v1, some v2, some (.int (i : Nat)), some (.int (j : Nat)), s6, y7] H' := fun s6 H' h => by
        have go := hgoA.trans (drL_mono (S := [a]) h)
        refine ⟨fun b hb => ?_, etd_var rfl (tW.go go), etd_var rfl (tO.go go), etd_ord rfl rfl (dp_ex go tOd) hi hgl⟩
        obtain ⟨x, y, z, hz⟩ := ha2
        rw [List.mem_singleton.mp hb]
        exact ⟨_, h _ _ hz⟩
      obtain ⟨hA, eW, eO, eA⟩ := mk2 (some (.ref p)) Hn6 (Ex.refl _)
      refine q_asgP (ev_catX (K := K) (i := 6) (n := 3) hA rfl ha4 hixA (exa_cons (efn_ix (efn_pair (k := 2) (k' := 3) hA (etd_fn eW (by decide) (by decide)) (etd_fn (etd_cat (n := 12) hA (etd_cat (n := 6) hA (etd_sl hA eO eo_none (eo_some (ev_var rfl))) (etd_one hA (efn_list (k' := 1) hA eA (by decide) (by decide))) (by decide) (by decide)) (etd_sl hA eO (eo_some (ev_op (ev_var rfl) ev_c rv_I0)) eo_none) (by decide) (by decide)) (by decide) (by decide)) (by decide)) (by decide)) (exa_cons (efn_ix (efn_pair (k := 2) (k' := 3) hA (etd_fn eW (by decide) (by decide)) (etd_fn (etd_cat (n := 6) hA (etd_one hA (etd_fn (k' := 1) (etd_nil (k := 0) hA) (by decide) (by decide))) eO (by decide) (by decide)) (by decide) (by decide)) (by decide)) (by decide)) (exa_cons (efn_ix (efn_pair (k := 2) (k' := 3) hA (etd_fn eW (by decide) (by decide)) (etd_fn (etd_cat (n := 12) hA eO (etd_sl hA eO (eo_some (ev_un ev_c ru_neg)) eo_none) (by decide) (by decide)) (by decide) (by decide)) (by decide)) (by decide)) (exa_nil)))) (by rw [hesl] at *; omega)) fun u H7 e7 hq => ?_
      obtain ⟨q7, ys, rfl, hqa, hq7, hql, hqx⟩ := hq
      obtain ⟨hA, eW, eO, eA⟩ := mk2 (some (.ref q7)) H7 e7
      have kt7 := (hE6.ktD hD).trans (Kt.ex e7)
      have eL : Ev (tCB (rLenS K) (tCons (tVar 2) tNil)) [some (.ref a), some v, some v1, some v2, some (.int (i : Nat)), some (.int (j : Nat)), some (.ref q7), y7] H7 (.int (c.1.length : Nat)) := ev_is (ev_lenT (ed_var rfl (dp_kt kt7 (noL_ints _) k1))) (by rw [List.length_map])
      exact ev_catX (K := K) (i := 6) (n := 4) hA rfl hq7 hqx (exa_cons (efn_ix (efn_pair (k := 2) (k' := 3) hA (etd_fn eW (by decide) (by decide)) (etd_fn (etd_cat (n := 12) hA (etd_sl hA eO eo_none (eo_some ev_c)) (etd_rev hA (etd_sl hA eO (eo_some ev_c) eo_none)) (by decide) (by decide)) (by decide) (by decide)) (by decide)) (by decide)) (exa_cons (efn_ix (efn_pair (k := 2) (k' := 3) hA (etd_fn (etd_sl hA eW (eo_some ev_c) eo_none) (by decide) (by decide)) (etd_fn (eO) (by decide) (by decide)) (by decide)) (by decide)) (exa_cons (efn_ix (efn_pair (k := 2) (k' := 3) hA (etd_fn (etd_cat (n := 6) hA eW (etd_one hA (efn_int ev_c)) (by decide) (by decide)) (by decide) (by decide)) (etd_fn (eO) (by decide) (by decide)) (by decide)) (by decide)) (exa_cons (efn_ix (efn_pair (k := 2) (k' := 3) hA (etd_fn eW (by decide) (by decide)) (etd_fn (etd_cat (n := 6) hA eO (etd_one hA (etd_fn (k' := 1) (etd_one (k := 0) hA (efn_int eL)) (by decide) (by decide))) (by decide) (by decide)) (by decide) (by decide)) (by decide)) (by decide)) (exa_nil))))) (by omega) H7 (Ex.refl _) _ fun u H8 e8 ⟨q8, zs', hu, hq8, hq9, hq10, hq11⟩ => by
        subst hu
        exact q q8 zs' H8 (hE6.trans (Ed.of (e7.trans e8))) (ha2.ex (e7.trans e8)) hq8 hq9 (by omega) hq11
end
end Kb
/-! F1: the plain laws of classes: the class of readings is one; points of a class are in it; sorting by rests gives the class. -/
namespace Kb
open PySem PySem.Spec PyProof.Rows L2 Evl Xd
/-! ### places -/
theorem mem_idx {ks : List Int} {k i : Int} : i ∈ idx ks k ↔ ∃ j : Nat, i = j ∧ ks[j]? = some k := by
  unfold idx
  rw [List.mem_map]
  constructor
  · rintro ⟨j, hj, rfl⟩
    exact ⟨j, rfl, of_decide_eq_true (List.mem_filter.mp hj).2⟩
  · rintro ⟨j, rfl, h⟩
    exact ⟨j, List.mem_filter.mpr ⟨List.mem_range.mpr (List.getElem?_eq_some_iff.mp h).1, decide_eq_true h⟩, rfl⟩
theorem idx_up (ks : List Int) (k : Int) : (idx ks k).Pairwise (· < ·) := by
  unfold idx
  exact List.pairwise_map.mpr ((List.pairwise_lt_range.filter _).imp fun h => by omega)
/-- ascending lists with the same members -/
theorem asc_ext {a b : List Int} (ha : a.Pairwise (· < ·)) (hb : b.Pairwise (· < ·)) (h : ∀ k, k ∈ a ↔ k ∈ b) : a = b :=
  ((List.perm_ext_iff_of_nodup (ha.imp fun h => by omega) (hb.imp fun h => by omega)).mpr h).eq_of_pairwise (fun x y _ _ h1 h2 => by omega) ha hb
theorem srt_lt {l : List Int} (h : l.Nodup) : (srt l).Pairwise (· < ·) :=
  (List.Pairwise.and (srt_up l) ((srt_perm l).nodup_iff.mpr h)).imp fun ⟨a, b⟩ => by omega
theorem mem_srt {l : List Int} {k : Int} : k ∈ srt l ↔ k ∈ l := (srt_perm l).mem_iff
theorem srt_head {ks : List Int} (h0 : ∀ k ∈ ks, 0 ≤ k) : ∃ r, srt (dd (0 :: ks)) = 0 :: r ∧ ∀ k ∈ r, 0 < k ∧ k ∈ ks := by
  have hl := srt_lt (dd_nodup (0 :: ks))
  have hm : ∀ k, k ∈ srt (dd (0 :: ks)) ↔ k = 0 ∨ k ∈ ks := fun k => by rw [mem_srt, dd_mem, List.mem_cons]
  generalize srt (dd (0 :: ks)) = l at hl hm
  cases l with
  | nil => exact absurd ((hm 0).mpr (.inl rfl)) (by simp)
  | cons a r =>
    obtain ⟨h1, h2⟩ := List.pairwise_cons.mp hl
    have ha : 0 ≤ a := by
      rcases (hm a).mp List.mem_cons_self with z | z
      · omega
      · exact h0 a z
    have ha0 : a = 0 := by
      rcases List.mem_cons.mp ((hm 0).mpr (.inl rfl)) with z | z
      · exact z.symm
      · have := h1 0 z
        omega
    subst ha0
    refine ⟨r, rfl, fun k hk => ⟨h1 k hk, ?_⟩⟩
    rcases (hm k).mp (List.mem_cons_of_mem _ hk) with z | z
    · have := h1 k hk
      omega
    · exact z
theorem keyR_nonneg {B : Int} {p : Int × Int} (hB : 0 ≤ B) (hp : 0 < p.2) : 0 ≤ keyR B p := by
  unfold keyR
  refine Int.mul_nonneg ?_ (Int.ediv_nonneg hB (by omega))
  have := Int.ediv_mul_le p.1 (show p.2 ≠ 0 by omega)
  omega
theorem foldl_pos : ∀ (l : List (Int × Int)) (a : Int), 0 < a → (∀ p ∈ l, 0 < p.2) → 0 < l.foldl (fun a p => a * p.2) a
  | [], _, h, _ => h
  | p :: r, a, h, hp => foldl_pos r (a * p.2) (Int.mul_pos h (hp p List.mem_cons_self)) fun q hq => hp q (List.mem_cons_of_mem _ hq)
theorem foldl_dvd : ∀ (l : List (Int × Int)) (a : Int) (p : Int × Int), (p ∈ l ∨ p.2 ∣ a) → p.2 ∣ l.foldl (fun a p => a * p.2) a
  | [], _, _, h => h.elim (fun z => by cases z) id
  | q :: r, a, p, h => by
    refine foldl_dvd r (a * q.2) p ?_
    rcases h with h | h
    · rcases List.mem_cons.mp h with z | z
      · rw [z]; exact .inr (Int.dvd_mul_left _ _)
      · exact .inl z
    · exact .inr (Int.dvd_trans h (Int.dvd_mul_right _ _))
theorem prodB_pos {rs : List (Int × Int)} (h : ∀ p ∈ rs, 0 < p.2) : 0 < prodB rs := foldl_pos rs 1 (by decide) h
theorem prodB_dvd {rs : List (Int × Int)} {p : Int × Int} (h : p ∈ rs) : p.2 ∣ prodB rs := foldl_dvd rs 1 p (.inl h)
theorem classOf_good {rs : List (Int × Int)} (h1 : 1 ≤ rs.length) (hok : ∀ p ∈ rs, okR p) : Good rs.length (classOf rs) := by
  have hp2 : ∀ p ∈ rs, 0 < p.2 := fun p hp => (hok p hp).1.2.2.1
  have hp1 : ∀ p ∈ rs, 0 ≤ p.1 := fun p hp => (hok p hp).1.1
  have hB := prodB_pos hp2
  have hks : ∀ k ∈ keysR rs, 0 ≤ k := fun k hk => by
    obtain ⟨p, hp, rfl⟩ := List.mem_map.mp hk
    exact keyR_nonneg (by omega) (hp2 p hp)
  have hkl : (keysR rs).length = rs.length := List.length_map ..
  obtain ⟨r, e0, hr⟩ := srt_head hks
  have hl := srt_lt (dd_nodup (0 :: keysR rs))
  have hm : ∀ k, k ∈ srt (dd (0 :: keysR rs)) ↔ k = 0 ∨ k ∈ keysR rs := fun k => by rw [mem_srt, dd_mem, List.mem_cons]
  have ho : (classOf rs).2 = (0 :: r).map fun k => idx (keysR rs) k := by
    show ordK (keysR rs) = _
    unfold ordK
    rw [e0]
  rw [e0] at hl hm
  have hels : ∀ k, ∀ i ∈ idx (keysR rs) k, 0 ≤ i ∧ i ≤ (rs.length : Int) - 1 := fun k i hi => by
    obtain ⟨j, rfl, hj⟩ := mem_idx.mp hi
    have := (List.getElem?_eq_some_iff.mp hj).1
    omega
  refine ⟨List.length_map .., fun w hw => ?_, by rw [ho]; simp, fun g hg => ?_, fun g hg => ?_, fun g hg => ?_, ?_, fun i w hw => ?_⟩
  · obtain ⟨p, hp, rfl⟩ := List.mem_map.mp hw
    have h3 := hp2 p hp
    refine ⟨Int.ediv_nonneg (hp1 p hp) (by omega), ?_⟩
    have h4 : p.1 / p.2 < 5 := Int.ediv_lt_of_lt_mul h3 (by have := (hok p hp).2; omega)
    omega
  · rw [ho] at hg
    obtain ⟨k, _, rfl⟩ := List.mem_map.mp hg
    exact hels k
  · rw [ho] at hg
    obtain ⟨k, _, rfl⟩ := List.mem_map.mp hg
    exact idx_up _ _
  · rw [ho] at hg
    obtain ⟨k, hk, rfl⟩ := List.mem_map.mp (show g ∈ r.map fun k => idx (keysR rs) k from hg)
    obtain ⟨j, hj⟩ := List.mem_iff_getElem?.mp (hr k hk).2
    intro z
    have : (j : Int) ∈ idx (keysR rs) k := mem_idx.mpr ⟨j, rfl, hj⟩
    rw [z] at this
    cases this
  · refine (srt_eq ?_ ?_).symm
    · refine (List.perm_ext_iff_of_nodup (rangeI_nodup _) ?_).mpr fun i => ?_
      · rw [ho]
        refine List.pairwise_flatten.mpr ⟨fun g hg => ?_, List.pairwise_map.mpr (hl.imp fun {a b} hab x hx y hy e => ?_)⟩
        · obtain ⟨k, _, rfl⟩ := List.mem_map.mp hg
          exact (idx_up _ _).imp fun h => by omega
        · obtain ⟨j, rfl, hj⟩ := mem_idx.mp hx
          obtain ⟨j2, e2, hj2⟩ := mem_idx.mp hy
          have e3 : j = j2 := by omega
          rw [e3, hj2] at hj
          cases hj
          omega
      · rw [mem_rangeI, ho, List.mem_flatten]
        constructor
        · rintro ⟨h1, h2⟩
          obtain ⟨j, rfl⟩ : ∃ j : Nat, i = j := ⟨i.toNat, by omega⟩
          have hj : j < (keysR rs).length := by omega
          refine ⟨_, List.mem_map.mpr ⟨(keysR rs)[j], (hm _).mpr (.inr (List.getElem_mem hj)), rfl⟩, mem_idx.mpr ⟨j, rfl, List.getElem?_eq_getElem hj⟩⟩
        · rintro ⟨g, hg, hi⟩
          obtain ⟨k, _, rfl⟩ := List.mem_map.mp hg
          have := hels k i hi
          omega
    · unfold rangeI
      exact List.pairwise_map.mpr (List.pairwise_lt_range.imp fun h => by omega)
  · by_cases hw4 : w < 4
    · exact .inl hw4
    · refine .inr ⟨_, _, ho, mem_idx.mpr ⟨i, rfl, ?_⟩⟩
      rw [show (classOf rs).1 = rs.map fun p => p.1 / p.2 from rfl, List.getElem?_map] at hw
      cases hp : rs[i]? with
      | none => rw [hp] at hw; cases hw
      | some p =>
        rw [hp] at hw
        have hw : p.1 / p.2 = w := Option.some.inj hw
        have hpm := List.mem_of_getElem? hp
        have h3 := hp2 p hpm
        have h4 := (hok p hpm).2
        have h5 : 4 * p.2 ≤ p.1 / p.2 * p.2 := Int.mul_le_mul_of_nonneg_right (by omega) (by omega)
        have h6 := Int.ediv_mul_le p.1 (show p.2 ≠ 0 by omega)
        unfold keysR
        rw [List.getElem?_map, hp]
        show some (keyR (prodB rs) p) = some 0
        unfold keyR
        rw [show p.1 - p.1 / p.2 * p.2 = 0 by omega, Int.zero_mul]
/-- groups told by a rising key of the place -/
theorem ordK_of {n : Nat} {c : List Int × List (List Int)} (h : Good n c) {ks : List Int} {φ : Nat → Int} (hl : ks.length = n) (h0 : φ 0 = 0) (hup : ∀ i j, i < j → j < c.2.length → φ i < φ j) (hk : ∀ i : Nat, i < n → ks[i]? = some (φ (pl c.2 (i : Int)))) : ordK ks = c.2 := by
  have hinj : ∀ i j, i < c.2.length → j < c.2.length → φ i = φ j → i = j := fun i j hi hj e => by
    rcases Nat.lt_trichotomy i j with z | z | z
    · have := hup i j z hj; omega
    · exact z
    · have := hup j i z hi; omega
  have hpos := h.olen.1
  have e1 : srt (dd (0 :: ks)) = (List.range c.2.length).map φ := by
    refine asc_ext (srt_lt (dd_nodup _)) (List.pairwise_map.mpr ?_) fun k => ?_
    · refine List.Pairwise.imp_of_mem (R := (· < ·)) (fun {a b} ha hb hab => hup a b hab (List.mem_range.mp hb)) List.pairwise_lt_range
    · rw [mem_srt, dd_mem, List.mem_cons, List.mem_map]
      constructor
      · rintro (z | z)
        · exact ⟨0, List.mem_range.mpr (by omega), by rw [h0, z]⟩
        · obtain ⟨i, hi⟩ := List.mem_iff_getElem?.mp z
          have hin : i < n := by rw [← hl]; exact (List.getElem?_eq_some_iff.mp hi).1
          have := hk i hin
          rw [hi] at this
          exact ⟨pl c.2 (i : Int), List.mem_range.mpr (h.plt hin), (Option.some.inj this).symm⟩
      · rintro ⟨j, hj, rfl⟩
        have hj := List.mem_range.mp hj
        by_cases z : j = 0
        · rw [z, h0]; exact .inl rfl
        · right
          have hg : c.2[j] ∈ c.2.drop 1 := by
            rw [List.mem_iff_getElem?]
            exact ⟨j - 1, by rw [List.getElem?_drop, show 1 + (j - 1) = j by omega, List.getElem?_eq_getElem hj]⟩
          have hne := h.tl _ hg
          obtain ⟨i, hi⟩ := List.exists_mem_of_ne_nil _ hne
          have hie := h.els _ (List.getElem_mem hj) i hi
          obtain ⟨i, rfl⟩ : ∃ i' : Nat, i = i' := ⟨i.toNat, by omega⟩
          have hpl : pl c.2 (i : Int) = j := pl_at h.nodup (List.getElem?_eq_getElem hj) hi
          have := hk i (by omega)
          rw [hpl] at this
          exact List.mem_of_getElem? this
  unfold ordK
  rw [e1, List.map_map]
  refine List.ext_getElem? fun j => ?_
  rw [List.getElem?_map]
  by_cases hj : j < c.2.length
  · rw [List.getElem?_range hj, List.getElem?_eq_getElem hj]
    show some (idx ks (φ j)) = some c.2[j]
    congr 1
    refine asc_ext (idx_up _ _) (h.asc _ (List.getElem_mem hj)) fun i => ?_
    rw [mem_idx]
    constructor
    · rintro ⟨i, rfl, hi⟩
      have hin : i < n := by rw [← hl]; exact (List.getElem?_eq_some_iff.mp hi).1
      have h2 := hk i hin
      rw [hi] at h2
      have e2 := hinj _ _ hj (h.plt hin) (Option.some.inj h2)
      obtain ⟨g, m1, m2⟩ := pl_mem (h.mem.mpr ⟨by omega, by omega⟩ : (i : Int) ∈ c.2.flatten)
      rw [← e2, List.getElem?_eq_getElem hj] at m1
      cases m1
      exact m2
    · intro hi
      have hie := h.els _ (List.getElem_mem hj) i hi
      obtain ⟨i, rfl⟩ : ∃ i' : Nat, i = i' := ⟨i.toNat, by omega⟩
      refine ⟨i, rfl, ?_⟩
      rw [hk i (by omega), pl_at h.nodup (List.getElem?_eq_getElem hj) hi]
  · rw [List.getElem?_eq_none (by rw [List.length_range]; omega), List.getElem?_eq_none (by omega)]
    rfl
theorem key_exact {B : Int} {p : Int × Int} (hp : 0 < p.2) (hd : p.2 ∣ B) : keyR B p * p.2 = p.1 % p.2 * B := by
  unfold keyR
  have e : p.1 - p.1 / p.2 * p.2 = p.1 % p.2 := by
    rw [Int.emod_def, Int.mul_comm]
  rw [e, Int.mul_assoc, Int.ediv_mul_cancel hd]
theorem classOf_pt {n : Nat} {c : List Int × List (List Int)} {b : Int} {ts : List Int} (h : Good n c) (t : Tops b ts c.2.length) : classOf (ptR c b ts) = c := by
  have hb := t.pos
  have hlen : (ptR c b ts).length = n := by rw [ptR_len, h.len]
  have hat : ∀ i, i < n → (ptR c b ts)[i]? = some (ptAt c b ts i) := fun i hi => by
    unfold ptR
    rw [List.getElem?_map, List.getElem?_range (by rw [h.len]; exact hi)]
    rfl
  have hpt : ∀ i, i < n → ∃ w z g, c.1[i]? = some w ∧ ts.getD (pl c.2 (i : Int)) 0 = z ∧ 0 ≤ w ∧ 0 ≤ z ∧ z < b ∧ 0 < g ∧ w * b + z = g * (ptAt c b ts i).1 ∧ b = g * (ptAt c b ts i).2 ∧ 0 < (ptAt c b ts i).2 := fun i hi => by
    obtain ⟨w, w1, w2, w3, w4⟩ := h.wAt hi
    obtain ⟨z, z1, z2, z3, z4⟩ := t.get (h.plt hi)
    have hn : 0 ≤ w * b := Int.mul_nonneg w3 (by omega)
    obtain ⟨g, g1, g2, g3, g4, g5⟩ := low_eq (a := w * b + z) (b := b) (by omega) hb
    refine ⟨w, z, g, w1, z2, w3, z3, z4, g1, ?_, ?_, ?_⟩
    · unfold ptAt; rw [w2, z2]; exact g2
    · unfold ptAt; rw [w2, z2]; exact g3
    · unfold ptAt; rw [w2, z2]; exact g5
  have hp2 : ∀ p ∈ ptR c b ts, 0 < p.2 := fun p hp => by
    obtain ⟨i, hi⟩ := List.mem_iff_getElem?.mp hp
    have hin : i < n := by rw [← hlen]; exact (List.getElem?_eq_some_iff.mp hi).1
    rw [hat i hin] at hi
    obtain ⟨w, z, g, _, _, _, _, _, _, _, _, q⟩ := hpt i hin
    rw [← Option.some.inj hi]
    exact q
  have hB := prodB_pos hp2
  generalize hBB : prodB (ptR c b ts) = B at hB
  have hdv : ∀ i, i < n → (ptAt c b ts i).2 ∣ B := fun i hi => by
    rw [← hBB]
    exact prodB_dvd (List.mem_of_getElem? (hat i hi))
  have hkey : ∀ i, i < n → keyR B (ptAt c b ts i) * b = ts.getD (pl c.2 (i : Int)) 0 * B := fun i hi => by
    obtain ⟨w, z, g, _, z2, _, z3, z4, g1, g2, g3, g4⟩ := hpt i hi
    rw [z2]
    have h1 := key_exact g4 (hdv i hi)
    have h2 : g * ((ptAt c b ts i).1 % (ptAt c b ts i).2) = z := by
      rw [← Int.mul_emod_mul_of_pos _ _ g1, ← g2, ← g3, Int.add_comm, Int.add_mul_emod_self_right, Int.emod_eq_of_lt z3 z4]
    calc keyR B (ptAt c b ts i) * b = keyR B (ptAt c b ts i) * (g * (ptAt c b ts i).2) := by rw [← g3]
      _ = g * (keyR B (ptAt c b ts i) * (ptAt c b ts i).2) := by rw [Int.mul_left_comm]
      _ = g * ((ptAt c b ts i).1 % (ptAt c b ts i).2 * B) := by rw [h1]
      _ = z * B := by rw [← Int.mul_assoc, h2]
  refine Prod.ext ?_ ?_
  · show (ptR c b ts).map (fun p => p.1 / p.2) = c.1
    refine List.ext_getElem? fun i => ?_
    rw [List.getElem?_map]
    by_cases hi : i < n
    · obtain ⟨w, z, g, w1, z2, _, z3, z4, g1, g2, g3, g4⟩ := hpt i hi
      rw [hat i hi, w1]
      show some ((ptAt c b ts i).1 / (ptAt c b ts i).2) = some w
      rw [← Int.mul_ediv_mul_of_pos _ _ g1, ← g2, ← g3, Int.add_comm, Int.add_mul_ediv_right _ _ (by omega), Int.ediv_eq_zero_of_lt z3 z4, Int.zero_add]
    · rw [List.getElem?_eq_none (by omega), List.getElem?_eq_none (by rw [h.len]; omega)]
      rfl
  · show ordK (keysR (ptR c b ts)) = c.2
    have hdb : ∀ k, k < c.2.length → b ∣ ts.getD k 0 * B := fun k hk => by
      by_cases hk0 : k = 0
      · rw [hk0, List.getD_eq_getElem?_getD, t.zero]
        show b ∣ 0 * B
        rw [Int.zero_mul]
        exact Int.dvd_zero _
      · have hg : c.2[k] ∈ c.2.drop 1 := by
          rw [List.mem_iff_getElem?]
          exact ⟨k - 1, by rw [List.getElem?_drop, show 1 + (k - 1) = k by omega, List.getElem?_eq_getElem hk]⟩
        obtain ⟨i, hi⟩ := List.exists_mem_of_ne_nil _ (h.tl _ hg)
        have hie := h.els _ (List.getElem_mem hk) i hi
        obtain ⟨i, rfl⟩ : ∃ i' : Nat, i = i' := ⟨i.toNat, by omega⟩
        have hpl : pl c.2 (i : Int) = k := pl_at h.nodup (List.getElem?_eq_getElem hk) hi
        have := hkey i (by omega)
        rw [hpl] at this
        exact ⟨_, by rw [← this, Int.mul_comm]⟩
    refine ordK_of h (φ := fun k => ts.getD k 0 * B / b) (by unfold keysR; rw [List.length_map, hlen]) ?_ (fun i j hij hj => ?_) fun i hi => ?_
    · show ts.getD 0 0 * B / b = 0
      rw [List.getD_eq_getElem?_getD, t.zero]
      show 0 * B / b = 0
      rw [Int.zero_mul, Int.zero_ediv]
    · show ts.getD i 0 * B / b < ts.getD j 0 * B / b
      obtain ⟨x, x1, x2, _, _⟩ := t.get (show i < c.2.length by omega)
      obtain ⟨y, y1, y2, _, _⟩ := t.get hj
      have hxy : x < y := by
        have hi2 := (List.getElem?_eq_some_iff.mp x1)
        have hj2 := (List.getElem?_eq_some_iff.mp y1)
        obtain ⟨i1, i2⟩ := hi2
        obtain ⟨j1, j2⟩ := hj2
        have := List.pairwise_iff_getElem.mp t.up i j i1 j1 hij
        omega
      have hdj := hdb j hj
      rw [x2]
      rw [y2] at hdj ⊢
      refine Int.ediv_lt_of_lt_mul hb ?_
      rw [Int.ediv_mul_cancel hdj]
      exact Int.mul_lt_mul_of_pos_right hxy hB
    · unfold keysR
      rw [hBB, List.getElem?_map, hat i hi]
      show some (keyR B (ptAt c b ts i)) = some _
      rw [← hkey i hi, Int.mul_ediv_cancel _ (show b ≠ 0 by omega)]
end Kb
/-! F2: the class by sorted rests is the class. -/
namespace Kb
open PySem PySem.Spec PyProof.Rows L2 Evl Xd
def qsOf (rs : List (Int × Int)) : List (Int × Int) := rs.map fun p => low (p.1 % p.2) p.2
def ndS (S : List (Int × Int)) (q : Int × Int) : List (Int × Int) := if 0 < q.1 ∧ q ∉ S then S ++ [q] else S
def someOf (qs : List (Int × Int)) : List (Int × Int) := qs.foldl ndS []
def idxP (qs : List (Int × Int)) (q : Int × Int) : List Int := ((List.range qs.length).filter fun i => decide (qs[i]? = some q)).map fun (i : Nat) => (i : Int)
def Fq (q : Int × Int) : Prop := 0 ≤ q.1 ∧ 0 < q.2 ∧ gi q.1 q.2 = 1
theorem ndS_fold : ∀ (qs S : List (Int × Int)), S.Nodup → (qs.foldl ndS S).Nodup ∧ ∀ q, q ∈ qs.foldl ndS S ↔ q ∈ S ∨ (q ∈ qs ∧ 0 < q.1)
  | [], S, h => ⟨h, fun q => ⟨.inl, fun z => z.elim id fun y => by cases y.1⟩⟩
  | x :: r, S, h => by
    have hn : (ndS S x).Nodup := by
      unfold ndS
      split
      · rename_i hx
        rw [List.nodup_append]
        exact ⟨h, by simp, fun a ha b hb e => hx.2 (by rw [List.mem_singleton.mp hb] at e; rw [← e]; exact ha)⟩
      · exact h
    obtain ⟨h1, h2⟩ := ndS_fold r (ndS S x) hn
    refine ⟨h1, fun q => ?_⟩
    rw [List.foldl_cons, h2]
    have hm : q ∈ ndS S x ↔ q ∈ S ∨ (q = x ∧ 0 < q.1) := by
      unfold ndS
      split
      · rename_i hx
        rw [List.mem_append, List.mem_singleton]
        constructor
        · rintro (z | z)
          · exact .inl z
          · exact .inr ⟨z, by rw [z]; exact hx.1⟩
        · rintro (z | z)
          · exact .inl z
          · exact .inr z.1
      · rename_i hx
        constructor
        · exact .inl
        · rintro (z | ⟨z1, z2⟩)
          · exact z
          · rw [z1] at z2 ⊢
            by_cases hxS : x ∈ S
            · exact hxS
            · exact (hx ⟨z2, hxS⟩).elim
    rw [hm, List.mem_cons]
    constructor
    · rintro ((z | ⟨z1, z2⟩) | ⟨z1, z2⟩)
      · exact .inl z
      · exact .inr ⟨.inl z1, z2⟩
      · exact .inr ⟨.inr z1, z2⟩
    · rintro (z | ⟨z1 | z1, z2⟩)
      · exact .inl (.inl z)
      · exact .inl (.inr ⟨z1, z2⟩)
      · exact .inr ⟨z1, z2⟩
theorem someOf_nodup (qs : List (Int × Int)) : (someOf qs).Nodup := (ndS_fold qs [] List.nodup_nil).1
theorem mem_someOf {qs : List (Int × Int)} {q : Int × Int} : q ∈ someOf qs ↔ q ∈ qs ∧ 0 < q.1 := by
  unfold someOf
  rw [(ndS_fold qs [] List.nodup_nil).2]
  simp
theorem someOf_len : ∀ (qs S : List (Int × Int)), (qs.foldl ndS S).length ≤ S.length + qs.length
  | [], S => by simp
  | x :: r, S => by
    rw [List.foldl_cons, List.length_cons]
    have h1 := someOf_len r (ndS S x)
    have h2 : (ndS S x).length ≤ S.length + 1 := by
      unfold ndS
      split
      · rw [List.length_append]; simp
      · omega
    omega
theorem frac_inj {x y : Int × Int} (hx : Fq x) (hy : Fq y) (h : x.1 * y.2 = y.1 * x.2) : x = y := by
  obtain ⟨a, b⟩ := x
  obtain ⟨c, d⟩ := y
  obtain ⟨a1, b1, g1⟩ := hx
  obtain ⟨c1, d1, g2⟩ := hy
  obtain ⟨a, rfl⟩ : ∃ n : Nat, a = n := ⟨a.toNat, by simp only at a1; omega⟩
  obtain ⟨b, rfl⟩ : ∃ n : Nat, b = n := ⟨b.toNat, by simp only at b1; omega⟩
  obtain ⟨c, rfl⟩ : ∃ n : Nat, c = n := ⟨c.toNat, by simp only at c1; omega⟩
  obtain ⟨d, rfl⟩ : ∃ n : Nat, d = n := ⟨d.toNat, by simp only at d1; omega⟩
  unfold gi at g1 g2
  simp only [Int.toNat_natCast] at g1 g2
  have k1 : Nat.gcd a b = 1 := by omega
  have k2 : Nat.gcd c d = 1 := by omega
  have h : a * d = c * b := by
    have h : ((a : Int)) * (d : Int) = (c : Int) * (b : Int) := h
    exact_mod_cast h
  have hb : b ∣ d := Nat.Coprime.dvd_of_dvd_mul_left (k := b) (m := a) (n := d) (by rw [Nat.Coprime, Nat.gcd_comm]; exact k1) ⟨c, by rw [h, Nat.mul_comm]⟩
  have hd : d ∣ b := Nat.Coprime.dvd_of_dvd_mul_left (k := d) (m := c) (n := b) (by rw [Nat.Coprime, Nat.gcd_comm]; exact k2) ⟨a, by rw [← h, Nat.mul_comm]⟩
  have hbd : b = d := Nat.dvd_antisymm hb hd
  subst hbd
  have hb0 : 0 < b := by
    have : (0 : Int) < (b : Int) := b1
    omega
  have := Nat.eq_of_mul_eq_mul_right hb0 h
  rw [this]
theorem kap_le {B k k' : Int} {x y : Int × Int} (hB : 0 < B) (hx : 0 < x.2) (hy : 0 < y.2) (h : k * x.2 = x.1 * B) (h' : k' * y.2 = y.1 * B) : k ≤ k' ↔ x.1 * y.2 ≤ y.1 * x.2 := by
  have e1 : k * (x.2 * y.2) = x.1 * y.2 * B := by rw [← Int.mul_assoc, h, Int.mul_right_comm]
  have e2 : k' * (x.2 * y.2) = y.1 * x.2 * B := by rw [Int.mul_comm x.2, ← Int.mul_assoc, h', Int.mul_right_comm]
  have hxy : 0 < x.2 * y.2 := Int.mul_pos hx hy
  constructor
  · intro z
    have := Int.mul_le_mul_of_nonneg_right z (Int.le_of_lt hxy)
    rw [e1, e2] at this
    exact Int.le_of_mul_le_mul_right this hB
  · intro z
    have := Int.mul_le_mul_of_nonneg_right z (Int.le_of_lt hB)
    rw [← e1, ← e2] at this
    exact Int.le_of_mul_le_mul_right this hxy
theorem cq_law {rs : List (Int × Int)} (hok : ∀ p ∈ rs, 0 < p.2 ∧ 0 ≤ p.1) {M : List (Int × Int)} (hM : M.Perm (someOf (qsOf rs))) (hs : M.Pairwise fun x y => Xr.keyQ (prodB (someOf (qsOf rs))) x ≤ Xr.keyQ (prodB (someOf (qsOf rs))) y) :
    ((0, 1) :: M).map (idxP (qsOf rs)) = ordK (keysR rs) := by
  have hB := prodB_pos fun p hp => (hok p hp).1
  have hdv : ∀ p ∈ rs, p.2 ∣ prodB rs := fun p hp => prodB_dvd hp
  have hkr : keysR rs = rs.map (keyR (prodB rs)) := rfl
  generalize hBB : prodB rs = B at hB hdv hkr
  generalize hks : keysR rs = ks at hkr
  obtain ⟨κ, hκ⟩ : ∃ κ : Int × Int → Int, κ = fun q => q.1 * B / q.2 := ⟨_, rfl⟩
  have hp : ∀ p ∈ rs, Fq (low (p.1 % p.2) p.2) ∧ keyR B p * (low (p.1 % p.2) p.2).2 = (low (p.1 % p.2) p.2).1 * B ∧ keyR B p = κ (low (p.1 % p.2) p.2) := fun p hp => by
    obtain ⟨h2, h1⟩ := hok p hp
    have h0 := Int.emod_nonneg p.1 (show p.2 ≠ 0 by omega)
    obtain ⟨g, g1, g2, g3, g4, g5⟩ := low_eq h0 h2
    have hgi := gi_low h0 h2
    generalize low (p.1 % p.2) p.2 = q at *
    have hex := key_exact h2 (hdv p hp)
    have e1 : keyR B p * q.2 = q.1 * B := by
      refine Int.eq_of_mul_eq_mul_left (a := g) (by omega) ?_
      calc g * (keyR B p * q.2) = keyR B p * (g * q.2) := by rw [Int.mul_left_comm]
        _ = keyR B p * p.2 := by rw [← g3]
        _ = p.1 % p.2 * B := hex
        _ = g * (q.1 * B) := by rw [← Int.mul_assoc, ← g2]
    refine ⟨⟨g4, g5, hgi⟩, e1, ?_⟩
    rw [hκ]
    show keyR B p = q.1 * B / q.2
    rw [← e1, Int.mul_ediv_cancel _ (show q.2 ≠ 0 by omega)]
  have hq : ∀ q ∈ qsOf rs, Fq q ∧ κ q * q.2 = q.1 * B ∧ κ q ∈ ks := fun q hq => by
    obtain ⟨p, hpm, rfl⟩ := List.mem_map.mp hq
    obtain ⟨a, b, c⟩ := hp p hpm
    rw [c] at b
    refine ⟨a, b, ?_⟩
    rw [hkr, ← c]
    exact List.mem_map.mpr ⟨p, hpm, rfl⟩
  have hmM : ∀ q, q ∈ M ↔ q ∈ qsOf rs ∧ 0 < q.1 := fun q => by rw [hM.mem_iff, mem_someOf]
  have hF0 : Fq (0, 1) := ⟨by decide, by decide, by decide⟩
  have hk0 : κ (0, 1) = 0 := by
    rw [hκ]
    show 0 * B / 1 = 0
    rw [Int.zero_mul]
    rfl
  have hL : ∀ q ∈ ((0, 1) :: M), Fq q ∧ κ q * q.2 = q.1 * B := fun q hq2 => by
    rcases List.mem_cons.mp hq2 with z | z
    · rw [z, hk0]
      refine ⟨hF0, ?_⟩
      show (0 : Int) * 1 = 0 * B
      rw [Int.zero_mul, Int.zero_mul]
    · obtain ⟨a, b, _⟩ := hq q ((hmM q).mp z).1
      exact ⟨a, b⟩
  have hinj : ∀ x y, Fq x → Fq y → κ x * x.2 = x.1 * B → κ y * y.2 = y.1 * B → κ x = κ y → x = y := fun x y hx hy h1 h2 e => by
    refine frac_inj hx hy (Int.le_antisymm ?_ ?_)
    · exact (kap_le hB hx.2.1 hy.2.1 h1 h2).mp (by omega)
    · exact (kap_le hB hy.2.1 hx.2.1 h2 h1).mp (by omega)
  have hup : (((0, 1) :: M).map κ).Pairwise (· < ·) := by
    refine List.pairwise_map.mpr (List.pairwise_cons.mpr ⟨fun q hqM => ?_, ?_⟩)
    · obtain ⟨a, b, _⟩ := hq q ((hmM q).mp hqM).1
      rw [hk0]
      have h1 := ((hmM q).mp hqM).2
      have h2 : 0 < κ q * q.2 := by
        rw [b]
        exact Int.mul_pos h1 hB
      exact Int.pos_of_mul_pos_left h2 a.2.1
    · have hnd : M.Nodup := hM.nodup_iff.mpr (someOf_nodup _)
      have hcp : 0 < prodB (someOf (qsOf rs)) := prodB_pos fun q hqs => (hq q (mem_someOf.mp hqs).1).1.2.1
      refine List.Pairwise.imp_of_mem (fun {x y} hx hy hxy => ?_) (List.Pairwise.and hs hnd)
      obtain ⟨h1, h2⟩ := hxy
      obtain ⟨fx, ex, _⟩ := hq x ((hmM x).mp hx).1
      obtain ⟨fy, ey, _⟩ := hq y ((hmM y).mp hy).1
      have kx : ∀ z ∈ M, Xr.keyQ (prodB (someOf (qsOf rs))) z * z.2 = z.1 * prodB (someOf (qsOf rs)) := fun z hz => by
        unfold Xr.keyQ
        exact Int.ediv_mul_cancel (Int.dvd_trans (prodB_dvd (hM.mem_iff.mp hz)) (Int.dvd_mul_left _ _))
      have h3 := (kap_le hcp fx.2.1 fy.2.1 (kx x hx) (kx y hy)).mp h1
      have h4 := (kap_le hB fx.2.1 fy.2.1 ex ey).mpr h3
      have h5 : κ x ≠ κ y := fun e => h2 (hinj x y fx fy ex ey e)
      omega
  have e1 : srt (dd (0 :: ks)) = ((0, 1) :: M).map κ := by
    refine asc_ext (srt_lt (dd_nodup _)) hup fun k => ?_
    rw [mem_srt, dd_mem, List.mem_cons, List.mem_map]
    constructor
    · rintro (z | z)
      · exact ⟨(0, 1), List.mem_cons_self, by rw [hk0, z]⟩
      · rw [hkr] at z
        obtain ⟨p, hpm, rfl⟩ := List.mem_map.mp z
        obtain ⟨a, b, c⟩ := hp p hpm
        by_cases h : 0 < (low (p.1 % p.2) p.2).1
        · exact ⟨low (p.1 % p.2) p.2, List.mem_cons_of_mem _ ((hmM _).mpr ⟨List.mem_map.mpr ⟨p, hpm, rfl⟩, h⟩), c.symm⟩
        · refine ⟨(0, 1), List.mem_cons_self, ?_⟩
          rw [hk0, c, hκ]
          have : (low (p.1 % p.2) p.2).1 = 0 := by have := a.1; omega
          show 0 = (low (p.1 % p.2) p.2).1 * B / _
          rw [this, Int.zero_mul, Int.zero_ediv]
    · rintro ⟨q, hqL, rfl⟩
      rcases List.mem_cons.mp hqL with z | z
      · rw [z]; exact .inl hk0
      · exact .inr (hq q ((hmM q).mp z).1).2.2
  unfold ordK
  rw [e1, List.map_map]
  refine List.map_congr_left fun q hqL => ?_
  obtain ⟨fq, eq⟩ := hL q hqL
  show idxP (qsOf rs) q = idx ks (κ q)
  unfold idxP idx
  have hl1 : (qsOf rs).length = rs.length := List.length_map ..
  have hl2 : ks.length = rs.length := by rw [hkr]; exact List.length_map ..
  rw [hl1, hl2]
  congr 1
  refine List.filter_congr fun i hi => ?_
  have hi := List.mem_range.mp hi
  have h1 : (qsOf rs)[i]? = some (low (rs[i].1 % rs[i].2) rs[i].2) := by
    unfold qsOf
    rw [List.getElem?_map, List.getElem?_eq_getElem hi]
    rfl
  obtain ⟨a, b, c⟩ := hp rs[i] (List.getElem_mem hi)
  have h2 : ks[i]? = some (κ (low (rs[i].1 % rs[i].2) rs[i].2)) := by
    rw [hkr, List.getElem?_map, List.getElem?_eq_getElem hi, ← c]
    rfl
  rw [h1, h2, Bool.eq_iff_iff, decide_eq_true_eq, decide_eq_true_eq, Option.some.injEq, Option.some.injEq]
  rw [c] at b
  exact ⟨fun e => by rw [e], fun e => hinj _ _ a fq b eq e⟩
end Kb
/-! E8: the law's own class of readings. -/
namespace Kb
open PySem PySem.Spec PyProof.Rows L2 Evl Xd LamX
abbrev rInt1 : List V → Hp → VK → Prop := fun xs H Q => (∃ i, xs = [.int i] ∧ Q (.int i) H) ∨ ∃ k, xs = [.bl k] ∧ Q (.int (if k then 1 else 0)) H
/-- the code table of the lambda's maker -/
def TLam (P0 : Addr) : List (Addr × Str) := [(P0, (envOfC "_law_cq_of" (defScope (topS 42)) 0 0 .none).qual ++ "<lambda>")]
theorem lamK : Xr.LamK (defScope (topS 42)) { kind := .function, names := [(PySem.Str.ofString "_law_one", .local), (PySem.Str.ofString "_law_common", .free)], isGenerator := false, isCoroutine := false, more := [] } "_law_one" "_law_common" :=
  ⟨rfl, rfl, rfl, by decide +kernel, by decide +kernel, rfl, rfl, by decide +kernel⟩
/-- a def whose code stands at c -/
def FunC (K : PySem.W.Frag) (x : Str) (st : Stmt) (f c : Addr) (fd : FuncData) : Prop := (∃ (oc : Value) (od : Option Addr) (kV doc pm : Value) (an : Option Addr) (ct : Value) (osl : Array (Option Value)),
    fd = PySem.W.fnOf x x (defArgs st) (defBody st) (defScope st) .none kV doc pm an (.ref c) ct ∧ K.lookup f = some ⟨oc, od, .func fd, osl⟩ ∧ PySem.W.codeIn K (.ref c) x = true) ∧ PySem.W.keepIn K (.ref f) = true
section
variable {P : Program} {w : World} {K : PySem.W.Frag} {mg : Str → Option Value} {base : Heap}
theorem cal_ofC {x : Str} {st : Stmt} {ps N : List Str} {sp : Sp} {k : Nat} {f c : Addr} {fd : FuncData} (F : FunC K x st f c fd) (hm : mg x = some (.ref f)) (S : FnScope N ps (defScope st)) (len : ∀ vs H Q E, sp vs H Q E → vs.length = ps.length)
    (hb : ∀ (kV doc pm : Value) (an : Option Addr) (cdv ct : Value) (us : List Value), us.length = ps.length → bindArgs (PySem.W.fnOf x x (defArgs st) (defBody st) (defScope st) .none kV doc pm an cdv ct) ⟨us, []⟩ = pure (ps.zip us))
    (hbody : ∀ (A : Around) (outer : List Env) (s : Shared) (H : Hp) (vs : List V) (Q : VK) (E : XK), Room k (A.deeper (envOfC x (defScope st) s.heap.objs.size f (.ref c))) → sp vs H Q E →
      ∃ t, PSs (cxOf CX0 P w K mg base N x (defScope st) f (.ref c) A outer s H E).nox (defBody st) t ∧ t { nx := fun _ H' => Q .non H', rt := Q } (start N vs) H) : Cal P w K mg base x (k + 1) ps sp := by
  obtain ⟨⟨oc, od, kV, doc, pm, an, ct, osl, rfl, lk, hcd⟩, hkp⟩ := F
  refine ⟨f, _, fn_of lk hcd S len fun A outer s H vs Q E hr hsp => ?_, hm, hkp, .all (hb kV doc pm an (.ref c) ct)⟩
  obtain ⟨t, h, q⟩ := hbody A outer s H vs Q E hr hsp
  exact ⟨t, h.nox, q⟩
end
def S_cq (K : PySem.W.Frag) (P0 : Addr) : Sp := fun vs H Q _ => ∃ (v : V) (rs : List (Int × Int)), vs = [v] ∧ Dp K H v (rdD rs) ∧ rs.length ≤ 3 ∧ (∀ x ∈ rs, okR x) ∧ Tabs (TLam P0) H ∧
  ∀ (u : V) (H1 : Hp), ExtN H H1 → Tabs (TLam P0) H1 → Dp K H1 u (clsD (classOf rs)) → Q u H1
section
variable {K : PySem.W.Frag} {H H1 : Hp} {σ : L2.St} {v : V} {d : PyData} {ds : List PyData} {S : List (Int × Int)} {q : Int × Int} {xs : List V}
theorem dp_extN (e : ExtN H H1) (h : Dp K H v d) : Dp K H1 v d := dp_mono (fun _ _ => Xr.sqL_ext e) (fun _ _ => Xr.sqT_ext e) h
theorem evj_lst {i : Nat} (h : σ[i]? = some (some v)) (hd : Dp K H v (.list ds)) : EvJ K (iList K (tVar i)) σ H ds := fun H1 e R r => by
  obtain ⟨a, xs, rfl, hs, hx⟩ := dp_lst hd
  exact ⟨.ref a, h, a, rfl, ⟨xs, ex_l e hs⟩, r _ _ (Ex.refl _) (walkd_lst hs hx)⟩
theorem eqv_fr (p q : Int × Int) : PyData.eqv (fr p) (fr q) = decide (p = q) := by
  unfold fr
  simp only [PyData.eqv, PyData.eqvAll, Bool.and_true]
  rw [Bool.eq_iff_iff]
  simp [Prod.ext_iff]
theorem any_fr : ((S.map fr).any fun z => PyData.eqv z (fr q)) = decide (q ∈ S) := by
  rw [Bool.eq_iff_iff, List.any_eq_true, decide_eq_true_eq]
  constructor
  · rintro ⟨d, hd, h⟩
    obtain ⟨p, hp, rfl⟩ := List.mem_map.mp hd
    rw [eqv_fr, decide_eq_true_eq] at h
    rw [← h]
    exact hp
  · intro h
    exact ⟨_, List.mem_map.mpr ⟨q, h, rfl⟩, by rw [eqv_fr, decide_eq_true rfl]⟩
theorem shaped_frs (S : List (Int × Int)) : SeqAt.shaped (.list (S.map fr)) = true := by
  show (PyData.canLay0 (.list (S.map fr)) && decide (PyData.depth (.list (S.map fr)) ≤ 64)) = true
  have h1 : PyData.canLay0 (.list (S.map fr)) = true := by
    simp only [PyData.canLay0]
    exact lay_of fun d hd => by
      obtain ⟨i, _, rfl⟩ := List.mem_map.mp hd
      rfl
  have h2 : PyData.depth (.list (S.map fr)) ≤ 64 := by
    simp only [PyData.depth]
    have := depth_of (ds := S.map fr) (k := 1) fun d hd => by
      obtain ⟨i, _, rfl⟩ := List.mem_map.mp hd
      exact Nat.le_refl 1
    omega
  rw [h1, decide_eq_true h2]
  rfl
theorem dpAll_pairs : ∀ {xs : List V} {S : List (Int × Int)}, DpAll K H xs (S.map fr) → ∃ ts : List (V × (Int × Int)), ts.map Prod.fst = xs ∧ ts.map Prod.snd = S ∧ ∀ y ∈ ts, Xr.PairAt K H y
  | [], [], .nil => ⟨[], rfl, rfl, fun _ h => by cases h⟩
  | x :: xs, q :: S, .cons h a => by
    obtain ⟨ts, h1, h2, h3⟩ := dpAll_pairs a
    obtain ⟨t, ys, rfl, hs, hy⟩ := dp_tup h
    cases hy with
    | cons p1 hy =>
      cases hy with
      | cons p2 hy =>
        cases hy
        cases dp_int p1
        cases dp_int p2
        exact ⟨(.ref t, q) :: ts, by rw [List.map_cons, h1], by rw [List.map_cons, h2], fun y hy => (List.mem_cons.mp hy).elim (fun z => by rw [z]; exact ⟨t, rfl, hs⟩) (h3 y)⟩
theorem pairs_dpAll : ∀ {ts : List (V × (Int × Int))}, (∀ y ∈ ts, Xr.PairAt K H y) → DpAll K H (ts.map Prod.fst) ((ts.map Prod.snd).map fr)
  | [], _ => .nil
  | y :: ts, h => by
    obtain ⟨t, h1, h2⟩ := h y List.mem_cons_self
    rw [List.map_cons, List.map_cons, List.map_cons, h1]
    exact .cons (.tup h2 (.cons (.int _) (dpAll_one (.int _)))) (pairs_dpAll fun z hz => h z (List.mem_cons_of_mem _ hz))
/-- the places of a rest -/
def isQ (q : Int × Int) : PyData → Bool
  | .tuple [_, r] => PyData.eqv r (fr q)
  | _ => false
theorem places_eq {qs : List (Int × Int)} (q : Int × Int) : ((enumD (qs.map fr)).filter (isQ q)).map fstD = (idxP qs q).map PyData.int := by
  have e : enumD (qs.map fr) = (List.range qs.length).map fun i => PyData.tuple [.int (i : Nat), fr (qs.getD i (0, 0))] := by
    refine List.ext_getElem? fun i => ?_
    by_cases hi : i < qs.length
    · rw [enumD_get (d := fr qs[i]) (by rw [List.getElem?_map, List.getElem?_eq_getElem hi]; rfl), List.getElem?_map, List.getElem?_range hi, Option.map_some, List.getD_eq_getElem?_getD, List.getElem?_eq_getElem hi]
      rfl
    · rw [List.getElem?_eq_none (by rw [enumD_len, List.length_map]; omega), List.getElem?_eq_none (by rw [List.length_map, List.length_range]; omega)]
  rw [e, List.filter_map, List.map_map]
  unfold idxP
  rw [List.map_map]
  have h2 : ((List.range qs.length).filter (isQ q ∘ fun i => PyData.tuple [.int (i : Nat), fr (qs.getD i (0, 0))])) = (List.range qs.length).filter fun i => decide (qs[i]? = some q) := by
    refine List.filter_congr fun i hi => ?_
    have hi := List.mem_range.mp hi
    show PyData.eqv (fr (qs.getD i (0, 0))) (fr q) = _
    rw [eqv_fr, List.getD_eq_getElem?_getD, List.getElem?_eq_getElem hi, Option.getD_some, Bool.eq_iff_iff, decide_eq_true_eq, decide_eq_true_eq, Option.some.injEq]
  rw [h2]
  rfl
end
def fOrd (qs : List (Int × Int)) : PyData → PyData
  | .tuple [.int a, .int b] => .tuple ((idxP qs (a, b)).map .int)
  | _ => .none
def fWh : PyData → PyData
  | .tuple [.int a, .int b] => .int (a / b)
  | _ => .none
section
variable {P : Program} {w : World} {K : PySem.W.Frag} {mg : Str → Option Value} {base : Heap}
theorem sc__law_cq_of : FnScope ["_law_readings", "_law_rests", "_law_some", "_law_one", "_law_common", "_law_top", "_law_bottom", "_law_order", "_law_clock", "_law_rest"] ["_law_readings"] (defScope (topS 42)) := ⟨rfl, rfl, rfl, by decide +kernel, rfl, by decide +kernel, by decide +kernel⟩
set_option maxRecDepth 200000 in
theorem ok_law_cq_of (T : Tb mg) {f c P0 : Addr} {fd : FuncData} (F : FunC K "_law_cq_of" (topS 42) f c fd) (hm : mg "_law_cq_of" = some (.ref f)) (TB : TabB base mg c P0) (C__law_cq_rest : Cal P w K mg base "_law_cq_rest" 2 ["_law_reading"] (Sp1 K f_cqrest)) : Cal P w K mg base "_law_cq_of" 3 ["_law_readings"] (S_cq K P0) := by
  refine cal_ofC F hm sc__law_cq_of (fun vs H Q E h => ?_) (fun _ _ _ _ _ _ us hl => match us, hl with | [_], _ => rfl) (fun A outer s H vs Q E hr h => ?_)
  · obtain ⟨v, rs, rfl, _⟩ := h
    rfl
  · obtain ⟨v, rs, rfl, hd, hl3, hok, hTb, q⟩ := h
    refine ⟨_, (pss_cons (ps_asg (pe_tup (pa_cons (pe_lc (own := [("_law_one", 3)]) (te := (tCall (Sp1 K f_cqrest) [] E0 (tCons (tVar 3) tNil))) rfl sc__law_cq_of.nd (pi_tup (pv 0)) (blkOk_by (own := [("_law_one", 3)]) (N := ["_law_readings", "_law_rests", "_law_some", "_law_one", "_law_common", "_law_top", "_law_bottom", "_law_order", "_law_clock", "_law_rest"]) (sc := (defScope (topS 42))) (by decide +kernel)) (fun _ _ _ _ _ => (pg_name (i := 3) sc__law_cq_of.nd rfl (.inl rfl))) (fun _ _ _ _ _ => pts_nil) (fun _ _ _ _ _ => (pe_callC C__law_cq_rest hr rfl (pa_cons (pv 3) pa_nil)))) (pa_cons (pe_lst pa_nil) pa_nil))) (pg_tup rfl (pgs_cons (pg_name (i := 1) sc__law_cq_of.nd rfl (.inr rfl)) (pgs_cons (pg_name (i := 2) sc__law_cq_of.nd rfl (.inl rfl)) pgs_nil))))
      (pss_cons (ps_for PassesOwn.never rfl (pi_list (pv 1)) (pg_name (i := 3) sc__law_cq_of.nd rfl (.inl rfl)) (pss_one (ps_if (PW.pt (pw_and (pt_cmpR op_gt (pe_ix ix_tup (pv 3) pe_int (fun _ _ => rfl)) pe_int (nomark _)) (pw_and1 (pt_cmpR (op_notInD (u65 hr)) (pv 3) (pv 2) (by rfl))))) (pss_one (ps_expr (pe_bm PySem.F.plainAttrs_list PySem.F.slot_list_append PySem.F.type_list_append mt_append (pv 2) (pa_cons (pv 3) pa_nil)))) pss_nil)))
      (pss_cons (ps_set (i := 4) sc__law_cq_of.nd rfl (.inr rfl) pe_int)
      (pss_cons (ps_for PassesOwn.never rfl (pi_list (pv 2)) (pg_tup rfl (pgs_cons (pg_name (i := 5) sc__law_cq_of.nd rfl (.inl rfl)) (pgs_cons (pg_name (i := 6) sc__law_cq_of.nd rfl (.inl rfl)) pgs_nil))) (pss_one (ps_set (i := 4) sc__law_cq_of.nd rfl (.inr rfl) (pe_op op_mulW (pv 4) (pv 6)))))
      (pss_cons (ps_set (i := 2) sc__law_cq_of.nd rfl (.inl rfl) (Xr.pe_sortK (T := TLam P0) hr rfl T.sorted lamK TB rfl (List.mem_singleton.mpr rfl) (fun p hp _ => by rw [List.mem_singleton.mp hp]; rfl) (i := 4) rfl rfl rfl (fun _ _ _ _ => rfl) (pa_cons (pv 2) pa_nil)))
      (pss_cons (ps_setLc (i := 7) (own := [("_law_one", 3)]) (te := (tCB (rTupS K) (tCons (tLc (iEnum K (tCons (tVar 1) tNil)) (gTup K 2 (gCons (gName 8) (gCons (gName 9) gNil))) (tTest (tOp (rEqD K) (tVar 9) (tVar 3))) (tVar 8) [8, 9]) tNil))) rfl sc__law_cq_of.nd rfl rfl (sw_true rfl rfl rfl (by decide +kernel)) (pi_list (pe_op op_cat (pe_lst (pa_cons (pe_tup (pa_cons pe_int (pa_cons pe_int pa_nil))) pa_nil)) (pv 2))) (blkOk_by (own := [("_law_one", 3)]) (N := ["_law_readings", "_law_rests", "_law_some", "_law_one", "_law_common", "_law_top", "_law_bottom", "_law_order", "_law_clock", "_law_rest"]) (sc := (defScope (topS 42))) (by decide +kernel)) (fun _ _ _ _ _ => (pg_name (i := 3) sc__law_cq_of.nd rfl (.inr rfl))) (fun _ _ _ _ _ => pts_nil) (fun _ _ _ _ _ => (pe_callTy call_tuple_of rfl T.tuple bt_tuple (pa_cons (pe_lc (own := [("_law_clock", 8), ("_law_rest", 9)]) (g := (gTup K 2 (gCons (gName 8) (gCons (gName 9) gNil)))) (tt := (tTest (tOp (rEqD K) (tVar 9) (tVar 3)))) (te := (tVar 8)) rfl sc__law_cq_of.nd (pi_enum rfl T.enumerate (pa_cons (pv 1) pa_nil)) (blkOk_by (own := [("_law_clock", 8), ("_law_rest", 9)]) (N := ["_law_readings", "_law_rests", "_law_some", "_law_one", "_law_common", "_law_top", "_law_bottom", "_law_order", "_law_clock", "_law_rest"]) (sc := (L2.relS { kind := .function, names := [(PySem.Str.ofString ".0", .local), (PySem.Str.ofString "_law_one", .cell), (PySem.Str.ofString "tuple", .globalImplicit), (PySem.Str.ofString "enumerate", .globalImplicit), (PySem.Str.ofString "_law_rests", .free)], isGenerator := false, isCoroutine := false, more := [] } (defScope (topS 42)))) (by decide +kernel)) (fun _ _ _ _ _ => (pg_tup rfl (pgs_cons (pg_name (i := 8) sc__law_cq_of.nd rfl (.inl rfl)) (pgs_cons (pg_name (i := 9) sc__law_cq_of.nd rfl (.inl rfl)) pgs_nil)))) (fun _ _ _ _ _ => pts_one (pt_cmpR (op_eqD hr.units) (pv 9) (pv 3) (nomark _))) (fun _ _ _ _ _ => (pv 8))) pa_nil))))
      (pss_one (ps_ret (pe_tup (pa_cons (pe_callTy call_tuple_of rfl T.tuple bt_tuple (pa_cons (pe_lc (own := [("_law_top", 5), ("_law_bottom", 6)]) (g := (gTup K 2 (gCons (gName 5) (gCons (gName 6) gNil)))) (te := (tCB rInt1 (tCons (tOp (rI CDivW fun i j => .int (i / j)) (tVar 5) (tVar 6)) tNil))) rfl sc__law_cq_of.nd (pi_tup (pv 0)) (blkOk_by (own := [("_law_top", 5), ("_law_bottom", 6)]) (N := ["_law_readings", "_law_rests", "_law_some", "_law_one", "_law_common", "_law_top", "_law_bottom", "_law_order", "_law_clock", "_law_rest"]) (sc := (defScope (topS 42))) (by decide +kernel)) (fun _ _ _ _ _ => (pg_tup rfl (pgs_cons (pg_name (i := 5) sc__law_cq_of.nd rfl (.inl rfl)) (pgs_cons (pg_name (i := 6) sc__law_cq_of.nd rfl (.inl rfl)) pgs_nil)))) (fun _ _ _ _ _ => pts_nil) (fun _ _ _ _ _ => (pe_callTy call_int1 rfl T.int bt_int (pa_cons (pe_op op_fdivW (pv 5) (pv 6)) pa_nil)))) pa_nil)) (pa_cons (pe_callTy call_tuple_of rfl T.tuple bt_tuple (pa_cons (pv 7) pa_nil)) pa_nil))))))))))), ?_⟩
    have hq2 : ∀ p ∈ rs, 0 < p.2 ∧ 0 ≤ p.1 := fun p hp => ⟨(hok p hp).1.2.2.1, (hok p hp).1.1⟩
    obtain ⟨qs, hqs⟩ : ∃ qs, qs = qsOf rs := ⟨_, rfl⟩
    have hql : qs.length = rs.length := by rw [hqs]; exact List.length_map ..
    have hb60 : ∀ p ∈ rs, p.2 < 2 ^ 200 := fun p hp => Int.lt_of_lt_of_le (hok p hp).1.2.2.2.1 (by decide)
    have hqw : ∀ x ∈ qs, wide x := fun x hx => by
      rw [hqs] at hx
      obtain ⟨p, hp, rfl⟩ := List.mem_map.mp hx
      obtain ⟨h2, h1⟩ := hq2 p hp
      have h0 := Int.emod_nonneg p.1 (show p.2 ≠ 0 by omega)
      have hlt := Int.emod_lt_of_pos p.1 h2
      obtain ⟨g, g1, g2, g3, g4, g5⟩ := low_eq h0 h2
      have h3 := hb60 p hp
      generalize low (p.1 % p.2) p.2 = z at *
      have l1 : z.1 ≤ g * z.1 := by
        have := Int.mul_le_mul_of_nonneg_right (show 1 ≤ g by omega) g4
        omega
      have l2 : z.2 ≤ g * z.2 := by
        have := Int.mul_le_mul_of_nonneg_right (show 1 ≤ g by omega) (show 0 ≤ z.2 by omega)
        omega
      refine ⟨g4, Int.lt_of_lt_of_le (show z.1 < 2 ^ 200 by omega) (by decide), g5, by omega⟩
    -- the rests
    refine g_asg (g_tup (g_consD (ed_lc0 (fun e => match e with | .tuple [.int t, .int b] => fr (low (t % b) b) | _ => .none) (evj_tup rfl hd).i (by rw [List.length_map]; omega) (fun e he => ?_) fun e he x H1 ex hx => ?_) fun v1 H1 e1 p1 => g_cons (g_lst (g_nil ⟨by show 0 ≤ sizeLine; decide, fun s1 hs1 => g_nil ⟨by show 2 ≤ sizeLine; decide, fun pt hpt => ⟨pt, _, rfl, st_of upd_same, rfl, _, _, rfl, _, _, rfl, rfl, ?_⟩⟩⟩))))
    · obtain ⟨p, hp, rfl⟩ := List.mem_map.mp he
      rfl
    · obtain ⟨p, hp, rfl⟩ := List.mem_map.mp he
      exact ⟨_, gto_name, rfl, ed_call1 (ead1 (ed_var rfl hx)) (if_pos ⟨(hq2 p hp).1, Int.lt_of_lt_of_le (hb60 p hp) (by decide)⟩)⟩
    have p1' : Dp K H1 v1 (.list (qs.map fr)) := by
      have e0 : (rs.map fr).map (fun e => match e with | .tuple [.int t, .int b] => fr (low (t % b) b) | _ => PyData.none) = qs.map fr := by
        rw [hqs]
        unfold qsOf
        rw [List.map_map, List.map_map]
        rfl
      rw [← e0]
      exact p1
    clear p1
    have hs0 : H s1 = none := fresh_back e1 hs1
    have x3 : Ex H1 (upd (upd H1 s1 (.lst [])) pt (.tup [v1, .ref s1])) := (Ex.new hs1).trans (Ex.new hpt)
    have hsl : (upd (upd H1 s1 (.lst [])) pt (.tup [v1, .ref s1])) s1 = some (.lst []) := Ex.new hpt _ _ upd_same
    generalize upd (upd H1 s1 (.lst [])) pt (.tup [v1, .ref s1]) = H3 at x3 hsl
    -- those above 0, each once
    refine q_forJ (H0 := H1) (evj_lst rfl p1') x3 (fun i σ' H' => ∃ y3, σ' = [some v, some v1, some (.ref s1), y3, none, none, none, none, none, none] ∧ Ex H1 H' ∧ Fnd K s1 ((qs.take i).foldl ndS []) H') (fun H4 e4 => ⟨none, rfl, x3.trans e4, [], e4 _ _ hsl, .nil⟩) (fun i σ' H' h => by obtain ⟨_, _, h, _⟩ := h; exact h) (fun i e x σ' H' he hI H4 e4 hx => ?_) fun σ' HA hI => ?_
    · obtain ⟨y3, rfl, ex, hF⟩ := hI
      rw [List.getElem?_map] at he
      cases hqi : qs[i]? with
      | none => rw [hqi] at he; cases he
      | some z =>
        rw [hqi] at he
        cases he
        have htk : (qs.take (i + 1)).foldl ndS [] = ndS ((qs.take i).foldl ndS []) z := by
          rw [List.take_add_one, hqi, List.foldl_append]
          rfl
        have hlenS := someOf_len (qs.take i) []
        have htl : (qs.take i).length ≤ 3 := by rw [List.length_take]; omega
        rw [List.length_nil] at hlenS
        generalize (qs.take i).foldl ndS [] = S at hF htk hlenS
        obtain ⟨fx, f1, f2⟩ := hF.ex e4
        refine s_if (b := decide (0 < z.1) && !decide (z ∈ S)) (et_and (a := decide (0 < z.1)) (b := !decide (z ∈ S)) (et_test (ev_op (ev_int (ed_ixT (i := 0) (d := .int z.1) (ed_var rfl hx) ev_c rfl)) ev_c rv_I0)) fun _ => et_test (fun Ha ea Q qq => ?_)) (fun hb H5 e5 => ?_) fun hb H5 e5 => ?_
        · refine ⟨x, rfl, .ref s1, rfl, fr z, S.map fr, dp_ex ea hx, dp_newL (ea _ _ f1) (dpAll_ex ea f2), shaped_fr z, shaped_frs S, ?_⟩
          rw [any_fr]
          exact qq Ha (Ex.refl _)
        · rw [Bool.and_eq_true, decide_eq_true_eq, Bool.not_eq_true', decide_eq_false_iff_not] at hb
          refine s_appF (p := z) (fs := S) ⟨fx, e5 _ _ f1, dpAll_ex e5 f2⟩ (ev_var rfl) (ed_var rfl (dp_ex e5 hx)) (by omega) fun H6 o e6 hF6 hK6 => ⟨_, rfl, (((ex.trans e4).trans e5).trans e6).mut hs1, ?_⟩
          rw [htk]
          unfold ndS
          rw [if_pos hb]
          exact hF6
        · refine ⟨_, rfl, (ex.trans e4).trans e5, ?_⟩
          rw [htk]
          unfold ndS
          rw [if_neg (fun z2 => by
            rw [decide_eq_true z2.1, decide_eq_false z2.2] at hb
            cases hb)]
          exact ⟨fx, e5 _ _ f1, dpAll_ex e5 f2⟩
    obtain ⟨y3, rfl, x4, hF⟩ := hI
    rw [List.length_map, List.take_length] at hF
    have hSS : qs.foldl ndS [] = someOf qs := rfl
    rw [hSS] at hF
    obtain ⟨S, hS⟩ : ∃ S, S = someOf qs := ⟨_, rfl⟩
    rw [← hS] at hF
    have hSl : S.length ≤ 3 := by
      have := someOf_len qs []
      rw [List.length_nil, hSS] at this
      rw [hS]
      omega
    have hSw : ∀ x ∈ S, wide x := fun x hx => by
      rw [hS] at hx
      exact hqw x (mem_someOf.mp hx).1
    obtain ⟨fx, f1, f2⟩ := hF
    -- the common bottom
    refine q_asg ev_c fun H5 e5 => ?_
    have hF5 := dp_newL (e5 _ _ f1) (dpAll_ex e5 f2)
    refine q_forJ (H0 := H5) (evj_lst rfl hF5) (Ex.refl _) (fun i σ' H' => ∃ y5 y6, σ' = [some v, some v1, some (.ref s1), y3, some (.int (prodB (S.take i))), y5, y6, none, none, none] ∧ Ex H5 H') (fun H6 e6 => ⟨none, none, rfl, e6⟩) (fun i σ' H' h => by obtain ⟨_, _, _, h⟩ := h; exact h) (fun i e x σ' H' he hI H6 e6 hx => ?_) fun σ' HB hI => ?_
    · obtain ⟨y5, y6, rfl, ex⟩ := hI
      rw [List.getElem?_map] at he
      cases hp : S[i]? with
      | none => rw [hp] at he; cases he
      | some z =>
        rw [hp] at he
        cases he
        obtain ⟨u5, u6, k5, k6, k7⟩ := gto_two (K := K) (i := 5) (j := 6) (d1 := .int z.1) (d2 := .int z.2) (σ := [some v, some v1, some (.ref s1), y3, some (.int (prodB (S.take i))), y5, y6, none, none, none]) hx
        cases dp_int k5
        cases dp_int k6
        refine k7 _ ?_
        have hi := (List.getElem?_eq_some_iff.mp hp).1
        obtain ⟨w1, w2, w3, w4⟩ := hSw z (List.mem_of_getElem? hp)
        have hbd := prodB_lt hSw i (by omega)
        refine s_asg (v := .int (prodB (S.take i) * z.2)) (ev_op (ev_var rfl) (ev_var rfl) (rv_I (wide_mul (a := 601) (b := 200) (Nat.lt_of_lt_of_le hbd.2 (Nat.pow_le_pow_right (by decide) (by omega))) (natAbs_lt (Int.le_of_lt w3) (by exact_mod_cast w4)) (by decide) (by decide) (by decide)))) fun H7 e7 => ⟨some (.int z.1), some (.int z.2), ?_, (ex.trans e6).trans e7⟩
        rw [prodB_take hp]
        rfl
    obtain ⟨y5, y6, rfl, x6⟩ := hI
    rw [List.length_map, List.take_length]
    have hxB : Ex H HB := ((e1.trans x4).trans e5).trans x6
    have fB1 : HB s1 = some (.lst fx) := (e5.trans x6) _ _ f1
    have fB2 : DpAll K HB fx (S.map fr) := dpAll_ex (e5.trans x6) f2
    have hcm : (prodB S).natAbs < 2 ^ 601 := by
      have h1 := prodB_lt hSw S.length (Nat.le_refl _)
      rw [List.take_length] at h1
      exact Nat.lt_of_lt_of_le h1.2 (Nat.pow_le_pow_right (by decide) (by omega))
    obtain ⟨ts, t1, t2, t3⟩ := dpAll_pairs fB2
    refine g_asg ⟨.ref s1, rfl, s1, ts, prodB S, rfl, sq_of (by rw [t1]; exact fB1), t3, rfl, fun y hy => ?_, hTb.ext hxB, fun D H7 hN hT7 hD7 => ?_⟩
    · have hyS : y.2 ∈ S := by rw [← t2]; exact List.mem_map.mpr ⟨y, hy, rfl⟩
      obtain ⟨w1, w2, w3, w4⟩ := hSw _ hyS
      exact ⟨wide_mul (natAbs_lt w1 (by exact_mod_cast w2)) hcm (by decide) (by decide) (by decide), wide_div w3 (natAbs_lt (Int.le_of_lt w3) (by exact_mod_cast w4)) (by decide) (by decide)⟩
    obtain ⟨M, hM⟩ : ∃ M, M = (Xr.sortedK (prodB S) ts).map Prod.snd := ⟨_, rfl⟩
    have hperm : (Xr.sortedK (prodB S) ts).Perm ts := List.mergeSort_perm _ _
    have hMp : M.Perm S := by
      rw [hM]
      have h := hperm.map Prod.snd
      rw [t2] at h
      exact h
    have hMs : M.Pairwise fun x y => Xr.keyQ (prodB S) x ≤ Xr.keyQ (prodB S) y := by
      rw [hM]
      refine List.pairwise_map.mpr ?_
      refine (List.pairwise_mergeSort (le := fun y z : V × (Int × Int) => decide (Xr.keyQ (prodB S) y.2 ≤ Xr.keyQ (prodB S) z.2)) (fun a b c h1 h2 => decide_eq_true (Int.le_trans (of_decide_eq_true h1) (of_decide_eq_true h2))) (fun a b => ?_) ts).imp fun h => of_decide_eq_true h
      rw [Bool.or_eq_true, decide_eq_true_eq, decide_eq_true_eq]
      omega
    have hMl : M.length ≤ 3 := by rw [hMp.length_eq]; exact hSl
    have d7 : DpAll K H7 ((Xr.sortedK (prodB S) ts).map Prod.fst) (M.map fr) := by
      rw [hM]
      refine pairs_dpAll fun y hy => ?_
      obtain ⟨t, y1, y2⟩ := t3 y (hperm.mem_iff.mp hy)
      exact ⟨t, y1, Xr.sqT_ext hN y2⟩
    generalize hzs : (Xr.sortedK (prodB S) ts).map Prod.fst = zs at hD7 d7
    have hr7 : Dp K H7 v1 (.list (qs.map fr)) := dp_extN hN (dp_ex ((x4.trans e5).trans x6) p1')
    have hv7 : Dp K H7 v (rdD rs) := dp_extN hN (dp_ex hxB hd)
    have hN7 : ExtN H H7 := (ExtN.of hxB).trans hN
    -- the groups
    have hcat : EvD K (tOp rCat (tLst (tCons (tTup (tCons (tC (.int 0)) (tCons (tC (.int 1)) tNil))) tNil)) (tVar 2)) [some v, some v1, some (.ref D), y3, some (.int (prodB S)), y5, y6, none, none, none] H7 (.list (((0, 1) :: M).map fr)) := fun H8 e8 Q qq =>
      g_opT (g_lst (g_consD (K := K) (d := fr (0, 1)) (ed_tup (ead_cons (ed_int ev_c) (ead1 (ed_int ev_c))) (show 2 ≤ 100000 by decide)) fun u H9 e9 p9 => g_nil ⟨by show 1 ≤ sizeLine; decide, fun l hl => ⟨.ref D, rfl, l, D, [u], zs, rfl, rfl, upd_same, Ex.new hl _ _ ((e8.trans e9) _ _ hD7), by
        have := dpAll_len d7
        rw [List.length_map] at this
        exact Nat.le_of_lt (small1000 (show 1 + zs.length ≤ 1000 by omega)), fun p hp => qq _ _ ((e9.trans (Ex.new hl)).trans (Ex.new hp)) (dp_newL upd_same (dpAll_ex (Ex.new hp) (.cons (dp_ex (Ex.new hl) p9) (dpAll_ex ((e8.trans e9).trans (Ex.new hl)) d7))))⟩⟩))
    refine q_asgD (K := K) (d := .list ((((0, 1) :: M).map fr).map (fOrd qs))) (ed_lc0 (fOrd qs) (evi_lst hcat) (by rw [List.length_map, List.length_cons]; omega) (fun e he => ?_) fun e he x H8 ex8 hx => ?_) fun uo H9 e9 po => ?_
    · obtain ⟨z, _, rfl⟩ := List.mem_map.mp he
      exact noL_ints _
    · obtain ⟨z, _, rfl⟩ := List.mem_map.mp he
      refine ⟨_, gto_name, rfl, ed_tupleL (ed_is (ed_lc (isQ z) fstD (evi_enumL (ed_var rfl (dp_ex ex8 hr7))) (by rw [enumD_len, List.length_map]; omega) (fun e2 he2 _ => ?_) fun e2 he2 x2 H10 ex10 hx2 => ?_) ?_)⟩
      · obtain ⟨k, d, rfl, _⟩ := enumD_mem he2
        rfl
      · obtain ⟨k, hk⟩ := List.mem_iff_getElem?.mp he2
        obtain ⟨y, hy, rfl⟩ := enumD_at hk
        obtain ⟨u8, u9, k8, k9, k10⟩ := gto_two (K := K) (i := 8) (j := 9) (σ := wipe [some v, some v1, some (.ref D), some x, some (.int (prodB S)), y5, y6, none, none, none] [8, 9]) hx2
        cases dp_int k8
        exact ⟨_, k10, rfl, et_test (ev_eqD (ed_var rfl k9) (ed_var rfl (dp_ex ex10 hx)) (shaped_fr _) (shaped_fr _)), fun _ => ed_int (ev_var rfl)⟩
      · rw [places_eq]
    · have e0 : clsD (classOf rs) = .tuple [.tuple ((rs.map fr).map fWh), .tuple ((((0, 1) :: M).map fr).map (fOrd qs))] := by
        have hlaw := cq_law hq2 (M := M) (by rw [← hqs, ← hS]; exact hMp) (by rw [← hqs, ← hS]; exact hMs)
        unfold clsD classOf ordD
        rw [← hlaw, List.map_map, List.map_map, List.map_map, List.map_map, ← hqs]
        rfl
      refine ed_tup (K := K) (ead_cons (ed_tupleL (ed_lc0 fWh (evj_tup rfl (dp_ex e9 hv7)).i (by rw [List.length_map]; omega) (fun e he => ?_) fun e he x H10 ex10 hx => ?_)) (ead1 (ed_tupleL (ed_var rfl po)))) (show 2 ≤ 100000 by decide) H9 (Ex.refl _) _ fun u H10 e10 pu => ?_
      · obtain ⟨p, hp, rfl⟩ := List.mem_map.mp he
        rfl
      · obtain ⟨p, hp, rfl⟩ := List.mem_map.mp he
        obtain ⟨u5, u6, k5, k6, k7⟩ := gto_two (K := K) (i := 5) (j := 6) (d1 := .int p.1) (d2 := .int p.2) (σ := wipe [some v, some v1, some (.ref D), y3, some (.int (prodB S)), y5, y6, some uo, none, none] [5, 6]) hx
        cases dp_int k5
        cases dp_int k6
        exact ⟨_, k7, rfl, ed_int (ev_int1 (ev_op (ev_var rfl) (ev_var rfl) (rv_I (wide_div (hq2 p hp).1 (natAbs_lt (Int.le_of_lt (hq2 p hp).1) (by exact_mod_cast hb60 p hp)) (by decide) (by decide)))))⟩
      · rw [← e0] at pu
        exact q u H10 (hN7.trans (ExtN.of (e9.trans e10))) (hT7.ext (e9.trans e10)) pu
end
end Kb
/-! E9: one turn of the law. -/
namespace Kb
open PySem PySem.Spec PyProof.Rows L2 Evl Xd LamX
/-- all is kept but the dice and the tables -/
def EN (a : Addr) (H H1 : Hp) : Prop := ∀ b o, b ≠ a → (∀ ps, o ≠ .tbl ps) → H b = some o → H1 b = some o
section
variable {a : Addr} {H H1 H2 : Hp} {T : List (Addr × Str)}
theorem EN.trans (x : EN a H H1) (y : EN a H1 H2) : EN a H H2 := fun b o n t h => y b o n t (x b o n t h)
theorem EN.ed (x : Ed a H H1) : EN a H H1 := fun b o n _ h => x b o n h
theorem EN.ext (x : ExtN H H1) : EN a H H1 := fun b o _ t h => x b o h t
theorem EN.ex (x : Ex H H1) : EN a H H1 := fun b o _ _ h => x b o h
theorem EN.refl : EN a H H := fun _ _ _ _ h => h
theorem EN.kt (x : EN a H H1) (h : Dc a H) : Kt H H1 := by
  obtain ⟨_, _, _, h⟩ := h
  exact ⟨fun b ys e => x b _ (fun z => by rw [z, h] at e; cases e) (fun _ z => nomatch z) e, fun b o ys e => x b _ (fun z => by rw [z, h] at e; cases e) (fun _ z => nomatch z) e⟩
theorem tabs_edD (t : Tabs T H) (x : Ed a H H1) (h : Dc a H) : Tabs T H1 := fun p hp => by
  obtain ⟨u, v, w, h⟩ := h
  obtain ⟨ps, h1, h2, h3⟩ := t p hp
  refine ⟨ps, x _ _ (fun z => by rw [z, h] at h1; cases h1) h1, h2, fun pos cv hc => ?_⟩
  obtain ⟨c, e1, e2⟩ := h3 pos cv hc
  refine ⟨c, e1, x _ _ (fun z => ?_) e2⟩
  rw [z, h] at e2
  unfold CodeO at e2
  cases e2
theorem Dc.extN (h : Dc a H) (x : ExtN H H1) : Dc a H1 := by
  obtain ⟨u, v, w, h⟩ := h
  exact ⟨u, v, w, x _ _ h fun _ z => nomatch z⟩
theorem Ed.drLL (x : Ed a H H1) : Ex (drL [a] H) (drL [a] H1) := fun b o h => by
  by_cases z : b ∈ [a]
  · rw [drL_in z] at h; cases h
  · rw [drL_out z] at h ⊢
    exact x b o (fun y => z (by rw [y]; exact List.mem_singleton_self a)) h
end
/-! ### steps -/
section
variable {K : PySem.W.Frag} {te t1 t2 t3 : TE} {σ : L2.St} {H : Hp} {tz tu tw : TS} {D : Ends} {t u : TT} {R : Bool → Hp → Prop} {wi : TI} {g : TG} {i j l : Nat}
theorem g_next (h : D.nx σ H) : tNext D σ H := h
theorem g_if (h : t σ H fun b H1 => if b = true then tu { D with nx := tz D } σ H1 else tw { D with nx := tz D } σ H1) : tSeq (tIfS t tu tw) tz D σ H := h
theorem g_or (h : t σ H fun c H1 => if c = true then R true H1 else u σ H1 R) : tOr t u σ H R := h
theorem g_test (h : te σ H fun x H' => ∃ k, x = .bl k ∧ R k H') : tTest te σ H R := h
theorem g_for (h : wi σ H fun J H1 => ∃ W : Nat → Nat → L2.St → Hp → Prop, (∃ m, W 0 m σ H1) ∧ ∀ i m σ H, W i m σ H →
    (J.stop i H ∧ tz D σ H) ∨ (J.go i H ∧ ∃ N : L2.St → Hp → Prop, (∀ σ' H', N σ' H' → ∃ m', m' < m ∧ W (i + 1) m' σ' H') ∧ ∀ x H', J.yld i H x H' → g x σ H' fun σ2 H2 => tu { D with nx := N, ct := N, bk := tz D } σ2 H2)) : tSeq (tFor wi g tu) tz D σ H := h
theorem g_forS (h : wi σ H fun J H1 => ∃ W : Nat → Nat → L2.St → Hp → Prop, (∃ m, W 0 m σ H1) ∧ ∀ i m σ H, W i m σ H →
    (J.stop i H ∧ D.nx σ H) ∨ (J.go i H ∧ ∃ N : L2.St → Hp → Prop, (∀ σ' H', N σ' H' → ∃ m', m' < m ∧ W (i + 1) m' σ' H') ∧ ∀ x H', J.yld i H x H' → g x σ H' fun σ2 H2 => tu { D with nx := N, ct := N, bk := D.nx } σ2 H2)) : tFor wi g tu D σ H := h
theorem w_list {a : Addr} {xs : List V} (Pv : Nat → L2.St → Hp → Prop) (h0 : Pv 0 σ H) (hl : ∀ i σ H, i ≤ xs.length → Pv i σ H → SqL K H a xs)
    (hs : ∀ i x σ H, xs[i]? = some x → Pv i σ H → g x σ H fun σ2 H2 => tu { D with nx := Pv (i + 1), ct := Pv (i + 1), bk := tz D } σ2 H2) (hd : ∀ σ H, Pv xs.length σ H → tz D σ H) : ∃ W : Nat → Nat → L2.St → Hp → Prop, (∃ m, W 0 m σ H) ∧ ∀ i m σ H, W i m σ H →
    ((Itl K a).stop i H ∧ tz D σ H) ∨ ((Itl K a).go i H ∧ ∃ N : L2.St → Hp → Prop, (∀ σ' H', N σ' H' → ∃ m', m' < m ∧ W (i + 1) m' σ' H') ∧ ∀ x H', (Itl K a).yld i H x H' → g x σ H' fun σ2 H2 => tu { D with nx := N, ct := N, bk := tz D } σ2 H2) := for_list (D := { D with nx := tz D }) Pv h0 hl hs hd
theorem g_par3 (h : t1 σ H fun x H1 => t2 σ H1 fun y H2 => t3 σ H2 fun z H3 => ∃ u v w, [x, y, z] = [u, v, w] ∧ tz D (((σ.set i (some u)).set j (some v)).set l (some w)) H3) : tSeq (tPar3 i j l (tCons t1 (tCons t2 (tCons t3 tNil)))) tz D σ H := h
theorem ev_reprB {b : Bool} (h : Ev te σ H (.bl b)) : Ev (tCB Xr.rReprB (tCons te tNil)) σ H (.str (if b then "True" else "False")) := fun H1 e Q q => h H1 e _ fun H2 e2 => ⟨b, rfl, q H2 e2⟩
end
def S_right (P0 : Addr) : Sp := fun vs H Q _ => ∃ a : Addr, vs = [.ref a] ∧ Dc a H ∧ Tabs (TLam P0) H ∧ ∀ H1, EN a H H1 → Dc a H1 → Tabs (TLam P0) H1 → Q (.bl true) H1
/-- what holds of a heap in the turn -/
structure GS (K : PySem.W.Frag) (P0 a : Addr) (H0 : Hp) (v3 : V) (c : List Int × List (List Int)) (H : Hp) : Prop where
  en : EN a H0 H
  dc : Dc a H
  tb : Tabs (TLam P0) H
  dp : Dp K H v3 (clsD c)
section
variable {K : PySem.W.Frag} {P0 a : Addr} {H0 H H1 : Hp} {v3 : V} {c : List Int × List (List Int)}
theorem GS.ed (g : GS K P0 a H0 v3 c H) (e : Ed a H H1) (d : Dc a H1) : GS K P0 a H0 v3 c H1 := ⟨g.en.trans (.ed e), d, tabs_edD g.tb e g.dc, dp_kt (e.ktD g.dc) (noL_cls c) g.dp⟩
theorem GS.ex (g : GS K P0 a H0 v3 c H) (e : Ex H H1) : GS K P0 a H0 v3 c H1 := g.ed (.of e) (g.dc.ex e)
theorem GS.extN (g : GS K P0 a H0 v3 c H) (e : ExtN H H1) (t : Tabs (TLam P0) H1) : GS K P0 a H0 v3 c H1 := ⟨g.en.trans (.ext e), g.dc.extN e, t, dp_extN e g.dp⟩
theorem noL_rd (rs : List (Int × Int)) : noL (rdD rs) = true := by
  unfold rdD
  simp only [noL]
  exact noLs_fr rs
end
section
variable {P : Program} {w : World} {K : PySem.W.Frag} {mg : Str → Option Value} {base : Heap}
theorem sc__law_right : FnScope ["_law_dice_here", "_law_clocks", "_law_readings", "_law_cls", "_law_value", "_law_many", "_law_told", "_law_other", "_law_more", "_law_clock", "_law_top", "_law_bottom", "_law_place", "_law_at", "_law_group"] ["_law_dice_here"] (defScope (topS 48)) := ⟨rfl, rfl, rfl, by decide +kernel, rfl, by decide +kernel, by decide +kernel⟩
set_option maxRecDepth 200000 in
theorem ok_law_right {P0 : Addr} (T : Tb mg) (D : DefAt K mg "_law_right" (topS 48)) (C__law_roll : Cal P w K mg base "_law_roll" 1 ["_law_dice_here", "_law_most"] S_roll) (C__law_cq_drawn : Cal P w K mg base "_law_cq_drawn" 3 ["_law_dice_here", "_law_clocks"] (S_drawn K))
    (C_class_of : Cal P w K mg base "class_of" 8 ["readings"] (Sr1 K R_classof)) (C__law_cq_of : Cal P w K mg base "_law_cq_of" 3 ["_law_readings"] (S_cq K P0)) (C_is_in : Cal P w K mg base "is_in" 8 ["cls", "readings"] (Sr2 K R_isin)) (C__law_is_class : Cal P w K mg base "_law_is_class" 2 ["_law_clocks", "_law_value"] (SpCls K isCls))
    (C__law_near : Cal P w K mg base "_law_near" 2 ["_law_dice_here", "_law_cls"] (S_near K)) (C_is_class : Cal P w K mg base "is_class" 6 ["clocks", "value"] (SpCls K isCls)) (C_told_point : Cal P w K mg base "told_point" 8 ["cls"] (Sr1 K R_point))
    (C__law_cq_point : Cal P w K mg base "_law_cq_point" 3 ["_law_dice_here", "_law_cls"] (S_point K)) (C__law_fq_low : Cal P w K mg base "_law_fq_low" 1 ["_law_top", "_law_bottom"] (Sp2 K f_lowest)) : Cal P w K mg base "_law_right" 9 ["_law_dice_here"] (S_right P0) := by
  refine cal_of D (fun _ _ _ _ _ _ us hl => match us, hl with | [_], _ => rfl) fun f fd F => F.ok sc__law_right (fun vs H Q E h => ?_) (fun cdv A outer s H vs Q E hr h => ?_)
  · obtain ⟨a, rfl, _⟩ := h
    rfl
  · obtain ⟨a, rfl, hD, hTb, q⟩ := h
    refine ⟨_, (pss_cons (ps_set (i := 1) sc__law_right.nd rfl (.inl rfl) (pe_op op_add pe_int (pe_callC C__law_roll hr rfl (pa_cons (pv 0) (pa_cons pe_int pa_nil)))))
      (pss_cons (ps_set (i := 2) sc__law_right.nd rfl (.inl rfl) (pe_callC C__law_cq_drawn hr rfl (pa_cons (pv 0) (pa_cons (pv 1) pa_nil))))
      (pss_cons (ps_set (i := 3) sc__law_right.nd rfl (.inl rfl) (pe_callC C_class_of hr rfl (pa_cons (pv 2) pa_nil)))
      (pss_cons (ps_if (PW.pt (pw_or (pt_cmpR (op_neD hr.units) (pv 3) (pe_callC C__law_cq_of hr rfl (pa_cons (pv 2) pa_nil)) (nomark _)) (pw_or (pt_not (pt_val (pe_callC C_is_in hr rfl (pa_cons (pv 3) (pa_cons (pv 2) pa_nil))))) (pw_or1 (pt_not (pt_val (pe_callC C__law_is_class hr rfl (pa_cons (pv 1) (pa_cons (pv 3) pa_nil))))))))) (pss_one (ps_ret pe_bl)) pss_nil)
      (pss_cons (ps_for PassesOwn.never rfl (pi_list (pe_callC C__law_near hr rfl (pa_cons (pv 0) (pa_cons (pv 3) pa_nil)))) (pg_name (i := 4) sc__law_right.nd rfl (.inl rfl)) (pss_one (ps_for PassesOwn.never rfl (pi_tup (pe_tup (pa_cons (pv 1) (pa_cons (pe_op op_add pe_int (pe_callC C__law_roll hr rfl (pa_cons (pv 0) (pa_cons pe_int pa_nil)))) pa_nil)))) (pg_name (i := 5) sc__law_right.nd rfl (.inl rfl)) (pss_one (ps_if (pt_cmpR op_ne (pe_callB Xr.call_reprB rfl T.repr bt_repr (pa_cons (pe_callC C_is_class hr rfl (pa_cons (pv 5) (pa_cons (pv 4) pa_nil))) pa_nil)) (pe_callB Xr.call_reprB rfl T.repr bt_repr (pa_cons (pe_callC C__law_is_class hr rfl (pa_cons (pv 5) (pa_cons (pv 4) pa_nil))) pa_nil)) (nomark _)) (pss_one (ps_ret pe_bl)) pss_nil)))))
      (pss_cons (ps_par3 (i := 6) (j := 7) (l := 8) rfl sc__law_right.nd rfl rfl rfl (by decide) (by decide) (by decide) rfl rfl rfl (pa_cons (pe_callC C_told_point hr rfl (pa_cons (pv 3) pa_nil)) (pa_cons (pe_callC C__law_cq_point hr rfl (pa_cons (pv 0) (pa_cons (pv 3) pa_nil))) (pa_cons (pe_callC C__law_cq_drawn hr rfl (pa_cons (pv 0) (pa_cons (pv 1) pa_nil))) pa_nil))) (by rfl))
      (pss_cons (ps_if (PW.pt (pw_or (pt_cmpR (op_neD hr.units) (pe_callC C_class_of hr rfl (pa_cons (pv 6) pa_nil)) (pv 3) (nomark _)) (pw_or (pt_cmpR (op_neD hr.units) (pe_callC C_class_of hr rfl (pa_cons (pv 7) pa_nil)) (pv 3) (nomark _)) (pw_or1 (pt_cmpR op_ne (pe_callC C_is_in hr rfl (pa_cons (pv 3) (pa_cons (pv 8) pa_nil))) (pe_cmpR (op_eqD hr.units) (pe_callC C__law_cq_of hr rfl (pa_cons (pv 8) pa_nil)) (pv 3) (nomark _)) (nomark _)))))) (pss_one (ps_ret pe_bl)) pss_nil)
      (pss_cons (ps_set (i := 5) sc__law_right.nd rfl (.inl rfl) (pe_callB call_len_seq rfl T.len bt_len (pa_cons (pe_ix ix_tup (pv 3) pe_int (fun _ _ => rfl)) pa_nil)))
      (pss_cons (ps_for PassesOwn.never rfl (Xr.pi_enumT rfl T.enumerate (pa_cons (pv 6) pa_nil)) (pg_tup rfl (pgs_cons (pg_name (i := 9) sc__law_right.nd rfl (.inr rfl)) (pgs_cons (pg_tup rfl (pgs_cons (pg_name (i := 10) sc__law_right.nd rfl (.inl rfl)) (pgs_cons (pg_name (i := 11) sc__law_right.nd rfl (.inl rfl)) pgs_nil))) pgs_nil))) (pss_cons (ps_set (i := 12) sc__law_right.nd rfl (.inl rfl) (pe_ix ix_list (pe_lc (own := [("_law_at", 13), ("_law_group", 14)]) (g := (gTup K 2 (gCons (gName 13) (gCons (gName 14) gNil)))) (tt := (tTest (tOp (Xr.rInT K) (tVar 9) (tVar 14)))) (te := (tVar 13)) rfl sc__law_right.nd (Xr.pi_enumT rfl T.enumerate (pa_cons (pe_ix ix_tup (pv 3) pe_int (fun _ _ => rfl)) pa_nil)) (blkOk_by (own := [("_law_at", 13), ("_law_group", 14)]) (N := ["_law_dice_here", "_law_clocks", "_law_readings", "_law_cls", "_law_value", "_law_many", "_law_told", "_law_other", "_law_more", "_law_clock", "_law_top", "_law_bottom", "_law_place", "_law_at", "_law_group"]) (sc := (defScope (topS 48))) (by decide +kernel)) (fun _ _ _ _ _ => (pg_tup rfl (pgs_cons (pg_name (i := 13) sc__law_right.nd rfl (.inl rfl)) (pgs_cons (pg_name (i := 14) sc__law_right.nd rfl (.inl rfl)) pgs_nil)))) (fun _ _ _ _ _ => pts_one (pt_cmpR (Xr.op_inT (u65 hr)) (pv 9) (pv 14) (by rfl))) (fun _ _ _ _ _ => (pv 13))) pe_int (fun _ _ => rfl)))
      (pss_one (ps_if (pt_cmpR (op_neD hr.units) (pe_tup (pa_cons (pv 10) (pa_cons (pv 11) pa_nil))) (pe_callC C__law_fq_low hr rfl (pa_cons (pe_op op_add (pe_op op_mul (pe_ix ix_tup (pe_ix ix_tup (pv 3) pe_int (fun _ _ => rfl)) (pv 9) (fun _ _ => rfl)) (pv 5)) (pv 12)) (pa_cons (pv 5) pa_nil))) (nomark _)) (pss_one (ps_ret pe_bl)) pss_nil))))
      (pss_one (ps_ret pe_bl))))))))))), ?_⟩
    refine g_asg (g_opT (g_c ⟨.ref a, rfl, a, 3, rfl, hD, by decide, by decide, fun r H1 r1 r2 ed1 hD1 => ⟨1, r, rfl, rfl, ?_⟩⟩))
    obtain ⟨n, hn⟩ : ∃ n : Nat, (1 : Int) + r = n := ⟨(1 + r).toNat, by omega⟩
    show gName 1 (.int ((1 : Int) + r)) _ H1 _
    rw [hn]
    have hT1 := tabs_edD hTb ed1 hD
    refine g_asg ⟨.ref a, rfl, .int (n : Nat), rfl, a, n, rfl, hD1, by omega, fun rs v2 H2 hrl hok ed2 hD2 dp2 => ?_⟩
    have hT2 := tabs_edD hT1 ed2 hD1
    have hn1 : 1 ≤ n := by omega
    have hn3 : n ≤ 3 := by omega
    refine q_asgD (d := clsD (classOf rs)) (ed_callr1 (ead1 (ed_var rfl dp2)) ⟨rs, rfl, by omega, by omega, hok, rfl⟩) fun v3 H3 e3 dp3 => ?_
    have hgood : Good n (classOf rs) := hrl ▸ classOf_good (by omega) hok
    have hokC := hgood.okC hn1 hn3
    have hfit := (hgood.fit hn3).mono (show 3 ≤ 60 by decide)
    have hsh := hfit.shaped (by decide)
    obtain ⟨c, hc⟩ : ∃ c, c = classOf rs := ⟨_, rfl⟩
    have hcl : c.1.length = n := by rw [hc]; exact hgood.len
    have hT3 := hT2.ext e3
    have en3 : EN a H H3 := ((EN.ed ed1).trans (EN.ed ed2)).trans (EN.ex e3)
    have dp23 := dp_ex e3 dp2
    rw [← hc] at dp3 hgood hokC hfit hsh
    refine g_if (g_or (g_test (g_opE (ev_var rfl) fun H4 e4 => ⟨v2, rfl, v2, rs, rfl, dp_ex e4 dp23, by omega, hok, hT3.ext e4, fun u H5 eN hT5 du => ?_⟩)))
    have G5 : GS K P0 a H v3 c H5 := GS.extN ⟨en3.trans (EN.ex e4), hD2.ex (e3.trans e4), hT3.ext e4, dp_ex e4 dp3⟩ eN hT5
    rw [← hc] at du
    refine ⟨clsD c, clsD c, G5.dp, du, hsh, hsh, !PyData.eqv (clsD c) (clsD c), rfl, ?_⟩
    rw [eqv_cls, decide_eq_true rfl]
    refine iteF ?_
    have dp25 : Dp K H5 v2 (rdD rs) := dp_extN eN (dp_ex e4 dp23)
    have hBC : EvT (tOr (tNot (tB (tCall (Sr2 K R_isin) [] E0 (tCons (tVar 3) (tCons (tVar 2) tNil))))) (tNot (tB (tCall (SpCls K isCls) [] E0 (tCons (tVar 1) (tCons (tVar 3) tNil)))))) [some (.ref a), some (.int (n : Nat)), some v2, some v3, none, none, none, none, none, none, none, none, none, none, none] H5 false :=
      et_or (a := false) (et_not (a := true) (et_B (ev_bl (ed_callr2 (ead_cons (ed_var rfl G5.dp) (ead1 (ed_var rfl dp25))) ⟨c, rs, rfl, hokC, rfl, by omega, hok, by rw [← hc]; exact hfit, by rw [hc, decide_eq_true rfl]⟩)))) fun _ =>
        et_not (a := true) (et_B (ev_is (ev_bl (ed_callCls (n := (n : Nat)) (d := clsD c) (ev_var rfl) (EvP.x (ed_var rfl G5.dp)) (by omega) (by omega) fun _ => hfit)) (by rw [isCls_good.mpr hgood])))
    refine hBC H5 (Ex.refl _) _ fun H6 e6 => iteF (g_next ?_)
    have G6 := G5.ex e6
    clear hBC
    -- values near the class
    dsimp only
    refine g_for ⟨.ref a, rfl, v3, rfl, a, v3, c, rfl, G6.dc, G6.dp, hokC, fun p xs H7 ed7 hD7 hpa hp7 hxl hix => ⟨p, rfl, ⟨xs, sq_of hp7⟩, w_list (xs := xs) (fun i σ' H' => ∃ y4 y5, σ' = [some (.ref a), some (.int (n : Nat)), some v2, some v3, y4, y5, none, none, none, none, none, none, none, none, none] ∧ GS K P0 a H v3 c H' ∧ H' p = some (.lst xs) ∧ ∀ x ∈ xs, IX K [a] x H')
      ⟨none, none, rfl, G6.ed ed7 hD7, hp7, hix⟩ (fun i σ' H' _ h => by obtain ⟨_, _, _, _, h, _⟩ := h; exact sq_of h) (fun i x σ' H8 hx hI => ?_) fun σ' H8 hI => ?_⟩⟩
    · obtain ⟨y4, y5, rfl, G8, hp8, hix8⟩ := hI
      have hxm := List.mem_of_getElem? hx
      refine g_forS (g_tup (g_cons ⟨.int (n : Nat), rfl, g_cons (g_opT (g_c ⟨.ref a, rfl, a, 3, rfl, G8.dc, by decide, by decide, fun r9 H9 r91 r92 ed9 hD9 => ⟨1, r9, rfl, rfl, g_nil ⟨by show 2 ≤ sizeLine; decide, fun t ht => ⟨t, rfl, ⟨_, st_of upd_same⟩, ?_⟩⟩⟩⟩))⟩))
      have G9 := G8.ed ed9 hD9
      have G10 := G9.ex (Ex.new (o := .tup [.int (n : Nat), .int (1 + r9)]) ht)
      have hp10 : (upd H9 t (.tup [.int (n : Nat), .int (1 + r9)])) p = some (.lst xs) := Ex.new ht _ _ (ed9 _ _ hpa hp8)
      have hix10 : ∀ x ∈ xs, IX K [a] x (upd H9 t (.tup [.int (n : Nat), .int (1 + r9)])) := fun x hx => (hix8 x hx).go ((Ed.drLL ed9).trans (drL_mono (Ex.new ht)))
      have ht10 : SqT K (upd H9 t (.tup [.int (n : Nat), .int (1 + r9)])) t [.int (n : Nat), .int (1 + r9)] := st_of upd_same
      generalize upd H9 t (.tup [.int (n : Nat), .int (1 + r9)]) = H10 at G10 hp10 hix10 ht10
      refine for_tup (xs := [.int (n : Nat), .int (1 + r9)]) (fun k σ' H' => ∃ y5, σ' = [some (.ref a), some (.int (n : Nat)), some v2, some v3, some x, y5, none, none, none, none, none, none, none, none, none] ∧ Ex H10 H') ⟨y5, rfl, Ex.refl _⟩ (fun k σ' H' _ h => by obtain ⟨_, _, h⟩ := h; exact ex_t h ht10) (fun k z σ' H' hz hI => ?_) fun σ' H' hI => ?_
      · obtain ⟨y5', rfl, ex⟩ := hI
        obtain ⟨m, rfl, m1, m3⟩ : ∃ m : Int, z = .int m ∧ 1 ≤ m ∧ m ≤ 3 := by
          have := List.mem_of_getElem? hz
          rcases List.mem_cons.mp this with e | e
          · exact ⟨_, e, by omega, by omega⟩
          · exact ⟨_, List.mem_singleton.mp e, by omega, by omega⟩
        obtain ⟨d, hd, hdf⟩ := hix10 x hxm
        have hdx : DpX K H' x d := dpx_ex (drL_ex.trans ex) hd
        have hev : ∀ H2, Ex H' H2 → ∀ {E : XK}, Ev (tCall (SpCls K isCls) [] E (tCons (tVar 5) (tCons (tVar 4) tNil))) [some (.ref a), some (.int (n : Nat)), some v2, some v3, some x, some (.int m), none, none, none, none, none, none, none, none, none] H2 (.bl (isCls m d)) := fun H2 e E =>
          ev_bl (ed_callCls (ev_var rfl) (fun H3 e3 Q q => ⟨x, rfl, q x H3 (Ex.refl _) (dpx_ex (e.trans e3) hdx)⟩) m1 m3 hdf)
        refine s_if (b := false) (et_is (et_test (ev_op (ev_reprB (hev H' (Ex.refl _))) (ev_reprB (hev H' (Ex.refl _))) (rv_ne rfl))) ?_) (fun z => by cases z) fun _ H2 e2 => ⟨_, rfl, ex.trans e2⟩
        rw [decide_eq_true rfl]
        rfl
      · obtain ⟨y5', rfl, ex⟩ := hI
        exact ⟨_, _, rfl, G10.ex ex, ex _ _ hp10, fun x hx => (hix10 x hx).go (drL_mono ex)⟩
    obtain ⟨y4, y5, rfl, G8, _, _⟩ := hI
    have hgl : ∀ g ∈ c.2, g.length ≤ 3 := fun g hg' => by have := hgood.glen hg'; omega
    obtain ⟨ol1, ol2⟩ := hgood.olen
    -- points
    obtain ⟨tl1, tl2⟩ := told_pt hgood hn3
    have hcp := classOf_pt hgood tl2
    rw [← tl1] at hcp
    refine g_par3 ((ed_callr1 (K := K) (d := rdD (toldR c)) (ead1 (ed_var rfl G8.dp)) ⟨c, rfl, hokC, rfl⟩) H8 (Ex.refl _) _ fun v6 H9 e9 dp6 => ⟨.ref a, rfl, v3, rfl, a, v3, c, rfl, G8.dc.ex e9, dp_ex e9 G8.dp, hokC, fun b ts v7 H10 htp ed10 hD10 dp7 => ⟨.ref a, rfl, .int (n : Nat), rfl, a, n, rfl, hD10, hn3, fun rs2 v8 H11 hrl2 hok2 ed11 hD11 dp8 => ⟨_, _, _, rfl, ?_⟩⟩⟩)
    have G9 := G8.ex e9
    have G10 := G9.ed ed10 hD10
    have G11 := G10.ed ed11 hD11
    have dp6' : Dp K H11 v6 (rdD (toldR c)) := dp_kt (ed11.ktD hD10) (noL_rd _) (dp_kt (ed10.ktD G9.dc) (noL_rd _) dp6)
    have dp7' : Dp K H11 v7 (rdD (ptR c b ts)) := dp_kt (ed11.ktD hD10) (noL_rd _) dp7
    have hgood2 : Good n (classOf rs2) := hrl2 ▸ classOf_good (by omega) hok2
    have hfit2 := (hgood2.fit hn3).mono (show 3 ≤ 60 by decide)
    have hcp2 := classOf_pt hgood htp
    have okT : ∀ x ∈ toldR c, okR x := by rw [tl1]; exact ptR_okR hgood tl2
    have lenT : (toldR c).length = n := by rw [tl1, ptR_len, hcl]
    have E1 : ∀ H', Ex H11 H' → EvT (tTest (tOp (rNeD K) (tCall (Sr1 K R_classof) [] E0 (tCons (tVar 6) tNil)) (tVar 3))) [some (.ref a), some (.int (n : Nat)), some v2, some v3, y4, y5, some v6, some v7, some v8, none, none, none, none, none, none] H' false := fun H' e =>
      et_test (ev_is (ev_neD (d1 := clsD c) (d2 := clsD c) (ed_callr1 (ead1 (ed_var rfl (dp_ex e dp6'))) ⟨toldR c, rfl, by omega, by omega, okT, by rw [hcp]⟩) (ed_var rfl (dp_ex e G11.dp)) hsh hsh) (by rw [eqv_cls, decide_eq_true rfl]; rfl))
    have E2 : ∀ H', Ex H11 H' → EvT (tTest (tOp (rNeD K) (tCall (Sr1 K R_classof) [] E0 (tCons (tVar 7) tNil)) (tVar 3))) [some (.ref a), some (.int (n : Nat)), some v2, some v3, y4, y5, some v6, some v7, some v8, none, none, none, none, none, none] H' false := fun H' e =>
      et_test (ev_is (ev_neD (d1 := clsD c) (d2 := clsD c) (ed_callr1 (ead1 (ed_var rfl (dp_ex e dp7'))) ⟨ptR c b ts, rfl, by rw [ptR_len]; omega, by rw [ptR_len]; omega, ptR_okR hgood htp, by rw [hcp2]⟩) (ed_var rfl (dp_ex e G11.dp)) hsh hsh) (by rw [eqv_cls, decide_eq_true rfl]; rfl))
    have E3 : ∀ H', Ex H11 H' → Ev (tCall (Sr2 K R_isin) [] E0 (tCons (tVar 3) (tCons (tVar 8) tNil))) [some (.ref a), some (.int (n : Nat)), some v2, some v3, y4, y5, some v6, some v7, some v8, none, none, none, none, none, none] H' (.bl (decide (classOf rs2 = c))) := fun H' e =>
      ev_bl (ed_callr2 (ead_cons (ed_var rfl (dp_ex e G11.dp)) (ead1 (ed_var rfl (dp_ex e dp8)))) ⟨c, rs2, rfl, hokC, rfl, by omega, hok2, hfit2, rfl⟩)
    refine g_if (g_or (E1 H11 (Ex.refl _) H11 (Ex.refl _) _ fun H12 e12 => iteF (g_or (E2 H12 e12 H12 (Ex.refl _) _ fun H13 e13 => iteF (g_test (g_opE (E3 H13 (e12.trans e13)) fun H14 e14 => g_opT ⟨v8, rfl, v8, rs2, rfl, dp_ex ((e12.trans e13).trans e14) dp8, by omega, hok2, G11.tb.ext ((e12.trans e13).trans e14), fun u H15 eN hT15 du => ⟨v3, rfl, clsD (classOf rs2), clsD c, du, dp_extN eN (dp_ex ((e12.trans e13).trans e14) G11.dp), hfit2.shaped (by decide), hsh, rfl, false, ?_, ?_⟩⟩))))))
    · rw [eqv_cls, decide_eq_true rfl]
      rfl
    refine iteF (g_next ?_)
    dsimp only
    have G15 : GS K P0 a H v3 c H15 := (G11.ex ((e12.trans e13).trans e14)).extN eN hT15
    have dp615 : Dp K H15 v6 (rdD (toldR c)) := dp_extN eN (dp_ex ((e12.trans e13).trans e14) dp6')
    refine q_asg (v := .int (c.2.length : Nat)) (ev_is (ev_lenT (ed_ixT (i := 1) (ed_var rfl G15.dp) ev_c rfl)) (by rw [List.length_map])) fun H16 e16 => ?_
    have G16 := G15.ex e16
    have dp616 := dp_ex e16 dp615
    refine q_forJ (H0 := H16) (evj_enumT rfl dp616) (Ex.refl _) (fun i σ' H' => ∃ y9 y10 y11 y12, σ' = [some (.ref a), some (.int (n : Nat)), some v2, some v3, y4, some (.int (c.2.length : Nat)), some v6, some v7, some v8, y9, y10, y11, y12, none, none] ∧ Ex H16 H') (fun H17 e17 => ⟨none, none, none, none, rfl, e17⟩) (fun i σ' H' h => by obtain ⟨_, _, _, _, _, h⟩ := h; exact h) (fun i e x σ' H' he hI H17 e17 hx => ?_) fun σ' H' hI => ?_
    · obtain ⟨y9, y10, y11, y12, rfl, ex⟩ := hI
      obtain ⟨z, hz, rfl⟩ := enumD_at he
      have hi : i < n := by
        have := (List.getElem?_eq_some_iff.mp hz).1
        omega
      have hz2 : z = tp c i := by
        unfold toldR at hz
        rw [List.getElem?_map, List.getElem?_range (by omega)] at hz
        exact (Option.some.inj hz).symm
      obtain ⟨u9, u10, u11, q9, q10, q11, q12⟩ := gto_nest (K := K) (i := 9) (j := 10) (k := 11) (d := .int (i : Nat)) (d1 := .int z.1) (d2 := .int z.2) (σ := [some (.ref a), some (.int (n : Nat)), some v2, some v3, y4, some (.int (c.2.length : Nat)), some v6, some v7, some v8, y9, y10, y11, y12, none, none]) hx
      cases dp_int q9
      cases dp_int q10
      cases dp_int q11
      refine q12 _ ?_
      have x17 := ex.trans e17
      have hd17 := dp_ex x17 G16.dp
      have hin : ((i : Nat) : Int) ∈ c.2.flatten := hgood.mem.mpr ⟨by omega, by omega⟩
      obtain ⟨w, w1, w2, w3, w4⟩ := hgood.wAt hi
      refine q_asg (v := .int (pl c.2 (i : Int) : Nat)) (ev_int (ed_ixL (ed_lc (hasP (.int (i : Nat))) fstD (evi_enumT (ed_ixT (i := 1) (d := ordD c.2) (ed_var rfl hd17) ev_c rfl)) ?_ (fun e he hpe => ?_) fun e he x H18 ex18 hx18 => ?_) ev_c (place_at hin))) fun H18 e18 => ?_
      · rw [enumD_len, List.length_map]
        omega
      · obtain ⟨k, d, rfl, _⟩ := enumD_mem he
        rfl
      · obtain ⟨k, hk⟩ := List.mem_iff_getElem?.mp he
        obtain ⟨g, hgk, rfl⟩ := enumD_at hk
        obtain ⟨u13, u14, q13, q14, q15⟩ := gto_two (K := K) (i := 13) (j := 14) (σ := wipe [some (.ref a), some (.int (n : Nat)), some v2, some v3, y4, some (.int (c.2.length : Nat)), some v6, some v7, some v8, some (.int (i : Nat)), some (.int z.1), some (.int z.2), y12, none, none] [13, 14]) hx18
        cases dp_int q13
        refine ⟨_, q15, rfl, et_test (ev_is (ev_inT (d := .int (i : Nat)) (ed_int (ev_var rfl)) (ed_var rfl q14) rfl ?_) rfl), fun _ => ed_int (ev_var rfl)⟩
        have hgl := hgl g (List.mem_of_getElem? hgk)
        exact (ints_fit (by omega)).shaped (by decide)
      · have hd18 := dp_ex (x17.trans e18) G16.dp
        have hwi : (c.1.map PyData.int)[i]? = some (.int w) := by
          rw [List.getElem?_map, w1]
          rfl
        refine s_if (b := false) (et_test (ev_is (ev_neD (d1 := fr z) (d2 := fr (low (w * (c.2.length : Nat) + (pl c.2 (i : Int) : Nat)) (c.2.length : Nat))) (ed_tup (ead_cons (ed_int (ev_var rfl)) (ead1 (ed_int (ev_var rfl)))) (show 2 ≤ 100000 by decide)) (ed_call2 (d1 := .int (w * (c.2.length : Nat) + (pl c.2 (i : Int) : Nat))) (d2 := .int (c.2.length : Nat)) (ead_cons (ed_int (ev_op (ev_op (ev_int (ed_ixT (ed_ixT (i := 0) (ed_var rfl hd18) ev_c rfl) (ev_var rfl) (atI_nat hwi))) (ev_var rfl) (rv_I (.inr ⟨by omega, by omega⟩))) (ev_var rfl) rv_I0)) (ead1 (ed_int (ev_var rfl))))
          (if_pos ⟨by omega, Int.lt_of_lt_of_le (show ((c.2.length : Nat) : Int) < 2 ^ 3 by omega) (by decide)⟩)) (shaped_fr _) (shaped_fr _)) ?_)) (fun z => by cases z) fun _ H19 e19 => ⟨_, _, _, _, rfl, (x17.trans e18).trans e19⟩
        rw [hz2]
        unfold tp
        rw [w2, eqv_fr, decide_eq_true rfl]
        rfl
    · obtain ⟨y9, y10, y11, y12, rfl, ex⟩ := hI
      have G17 := G16.ex ex
      exact q H' G17.en G17.dc G17.tb
end
end Kb
/-! E10: the law. -/
namespace Kb
open PySem PySem.Spec PyProof.Rows L2 Evl Xd LamX
def S_law (K : PySem.W.Frag) (P0 : Addr) : Sp := fun vs H Q _ => ∃ (b : Addr) (ns : List Int), vs = [.ref b] ∧ SqL K H b (ns.map .int) ∧ Tabs (TLam P0) H ∧ ∀ H1, Q (.bl true) H1
theorem en_ext {a : Addr} {H H2 H3 : Hp} (h : H a = none) (e : Ex H H2) (en : EN a H2 H3) : ExtN H H3 := fun b o hb t => en b o (fun z => by rw [z, h] at hb; cases hb) t (e b o hb)
theorem ev_min2 {ta tb : TE} {σ : L2.St} {H : Hp} {i j : Int} (ha : Ev ta σ H (.int i)) (hb : Ev tb σ H (.int j)) : Ev (tCB (fun xs H Q => ∃ i j, xs = [.int i, .int j] ∧ Q (.int (if j < i then j else i)) H) (tCons ta (tCons tb tNil))) σ H (.int (if j < i then j else i)) := fun H1 e Q q =>
  ha H1 e _ fun H2 e2 => hb H2 (e.trans e2) _ fun H3 e3 => ⟨i, j, rfl, q H3 (e2.trans e3)⟩
section
variable {K : PySem.W.Frag} {σ : L2.St} {H : Hp} {ta tb tc : TE} {x y z : PyData}
theorem dI {k : Int} : EvD K (tC (.int k)) σ H (.int k) := ed_int ev_c
theorem dT0 : EvD K (tTup tNil) σ H (.tuple []) := ed_tup ead_nil (show 0 ≤ 100000 by decide)
theorem dT1 (h : EvD K ta σ H x) : EvD K (tTup (tCons ta tNil)) σ H (.tuple [x]) := ed_tup (ead1 h) (show 1 ≤ 100000 by decide)
theorem dT2 (h : EvD K ta σ H x) (h2 : EvD K tb σ H y) : EvD K (tTup (tCons ta (tCons tb tNil))) σ H (.tuple [x, y]) := ed_tup (ead_cons h (ead1 h2)) (show 2 ≤ 100000 by decide)
theorem dT3 (h : EvD K ta σ H x) (h2 : EvD K tb σ H y) (h3 : EvD K tc σ H z) : EvD K (tTup (tCons ta (tCons tb (tCons tc tNil)))) σ H (.tuple [x, y, z]) := ed_tup (ead_cons h (ead_cons h2 (ead1 h3))) (show 3 ≤ 100000 by decide)
end
theorem good1 : Good 3 ([0, 3, 2], [[1], [0, 2]]) := ⟨rfl, by decide, by decide, by decide, by decide, by decide, (srt_eq (by decide) (by decide)).symm, fun i w h => .inl ((by decide : ∀ w ∈ [(0 : Int), 3, 2], w < 4) w (List.mem_of_getElem? h))⟩
theorem good2 : Good 2 ([0, 0], [[], [0], [1]]) := ⟨rfl, by decide, by decide, by decide, by decide, by decide, (srt_eq (by decide) (by decide)).symm, fun i w h => .inl ((by decide : ∀ w ∈ [(0 : Int), 0], w < 4) w (List.mem_of_getElem? h))⟩
theorem told1 : toldR ([0, 3, 2], [[1], [0, 2]]) = [(1, 2), (3, 1), (5, 2)] := by decide +kernel
theorem pt2 : ptR ([0, 0], [[], [0], [1]]) 6 [0, 2, 3] = [(1, 3), (1, 2)] := by decide +kernel
theorem cl1 : classOf [(1, 2), (3, 1), (5, 2)] = ([0, 3, 2], [[1], [0, 2]]) := by
  obtain ⟨h1, h2⟩ := told_pt good1 (by decide)
  have h := classOf_pt good1 h2
  rw [← h1, told1] at h
  exact h
theorem cl2 : classOf [(1, 3), (1, 2)] = ([0, 0], [[], [0], [1]]) := by
  have h := classOf_pt (b := 6) (ts := [0, 2, 3]) good2 ⟨rfl, rfl, by decide, by decide, by decide, by decide⟩
  rw [pt2] at h
  exact h
theorem cl3 : classOf [(4, 1)] = ([4], [[0]]) := by decide +kernel
theorem cl4 : classOf [(0, 1)] = ([0], [[0]]) := by decide +kernel
instance (x : Int × Int) : Decidable (okR x) := by unfold okR; infer_instance
theorem ok1 : ∀ x ∈ [((1 : Int), (2 : Int)), (3, 1), (5, 2)], okR x := by decide +kernel
theorem ok2 : ∀ x ∈ [((1 : Int), (3 : Int)), (1, 2)], okR x := by decide +kernel
theorem ok3 : ∀ x ∈ [((4 : Int), (1 : Int))], okR x := by decide +kernel
theorem ok4 : ∀ x ∈ [((0 : Int), (1 : Int))], okR x := by decide +kernel
theorem cl1_ok : okC ([0, 3, 2], [[1], [0, 2]]) := by
  exact good1.okC (by decide) (by decide)
theorem ic1 : isCls 1 (.tuple [.tuple [.int 4], .tuple [.tuple [], .tuple [.int 0]]]) = false := by decide +kernel
theorem ic2 : isCls 2 (.tuple [.tuple [.int 0, .int 0], .tuple [.tuple [.int 1, .int 0]]]) = false := by decide +kernel
theorem ic3 : isCls 1 (.tuple [.tuple [.int 3], .tuple [.tuple [], .tuple [.int 0]]]) = true := by decide +kernel
def dueD : PyData := .list [clsD ([0, 3, 2], [[1], [0, 2]]), clsD ([0, 0], [[], [0], [1]]), clsD ([4], [[0]]), clsD ([0], [[0]])]
theorem due_sh : SeqAt.shaped dueD = true := by decide +kernel
theorem due_eq : PyData.eqv dueD dueD = true := by decide +kernel
theorem rd_sh : SeqAt.shaped (rdD [(1, 2), (3, 1), (5, 2)]) = true := by decide +kernel
theorem rd_eq : PyData.eqv (rdD [(1, 2), (3, 1), (5, 2)]) (rdD [(1, 2), (3, 1), (5, 2)]) = true := by decide +kernel
section
variable {P : Program} {w : World} {K : PySem.W.Frag} {mg : Str → Option Value} {base : Heap}
theorem sc_law : FnScope ["_law_script", "_law_spot", "_law_dice_here", "_law_turn", "_law_told", "_law_due"] ["_law_script"] (defScope (topS 49)) := ⟨rfl, rfl, rfl, by decide +kernel, rfl, by decide +kernel, by decide +kernel⟩
set_option maxRecDepth 200000 in
theorem ok_law {P0 : Addr} (T : Tb mg) {f : Addr} {fd : FuncData} (F : Fun K "law" "law" (topS 49) f fd) (C__law_dice : Cal P w K mg base "_law_dice" 1 ["_law_script", "_law_spot"] (S_dice K)) (C__law_right : Cal P w K mg base "_law_right" 9 ["_law_dice_here"] (S_right P0)) (C_class_of : Cal P w K mg base "class_of" 8 ["readings"] (Sr1 K R_classof))
    (C_told_point : Cal P w K mg base "told_point" 8 ["cls"] (Sr1 K R_point)) (C_is_class : Cal P w K mg base "is_class" 6 ["clocks", "value"] (SpCls K isCls)) : FnOk P w K mg base CX0 10 f fd ["_law_script"] (S_law K P0) := by
  refine F.ok sc_law (fun vs H Q E h => ?_) (fun cdv A outer s H vs Q E hr h => ?_)
  · obtain ⟨b, ns, rfl, _⟩ := h
    rfl
  · obtain ⟨b, ns, rfl, hs, hTb, q⟩ := h
    refine ⟨_, (pss_cons (ps_for PassesOwn.never rfl (pi_range1 rfl T.range (pa_cons (pe_callB (call_max2 rfl) rfl T.max bt_max (pa_cons pe_int (pa_cons (pe_callB (call_min2 rfl) rfl T.min bt_min (pa_cons pe_int (pa_cons (pe_callB call_len_seq rfl T.len bt_len (pa_cons (pv 0) pa_nil)) pa_nil))) pa_nil))) pa_nil)) (pg_name (i := 1) sc_law.nd rfl (.inl rfl)) (pss_cons (ps_set (i := 2) sc_law.nd rfl (.inl rfl) (pe_callC C__law_dice hr rfl (pa_cons (pv 0) (pa_cons (pv 1) pa_nil))))
      (pss_one (ps_for PassesOwn.never rfl (pi_range1 rfl T.range (pa_cons pe_int pa_nil)) (pg_name (i := 3) sc_law.nd rfl (.inl rfl)) (pss_one (ps_if (pt_not (pt_val (pe_callC C__law_right hr rfl (pa_cons (pv 2) pa_nil)))) (pss_one (ps_ret pe_bl)) pss_nil))))))
      (pss_cons (ps_set (i := 4) sc_law.nd rfl (.inl rfl) (pe_lst (pa_cons (pe_callC C_class_of hr rfl (pa_cons (pe_tup (pa_cons (pe_tup (pa_cons pe_int (pa_cons pe_int pa_nil))) (pa_cons (pe_tup (pa_cons pe_int (pa_cons pe_int pa_nil))) (pa_cons (pe_tup (pa_cons pe_int (pa_cons pe_int pa_nil))) pa_nil)))) pa_nil)) (pa_cons (pe_callC C_class_of hr rfl (pa_cons (pe_tup (pa_cons (pe_tup (pa_cons pe_int (pa_cons pe_int pa_nil))) (pa_cons (pe_tup (pa_cons pe_int (pa_cons pe_int pa_nil))) pa_nil))) pa_nil)) (pa_cons (pe_callC C_class_of hr rfl (pa_cons (pe_tup (pa_cons (pe_tup (pa_cons pe_int (pa_cons pe_int pa_nil))) pa_nil)) pa_nil)) (pa_cons (pe_callC C_class_of hr rfl (pa_cons (pe_tup (pa_cons (pe_tup (pa_cons pe_int (pa_cons pe_int pa_nil))) pa_nil)) pa_nil)) pa_nil))))))
      (pss_cons (ps_set (i := 5) sc_law.nd rfl (.inl rfl) (pe_lst (pa_cons (pe_tup (pa_cons (pe_tup (pa_cons pe_int (pa_cons pe_int (pa_cons pe_int pa_nil)))) (pa_cons (pe_tup (pa_cons (pe_tup (pa_cons pe_int pa_nil)) (pa_cons (pe_tup (pa_cons pe_int (pa_cons pe_int pa_nil))) pa_nil))) pa_nil))) (pa_cons (pe_tup (pa_cons (pe_tup (pa_cons pe_int (pa_cons pe_int pa_nil))) (pa_cons (pe_tup (pa_cons (pe_tup pa_nil) (pa_cons (pe_tup (pa_cons pe_int pa_nil)) (pa_cons (pe_tup (pa_cons pe_int pa_nil)) pa_nil)))) pa_nil))) (pa_cons (pe_tup (pa_cons (pe_tup (pa_cons pe_int pa_nil)) (pa_cons (pe_tup (pa_cons (pe_tup (pa_cons pe_int pa_nil)) pa_nil)) pa_nil))) (pa_cons (pe_tup (pa_cons (pe_tup (pa_cons pe_int pa_nil)) (pa_cons (pe_tup (pa_cons (pe_tup (pa_cons pe_int pa_nil)) pa_nil)) pa_nil))) pa_nil))))))
      (pss_cons (ps_if (PW.pt (pw_or (pt_cmpR (op_neD hr.units) (pv 4) (pv 5) (nomark _)) (pw_or1 (pt_cmpR (op_neD hr.units) (pe_callC C_told_point hr rfl (pa_cons (pe_ix ix_list (pv 5) pe_int (fun _ _ => rfl)) pa_nil)) (pe_tup (pa_cons (pe_tup (pa_cons pe_int (pa_cons pe_int pa_nil))) (pa_cons (pe_tup (pa_cons pe_int (pa_cons pe_int pa_nil))) (pa_cons (pe_tup (pa_cons pe_int (pa_cons pe_int pa_nil))) pa_nil)))) (nomark _))))) (pss_one (ps_ret pe_bl)) pss_nil)
      (pss_one (ps_ret (pe_cmpR (op_eqD hr.units) (pe_lst (pa_cons (pe_callC C_is_class hr rfl (pa_cons pe_int (pa_cons (pe_tup (pa_cons (pe_tup (pa_cons pe_int pa_nil)) (pa_cons (pe_tup (pa_cons (pe_tup pa_nil) (pa_cons (pe_tup (pa_cons pe_int pa_nil)) pa_nil))) pa_nil))) pa_nil))) (pa_cons (pe_callC C_is_class hr rfl (pa_cons pe_int (pa_cons (pe_tup (pa_cons (pe_tup (pa_cons pe_int (pa_cons pe_int pa_nil))) (pa_cons (pe_tup (pa_cons (pe_tup (pa_cons pe_int (pa_cons pe_int pa_nil))) pa_nil)) pa_nil))) pa_nil))) (pa_cons (pe_callC C_is_class hr rfl (pa_cons pe_int (pa_cons (pe_tup (pa_cons (pe_tup (pa_cons pe_int pa_nil)) (pa_cons (pe_tup (pa_cons (pe_tup pa_nil) (pa_cons (pe_tup (pa_cons pe_int pa_nil)) pa_nil))) pa_nil))) pa_nil))) pa_nil)))) (pe_lst (pa_cons pe_bl (pa_cons pe_bl (pa_cons pe_bl pa_nil)))) (nomark _)))))))), ?_⟩
    have hlen : Ev (tCB (rLenS K) (tCons (tVar 0) tNil)) [some (.ref b), none, none, none, none, none] H (.int (ns.length : Nat)) := ev_is (ev_len (ev_var rfl) hs) (by rw [List.length_map])
    obtain ⟨m, hm⟩ : ∃ m : Int, m = if (if (ns.length : Int) < 3 then (ns.length : Int) else 3) > 1 then (if (ns.length : Int) < 3 then (ns.length : Int) else 3) else 1 := ⟨_, rfl⟩
    have hm3 : 1 ≤ m ∧ m ≤ 3 := by
      rw [hm]
      split <;> split <;> omega
    refine q_forR1 (n := m) (ea_cons (ev_is (ev_max2 ev_c (ev_min2 ev_c hlen)) (by rw [hm])) ea_nil) ⟨by omega, by omega⟩ (fun i σ' H' => ∃ y1 y2 y3, σ' = [some (.ref b), y1, y2, y3, none, none] ∧ ExtN H H' ∧ Tabs (TLam P0) H')
      (fun H1 e1 => ⟨none, none, none, rfl, .of e1, hTb.ext e1⟩) (fun i σ' H' hi hI => ?_) fun σ' H' hI => ?_
    · obtain ⟨y1, y2, y3, rfl, hE, hT⟩ := hI
      refine g_asg ⟨.ref b, rfl, .int (i : Nat), rfl, b, ns, i, rfl, Xr.sqL_ext hE hs, by omega, fun a H2 ha e2 hD2 => ?_⟩
      refine s_forR1 (n := 8) (ea_cons ev_c ea_nil) (by decide) (fun k σ' H'' => ∃ y3, σ' = [some (.ref b), some (.int (i : Nat)), some (.ref a), y3, none, none] ∧ EN a H2 H'' ∧ Dc a H'' ∧ Tabs (TLam P0) H'')
        (fun H3 e3 => ⟨y3, rfl, .ex e3, hD2.ex e3, (hT.ext e2).ext e3⟩) (fun k σ' H3 hk hI => ?_) fun σ' H3 hI => ?_
      · obtain ⟨y3', rfl, hE3, hD3, hT3⟩ := hI
        exact ⟨.ref a, rfl, a, rfl, hD3, hT3, fun H4 hE4 hD4 hT4 => ⟨true, rfl, iteF (g_next ⟨_, rfl, hE3.trans hE4, hD4, hT4⟩)⟩⟩
      · obtain ⟨y3', rfl, hE3, hD3, hT3⟩ := hI
        exact ⟨_, _, _, rfl, hE.trans (en_ext ha e2 hE3), hT3⟩
    obtain ⟨y1, y2, y3, rfl, _, _⟩ := hI
    have rd : ∀ rs : List (Int × Int), ∀ {te : TE} {σ : L2.St}, EvD K te σ H' (rdD rs) → 1 ≤ rs.length → rs.length ≤ 3 → (∀ x ∈ rs, okR x) → ∀ {E : XK}, EvD K (tCall (Sr1 K R_classof) [] E (tCons te tNil)) σ H' (clsD (classOf rs)) := fun rs te σ h h1 h3 hok E => ed_callr1 (ead1 h) ⟨rs, rfl, h1, h3, hok, rfl⟩
    refine q_asgD (K := K) (d := dueD) (ed_lst (K := K) (ead_cons (ed_is (rd [(1, 2), (3, 1), (5, 2)] (dT3 (dT2 dI dI) (dT2 dI dI) (dT2 dI dI)) (by decide) (by decide) ok1) (by rw [cl1])) (ead_cons (ed_is (rd [(1, 3), (1, 2)] (dT2 (dT2 dI dI) (dT2 dI dI)) (by decide) (by decide) ok2) (by rw [cl2]))
      (ead_cons (ed_is (rd [(4, 1)] (dT1 (dT2 dI dI)) (by decide) (by decide) ok3) (by rw [cl3])) (ead1 (ed_is (rd [(0, 1)] (dT1 (dT2 dI dI)) (by decide) (by decide) ok4) (by rw [cl4])))))) (show 4 ≤ 100000 by decide)) fun v4 H4 e4 p4 => ?_
    refine q_asgD (K := K) (d := dueD) (ed_lst (K := K) (ead_cons (dT2 (dT3 dI dI dI) (dT2 (dT1 dI) (dT2 dI dI))) (ead_cons (dT2 (dT2 dI dI) (dT3 dT0 (dT1 dI) (dT1 dI))) (ead_cons (dT2 (dT1 dI) (dT1 (dT1 dI))) (ead1 (dT2 (dT1 dI) (dT1 (dT1 dI))))))) (show 4 ≤ 100000 by decide)) fun v5 H5 e5 p5 => ?_
    refine q_when (b := false) (et_or (a := false) (et_test (ev_is (ev_neD (ed_var rfl (dp_ex e5 p4)) (ed_var rfl p5) due_sh due_sh) (by rw [due_eq]; rfl))) fun _ => et_test (ev_is (ev_neD (d1 := rdD [(1, 2), (3, 1), (5, 2)]) (d2 := rdD [(1, 2), (3, 1), (5, 2)]) (ed_callr1 (ead1 (ed_ixL (i := 0) (d := clsD ([0, 3, 2], [[1], [0, 2]])) (ed_var rfl p5) ev_c rfl)) ⟨_, rfl, cl1_ok, by rw [told1]⟩)
      (dT3 (dT2 dI dI) (dT2 dI dI) (dT2 dI dI)) rd_sh rd_sh) (by rw [rd_eq]; rfl))) (fun z => by cases z) fun _ H6 e6 => ?_
    have ic : ∀ (n : Int) (d : PyData) (b : Bool), ∀ {te : TE} {σ : L2.St}, EvD K te σ H6 d → 1 ≤ n → n ≤ 3 → fit 60 d → isCls n d = b → ∀ {E : XK}, EvD K (tCall (SpCls K isCls) [] E (tCons (tC (.int n)) (tCons te tNil))) σ H6 (.bool b) := fun n d b te σ h h1 h3 hf e E => ed_is (ed_callCls ev_c (EvP.x h) h1 h3 fun _ => hf) (by rw [e])
    exact s_ret (ev_is (ev_eqD (d1 := .list [.bool false, .bool false, .bool true]) (d2 := .list [.bool false, .bool false, .bool true]) (ed_lst (ead_cons (ic 1 _ false (dT2 (dT1 dI) (dT2 dT0 (dT1 dI))) (by decide) (by decide) ⟨by decide +kernel, by decide +kernel, by decide +kernel⟩ ic1) (ead_cons (ic 2 _ false (dT2 (dT2 dI dI) (dT1 (dT2 dI dI))) (by decide) (by decide) ⟨by decide +kernel, by decide +kernel, by decide +kernel⟩ ic2)
      (ead1 (ic 1 _ true (dT2 (dT1 dI) (dT2 dT0 (dT1 dI))) (by decide) (by decide) ⟨by decide +kernel, by decide +kernel, by decide +kernel⟩ ic3)))) (show 3 ≤ 100000 by decide)) (ed_lst (ead_cons (ed_bl ev_c) (ead_cons (ed_bl ev_c) (ead1 (ed_bl ev_c)))) (show 3 ≤ 100000 by decide)) (by decide +kernel) (by decide +kernel)) (congrArg V.bl (by decide +kernel))) fun H7 e7 => q H7
end
end Kb
/-! E11: the chain of promises; the end. -/
namespace Kb
open PySem PySem.Spec PyProof.Rows L2 Evl Xd LamX
theorem chain {P : Program} {w : World} {K : PySem.W.Frag} {mg : Str → Option Value} {base : Heap} {f f1 c P0 : Addr} {fd fd1 : FuncData} (T : Tb mg) (FC : FunC K "_law_cq_of" (topS 42) f1 c fd1) (hfc : mg "_law_cq_of" = some (.ref f1)) (TB : TabB base mg c P0) (F : Fun K "law" "law" (topS 49) f fd)
    (D_is_whole : DefAt K mg "is_whole" (topS 7)) (D_is_short : DefAt K mg "is_short" (topS 8)) (D_is_from : DefAt K mg "is_from" (topS 9)) (D_shared_in : DefAt K mg "shared_in" (topS 12)) (D_lowest : DefAt K mg "lowest" (topS 13)) (D_whole_in : DefAt K mg "whole_in" (topS 14)) (D_is_fraction : DefAt K mg "is_fraction" (topS 15)) (D_is_margin : DefAt K mg "is_margin" (topS 16)) (D__law_fq_low : DefAt K mg "_law_fq_low" (topS 40)) (D__law_cq_rest : DefAt K mg "_law_cq_rest" (topS 41)) (D_are_readings : DefAt K mg "are_readings" (topS 21)) (D_are_low : DefAt K mg "are_low" (topS 22)) (D_require_low : DefAt K mg "require_low" (topS 29)) (D_is_lot : DefAt K mg "is_lot" (topS 23)) (D_is_order : DefAt K mg "is_order" (topS 24)) (D_is_class_of : DefAt K mg "is_class_of" (topS 25)) (D_class_in : DefAt K mg "class_in" (topS 27)) (D_is_class_any : DefAt K mg "is_class_any" (topS 26)) (D_require_class : DefAt K mg "require_class" (topS 30)) (D_is_class : DefAt K mg "is_class" (topS 31)) (D_class_of : DefAt K mg "class_of" (topS 32)) (D_is_in : DefAt K mg "is_in" (topS 34)) (D_point_of : DefAt K mg "point_of" (topS 28)) (D_told_point : DefAt K mg "told_point" (topS 33)) (D__law_roll : DefAt K mg "_law_roll" (topS 37)) (D__law_pick : DefAt K mg "_law_pick" (topS 38)) (D__law_dice : DefAt K mg "_law_dice" (topS 36)) (D__law_shuffled : DefAt K mg "_law_shuffled" (topS 39)) (D__law_cq_drawn : DefAt K mg "_law_cq_drawn" (topS 43)) (D__law_cq_point : DefAt K mg "_law_cq_point" (topS 44)) (D__law_are_whole : DefAt K mg "_law_are_whole" (topS 46)) (D__law_is_class : DefAt K mg "_law_is_class" (topS 45)) (D__law_near : DefAt K mg "_law_near" (topS 47)) (D__law_right : DefAt K mg "_law_right" (topS 48)) : FnOk P w K mg base CX0 10 f fd ["_law_script"] (S_law K P0) := by
  have C_is_whole := ok_is_whole (P := P) (w := w) (base := base) T D_is_whole 
  have C_is_short := ok_is_short (P := P) (w := w) (base := base) T D_is_short C_is_whole
  have C_is_from := ok_is_from (P := P) (w := w) (base := base) T D_is_from C_is_whole
  have C_shared_in := ok_shared_in (P := P) (w := w) (base := base) T D_shared_in 
  have C_lowest := ok_lowest (P := P) (w := w) (base := base) T D_lowest C_shared_in
  have C_whole_in := ok_whole_in (P := P) (w := w) (base := base) T D_whole_in 
  have C_is_fraction := ok_is_fraction (P := P) (w := w) (base := base) T D_is_fraction C_is_short C_shared_in
  have C_is_margin := ok_is_margin (P := P) (w := w) (base := base) T D_is_margin C_is_fraction
  have C__law_fq_low := ok_law_fq_low (P := P) (w := w) (base := base) T D__law_fq_low 
  have C__law_cq_rest := ok_law_cq_rest (P := P) (w := w) (base := base) T D__law_cq_rest C__law_fq_low
  have C_are_readings := ok_are_readings (P := P) (w := w) (base := base) T D_are_readings C_is_margin
  have C_are_low := ok_are_low (P := P) (w := w) (base := base) T D_are_low C_are_readings
  have C_require_low := ok_require_low (P := P) (w := w) (base := base) T D_require_low C_are_low
  have C_is_lot := ok_is_lot (P := P) (w := w) (base := base) T D_is_lot C_is_from
  have C_is_order := ok_is_order (P := P) (w := w) (base := base) T D_is_order C_is_lot
  have C_is_class_of := ok_is_class_of (P := P) (w := w) (base := base) T D_is_class_of C_is_from C_is_order
  have C_class_in := ok_class_in (P := P) (w := w) (base := base) T D_class_in C_whole_in
  have C_is_class_any := ok_is_class_any (P := P) (w := w) (base := base) T D_is_class_any C_is_class_of
  have C_require_class := ok_require_class (P := P) (w := w) (base := base) T D_require_class C_is_class_any
  have C_is_class := ok_is_class (P := P) (w := w) (base := base) T D_is_class C_is_from C_is_class_of
  have C_class_of := ok_class_of (P := P) (w := w) (base := base) T D_class_of C_require_low C_class_in
  have C_is_in := ok_is_in (P := P) (w := w) (base := base) T D_is_in C_require_class C_require_low C_class_in
  have C_point_of := ok_point_of (P := P) (w := w) (base := base) T D_point_of C_lowest
  have C_told_point := ok_told_point (P := P) (w := w) (base := base) T D_told_point C_require_class C_point_of
  have C__law_roll := ok_law_roll (P := P) (w := w) (base := base) T D__law_roll 
  have C__law_pick := ok_law_pick (P := P) (w := w) (base := base) T D__law_pick C__law_roll
  have C__law_dice := ok_law_dice (P := P) (w := w) (base := base) T D__law_dice 
  have C__law_shuffled := ok_law_shuffled (P := P) (w := w) (base := base) T D__law_shuffled C__law_roll
  have C__law_cq_drawn := ok_law_cq_drawn (P := P) (w := w) (base := base) T D__law_cq_drawn C__law_roll C__law_pick C__law_fq_low
  have C__law_cq_point := ok_law_cq_point (P := P) (w := w) (base := base) T D__law_cq_point C__law_roll C__law_shuffled C__law_fq_low
  have C__law_are_whole := ok_law_are_whole (P := P) (w := w) (base := base) T D__law_are_whole 
  have C__law_is_class := ok_law_is_class (P := P) (w := w) (base := base) T D__law_is_class C__law_are_whole
  have C__law_near := ok_law_near (P := P) (w := w) (base := base) T D__law_near C__law_roll
  have C__law_cq_of := ok_law_cq_of (P := P) (w := w) (base := base) T FC hfc TB C__law_cq_rest
  have C__law_right := ok_law_right (P := P) (w := w) (base := base) (P0 := P0) T D__law_right C__law_roll C__law_cq_drawn C_class_of C__law_cq_of C_is_in C__law_is_class C__law_near C_is_class C_told_point C__law_cq_point C__law_fq_low
  exact ok_law T F C__law_dice C__law_right C_class_of C_told_point C_is_class
abbrev DefOf {K : PySem.W.Frag} {h : Heap} (X : K.In h) (mg : Str → Option Value) (x : Str) (st : Stmt) : Prop := DefAt K mg x st
theorem def_mk {K : PySem.W.Frag} {h : Heap} {mg : Str → Option Value} (X : K.In h) (G : h.Ns mainGlobals mg) {x : Str} {st : Stmt} {f : Addr} {oc kV doc pm cdv ct : Value} {od an : Option Addr} {osl : Array (Option Value)} (a : PySem.W.nsIn K mainGlobals x = some (some (.ref f)))
    (l : K.lookup f = some ⟨oc, od, .func (PySem.W.fnOf x x (defArgs st) (defBody st) (defScope st) .none kV doc pm an cdv ct), osl⟩) (c : PySem.W.codeIn K cdv x = true) (k : PySem.W.keepIn K (.ref f) = true) : DefAt K mg x st := ⟨f, _, fun_mk l c k, PySem.W.mg_of X G a⟩
/-- the law's promise at the head's heap -/
theorem law_mk {l : PySem.W.OpenLaw} {w : World} {K : PySem.W.Frag} {h : Heap} {mg : Str → Option Value} {fa f1 f2 c P0 : Addr} (X : K.In h) (G : h.Ns mainGlobals mg) (hfa : mg "law" = some (.ref fa)) (T : Tb mg)
    {oc kV doc pm cdv ct oc1 kV1 doc1 pm1 ct1 : Value} {od an od1 an1 : Option Addr} {osl osl1 : Array (Option Value)} (a2 : PySem.W.nsIn K mainGlobals "law" = some (some (.ref f2)))
    (l2 : K.lookup f2 = some ⟨oc, od, .func (PySem.W.fnOf "law" "law" (defArgs (topS 49)) (defBody (topS 49)) (defScope (topS 49)) .none kV doc pm an cdv ct), osl⟩) (c2 : PySem.W.codeIn K cdv "law" = true) (k2 : PySem.W.keepIn K (.ref f2) = true)
    (a1 : PySem.W.nsIn K mainGlobals "_law_cq_of" = some (some (.ref f1))) (l1 : K.lookup f1 = some ⟨oc1, od1, .func (PySem.W.fnOf "_law_cq_of" "_law_cq_of" (defArgs (topS 42)) (defBody (topS 42)) (defScope (topS 42)) .none kV1 doc1 pm1 an1 (.ref c) ct1), osl1⟩)
    (c1 : PySem.W.codeIn K (.ref c) "_law_cq_of" = true) (k1 : PySem.W.keepIn K (.ref f1) = true) (hC : PySem.W.CodeHd h c P0) (hP : h.get? P0 = some { cls := .none, data := .fields #[] }) (nP : K.lookup P0 = none)
    (D_is_whole : DefAt K mg "is_whole" (topS 7)) (D_is_short : DefAt K mg "is_short" (topS 8)) (D_is_from : DefAt K mg "is_from" (topS 9)) (D_shared_in : DefAt K mg "shared_in" (topS 12)) (D_lowest : DefAt K mg "lowest" (topS 13)) (D_whole_in : DefAt K mg "whole_in" (topS 14)) (D_is_fraction : DefAt K mg "is_fraction" (topS 15)) (D_is_margin : DefAt K mg "is_margin" (topS 16)) (D__law_fq_low : DefAt K mg "_law_fq_low" (topS 40)) (D__law_cq_rest : DefAt K mg "_law_cq_rest" (topS 41)) (D_are_readings : DefAt K mg "are_readings" (topS 21)) (D_are_low : DefAt K mg "are_low" (topS 22)) (D_require_low : DefAt K mg "require_low" (topS 29)) (D_is_lot : DefAt K mg "is_lot" (topS 23)) (D_is_order : DefAt K mg "is_order" (topS 24)) (D_is_class_of : DefAt K mg "is_class_of" (topS 25)) (D_class_in : DefAt K mg "class_in" (topS 27)) (D_is_class_any : DefAt K mg "is_class_any" (topS 26)) (D_require_class : DefAt K mg "require_class" (topS 30)) (D_is_class : DefAt K mg "is_class" (topS 31)) (D_class_of : DefAt K mg "class_of" (topS 32)) (D_is_in : DefAt K mg "is_in" (topS 34)) (D_point_of : DefAt K mg "point_of" (topS 28)) (D_told_point : DefAt K mg "told_point" (topS 33)) (D__law_roll : DefAt K mg "_law_roll" (topS 37)) (D__law_pick : DefAt K mg "_law_pick" (topS 38)) (D__law_dice : DefAt K mg "_law_dice" (topS 36)) (D__law_shuffled : DefAt K mg "_law_shuffled" (topS 39)) (D__law_cq_drawn : DefAt K mg "_law_cq_drawn" (topS 43)) (D__law_cq_point : DefAt K mg "_law_cq_point" (topS 44)) (D__law_are_whole : DefAt K mg "_law_are_whole" (topS 46)) (D__law_is_class : DefAt K mg "_law_is_class" (topS 45)) (D__law_near : DefAt K mg "_law_near" (topS 47)) (D__law_right : DefAt K mg "_law_right" (topS 48)) : LawAtS l w K CX0 10 63 "_law_script" mg fa h := by
  have e := hfa.symm.trans (PySem.W.mg_of X G a2)
  cases e
  have one : ∀ {Z : Addr × Addr → Prop}, Z (c, P0) → ∀ p ∈ [(c, P0)], Z p := fun z p hp => by rw [List.mem_singleton.mp hp]; exact z
  refine ⟨_, [(c, P0)], S_law K P0, one (Z := fun p => h.get? p.2 = some { cls := .none, data := .fields #[] }) hP, one (Z := fun p => K.lookup p.2 = none) nP, one (Z := fun p => PySem.W.CodeHd h p.1 p.2) hC, fun s u => .of_eq (fd := PySem.W.fnOf "law" "law" (defArgs (topS 49)) (defBody (topS 49)) (defScope (topS 49)) .none kV doc pm an cdv ct) rfl, fun H a ns hl hb hH hS => ?_, fun base _ _ TB => ?_⟩
  · exact ⟨a, ns, rfl, hS, fun p hp => by rw [List.mem_singleton.mp hp]; exact TabS.nil (hH (c, P0) List.mem_cons_self), fun _ => rfl⟩
  · exact chain T ⟨⟨oc1, od1, kV1, doc1, pm1, an1, ct1, osl1, rfl, l1, c1⟩, k1⟩ (PySem.W.mg_of X G a1) (TB (c, P0) List.mem_cons_self) (fun_mk l2 c2 k2) D_is_whole D_is_short D_is_from D_shared_in D_lowest D_whole_in D_is_fraction D_is_margin D__law_fq_low D__law_cq_rest D_are_readings D_are_low D_require_low D_is_lot D_is_order D_is_class_of D_class_in D_is_class_any D_require_class D_is_class D_class_of D_is_in D_point_of D_told_point D__law_roll D__law_pick D__law_dice D__law_shuffled D__law_cq_drawn D__law_cq_point D__law_are_whole D__law_is_class D__law_near D__law_right
/-- the law's walk, with what the head says of loose names -/
theorem walkX {l : PySem.W.OpenLaw} {q p0 : Program} {loose : List Str} {lv : List (Str × PySem.W.WData)} {YP : World → Heap → Prop} {d : DefRec} {K : Params → PySem.W.Frag} (hn : l.most = some 63) (hdf : d.params.defaults = []) (hY : ∀ (w : World) (h : Heap), YP w h → (K w.params).In h)
    (F : ∀ (w : World) (s0 : Shared) (mg mb : Str → Option Value) (fa : Addr) (h : Heap), YP w h → (K w.params).In h → PySem.W.Ground q loose [] (PySem.W.XL p0 lv) w s0 mg mb h → mg d.name = some (.ref fa) → LawAtS l w (K w.params) CX0 10 63 "_law_script" mg fa h) :
    PySem.W.WalkO q loose (PySem.W.XL p0 lv) YP l.row.toRowW d [] (fun f vs => PySem.call f vs) := by
  refine Att.attach_callB hn hdf fun w s0 s1 mg mb fa o pm cd doc a vs ns G Y _ _ _ hmg hobj hints hlen hbits hg => ?_
  obtain ⟨fd, cs, sp, g1, g2, g3, g4, g5, g6⟩ := F w s0 mg mb fa _ Y (hY w _ Y) G hmg
  exact law_callTs (hY w _ Y) G.T.g G.T.b G.T.builtins G.T.nolimit hg g1 g2 g3 G.T.bmain hobj hints (Nat.le_trans hlen (by decide)) ⟨rfl, by decide, by decide⟩ g6 g4 (fun H z1 z2 => g5 H a ns hlen hbits z1 z2) fun _ _ _ z => z
theorem const_mk {K : PySem.W.Frag} {h : Heap} {mg : Str → Option Value} (X : K.In h) (G : h.Ns mainGlobals mg) {x : Str} {i : Int} {t : Tok} (a : PySem.W.nsIn K mainGlobals x = some (some (.int i t))) : ∃ t, mg x = some (.int i t) := ⟨t, PySem.W.mg_of X G a⟩
end Kb
open PySem PySem.W PyProof.Rows
set_option maxHeartbeats 0 in
theorem PySem.Challenge.cw_anymargin_k08_whole_classes_of_readings_holds : PySem.Challenge.rw_anymargin_k08_whole_classes_of_readings.Holds := by
  w_on
  o_law
  k_head
  (case hw => w_witness2)
  k_fill
  refine Kb.walkX (l := PySem.Challenge.rw_anymargin_k08_whole_classes_of_readings) rfl rfl (fun w h Y => PySem.W.km_in_of Y) ?F
  case F =>
    intro w s0 mg mb fa h Y KX GR hmg
    replace hmg : mg "law" = some (.ref fa) := hmg
    have G := GR.T.g
    have z_isinstance : mg "isinstance" = none := PySem.W.mg_none_of KX G (by k_is)
    have z_int : mg "int" = none := PySem.W.mg_none_of KX G (by k_is)
    have z_bool : mg "bool" = none := PySem.W.mg_none_of KX G (by k_is)
    have z_tuple : mg "tuple" = none := PySem.W.mg_none_of KX G (by k_is)
    have z_len : mg "len" = none := PySem.W.mg_none_of KX G (by k_is)
    have z_abs : mg "abs" = none := PySem.W.mg_none_of KX G (by k_is)
    have z_all : mg "all" = none := PySem.W.mg_none_of KX G (by k_is)
    have z_any : mg "any" = none := PySem.W.mg_none_of KX G (by k_is)
    have z_sorted : mg "sorted" = none := PySem.W.mg_none_of KX G (by k_is)
    have z_list : mg "list" = none := PySem.W.mg_none_of KX G (by k_is)
    have z_range : mg "range" = none := PySem.W.mg_none_of KX G (by k_is)
    have z_zip : mg "zip" = none := PySem.W.mg_none_of KX G (by k_is)
    have z_enumerate : mg "enumerate" = none := PySem.W.mg_none_of KX G (by k_is)
    have z_max : mg "max" = none := PySem.W.mg_none_of KX G (by k_is)
    have z_min : mg "min" = none := PySem.W.mg_none_of KX G (by k_is)
    have z_set : mg "set" = none := PySem.W.mg_none_of KX G (by k_is)
    have z_repr : mg "repr" = none := PySem.W.mg_none_of KX G (by k_is)
    have z_PAIR_fractions : ∃ t, mg "PAIR_fractions" = some (.int 2 t) := by
      refine' Kb.const_mk KX G ?a
      (case a => k_is)
    have z_MOST_NUMBER : ∃ t, mg "MOST_NUMBER" = some (.int 4 t) := by
      refine' Kb.const_mk KX G ?a
      (case a => k_is)
    have z_MOST_CLOCKS : ∃ t, mg "MOST_CLOCKS" = some (.int 3 t) := by
      refine' Kb.const_mk KX G ?a
      (case a => k_is)
    have z_PAIR_classes : ∃ t, mg "PAIR_classes" = some (.int 2 t) := by
      refine' Kb.const_mk KX G ?a
      (case a => k_is)
    have z_G : ∃ t, mg "GREATEST" = some (.int 1000000000000000000000000000000000000000000000000000000000000 t) := by
      refine' Kb.const_mk KX G ?a
      (case a => k_is)
    have D_is_whole : Kb.DefOf KX mg "is_whole" (Kb.topS 7) := by
      refine' Kb.def_mk KX G ?a ?l ?c ?k
      (case a => k_is)
      (case l => k_is)
      (case c => k_is)
      (case k => k_is)
    have D_is_short : Kb.DefOf KX mg "is_short" (Kb.topS 8) := by
      refine' Kb.def_mk KX G ?a ?l ?c ?k
      (case a => k_is)
      (case l => k_is)
      (case c => k_is)
      (case k => k_is)
    have D_is_from : Kb.DefOf KX mg "is_from" (Kb.topS 9) := by
      refine' Kb.def_mk KX G ?a ?l ?c ?k
      (case a => k_is)
      (case l => k_is)
      (case c => k_is)
      (case k => k_is)
    have D_shared_in : Kb.DefOf KX mg "shared_in" (Kb.topS 12) := by
      refine' Kb.def_mk KX G ?a ?l ?c ?k
      (case a => k_is)
      (case l => k_is)
      (case c => k_is)
      (case k => k_is)
    have D_lowest : Kb.DefOf KX mg "lowest" (Kb.topS 13) := by
      refine' Kb.def_mk KX G ?a ?l ?c ?k
      (case a => k_is)
      (case l => k_is)
      (case c => k_is)
      (case k => k_is)
    have D_whole_in : Kb.DefOf KX mg "whole_in" (Kb.topS 14) := by
      refine' Kb.def_mk KX G ?a ?l ?c ?k
      (case a => k_is)
      (case l => k_is)
      (case c => k_is)
      (case k => k_is)
    have D_is_fraction : Kb.DefOf KX mg "is_fraction" (Kb.topS 15) := by
      refine' Kb.def_mk KX G ?a ?l ?c ?k
      (case a => k_is)
      (case l => k_is)
      (case c => k_is)
      (case k => k_is)
    have D_is_margin : Kb.DefOf KX mg "is_margin" (Kb.topS 16) := by
      refine' Kb.def_mk KX G ?a ?l ?c ?k
      (case a => k_is)
      (case l => k_is)
      (case c => k_is)
      (case k => k_is)
    have D__law_fq_low : Kb.DefOf KX mg "_law_fq_low" (Kb.topS 40) := by
      refine' Kb.def_mk KX G ?a ?l ?c ?k
      (case a => k_is)
      (case l => k_is)
      (case c => k_is)
      (case k => k_is)
    have D__law_cq_rest : Kb.DefOf KX mg "_law_cq_rest" (Kb.topS 41) := by
      refine' Kb.def_mk KX G ?a ?l ?c ?k
      (case a => k_is)
      (case l => k_is)
      (case c => k_is)
      (case k => k_is)
    have D_are_readings : Kb.DefOf KX mg "are_readings" (Kb.topS 21) := by
      refine' Kb.def_mk KX G ?a ?l ?c ?k
      (case a => k_is)
      (case l => k_is)
      (case c => k_is)
      (case k => k_is)
    have D_are_low : Kb.DefOf KX mg "are_low" (Kb.topS 22) := by
      refine' Kb.def_mk KX G ?a ?l ?c ?k
      (case a => k_is)
      (case l => k_is)
      (case c => k_is)
      (case k => k_is)
    have D_require_low : Kb.DefOf KX mg "require_low" (Kb.topS 29) := by
      refine' Kb.def_mk KX G ?a ?l ?c ?k
      (case a => k_is)
      (case l => k_is)
      (case c => k_is)
      (case k => k_is)
    have D_is_lot : Kb.DefOf KX mg "is_lot" (Kb.topS 23) := by
      refine' Kb.def_mk KX G ?a ?l ?c ?k
      (case a => k_is)
      (case l => k_is)
      (case c => k_is)
      (case k => k_is)
    have D_is_order : Kb.DefOf KX mg "is_order" (Kb.topS 24) := by
      refine' Kb.def_mk KX G ?a ?l ?c ?k
      (case a => k_is)
      (case l => k_is)
      (case c => k_is)
      (case k => k_is)
    have D_is_class_of : Kb.DefOf KX mg "is_class_of" (Kb.topS 25) := by
      refine' Kb.def_mk KX G ?a ?l ?c ?k
      (case a => k_is)
      (case l => k_is)
      (case c => k_is)
      (case k => k_is)
    have D_class_in : Kb.DefOf KX mg "class_in" (Kb.topS 27) := by
      refine' Kb.def_mk KX G ?a ?l ?c ?k
      (case a => k_is)
      (case l => k_is)
      (case c => k_is)
      (case k => k_is)
    have D_is_class_any : Kb.DefOf KX mg "is_class_any" (Kb.topS 26) := by
      refine' Kb.def_mk KX G ?a ?l ?c ?k
      (case a => k_is)
      (case l => k_is)
      (case c => k_is)
      (case k => k_is)
    have D_require_class : Kb.DefOf KX mg "require_class" (Kb.topS 30) := by
      refine' Kb.def_mk KX G ?a ?l ?c ?k
      (case a => k_is)
      (case l => k_is)
      (case c => k_is)
      (case k => k_is)
    have D_is_class : Kb.DefOf KX mg "is_class" (Kb.topS 31) := by
      refine' Kb.def_mk KX G ?a ?l ?c ?k
      (case a => k_is)
      (case l => k_is)
      (case c => k_is)
      (case k => k_is)
    have D_class_of : Kb.DefOf KX mg "class_of" (Kb.topS 32) := by
      refine' Kb.def_mk KX G ?a ?l ?c ?k
      (case a => k_is)
      (case l => k_is)
      (case c => k_is)
      (case k => k_is)
    have D_is_in : Kb.DefOf KX mg "is_in" (Kb.topS 34) := by
      refine' Kb.def_mk KX G ?a ?l ?c ?k
      (case a => k_is)
      (case l => k_is)
      (case c => k_is)
      (case k => k_is)
    have D_point_of : Kb.DefOf KX mg "point_of" (Kb.topS 28) := by
      refine' Kb.def_mk KX G ?a ?l ?c ?k
      (case a => k_is)
      (case l => k_is)
      (case c => k_is)
      (case k => k_is)
    have D_told_point : Kb.DefOf KX mg "told_point" (Kb.topS 33) := by
      refine' Kb.def_mk KX G ?a ?l ?c ?k
      (case a => k_is)
      (case l => k_is)
      (case c => k_is)
      (case k => k_is)
    have D__law_roll : Kb.DefOf KX mg "_law_roll" (Kb.topS 37) := by
      refine' Kb.def_mk KX G ?a ?l ?c ?k
      (case a => k_is)
      (case l => k_is)
      (case c => k_is)
      (case k => k_is)
    have D__law_pick : Kb.DefOf KX mg "_law_pick" (Kb.topS 38) := by
      refine' Kb.def_mk KX G ?a ?l ?c ?k
      (case a => k_is)
      (case l => k_is)
      (case c => k_is)
      (case k => k_is)
    have D__law_dice : Kb.DefOf KX mg "_law_dice" (Kb.topS 36) := by
      refine' Kb.def_mk KX G ?a ?l ?c ?k
      (case a => k_is)
      (case l => k_is)
      (case c => k_is)
      (case k => k_is)
    have D__law_shuffled : Kb.DefOf KX mg "_law_shuffled" (Kb.topS 39) := by
      refine' Kb.def_mk KX G ?a ?l ?c ?k
      (case a => k_is)
      (case l => k_is)
      (case c => k_is)
      (case k => k_is)
    have D__law_cq_drawn : Kb.DefOf KX mg "_law_cq_drawn" (Kb.topS 43) := by
      refine' Kb.def_mk KX G ?a ?l ?c ?k
      (case a => k_is)
      (case l => k_is)
      (case c => k_is)
      (case k => k_is)
    have D__law_cq_point : Kb.DefOf KX mg "_law_cq_point" (Kb.topS 44) := by
      refine' Kb.def_mk KX G ?a ?l ?c ?k
      (case a => k_is)
      (case l => k_is)
      (case c => k_is)
      (case k => k_is)
    have D__law_are_whole : Kb.DefOf KX mg "_law_are_whole" (Kb.topS 46) := by
      refine' Kb.def_mk KX G ?a ?l ?c ?k
      (case a => k_is)
      (case l => k_is)
      (case c => k_is)
      (case k => k_is)
    have D__law_is_class : Kb.DefOf KX mg "_law_is_class" (Kb.topS 45) := by
      refine' Kb.def_mk KX G ?a ?l ?c ?k
      (case a => k_is)
      (case l => k_is)
      (case c => k_is)
      (case k => k_is)
    have D__law_near : Kb.DefOf KX mg "_law_near" (Kb.topS 47) := by
      refine' Kb.def_mk KX G ?a ?l ?c ?k
      (case a => k_is)
      (case l => k_is)
      (case c => k_is)
      (case k => k_is)
    have D__law_right : Kb.DefOf KX mg "_law_right" (Kb.topS 48) := by
      refine' Kb.def_mk KX G ?a ?l ?c ?k
      (case a => k_is)
      (case l => k_is)
      (case c => k_is)
      (case k => k_is)
    refine' Kb.law_mk (P0 := 259) KX G hmg ⟨z_isinstance, z_int, z_bool, z_tuple, z_len, z_abs, z_all, z_any, z_sorted, z_list, z_range, z_zip, z_enumerate, z_max, z_min, z_set, z_repr, z_G, z_PAIR_fractions, z_MOST_NUMBER, z_MOST_CLOCKS, z_PAIR_classes⟩ ?a2 ?l2 ?c2 ?k2 ?a1 ?l1 ?c1 ?k1 ?hC ?hP ?nP D_is_whole D_is_short D_is_from D_shared_in D_lowest D_whole_in D_is_fraction D_is_margin D__law_fq_low D__law_cq_rest D_are_readings D_are_low D_require_low D_is_lot D_is_order D_is_class_of D_class_in D_is_class_any D_require_class D_is_class D_class_of D_is_in D_point_of D_told_point D__law_roll D__law_pick D__law_dice D__law_shuffled D__law_cq_drawn D__law_cq_point D__law_are_whole D__law_is_class D__law_near D__law_right
    (case a2 => k_is)
    (case l2 => k_is)
    (case c2 => k_is)
    (case k2 => k_is)
    (case a1 => k_is)
    (case l1 => k_is)
    (case c1 => k_is)
    (case k1 => k_is)
    (case hC => exact PySem.W.codeHd_of_K KX rfl)
    (case hP => exact PySem.W.km_tabs_of Y _ List.mem_cons_self)
    (case nP => rfl)
