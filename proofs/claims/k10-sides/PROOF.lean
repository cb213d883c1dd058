import PyProof.Rows.All
import Wide.All
import OpenK.AllK
import Wide.FinOn
import HandS.ForMost
import KE.GoesEnum
import PyProof.Draws
import KE.SortData
import KE.SortKeyHeap
import HandS.Lambda
import OpenK.KOps
import HandS.Flow
import HandS.Style
import HandS.Defaults
import HandS.IsInst
import HandS.TupAny
import HandS.Star
import HandS.WideBits
import PySem.Challenge.RW_smallheld_k10_whole_sides_changed
import HandS.Evl
import KE.SortLaws
import KE.KNestM
import HandS.EndTab
set_option Elab.async false
set_option linter.all false
set_option maxRecDepth 100000
set_option maxHeartbeats 4000000
/-! rules that the layer lacks: for i, x in enumerate(a tuple) -/
namespace K10
open PySem PySem.Spec PyProof.Rows L2
theorem enumT_meets {v : Value} {oI : Obj} {G : Heap → Prop} (B : Begins v oI G) :
    Meets (Builtin.«enumerate.__new__» ⟨[.type "enumerate", v], []⟩) (fun _ R s => G s.heap ∧
      R (.ok (.ret (.ref (s.heap.push oI).objs.size))) { s with heap := (s.heap.push oI).push { cls := .type "enumerate", data := .fields #[.none, .bool false, .ref s.heap.objs.size, rawInt 0, .none, .none] } }) :=
  .of_wp fun prog w A R s hh => by
    obtain ⟨hp1, g1, d1, tk1, os1⟩ := s
    obtain ⟨hG, hh⟩ := hh
    have hsub := sub_enumerate
    have bg : ∀ {A' : Around} {E : Value → Shared → Prop} {Q : Value → Shared → Prop}, Q (.ref hp1.objs.size) ⟨hp1.push oI, g1, d1, tk1, os1⟩ → wpAny (model prog w) A' (pyIter v) Q E ⟨hp1, g1, d1, tk1, os1⟩ :=
      fun q => B.iter prog w _ _ ⟨hp1, g1, d1, tk1, os1⟩ _ hG q
    wp_walk using bg
    refine wpAny_stack_any fun st => wpAny_pure ?_
    split
    · rename_i c _ _ _ _ _
      cases (c == Value.type "enumerate")
      · wp_walk using bg
        exact ⟨_, rfl, hh⟩
      · wp_walk using bg
        exact ⟨_, rfl, hh⟩
    · wp_walk using bg
      exact ⟨_, rfl, hh⟩
theorem enumT_call {prog : Program} {w : World} {A : Around} {E : Value → Shared → Prop} {s : Shared} {v : Value} {oI : Obj} {G : Heap → Prop} {Q : Value → Shared → Prop} (B : Begins v oI G) (hG : G s.heap)
    (k : ∀ h', IsEnum h' (s.heap.objs.size + 1) s.heap.objs.size 0 .none → h'.get? s.heap.objs.size = some oI → (∀ b o, s.heap.get? b = some o → h'.get? b = some o) → Q (.ref (s.heap.objs.size + 1)) { s with heap := h' }) :
    wpAny (model prog w) A (call (.type "enumerate") [v]) Q E s := by
  refine callType_new F.called_enumerate (by decide) (F.typeCall_enumerate_1 _) (F.newCall_enumerate_1 _) (fun obj => F.args_object_init_2 obj _) F.entry_enumerate_new (enumT_meets B) ⟨hG, ?_⟩
  have sz : (s.heap.push oI).objs.size = s.heap.objs.size + 1 := Heap.size_push ..
  show _ ∧ _
  rw [sz]
  have hE : IsEnum ((s.heap.push oI).push { cls := .type "enumerate", data := .fields #[.none, .bool false, .ref s.heap.objs.size, rawInt 0, .none, .none] }) (s.heap.objs.size + 1) s.heap.objs.size 0 .none := by
    have q := Heap.get?_push_size (s.heap.push oI) (o := { cls := .type "enumerate", data := .fields #[.none, .bool false, .ref s.heap.objs.size, rawInt 0, .none, .none] }) rfl
    rw [sz] at q
    exact q
  exact ⟨⟨_, hE, rfl⟩, k _ hE (Heap.get?_push_of_some _ (Heap.get?_push_size _ B.free)) fun b o x => Heap.get?_push_of_some _ (Heap.get?_push_of_some _ x)⟩
/-- the tuple at a as it stands at each turn, each item in a new pair -/
def IteT (K : PySem.W.Frag) (a : Addr) : It :=
  ⟨fun i H => ∃ (xs : List V) (x : V), SqT K H a xs ∧ xs[i]? = some x, fun i H v H' => ∃ T x, v = .ref T ∧ H T = none ∧ H' = upd H T (.tup [.int (i : Nat), x]) ∧ ∀ xs, SqT K H a xs → xs[i]? = some x,
    fun i H => ∃ xs : List V, SqT K H a xs ∧ xs.length ≤ i⟩
theorem turn_enumT {P : Program} {w : World} {K : PySem.W.Frag} {elts : List Expr} {kk : Nat} {tpos : Pos} (a e it : Addr) :
    Turn P w K (.Tuple elts kk tpos) (IteT K a) [e, it] e (fun i h => (∃ old, IsEnum h e it ((i : Nat) : Int) old) ∧ h.IsTupleIter it a i ∧ e ≠ it) where
  mem := by simp
  obj := fun i h st b hb => by
    obtain ⟨⟨old, he⟩, ⟨o1, ho1, hc1, hd1⟩, _⟩ := st
    rcases (show b = e ∨ b = it from by simpa using hb) with z | z
    · rw [z]
      exact ⟨_, he, fun v q => nomatch q⟩
    · rw [z]
      exact ⟨o1, ho1, fun v q => by rw [hd1] at q; cases q⟩
  keep := fun i h h' st k => ⟨st.1.elim fun old he => ⟨old, k e (by simp) _ he⟩, st.2.1.at fun o q => k it (by simp) o q, st.2.2⟩
  item := by
    intro X eP ew eK hc i pins s σ H E I hf st hg
    subst eP ew eK
    obtain ⟨⟨old, he⟩, hit, hne⟩ := st
    obtain ⟨xs, x, hq, hx⟩ := hg
    obtain ⟨its, rv, p, hz⟩ := I.tuple hq
    obtain ⟨u, hu, ru⟩ := rv.get hx
    have hlt : i < its.toArray.size := by
      have := (List.getElem?_eq_some_iff.mp hu).1
      rw [List.size_toArray]
      exact this
    have lt1 : e < s.heap.objs.size := Heap.lt_size he
    have lt2 : it < s.heap.objs.size := by
      obtain ⟨_, q, _⟩ := hit
      exact Heap.lt_size q
    have ta : a ≠ it := fun z => by
      obtain ⟨o1, q1, c1, _⟩ := hit
      obtain ⟨o2, q2, c2, _⟩ := p
      rw [z, q1] at q2
      cases q2
      rw [c1] at c2
      exact absurd c2 (by decide)
    have tae : a ≠ e := fun z => by
      obtain ⟨o2, q2, c2, _⟩ := p
      rw [z, he] at q2
      cases q2
      exact absurd (show Value.type "enumerate" = Value.type "tuple" from c2) (by decide)
    refine wpAny_pyNext_enum_itemD (Draws.tuple (show X.A.in1.handled = none from I.ok.hd hc) it a ta its.toArray) he ⟨hit, p⟩ hlt hne (by simp [hne, Ne.symm tae]) fun y h' tk hy ho st' hT hsz hk => ?_
    obtain ⟨hit', _⟩ := st'
    have ey : y = u := by
      have hu' : its.toArray[i]? = some u := by simpa using hu
      exact Option.some.inj (hy.symm.trans hu')
    subst ey
    refine ⟨_, rfl, wpAny_letOwnedTupleGo_enum (s := { s with heap := h', toks := tk + 1 }) ho fun h2 he' sb => ?_⟩
    have hT2 : h2.get? s.heap.objs.size = some { cls := .type "tuple", data := .seq #[.int i tk, y] } := (sb.2 _ (Nat.ne_of_gt lt1)).trans hT
    have new : ObjOk X.prog X.w (upd H s.heap.objs.size (.tup [.int (i : Nat), x])) h2 s.heap.objs.size (.tup [.int (i : Nat), x]) :=
      ⟨by show 2 ≤ sizeLine; decide, [.int i tk, y], .cons ⟨_, rfl⟩ (.cons ru .nil), ⟨_, hT2, rfl, _, rfl⟩⟩
    have I1 : Inv X pins σ (upd H s.heap.objs.size (.tup [.int (i : Nat), x])) { s with heap := h2, toks := tk + 1 } :=
      I.turnedNew (ch := [e, it]) (fun b ob hb q => (sb.2 b (fun z => hb (by simp [z]))).trans (hk b ob (fun z => hb (by simp [z])) (fun z => hb (by simp [z])) q)) hf (Nat.le_refl _) new
    refine ⟨.ref s.heap.objs.size, _, I1, rfl, ⟨_, x, rfl, I.hok.fresh (Nat.le_refl _), rfl, fun ys hy => by rw [I.tuple_inj hy hq]; exact hx⟩, ⟨⟨y, ?_⟩, hit'.at fun o q => (sb.2 it (Ne.symm hne)).trans q, hne⟩, fun b hb => ?_⟩
    · rw [show ((i + 1 : Nat) : Int) = (i : Int) + 1 from by omega]
      exact he'
    · have hb' : b < s.heap.objs.size := by
        rcases (show b = e ∨ b = it from by simpa using hb) with z | z
        · rw [z]; exact lt1
        · rw [z]; exact lt2
      rw [upd_ne (Nat.ne_of_lt hb')]
      exact (hf b hb).1
  done := by
    intro X eP ew eK hc i pins s σ H E I hf st hg
    subst eP ew eK
    obtain ⟨⟨old, he⟩, hit, hne⟩ := st
    obtain ⟨xs, hq, hx⟩ := hg
    obtain ⟨its, rv, p, hz⟩ := I.tuple hq
    obtain ⟨f0, f1, f2, f3, f4, f5⟩ := hf it (by simp)
    have hl := rv.length
    have hT : s.TypeIs (.ref e) "enumerate" := ⟨_, he, rfl⟩
    unfold pyNext
    refine wpAny_bind (wpAny_attempt (wpAny_callSpecial?_slot (name := Str.ofString "__next__") hT F.slot_enumerate_next (wpAny_call_entry F.slot_enumerate_next hT F.entry_enumerate_next ?_ (F.args_enumerate_next_1 _))))
    show wpAny _ _ (field (.ref e) 2 >>= _) _ _ _
    refine wpAny_bind (wpAny_field he rfl (x := .ref it) rfl (wpAny_bind (wpAny_nextOf_tuple_end (show X.A.in1.handled = none from I.ok.hd hc) hit (show s.heap.IsTuple a its.toArray from p) (by simp; omega) fun h' x he' hx' => ?_)))
    obtain ⟨o, ho, hco⟩ := hx'
    refine wpAny_bind (wpAny_isInstance (T := "StopIteration") (b := true) ⟨o, ho, hco⟩ isSubtype_stop (wpAny_pure ⟨rfl, ?_⟩))
    exact I.turned (t' := s.toks) (fun b o hb q => he' b o hb q) f0 f1 f3 f4 f5
  self := fun A i s Q E st h => st.1.elim fun _ he => wpAny_pyIter_enum he h
def iEnumT (K : PySem.W.Frag) (ta : TA) : TI := fun σ H R => ta σ H fun vs H1 => ∃ a xs, vs = [.ref a] ∧ SqT K H1 a xs ∧ R (IteT K a) H1
theorem pi_enumT {X : Cx} {e : Expr} {ta : TA} {p pos tpos : Pos} {elts : List Expr} {kk : Nat} (hg : Gl X "enumerate") (hm : X.mg "enumerate" = none) (ha : PA X [e] ta) (hs : starEach [e] X.env = [(false, eval e X.env)] := by rfl) :
    PI X (.Tuple elts kk tpos) (.Call (.Name "enumerate" p) [e] [] pos) (iEnumT X.K ta) := by
  refine ⟨fun pins s σ H R I h => Call_ (ld_blt I hg hm boot_enumerate (PyProof.Rows.callWith_type1 (thn (ha.run pos pins s σ H _ I h) fun us s1 ⟨vs, H1, I1, r1, q1⟩ => ?_) hs rfl))⟩
  obtain ⟨a, xs, ex, hq, q⟩ := q1
  subst ex
  obtain rfl := Vals.ref1 r1
  obtain ⟨its, rv, p', hz⟩ := I1.tuple hq
  refine enumT_call (begins_tuple a its.toArray) p' fun h' he hit hk => wpAny_pyIter_enum he ?_
  have I2 : Inv X pins σ H1 { s1 with heap := h' } := I1.kept (t' := s1.toks) hk
  refine ⟨s1.heap.objs.size + 1, [s1.heap.objs.size + 1, s1.heap.objs.size], _, _, H1, rfl, I2, turn_enumT a (s1.heap.objs.size + 1) s1.heap.objs.size, ⟨⟨.none, he⟩, ⟨_, hit, rfl, rfl⟩, Nat.succ_ne_self _⟩, fun b hb => ?_, q⟩
  have hle : s1.heap.objs.size ≤ b := by
    rcases (show b = s1.heap.objs.size + 1 ∨ b = s1.heap.objs.size from by simpa using hb) with z | z
    · rw [z]; exact Nat.le_add_right _ _
    · rw [z]; exact Nat.le_refl _
  exact I1.fpOk hle (I1.hok.fresh hle)
end K10

/-! rules that the layer lacks: t[::-1], t a pair -/
namespace K10
open PySem PySem.Spec PyProof.Rows L2 HT
theorem rev2_applied {prog : Program} {w : World} {A : Around} {E : Value → Shared → Prop} {s : Shared} {sl : Addr} {t : Tok} {Q : Int × Int × Nat → Shared → Prop} (hs : s.heap.IsSliceOf sl .none .none (.int (-1) t))
    (h : Q (1, -1, 2) s) : wpAny (model prog w) A (Builtin.Slice.sliceApplied (.ref sl) (pure ((2 : Nat) : Int))) Q E s := by
  obtain ⟨ob, hob, _, hfl⟩ := id hs
  unfold Builtin.Slice.sliceApplied Builtin.Slice.sliceFields
  refine wpAny_bind (wpAny_bind (wpAny_field hob hfl (x := .none) rfl (wpAny_bind (wpAny_field hob hfl (x := .none) rfl (wpAny_bind (wpAny_field hob hfl (x := .int (-1) t) rfl (wpAny_pure ?_)))))))
  refine wpAny_bind (slicePart_int ?_)
  show wpAny _ _ (if ((-1 : Int) == 0) = true then _ else _) _ _ s
  rw [if_neg (by decide)]
  exact wpAny_bind (slicePart_none (wpAny_bind (slicePart_none (wpAny_bind (wpAny_pure (wpAny_pure h))))))
theorem rev2_item {prog : Program} {w : World} {A : Around} {E : Value → Shared → Prop} {s : Shared} {t sl : Addr} {u0 u1 : Value} {tk : Tok} {Q : Value → Shared → Prop} (ht : IsTup s.heap t #[u0, u1]) (hs : s.heap.IsSliceOf sl .none .none (.int (-1) tk))
    (h : Q (.ref s.heap.objs.size) { s with heap := s.heap.push { cls := .type "tuple", data := .seq #[u1, u0] } }) : wpAny (model prog w) A (getItem (.ref t) (.ref sl)) Q E s := by
  obtain ⟨ob, hob, hcl, _⟩ := id hs
  have hT : s.TypeIs (.ref sl) "slice" := ⟨ob, hob, hcl⟩
  unfold getItem
  try with_reducible refine wpAny_holding ?_
  first | refine wpAny_bind (wpAny_pure ?_) | skip
  refine wpAny_bind (wpAny_sequenceKey ht.typeIs (by decide) (wpAny_bind (wpAny_callSpecial?_slot (name := Str.ofString "__getitem__") ht.typeIs PyProof.Rows.slot_tuple_getitem
    (wpAny_call_entry PyProof.Rows.slot_tuple_getitem ht.typeIs entry_tuple_getitem ?_ (args_tuple_getitem _ _)))))
  show wpAny _ _ (Builtin.Tuple.tupleItemsOf (.ref t) >>= _) _ _ s
  refine wpAny_bind (tupleItemsOf_ ht (wpAny_bind (wpAny_typeOf hT ?_)))
  rw [if_pos (by decide)]
  refine wpAny_bind (rev2_applied hs ?_)
  show wpAny _ _ (if ((1 : Int) == 0 && (-1 : Int) == 1 && (2 : Nat) == 2) = true then _ else _) _ _ s
  rw [if_neg (by decide)]
  have ok : sizeOk (.seq #[u1, u0]) := by
    show 2 ≤ sizeLine
    decide
  first
    | exact wpAny_bind (m := Builtin.Tuple.tupleExact _) (wpAny_newObj_type (wpAny_pure ⟨_, rfl, wpAny_pure h⟩) ok)
    | exact wpAny_bind (m := Builtin.Tuple.tupleExact _) (wpAny_newObj_type (wpAny_bind (wpAny_pure (wpAny_pure ⟨_, rfl, wpAny_pure h⟩))) ok)
    | exact wpAny_bind (wpAny_bind (m := Builtin.Tuple.tupleExact _) (wpAny_newObj_type (wpAny_pure (wpAny_pure ⟨_, rfl, wpAny_pure h⟩)) ok))
    | exact wpAny_bind (wpAny_bind (m := Builtin.Tuple.tupleExact _) (wpAny_newObj_type (wpAny_pure ⟨_, rfl, wpAny_pure h⟩) ok))
def tRev2 (K : PySem.W.Frag) (te : TE) : TE := fun σ H Q => te σ H fun x H1 => ∃ a v0 v1, x = .ref a ∧ SqT K H1 a [v0, v1] ∧ ∀ p, H1 p = none → Q (.ref p) (upd H1 p (.tup [v1, v0]))
theorem pe_revT {X : Cx} {e : Expr} {te : TE} {k : Nat} {p1 p2 p3 pos : Pos} (he : PE X e te) : PE X (.Subscript e (.Slice none none (some (.UnaryOp .USub (.Constant (.int 1) k p1) p2)) p3) pos) (tRev2 X.K te) := by
  refine ⟨fun pins s σ H Q I h => Subscript_ (thn (he.run pins s σ H _ I h) fun v s1 ⟨x, H1, I1, r1, a, v0, v1, ex, hx, q⟩ => ?_)⟩
  subst ex
  cases r1
  have hst : PO X (some (.UnaryOp .USub (.Constant (.int 1) k p1) p2)) (tPart (tUn (rU fun i => .int (-i)) (tC (.int 1)))) := po_some (pe_un un_neg pe_int)
  refine wpAny_Slice (thn (po_none.run pins s1 σ H1 (fun o H2 => o = none ∧ H2 = H1) I1 ⟨rfl, rfl⟩) fun vl s2 ⟨l, H2, I2, pl, el, e2⟩ => ?_)
  subst el e2
  refine thn (po_none.run pins s2 σ H2 (fun o H3 => o = none ∧ H3 = H2) I2 ⟨rfl, rfl⟩) fun vu s3 ⟨u, H3, I3, pu, eu, e3⟩ => ?_
  subst eu e3
  refine thn (hst.run pins s3 σ H3 (fun o H4 => o = some (-1) ∧ H4 = H3) I3 ⟨1, rfl, -1, rfl, rfl, rfl⟩) fun vs s4 ⟨o, H4, I4, pst, eo, e4⟩ => ?_
  subst eo e4
  cases pl
  cases pu
  cases pst with
  | int i t =>
    have I5 : Inv X pins σ H4 { s4 with heap := s4.heap.push { cls := .type "slice", data := .fields #[.none, .none, .int (-1) t] } } := I4.kept (t' := s4.toks) fun b ob q => Heap.get?_push_of_some _ q
    obtain ⟨its, r, ht, hz⟩ := I5.tuple hx
    cases r with
    | cons q0 r =>
      cases r with
      | cons q1 r =>
        cases r
        show wpAny (model X.prog X.w) X.A (subscriptTail e (.Slice none none (some (.UnaryOp .USub (.Constant (.int 1) k p1) p2)) p3) (.ref a) (.ref s4.heap.objs.size)) (EP X pins σ Q) X.xe { s4 with heap := s4.heap.push { cls := .type "slice", data := .fields #[.none, .none, .int (-1) t] } }
        refine tail_any (ops := [.ref a, .ref s4.heap.objs.size]) ht.typeIs PyProof.Rows.slot_tuple_getitem.lookup (rev2_item ht (Heap.IsSliceOf.new _ .none .none (.int (-1) t)) ?_) (by with_unfolding_all rfl)
        refine ⟨.ref _, _, I5.laid (t' := s4.toks) (o := .tup [v1, v0]) (fun b ob q => Heap.get?_push_of_some _ q) (Nat.le_refl _) ?_, rfl, q _ (I5.hok.fresh (Nat.le_refl _))⟩
        exact ⟨by show 2 ≤ sizeLine; decide, [_, _], .cons q1 (.cons q0 .nil), IsTup.new _ _⟩
end K10

/-! rules that the layer lacks: sorted of tuples of whole numbers -/
namespace K10
open PySem PySem.Spec PyProof.Rows L2
abbrev TupsR (H : Hp) : List Addr → List (List V) → Prop := Paired fun a xs => H a = some (.tup xs)
def rowD (r : List Int) : PyData := .tuple (r.map .int)
theorem rowD_le : PySem.W.dataLe false rowD = fun p q => decide (p ≤ q) := by
  funext p q
  show (!PySem.W.dataLt (.tuple (q.map .int)) (.tuple (p.map .int))) = _
  rw [PySem.W.dataLt_tuple]
  show (!PySem.W.rowLt (q.map .int) (p.map .int)) = _
  rw [PySem.W.dataLt_ints]
  by_cases h : q < p
  · rw [decide_eq_true h, decide_eq_false (fun r => List.not_lt.mpr r h)]
    rfl
  · rw [decide_eq_false h, decide_eq_true (List.not_lt.mp h)]
    rfl
theorem dpAll_ints {K : PySem.W.Frag} {H : Hp} : ∀ r : List Int, DpAll K H (r.map V.int) (r.map PyData.int)
  | [] => .nil
  | i :: r => .cons (.int i) (dpAll_ints r)
theorem row_reads {X : Cx} {pins : List (Addr × Obj)} {σ : L2.St} {H : Hp} {s : Shared} {t : Addr} {r : List Int} (I : Inv X pins σ H s) (h : H t = some (.tup (r.map V.int))) : ∃ as, Reads s.heap (.ref t) (rowD r) as :=
  Dp.reads I _ (.ref t) (.ref t) (.tup (SqT.of h) (dpAll_ints r)) rfl
/-- what an item of the list stands for -/
def RowV (H : Hp) (v : Value) (r : List Int) : Prop := ∃ t, v = .ref t ∧ H t = some (.tup (r.map V.int))
theorem each_rows {H : Hp} : ∀ {as : List Addr} {rs : List (List Int)} {us : List Value}, TupsR H as (rs.map fun r => r.map V.int) → Vals (as.map V.ref) us → PySem.W.EachIs (RowV H) us rs
  | [], [], _, _, .nil => .nil
  | [], _ :: _, _, h, _ => by cases h
  | _ :: _, [], _, h, _ => by cases h
  | a :: as, r :: rs, _, .cons h t, .cons e q => .cons ⟨a, e, h⟩ (each_rows t q)
theorem rows_each {H : Hp} : ∀ {us : List Value} {rs : List (List Int)}, PySem.W.EachIs (RowV H) us rs → ∃ bs : List Addr, TupsR H bs (rs.map fun r => r.map V.int) ∧ Vals (bs.map V.ref) us
  | _, _, .nil => ⟨[], .nil, .nil⟩
  | _, _, .cons ⟨t, e, h⟩ q => by
    obtain ⟨bs, h1, h2⟩ := rows_each q
    exact ⟨t :: bs, .cons h h1, .cons e h2⟩
def rSortRows (K : PySem.W.Frag) : List V → Hp → VK → Prop := fun vs H Q => ∃ (l : Addr) (as : List Addr) (rs : List (List Int)), vs = [.ref l] ∧ SqL K H l (as.map .ref) ∧ TupsR H as (rs.map fun r => r.map V.int) ∧ (∀ r ∈ rs, ∃ x t, r = x :: t) ∧
  ∀ (p : Addr) (bs : List Addr), H p = none → TupsR H bs ((rs.mergeSort fun p q => decide (p ≤ q)).map fun r => r.map V.int) → Q (.ref p) (upd H p (.lst (bs.map .ref)))
theorem cr_sortedRows {X : Cx} (hu : X.A.units + 64 < cLine) : CallR X (.builtin "sorted") (rSortRows X.K) := by
  intro pins s σ H vs us Q I rv h
  obtain ⟨l, as, rs, rfl, hl, ht, hne, q⟩ := h
  obtain rfl := Vals.ref1 rv
  obtain ⟨its, r, pl, hz⟩ := I.list hl
  have e := each_rows ht r
  have eL : rs.length = its.length := e.length.symm
  have hsz : rs.length ≤ sizeLine := by
    rw [eL, ← r.length]
    exact hz
  have er : PySem.W.EachIs (fun v b => ∃ as, Reads s.heap v (rowD b) as) its rs := e.mono fun v b hv => by
    obtain ⟨t, ev, hT⟩ := hv
    subst ev
    exact row_reads I hT
  have sb : PySem.W.Sortable (rs.map rowD) := .inl fun d hd => by
    obtain ⟨b, hb, rfl⟩ := List.mem_map.mp hd
    obtain ⟨x, t, rfl⟩ := hne b hb
    exact ⟨_, _, rfl⟩
  have al : PySem.W.AllAlike (rs.map rowD) := PySem.W.AllAlike.of fun b b' => PySem.W.alike_ints b b'
  have un : ∀ b, b ∈ rs → X.A.units + 2 + (rowD b).depth < cLine := fun b hb => by
    have : (rowD b).depth = PyData.depthAll (b.map .int) + 1 := rfl
    rw [this, PySem.W.depth_ints]
    omega
  refine PySem.W.sorted_data (enc := rowD) pl.isList e er al sb hsz un fun out hout eo => ?_
  · rw [rowD_le] at eo
    obtain ⟨bs, h1, h2⟩ := rows_each eo
    obtain ⟨ep, hat⟩ := PyProof.Rows.sortedAll_at s.heap its (List.toArray out)
    have lb : (bs.map V.ref).length ≤ sizeLine := by
      rw [h2.length, hout]
      exact hsz
    exact ⟨.ref _, upd H (s.heap.objs.size + 1) (.lst (bs.map .ref)), I.laid (t' := s.toks) (fun _ _ => PyProof.Rows.sortedAll_old) (Nat.le_succ _) ⟨lb, out, ep, h2, hat⟩, rfl, q _ bs (I.hok.fresh (Nat.le_succ _)) h1⟩
end K10

/-! rules that the layer lacks: sorted(xs, key=lambda piece: piece[:2]), xs a list of tuples of four whole numbers -/
namespace K10
open PySem PySem.Spec PyProof.Rows L2 LamX
section
variable {prog : Program} {w : World} {A : Around} {s : Shared}
/-- the lambda's body -/
theorem cut_item {E : Value → Shared → Prop} {env : Env} {t : Addr} {i j k l : Int} {ti tj tk tl : Tok} {p1 p2 p3 p4 : Pos} {k2 : Nat} {m : Str → Option Value} (hk : env.scope.kind = .function) (hn : env.kindOf "piece" = some .local) (hm : s.heap.Ns env.locals m)
    (hp : m "piece" = some (.ref t)) (ht : IsTup s.heap t #[.int i ti, .int j tj, .int k tk, .int l tl]) :
    wpAny (model prog w) A (eval (.Subscript (.Name "piece" p1) (.Slice none (some (.Constant (.int 2) k2 p2)) none p3) p4) env) (PySem.W.KeyPure (.tuple [.int i, .int j]) s) E s := by
  refine Subscript_ (wpAny_Name (wpAny_loadName_local hk hn hm hp ?_) (by decide))
  refine wpAny_Slice (wpAny_evalPart_none (wpAny_evalPart_some (wpAny_Constant_int (wpAny_evalPart_none ?_))))
  have ext : ∀ b o, s.heap.get? b = some o → (s.heap.push { cls := .type "slice", data := .fields #[.none, .int 2 s.toks, .none] }).get? b = some o := fun b o q => Heap.get?_push_of_some _ q
  have ht2 : IsTup (s.heap.push { cls := .type "slice", data := .fields #[.none, .int 2 s.toks, .none] }) t #[.int i ti, .int j tj, .int k tk, .int l tl] := by
    obtain ⟨o, e, r⟩ := ht
    exact ⟨o, ext _ _ e, r⟩
  refine tail_any (s := { s with heap := s.heap.push { cls := .type "slice", data := .fields #[.none, .int 2 s.toks, .none] }, toks := s.toks + 1 }) (ops := [.ref s.heap.objs.size, .ref t]) ht2.typeIs PyProof.Rows.slot_tuple_getitem.lookup ?_ (by with_unfolding_all rfl)
  refine HT.getItem_tuple_cut ht2 (Heap.IsSliceOf.new _ .none (.int 2 s.toks) .none) .none (.int 2 s.toks) (show ¬ (HT.sIx 4 0 none = 0 ∧ HT.sIx 4 4 (some 2) = 4) from by decide) ?_ (by show 4 ≤ sizeLine; decide)
  refine ⟨_, _, rfl, fun b o q => Heap.get?_push_of_some _ (ext b o q), ?_⟩
  refine .tuple (n := 0) (vs := #[.int i ti, .int j tj]) (Heap.get?_push_size _ rfl) rfl rfl (as := []) ?_
  exact .cons (as := []) (bs := []) (.int i ti) (.cons (as := []) (bs := []) (.int j tj) .nil)
theorem lam_call {f t c' : Addr} {qual : Str} {params : Arguments} {scope : Scope} {cl : List (Str × Addr)} {pm ctv : Value} {p1 p2 p3 p4 : Pos} {k2 : Nat} {i j k l : Int} {ti tj tk tl : Tok} (hf : s.heap.get? f = some (PySem.W.kla_obj "<lambda>" qual params (.Subscript (.Name "piece" p1) (.Slice none (some (.Constant (.int 2) k2 p2)) none p3) p4) scope cl pm c' ctv))
    (hd : A.depth < recursionLimit) (hcd : s.heap.CodeRec (.ref c') qual) (lim : s.heap.NoLimit) (hk : scope.kind = .function) (hco : scope.isCoroutine = false) (hg : scope.isGenerator = false) (hcell : ∀ x ∈ scope.names, x.2 ≠ .cell) (hl : scope.names.lookup ("piece" : Str) = some NameKind.local)
    (hb : ∀ u, bindArgs (PySem.W.kla_fn "<lambda>" qual params (.Subscript (.Name "piece" p1) (.Slice none (some (.Constant (.int 2) k2 p2)) none p3) p4) scope cl pm (.ref c') ctv) ⟨[u], []⟩ = pure [(("piece" : Str), u)])
    (ht : IsTup s.heap t #[.int i ti, .int j tj, .int k tk, .int l tl]) : wpAny (model prog w) A (call (.ref f) [.ref t]) (PySem.W.KeyPure (.tuple [.int i, .int j]) s) (fun _ _ => False) s := by
  have rc : codeAny (model prog w) A (.call (.ref f) ⟨[.ref t], []⟩) (fun r s' => ∃ u, r = .ok (.ret u) ∧ PySem.W.KeyPure (.tuple [.int i, .int j]) s u s') s := by
    refine PySem.W.kla_callFunE hd hf rfl hco hg rfl hcd ?_
    rw [hb]
    refine wpAny_pure (wpAny_newFunctionEnv hcell (fun x hx => ?_) (fun h₁ hns hsb => ⟨lim.fresh _ hsb, ?_⟩) hk)
    · rw [List.mem_singleton.mp hx]
      exact hl
    · have kp : ∀ b o, s.heap.get? b = some o → h₁.get? b = some o := fun b o e => hsb.extBut b o (Nat.ne_of_lt (Heap.lt_size e)) (Heap.get?_push_of_some _ e)
      refine PySem.W.kla_codeExpr (wpAny_mono (cut_item (s := { s with heap := h₁, toks := s.toks + 1 }) hk hl hns rfl (let ⟨o, e, r⟩ := ht; ⟨o, kp _ _ e, r⟩)) (fun v s' hq => ?_) fun e s' hq => hq)
      obtain ⟨h2, t2, e2, x2, r2⟩ := hq
      exact ⟨v, rfl, h2, t2, e2, fun b o q => x2 b o (kp b o q), r2⟩
  refine wpAny_call (codeAny_mono rc fun r s' hq => ?_)
  obtain ⟨u, rfl, q⟩ := hq
  exact q
end
end K10

/-! rules that the layer lacks: len(o), o of a class with a __len__ of its own -/
namespace K10
open PySem PySem.Spec PyProof.Rows L2
def rLenO (C : Addr) (sp : Sp) : List V → Hp → VK → Prop := fun vs H Q => ∃ (a dx : Addr) (fs : List (Str × V)), vs = [.ref a] ∧ H a = some (.ins C dx fs) ∧ sp [.ref a] H (fun v H' => ∃ n : Int, v = .int n ∧ (0 ≤ n ∧ n < 2 ^ 63) ∧ Q (.int n) H') fun _ _ _ => False
theorem cr_lenOwn {X : Cx} {CX : CXT} {k : Nat} {f C : Addr} {fd : FuncData} {sp : Sp} (F : FnOk X.prog X.w X.K X.mg X.base CX k f fd [("self" : Str)] sp) (hr : Room (k + 1) X.A) (hs : PySem.W.findIn X.K (.ref C) "__len__" = some (some (.ref f)))
    (hf : PySem.W.isFn X.K (.ref f) = true) (hb : Binds X.K fd [("self" : Str)] []) (hx : Passes CX X fun _ _ _ => False) : CallR X (.builtin "len") (rLenO C sp) := by
  intro pins s σ H vs us Q I rv h
  obtain ⟨a, dx, fs, rfl, ha, hsp⟩ := h
  obtain rfl := Vals.ref1 rv
  obtain ⟨mA, O, _⟩ := ins_get I.hok ha
  obtain ⟨od, J, _⟩ := O.look
  refine Calls.call_function_entry kind_len plain_len entry_len (args_len1 _) ?_
  unfold Builtin.«len»
  refine wpAny_bind (m := oneArg "len" _) (wpAny_pure ?_)
  refine wpAny_bind (m := callSpecial? (.ref a) (Str.ofString "__len__")) (PySem.W.special_fn I.kIn J hs (beq_iff_eq.mp hf) ?_)
  refine wpAny_call (codeAny_mono (F.run X.A.in1 X.stack s H ⟨[.ref a], []⟩ [.ref a] [.ref a] _ _ hr.in1 I.env0.in1 (hb s [.ref a] I.kIn rfl) (.cons rfl .nil) hsp) fun r s' hq => ?_)
  cases r with
  | error e => exact hx pins σ H s e s' I hq
  | ok fl =>
    cases fl with
    | next => exact False.elim hq
    | brk => exact False.elim hq
    | cont => exact False.elim hq
    | ret u =>
      obtain ⟨v, H', I', r', n, rfl, ⟨n0, n1⟩, q⟩ := I.after hq
      obtain ⟨t, rfl⟩ := r'
      refine wpAny_bind (wpAny_holding (wpAny_pure (wpAny_bind (wpAny_letGo ?_))))
      show wpAny _ _ (if n < 0 then _ else _) _ _ _
      rw [if_neg (by omega)]
      show wpAny _ _ (if n ≥ 2 ^ 63 then _ else _) _ _ _
      rw [if_neg (by omega)]
      exact wpAny_bind (wpAny_mkInt (wpAny_pure ⟨_, rfl, .int n, H', I'.tok _, ⟨_, rfl⟩, q⟩))
end K10

/-! a def whose code object is known by its address; frames that let the tables grow -/
namespace K10
open PySem PySem.Spec PyProof.Rows L2 LamX
structure FunAt (K : PySem.W.Frag) (x qual : Str) (st : Stmt) (f : Addr) (fd : FuncData) (c : Addr) : Prop where
  ex : ∃ (oc : Value) (od : Option Addr) (kV doc pm : Value) (an : Option Addr) (ct : Value) (osl : Array (Option Value)),
    fd = PySem.W.fnOf x qual (defArgs st) (defBody st) (defScope st) .none kV doc pm an (.ref c) ct ∧ K.lookup f = some ⟨oc, od, .func fd, osl⟩ ∧ PySem.W.codeIn K (.ref c) qual = true
section
variable {P : Program} {w : World} {K : PySem.W.Frag} {mg : Str → Option Value} {base : Heap}
theorem FunAt.ok {x qual : Str} {st : Stmt} {f c : Addr} {fd : FuncData} {N ps : List Str} {k : Nat} {sp : Sp} (F : FunAt K x qual st f fd c) (S : FnScope N ps (defScope st)) (len : ∀ vs H Q E, sp vs H Q E → vs.length = ps.length)
    (hbody : ∀ (A : Around) (outer : List Env) (s : Shared) (H : Hp) (vs : List V) (Q : VK) (E : XK), Room k (A.deeper (envOfC qual (defScope st) s.heap.objs.size f (.ref c))) → sp vs H Q E →
      ∃ t, PSs (cxOf CX0 P w K mg base N qual (defScope st) f (.ref c) A outer s H E).nox (defBody st) t ∧ t { nx := fun _ H' => Q .non H', rt := Q } (L2.start N vs) H) : FnOk P w K mg base CX0 (k + 1) f fd ps sp := by
  obtain ⟨oc, od, kV, doc, pm, an, ct, osl, rfl, lk, hcd⟩ := F.ex
  refine fn_of lk hcd S len fun A outer s H vs Q E hr hsp => ?_
  obtain ⟨t, h, q⟩ := hbody A outer s H vs Q E hr hsp
  exact ⟨t, h.nox, q⟩
end
theorem TabS.upd {H : Hp} {P x : Addr} {q : Str} {o u : HO} (t : TabS H P q) (hx : H x = some u) (h1 : ∀ ps, u ≠ .tbl ps) (h2 : u ≠ CodeO x q) : TabS (upd H x o) P q := by
  obtain ⟨ps, hP, ht, ha⟩ := t
  have e : ∀ b v, H b = some v → v ≠ u → L2.upd H x o b = some v := fun b v e n => by
    rw [upd_ne (fun z => n (by rw [z, hx] at e; exact (Option.some.inj e).symm))]
    exact e
  refine ⟨ps, e _ _ hP fun z => h1 ps z.symm, ht, fun pos cv hc => ?_⟩
  obtain ⟨c, rfl, hcc⟩ := ha pos cv hc
  refine ⟨c, rfl, ?_⟩
  by_cases hb : c = x
  · subst hb
    rw [hx] at hcc
    exact absurd (Option.some.inj hcc) h2
  · rw [upd_ne hb]
    exact hcc
/-- all but the tables and x stay -/
def FrN (x : Addr) (H H' : Hp) : Prop := ∀ b o, b ≠ x → H b = some o → (∀ ps, o ≠ .tbl ps) → H' b = some o
theorem FrN.refl (x : Addr) (H : Hp) : FrN x H H := fun _ _ _ e _ => e
theorem FrN.ext {x : Addr} {H H1 H2 : Hp} (f : FrN x H H1) (e : ExtN H1 H2) : FrN x H H2 := fun b o hb h n => e b o (f b o hb h n) n
theorem FrN.same {x : Addr} {H H1 H2 : Hp} (f : FrN x H H1) (e : ∀ b o, H1 b = some o → H2 b = some o) : FrN x H H2 := f.ext (ExtN.of e)
theorem FrN.upd {x : Addr} {H H1 : Hp} {o : HO} (f : FrN x H H1) : FrN x H (upd H1 x o) := fun b u hb h n => by
  rw [upd_ne hb]
  exact f b u hb h n
end K10

/-! the mirror: what one side does, in plain Lean -/
namespace K10
inductive Rl where
  | plain | hold | few
  deriving DecidableEq
inductive Wd where
  | write | read | pause
  deriving DecidableEq
/-- what a side has -/
structure Sd where
  stock : List (Int × Int)
  out : Int
  known : Int
  small : Int
  come : Int
  taken : Int
  full : Int
  first : Option Int
  long : Int
  fl : List (Int × Int × Int)
  lg : List (Int × Int × Int)
/-- how far a program is -/
structure Co where
  place : Nat
  until_ : Option Int
  ended : Option Int
/-- what is fixed of a side -/
structure Pr where
  rule : Rl
  every : Int
  delay : Int
  steps : List (Wd × Int)
def mx (i j : Int) : Int := if j > i then j else i
def mn (i j : Int) : Int := if j < i then j else i
def amt (l : List (Int × Int)) : Int := (l.map (·.1)).sum
def kept (x : Sd) : Int := amt x.stock
def takeOut (T : Int) : List (Int × Int) → Int → Int → List (Int × Int) × Int
  | [], _, g => ([], g)
  | (f, t) :: r, left, g => if left > 0 then (if f > left then ((f - left, t) :: r, mx g (T - t)) else takeOut T r (left - f) (mx g (T - t))) else ((f, t) :: r, g)
def send (sz wy T : Int) (x : Sd) (n : Int) : Sd :=
  { x with
    stock := (takeOut T x.stock n x.long).1
    long := (takeOut T x.stock n x.long).2
    out := x.out + n
    small := if 0 < n ∧ n < sz then x.out + n else x.small
    fl := x.fl ++ [(T + wy, n, x.come)]
    lg := x.lg ++ [(T, n, x.come)]
    full := 0
    first := none }
def lets (r : Rl) (x : Sd) : Bool := match r with
  | .hold => decide (x.out = x.known)
  | .plain => true
  | .few => decide (x.small ≤ x.known)
def rel (sz wy T : Int) : Nat → Sd → Sd
  | 0, x => x
  | n + 1, x => if kept x ≥ sz then rel sz wy T n (send sz wy T x sz) else x
def letGo (sz wy T : Int) (r : Rl) (x : Sd) : Sd :=
  let y := rel sz wy T (kept x).toNat x
  if 0 < kept y ∧ lets r y = true then send sz wy T y (kept y) else y
def addSt (T : Int) (x : Sd) (n : Int) : Sd := { x with stock := x.stock ++ [(n, T)] }
def put (sz wy T : Int) (r : Rl) (x : Sd) (n : Int) : Sd := letGo sz wy T r (addSt T x n)
def land (sz T : Int) (x : Sd) (n a : Int) : Sd :=
  if 0 < n then { x with known := mx x.known a, come := x.come + n, full := if n = sz then x.full + 1 else x.full, first := some (x.first.getD T) } else { x with known := mx x.known a }
def due (p : Pr) (T : Int) (x : Sd) : Bool := decide (x.full ≥ p.every) || (match x.first with | none => false | some v => decide (T ≥ v + p.delay))
def leave (sz wy T : Int) (p : Pr) (x : Sd) : Sd := if due p T x = true then send sz wy T x 0 else x
def passStep (T : Int) (len : Nat) (c : Co) : Co := { c with place := c.place + 1, ended := if c.place + 1 = len then some T else c.ended }
def doStep (sz wy T : Int) (p : Pr) (x : Sd) (c : Co) : Bool × Sd × Co := match p.steps[c.place]? with
  | none => (false, x, c)
  | some (.write, n) => (true, put sz wy T p.rule x n, passStep T p.steps.length c)
  | some (.read, n) => if x.come - x.taken < n then (false, x, c) else (true, { x with taken := x.taken + n }, passStep T p.steps.length c)
  | some (.pause, n) => if T < c.until_.getD (T + n) then (false, x, { c with until_ := some (c.until_.getD (T + n)) }) else (true, x, passStep T p.steps.length { c with until_ := none })
def goOn (sz wy T : Int) (p : Pr) : Nat → Sd × Co → Sd × Co
  | 0, z => z
  | k + 1, z => if z.2.ended = none then (if (doStep sz wy T p z.1 z.2).1 = true then goOn sz wy T p k (doStep sz wy T p z.1 z.2).2 else (doStep sz wy T p z.1 z.2).2) else z
def goAll (sz wy T : Int) (p : Pr) (z : Sd × Co) : Sd × Co := goOn sz wy T p (p.steps.length - z.2.place) z

/-! ### both sides -/
abbrev S2 := Bool → Sd
abbrev C2 := Bool → Co
structure Cf where
  sz : Int
  wy : Int
  p : Bool → Pr
def arrive (sz T : Int) (x : Sd) (q : Int × Int × Int) : Sd := land sz T x q.2.1 q.2.2
def cutFl (T : Int) (S : S2) : S2 := fun s => { S s with fl := (S s).fl.filter fun q => decide (q.1 > T) }
def landAll (sz T : Int) (S : S2) : S2 := fun s => ((S (!s)).fl.filter fun q => decide (q.1 ≤ T)).foldl (arrive sz T) (cutFl T S s)
def begin_ (f : Cf) (T : Int) (S : S2) : S2 := fun s => letGo f.sz f.wy T (f.p s).rule (landAll f.sz T S s)
def tickS (f : Cf) (T : Int) (S : S2) (C : C2) : S2 := fun s => leave f.sz f.wy T (f.p s) (goAll f.sz f.wy T (f.p s) (begin_ f T S s, C s)).1
def tickC (f : Cf) (T : Int) (S : S2) (C : C2) : C2 := fun s => (goAll f.sz f.wy T (f.p s) (begin_ f T S s, C s)).2
def evs (f : Cf) (S : S2) (C : C2) (s : Bool) : List Int := (C s).until_.toList ++ ((S s).fl.map (·.1) ++ ((S s).first.map fun v => v + (f.p s).delay).toList)
def mnL : List Int → Option Int
  | [] => none
  | a :: r => some (match mnL r with | none => a | some b => if b < a then b else a)
def ev (f : Cf) (S : S2) (C : C2) : Option Int := mnL (evs f S C false ++ evs f S C true)
def runL (f : Cf) : Nat → Int → S2 × C2 → S2 × C2
  | 0, _, z => z
  | n + 1, T, z => match ev f (tickS f T z.1 z.2) (tickC f T z.1 z.2) with
    | none => (tickS f T z.1 z.2, tickC f T z.1 z.2)
    | some T' => runL f n T' (tickS f T z.1 z.2, tickC f T z.1 z.2)

/-! ### the least of a list -/
theorem mnL_mem : ∀ {l : List Int} {m : Int}, mnL l = some m → m ∈ l ∧ ∀ y ∈ l, m ≤ y
  | [], m, h => by simp [mnL] at h
  | a :: r, m, h => by
    have e : (match mnL r with | none => a | some b => if b < a then b else a) = m := Option.some.inj h
    cases q : mnL r with
    | none =>
      rw [q] at e
      have rn : r = [] := by cases r with
        | nil => rfl
        | cons b t => simp [mnL] at q
      subst rn
      simp at e
      subst e
      exact ⟨List.mem_cons_self, fun y hy => by simp at hy; omega⟩
    | some b =>
      rw [q] at e
      obtain ⟨h1, h2⟩ := mnL_mem q
      simp only at e
      by_cases hb : b < a
      · rw [if_pos hb] at e
        subst e
        refine ⟨List.mem_cons_of_mem _ h1, fun y hy => ?_⟩
        rcases List.mem_cons.mp hy with e | hy
        · omega
        · exact h2 y hy
      · rw [if_neg hb] at e
        subst e
        refine ⟨List.mem_cons_self, fun y hy => ?_⟩
        rcases List.mem_cons.mp hy with e | hy
        · omega
        · have := h2 y hy; omega
theorem mnL_none {l : List Int} : mnL l = none ↔ l = [] := by
  cases l with
  | nil => exact ⟨fun _ => rfl, fun _ => rfl⟩
  | cons a r => exact ⟨fun h => by simp [mnL] at h, fun h => by simp at h⟩
theorem mnL_of {l : List Int} {m : Int} (h : m ∈ l) (h2 : ∀ y ∈ l, m ≤ y) : mnL l = some m := by
  cases q : mnL l with
  | none => rw [mnL_none.mp q] at h; simp at h
  | some b =>
    obtain ⟨h3, h4⟩ := mnL_mem q
    have a1 := h4 m h
    have a2 := h2 b h3
    have : b = m := by omega
    rw [this]
theorem mnL_congr {l l' : List Int} (h : ∀ x, x ∈ l ↔ x ∈ l') : mnL l = mnL l' := by
  cases q : mnL l with
  | none =>
    have e := mnL_none.mp q
    subst e
    have : l' = [] := by
      cases l' with
      | nil => rfl
      | cons a r => exact absurd ((h a).mpr List.mem_cons_self) (by simp)
    rw [this]; rfl
  | some m =>
    obtain ⟨h1, h2⟩ := mnL_mem q
    exact (mnL_of ((h m).mp h1) fun y hy => h2 y ((h y).mpr hy)).symm

/-! ### the sides changed -/
def flip {α : Type} (S : Bool → α) : Bool → α := fun s => S (!s)
def Cf.flip (f : Cf) : Cf := ⟨f.sz, f.wy, K10.flip f.p⟩
theorem begin_flip (f : Cf) (T : Int) (S : S2) : begin_ f.flip T (flip S) = flip (begin_ f T S) := by
  funext s
  cases s <;> rfl
theorem tickS_flip (f : Cf) (T : Int) (S : S2) (C : C2) : tickS f.flip T (flip S) (flip C) = flip (tickS f T S C) := by
  funext s
  unfold tickS
  rw [begin_flip]
  cases s <;> rfl
theorem tickC_flip (f : Cf) (T : Int) (S : S2) (C : C2) : tickC f.flip T (flip S) (flip C) = flip (tickC f T S C) := by
  funext s
  unfold tickC
  rw [begin_flip]
  cases s <;> rfl
theorem ev_flip (f : Cf) (S : S2) (C : C2) : ev f.flip (flip S) (flip C) = ev f S C := by
  have e : ∀ s, evs f.flip (flip S) (flip C) s = evs f S C (!s) := fun s => by cases s <;> rfl
  unfold ev
  rw [e, e]
  refine mnL_congr fun x => ?_
  rw [List.mem_append, List.mem_append]
  exact Or.comm
theorem runL_flip (f : Cf) : ∀ (n : Nat) (T : Int) (S : S2) (C : C2), runL f.flip n T (flip S, flip C) = (flip (runL f n T (S, C)).1, flip (runL f n T (S, C)).2)
  | 0, _, _, _ => rfl
  | n + 1, T, S, C => by
    unfold runL
    simp only [tickS_flip, tickC_flip, ev_flip]
    cases ev f (tickS f T S C) (tickC f T S C) with
    | none => rfl
    | some T' => exact runL_flip f n T' _ _
end K10

namespace K10
def fw (q : Int × Int × Int) : Int := if 0 < q.2.1 then 3 else 1
def flw (l : List (Int × Int × Int)) : Int := (l.map fw).sum
def fst_ (o : Option Int) : Int := if o.isSome = true then 2 else 0
def ph (x : Sd) : Int := 4 * kept x + flw x.fl + fst_ x.first
def bud (x : Sd) : Int := (x.lg.length : Int) + ph x
structure Wf (x : Sd) : Prop where
  pos : ∀ q ∈ x.stock, 1 ≤ q.1
  ff : 0 < x.full → x.first ≠ none
theorem amt_cons (f t : Int) (r : List (Int × Int)) : amt ((f, t) :: r) = f + amt r := by unfold amt; rw [List.map_cons, List.sum_cons]
theorem amt_append (a b : List (Int × Int)) : amt (a ++ b) = amt a + amt b := by unfold amt; rw [List.map_append, List.sum_append]
theorem amt_len : ∀ {l : List (Int × Int)}, (∀ q ∈ l, 1 ≤ q.1) → (l.length : Int) ≤ amt l
  | [], _ => by unfold amt; simp
  | (f, t) :: r, h => by
    have h1 : (1 : Int) ≤ f := h (f, t) List.mem_cons_self
    have h2 := amt_len fun q hq => h q (List.mem_cons_of_mem _ hq)
    rw [amt_cons, List.length_cons]
    omega
theorem takeOut_amt (T : Int) : ∀ (l : List (Int × Int)) (n g : Int), 0 ≤ n → n ≤ amt l → amt (takeOut T l n g).1 = amt l - n
  | [], n, g, h0, h => by
    unfold takeOut amt at *
    simp at *
    omega
  | (f, t) :: r, n, g, h0, h => by
    unfold takeOut
    rw [amt_cons] at h ⊢
    split
    · split
      · rw [amt_cons]; omega
      · rw [takeOut_amt T r (n - f) _ (by omega) (by omega)]; omega
    · rw [amt_cons]; omega
theorem takeOut_pos (T : Int) : ∀ (l : List (Int × Int)) (n g : Int), (∀ q ∈ l, 1 ≤ q.1) → ∀ q ∈ (takeOut T l n g).1, 1 ≤ q.1
  | [], n, g, h, q, hq => by unfold takeOut at hq; simp at hq
  | (f, t) :: r, n, g, h, q, hq => by
    unfold takeOut at hq
    split at hq
    · split at hq
      · rcases List.mem_cons.mp hq with e | hq
        · subst e; show 1 ≤ f - n; omega
        · exact h q (List.mem_cons_of_mem _ hq)
      · exact takeOut_pos T r _ _ (fun q hq => h q (List.mem_cons_of_mem _ hq)) q hq
    · exact h q hq
theorem flw_append (a b : List (Int × Int × Int)) : flw (a ++ b) = flw a + flw b := by unfold flw; rw [List.map_append, List.sum_append]
theorem flw_cons (q : Int × Int × Int) (b : List (Int × Int × Int)) : flw (q :: b) = fw q + flw b := by unfold flw; rw [List.map_cons, List.sum_cons]
theorem fw_pos (q : Int × Int × Int) : 1 ≤ fw q := by unfold fw; split <;> omega
theorem flw_len : ∀ l : List (Int × Int × Int), (l.length : Int) ≤ flw l
  | [] => by unfold flw; simp
  | q :: r => by
    have h1 := fw_pos q
    have h2 := flw_len r
    rw [flw_cons, List.length_cons]
    omega
theorem fst_pos (o : Option Int) : 0 ≤ fst_ o := by unfold fst_; split <;> omega
section
variable {x y : Sd}
theorem Wf.kept (h : Wf x) : (x.stock.length : Int) ≤ K10.kept x := amt_len h.pos
theorem Wf.ph (h : Wf x) : (x.stock.length : Int) ≤ K10.ph x ∧ (x.fl.length : Int) ≤ K10.ph x ∧ 0 ≤ K10.ph x := by
  have h1 := h.kept
  have h2 := flw_len x.fl
  have h3 := fst_pos x.first
  unfold K10.ph
  omega
theorem Wf.sizes (h : Wf x) : (x.stock.length : Int) ≤ bud x ∧ (x.fl.length : Int) ≤ bud x ∧ (x.lg.length : Int) ≤ bud x ∧ 0 ≤ bud x ∧ K10.kept x ≤ bud x := by
  have h1 := h.ph
  have h2 := h.kept
  have h3 := flw_len x.fl
  have h4 := fst_pos x.first
  unfold bud
  unfold K10.ph at *
  omega
/-- what goes out: nothing is made, much falls -/
structure Dn (x y : Sd) : Prop where
  wf : Wf y
  bud : K10.bud y ≤ K10.bud x
  fall : y = x ∨ ph y < ph x
theorem Dn.refl (h : Wf x) : Dn x x := ⟨h, Int.le_refl _, .inl rfl⟩
theorem Dn.le (h : Dn x y) : ph y ≤ ph x := by
  rcases h.fall with e | e
  · rw [e]; exact Int.le_refl _
  · omega
theorem Dn.trans {z : Sd} (a : Dn x y) (b : Dn y z) : Dn x z := by
  refine ⟨b.wf, Int.le_trans b.bud a.bud, ?_⟩
  rcases b.fall with e | e
  · rw [e]; exact a.fall
  · have := a.le
    exact .inr (by omega)
variable {sz wy T : Int} {n : Int}
theorem send_kept (h0 : 0 ≤ n) (h : n ≤ kept x) : kept (send sz wy T x n) = kept x - n := takeOut_amt T _ _ _ h0 h
theorem send_ph (h0 : 0 ≤ n) (h : n ≤ kept x) : ph (send sz wy T x n) = ph x - 4 * n + (if 0 < n then 3 else 1) - fst_ x.first := by
  have e := send_kept (sz := sz) (wy := wy) (T := T) h0 h
  unfold K10.ph
  rw [e]
  show 4 * (K10.kept x - n) + flw (x.fl ++ [(T + wy, n, x.come)]) + fst_ none = _
  rw [flw_append]
  have e2 : flw [(T + wy, n, x.come)] = (if 0 < n then 3 else 1) := by
    unfold flw fw; simp
  rw [e2]
  unfold fst_
  simp
  omega
theorem send_wf (h : Wf x) : Wf (send sz wy T x n) := ⟨takeOut_pos T _ _ _ h.pos, fun q => absurd q (by show ¬ (0 : Int) < 0; omega)⟩
theorem send_lg : (send sz wy T x n).lg.length = x.lg.length + 1 := by show (x.lg ++ [_]).length = _; simp
theorem send_dn (w : Wf x) (h0 : 0 < n) (h : n ≤ kept x) : Dn x (send sz wy T x n) := by
  have e := send_ph (sz := sz) (wy := wy) (T := T) (by omega) h
  have e2 := send_lg (sz := sz) (wy := wy) (T := T) (x := x) (n := n)
  have e3 := fst_pos x.first
  rw [if_pos h0] at e
  refine ⟨send_wf w, ?_, .inr (by omega)⟩
  unfold K10.bud
  rw [e2, e]
  omega
theorem send0_dn (w : Wf x) (hf : x.first ≠ none) : Dn x (send sz wy T x 0) := by
  have k0 := w.kept
  have e := send_ph (x := x) (sz := sz) (wy := wy) (T := T) (n := 0) (by omega) (by omega)
  have e2 := send_lg (sz := sz) (wy := wy) (T := T) (x := x) (n := 0)
  have e3 : fst_ x.first = 2 := by
    cases q : x.first with
    | none => exact absurd q hf
    | some v => rfl
  rw [if_neg (by omega), e3] at e
  refine ⟨send_wf w, ?_, .inr (by omega)⟩
  unfold K10.bud
  rw [e2, e]
  omega
theorem rel_dn (hz : 1 ≤ sz) : ∀ (k : Nat) (x : Sd), Wf x → Dn x (rel sz wy T k x)
  | 0, x, w => .refl w
  | k + 1, x, w => by
    unfold rel
    split
    · rename_i h
      exact (send_dn w (by omega) h).trans (rel_dn hz k _ (send_wf w))
    · exact .refl w
theorem letGo_dn {r : Rl} (hz : 1 ≤ sz) (w : Wf x) : Dn x (letGo sz wy T r x) := by
  unfold letGo
  have d := rel_dn (wy := wy) (T := T) hz (kept x).toNat x w
  simp only
  split
  · rename_i h
    exact d.trans (send_dn d.wf h.1 (Int.le_refl _))
  · exact d
theorem leave_dn {p : Pr} (he : 1 ≤ p.every) (w : Wf x) : Dn x (leave sz wy T p x) := by
  unfold leave
  split
  · rename_i h
    refine send0_dn w ?_
    unfold due at h
    rw [Bool.or_eq_true] at h
    rcases h with h | h
    · have h := of_decide_eq_true h
      exact w.ff (by omega)
    · intro e
      rw [e] at h
      cases h
  · exact .refl w
theorem leave_fall {p : Pr} {v : Int} (w : Wf x) (hv : x.first = some v) (hT : v + p.delay ≤ T) : ph (leave sz wy T p x) < ph x := by
  have hd : due p T x = true := by
    unfold due
    rw [hv]
    simp
    right
    exact hT
  unfold leave
  rw [if_pos hd]
  rcases (send0_dn (sz := sz) (wy := wy) (T := T) w (by rw [hv]; simp)).fall with e | e
  · have := congrArg (fun z => z.first) e
    have : (none : Option Int) = x.first := this
    rw [hv] at this
    cases this
  · exact e
theorem addSt_ph : ph (addSt T x n) = ph x + 4 * n := by
  unfold K10.ph K10.kept addSt
  simp only
  rw [amt_append, amt_cons]
  show 4 * (amt x.stock + (n + 0)) + _ + _ = _
  omega
theorem addSt_wf (w : Wf x) (h : 1 ≤ n) : Wf (addSt T x n) := ⟨fun q hq => by
  rcases List.mem_append.mp hq with hq | hq
  · exact w.pos q hq
  · rw [List.mem_singleton.mp hq]; exact h, w.ff⟩
/-! landing -/
theorem land_wf {a : Int} (w : Wf x) : Wf (land sz T x n a) := by
  unfold land
  split
  · exact ⟨w.pos, fun _ => by simp⟩
  · exact ⟨w.pos, w.ff⟩
theorem land_ph {a : Int} : ph (land sz T x n a) ≤ ph x + fw (0, n, a) - 1 := by
  unfold land fw
  have h := fst_pos x.first
  split
  · show 4 * K10.kept x + flw x.fl + 2 ≤ 4 * K10.kept x + flw x.fl + fst_ x.first + 3 - 1
    omega
  · show 4 * K10.kept x + flw x.fl + fst_ x.first ≤ 4 * K10.kept x + flw x.fl + fst_ x.first + 1 - 1
    omega
theorem land_lg {a : Int} : (land sz T x n a).lg = x.lg := by unfold land; split <;> rfl
theorem land_first {a v : Int} (h : x.first = some v) : (land sz T x n a).first = some v := by
  unfold land
  split
  · show some (x.first.getD T) = _
    rw [h]; rfl
  · exact h
theorem fold_all : ∀ (L : List (Int × Int × Int)) (x : Sd), Wf x → Wf (L.foldl (arrive sz T) x) ∧ ph (L.foldl (arrive sz T) x) ≤ ph x + flw L - L.length ∧ (L.foldl (arrive sz T) x).lg = x.lg ∧ ∀ v, x.first = some v → (L.foldl (arrive sz T) x).first = some v
  | [], x, w => ⟨w, by unfold flw; simp, rfl, fun v h => h⟩
  | q :: L, x, w => by
    obtain ⟨h1, h2, h3, h4⟩ := fold_all L (arrive sz T x q) (land_wf w)
    have h5 : ph (arrive sz T x q) ≤ ph x + fw q - 1 := land_ph
    refine ⟨h1, ?_, h3.trans land_lg, fun v h => h4 v (land_first h)⟩
    rw [List.foldl_cons, flw_cons, List.length_cons]
    omega
theorem flw_filter (l : List (Int × Int × Int)) (T : Int) : flw (l.filter fun q => decide (q.1 ≤ T)) + flw (l.filter fun q => decide (q.1 > T)) = flw l := by
  induction l with
  | nil => rfl
  | cons q r ih =>
    by_cases h : q.1 ≤ T
    · rw [List.filter_cons_of_pos (by simpa using h), List.filter_cons_of_neg (by simp; omega), flw_cons, flw_cons]
      omega
    · rw [List.filter_cons_of_neg (by simpa using h), List.filter_cons_of_pos (by simp; omega), flw_cons, flw_cons]
      omega
end
/-! both sides -/
def lnd (T : Int) (S : S2) (s : Bool) : List (Int × Int × Int) := (S s).fl.filter fun q => decide (q.1 ≤ T)
theorem cut_ph (T : Int) (S : S2) (s : Bool) : ph (cutFl T S s) + flw (lnd T S s) = ph (S s) := by
  have h := flw_filter (S s).fl T
  unfold ph
  show 4 * kept (S s) + flw ((S s).fl.filter fun q => decide (q.1 > T)) + fst_ (S s).first + flw ((S s).fl.filter fun q => decide (q.1 ≤ T)) = _
  omega
theorem cut_wf {T : Int} {S : S2} {s : Bool} (w : Wf (S s)) : Wf (cutFl T S s) := ⟨w.pos, w.ff⟩
theorem landAll_eq (sz T : Int) (S : S2) (s : Bool) : landAll sz T S s = (lnd T S (!s)).foldl (arrive sz T) (cutFl T S s) := rfl
structure LandOk (sz T : Int) (S : S2) : Prop where
  wf : ∀ s, Wf (landAll sz T S s)
  lg : ∀ s, (landAll sz T S s).lg = (S s).lg
  ph : ph (landAll sz T S false) + ph (landAll sz T S true) ≤ K10.ph (S false) + K10.ph (S true) - (lnd T S false).length - (lnd T S true).length
  first : ∀ s v, (S s).first = some v → (landAll sz T S s).first = some v
theorem land_ok {sz T : Int} {S : S2} (w : ∀ s, Wf (S s)) : LandOk sz T S := by
  have h := fun s => fold_all (sz := sz) (T := T) (lnd T S (!s)) (cutFl T S s) (cut_wf (w s))
  refine ⟨fun s => (h s).1, fun s => (h s).2.2.1, ?_, fun s v e => (h s).2.2.2 v e⟩
  have a := (h false).2.1
  have b := (h true).2.1
  have c := cut_ph T S false
  have d := cut_ph T S true
  have a : ph (landAll sz T S false) ≤ ph (cutFl T S false) + flw (lnd T S true) - (lnd T S true).length := a
  have b : ph (landAll sz T S true) ≤ ph (cutFl T S true) + flw (lnd T S false) - (lnd T S false).length := b
  omega

/-! the programs -/
def stw (q : Wd × Int) : Int := match q.1 with | .write => 4 * q.2 | .read => 0 | .pause => 1
def remw (p : Pr) (c : Co) : Int := ((p.steps.drop c.place).map stw).sum
structure POk (p : Pr) : Prop where
  every : 1 ≤ p.every
  amts : ∀ q ∈ p.steps, q.1 = .write → 1 ≤ q.2
structure Ci (p : Pr) (c : Co) : Prop where
  le : c.place ≤ p.steps.length
  go : c.ended = none → c.place < p.steps.length
  wait : c.until_ ≠ none → c.ended = none ∧ ∃ n, p.steps[c.place]? = some (.pause, n)
theorem stw_pos {p : Pr} (h : POk p) {q : Wd × Int} (hq : q ∈ p.steps) : 0 ≤ stw q := by
  unfold stw
  split
  · rename_i e
    have := h.amts q hq e
    omega
  · omega
  · omega
theorem sum_nonneg : ∀ {l : List Int}, (∀ x ∈ l, 0 ≤ x) → 0 ≤ l.sum
  | [], _ => by simp
  | a :: r, h => by
    have h1 := h a List.mem_cons_self
    have h2 := sum_nonneg fun x hx => h x (List.mem_cons_of_mem _ hx)
    rw [List.sum_cons]
    omega
theorem remw_pos {p : Pr} {c : Co} (h : POk p) : 0 ≤ remw p c := sum_nonneg fun x hx => by
  obtain ⟨q, hq, e⟩ := List.mem_map.mp hx
  rw [← e]
  exact stw_pos h (List.mem_of_mem_drop hq)
theorem remw_step {p : Pr} {c : Co} {q : Wd × Int} {T : Int} {len : Nat} (h : p.steps[c.place]? = some q) : remw p c = stw q + remw p (passStep T len c) := by
  obtain ⟨h1, h2⟩ := List.getElem?_eq_some_iff.mp h
  unfold remw passStep
  rw [List.drop_eq_getElem_cons h1, h2, List.map_cons, List.sum_cons]
theorem pass_ci {p : Pr} {c : Co} {T : Int} (h : c.place < p.steps.length) (hu : c.until_ = none) (he : c.ended = none) : Ci p (passStep T p.steps.length c) := by
  refine ⟨h, fun e => ?_, fun e => absurd hu e⟩
  unfold passStep at e ⊢
  simp only at e ⊢
  by_cases q : c.place + 1 = p.steps.length
  · rw [if_pos q] at e; cases e
  · omega
/-- one step, or more -/
structure Gn (p : Pr) (x : Sd) (c : Co) (y : Sd) (d : Co) : Prop where
  wf : Wf y
  ci : Ci p d
  bud : K10.bud y + remw p d ≤ K10.bud x + remw p c
  fall : ph y + remw p d < ph x + remw p c ∨ (ph y + remw p d = ph x + remw p c ∧ y.first = x.first)
theorem Gn.refl {p : Pr} {x : Sd} {c : Co} (w : Wf x) (i : Ci p c) : Gn p x c x c := ⟨w, i, Int.le_refl _, .inr ⟨rfl, rfl⟩⟩
theorem Gn.trans {p : Pr} {x y z : Sd} {c d e : Co} (a : Gn p x c y d) (b : Gn p y d z e) : Gn p x c z e := by
  refine ⟨b.wf, b.ci, Int.le_trans b.bud a.bud, ?_⟩
  rcases a.fall with h | ⟨h, h'⟩
  · rcases b.fall with g | ⟨g, _⟩
    · exact .inl (by omega)
    · exact .inl (by omega)
  · rcases b.fall with g | ⟨g, g'⟩
    · exact .inl (by omega)
    · exact .inr ⟨by omega, g'.trans h'⟩
section
variable {sz wy T : Int} {p : Pr} {x : Sd} {c : Co}
theorem doStep_gn (hz : 1 ≤ sz) (hp : POk p) (w : Wf x) (i : Ci p c) (he : c.ended = none) : Gn p x c (doStep sz wy T p x c).2.1 (doStep sz wy T p x c).2.2 := by
  have hlt := i.go he
  unfold doStep
  cases q : p.steps[c.place]? with
  | none => exact Gn.refl w i
  | some z =>
    obtain ⟨wd, n⟩ := z
    have hu : wd ≠ .pause → c.until_ = none := fun hw => by
      cases e : c.until_ with
      | none => rfl
      | some u =>
        obtain ⟨_, m, e2⟩ := i.wait (by rw [e]; simp)
        rw [q] at e2
        cases e2
        exact absurd rfl hw
    have hm := List.mem_of_getElem? q
    have hr := remw_step (T := T) (len := p.steps.length) q
    cases wd with
    | write =>
      have h1 : 1 ≤ n := hp.amts _ hm rfl
      have hr : remw p c = 4 * n + remw p (passStep T p.steps.length c) := hr
      have d := letGo_dn (wy := wy) (T := T) (r := p.rule) hz (addSt_wf (T := T) w h1)
      have e1 := addSt_ph (x := x) (T := T) (n := n)
      have e2 : bud (addSt T x n) = bud x + 4 * n := by
        unfold bud
        rw [e1]
        show (x.lg.length : Int) + _ = _
        omega
      refine ⟨d.wf, pass_ci hlt (hu (by simp)) he, ?_, ?_⟩
      · have := d.bud
        show bud (put sz wy T p.rule x n) + _ ≤ _
        have : bud (put sz wy T p.rule x n) ≤ bud (addSt T x n) := d.bud
        show bud (put sz wy T p.rule x n) + remw p (passStep T p.steps.length c) ≤ _
        omega
      · show ph (put sz wy T p.rule x n) + remw p (passStep T p.steps.length c) < _ ∨ (ph (put sz wy T p.rule x n) + remw p (passStep T p.steps.length c) = _ ∧ (put sz wy T p.rule x n).first = _)
        rcases d.fall with e | e
        · have e' : put sz wy T p.rule x n = addSt T x n := e
          rw [e']
          exact .inr ⟨by omega, rfl⟩
        · have e' : ph (put sz wy T p.rule x n) < ph (addSt T x n) := e
          exact .inl (by omega)
    | read =>
      have hr : remw p c = 0 + remw p (passStep T p.steps.length c) := hr
      simp only
      split
      · exact Gn.refl w i
      · refine ⟨⟨w.pos, w.ff⟩, pass_ci hlt (hu (by simp)) he, ?_, .inr ⟨?_, rfl⟩⟩
        · show bud x + remw p (passStep T p.steps.length c) ≤ _
          omega
        · show ph x + remw p (passStep T p.steps.length c) = _
          omega
    | pause =>
      have hr : remw p c = 1 + remw p (passStep T p.steps.length c) := hr
      simp only
      split
      · refine ⟨w, ⟨i.le, i.go, fun _ => ⟨he, n, q⟩⟩, Int.le_refl _, .inr ⟨rfl, rfl⟩⟩
      · have hr' : remw p (passStep T p.steps.length { c with until_ := none }) = remw p (passStep T p.steps.length c) := rfl
        refine ⟨w, pass_ci (c := { c with until_ := none }) hlt rfl he, ?_, .inl ?_⟩
        · show bud x + remw p (passStep T p.steps.length { c with until_ := none }) ≤ _
          omega
        · show ph x + remw p (passStep T p.steps.length { c with until_ := none }) < _
          omega
theorem goOn_gn (hz : 1 ≤ sz) (hp : POk p) : ∀ (k : Nat) (x : Sd) (c : Co), Wf x → Ci p c → Gn p x c (goOn sz wy T p k (x, c)).1 (goOn sz wy T p k (x, c)).2
  | 0, x, c, w, i => .refl w i
  | k + 1, x, c, w, i => by
    unfold goOn
    split
    · rename_i he
      have d := doStep_gn (wy := wy) (T := T) hz hp w i he
      split
      · exact d.trans (goOn_gn hz hp k _ _ d.wf d.ci)
      · exact d
    · exact .refl w i
theorem goAll_gn (hz : 1 ≤ sz) (hp : POk p) (w : Wf x) (i : Ci p c) : Gn p x c (goAll sz wy T p (x, c)).1 (goAll sz wy T p (x, c)).2 := goOn_gn hz hp _ x c w i
/-- a pause that is over is passed -/
theorem goAll_fall (hz : 1 ≤ sz) (hp : POk p) (w : Wf x) (i : Ci p c) {u : Int} (hu : c.until_ = some u) (hT : u ≤ T) : ph (goAll sz wy T p (x, c)).1 + remw p (goAll sz wy T p (x, c)).2 < ph x + remw p c := by
  obtain ⟨he, n, q⟩ := i.wait (by rw [hu]; simp)
  have hlt := i.go he
  unfold goAll
  obtain ⟨k, hk⟩ : ∃ k, p.steps.length - c.place = k + 1 := ⟨p.steps.length - c.place - 1, by omega⟩
  rw [hk]
  unfold goOn
  have e : doStep sz wy T p x c = (true, x, passStep T p.steps.length { c with until_ := none }) := by
    unfold doStep
    rw [q]
    simp only [hu, Option.getD_some]
    rw [if_neg (by omega)]
  simp only
  rw [if_pos he, e, if_pos rfl]
  show ph (goOn sz wy T p k (x, passStep T p.steps.length { c with until_ := none })).1 + remw p (goOn sz wy T p k (x, passStep T p.steps.length { c with until_ := none })).2 < _
  have i2 : Ci p (passStep T p.steps.length { c with until_ := none }) := pass_ci (c := { c with until_ := none }) hlt rfl he
  have g := goOn_gn (wy := wy) (T := T) hz hp k x (passStep T p.steps.length { c with until_ := none }) w i2
  have hr : remw p c = 1 + remw p (passStep T p.steps.length { c with until_ := none }) := remw_step (T := T) (len := p.steps.length) q
  rcases g.fall with h | ⟨h, _⟩
  · omega
  · omega
end
/-! a tick -/
structure FOk (f : Cf) : Prop where
  sz : 1 ≤ f.sz
  p : ∀ s, POk (f.p s)
structure Zok (f : Cf) (S : S2) (C : C2) : Prop where
  wf : ∀ s, Wf (S s)
  ci : ∀ s, Ci (f.p s) (C s)
def tot (f : Cf) (S : S2) (C : C2) : Int := ph (S false) + remw (f.p false) (C false) + (ph (S true) + remw (f.p true) (C true))
def totB (f : Cf) (S : S2) (C : C2) : Int := bud (S false) + remw (f.p false) (C false) + (bud (S true) + remw (f.p true) (C true))
section
variable {f : Cf} {T : Int} {S : S2} {C : C2}
theorem begin_dn (hf : FOk f) (z : Zok f S C) (s : Bool) : Dn (landAll f.sz T S s) (begin_ f T S s) := letGo_dn hf.sz ((land_ok z.wf).wf s)
theorem tick_gn (hf : FOk f) (z : Zok f S C) (s : Bool) : Gn (f.p s) (begin_ f T S s) (C s) (goAll f.sz f.wy T (f.p s) (begin_ f T S s, C s)).1 (tickC f T S C s) :=
  goAll_gn hf.sz (hf.p s) (begin_dn hf z s).wf (z.ci s)
theorem tick_dn (hf : FOk f) (z : Zok f S C) (s : Bool) : Dn (goAll f.sz f.wy T (f.p s) (begin_ f T S s, C s)).1 (tickS f T S C s) := leave_dn (hf.p s).every (tick_gn hf z s).wf
theorem tick_ok (hf : FOk f) (z : Zok f S C) : Zok f (tickS f T S C) (tickC f T S C) := ⟨fun s => (tick_dn hf z s).wf, fun s => (tick_gn hf z s).ci⟩
/-- one side's part, behind the landing -/
theorem side_le (hf : FOk f) (z : Zok f S C) (s : Bool) : ph (tickS f T S C s) + remw (f.p s) (tickC f T S C s) ≤ ph (landAll f.sz T S s) + remw (f.p s) (C s) := by
  have a := (begin_dn (T := T) hf z s).le
  have b := (tick_gn (T := T) hf z s).fall
  have c := (tick_dn (T := T) hf z s).le
  omega
theorem side_lt_until (hf : FOk f) (z : Zok f S C) (s : Bool) {u : Int} (hu : (C s).until_ = some u) (hT : u ≤ T) : ph (tickS f T S C s) + remw (f.p s) (tickC f T S C s) < ph (landAll f.sz T S s) + remw (f.p s) (C s) := by
  have a := (begin_dn (T := T) hf z s).le
  have b : ph (goAll f.sz f.wy T (f.p s) (begin_ f T S s, C s)).1 + remw (f.p s) (tickC f T S C s) < ph (begin_ f T S s) + remw (f.p s) (C s) := goAll_fall hf.sz (hf.p s) (begin_dn hf z s).wf (z.ci s) hu hT
  have c := (tick_dn (T := T) hf z s).le
  omega
theorem side_lt_first (hf : FOk f) (z : Zok f S C) (s : Bool) {v : Int} (hv : (S s).first = some v) (hT : v + (f.p s).delay ≤ T) : ph (tickS f T S C s) + remw (f.p s) (tickC f T S C s) < ph (landAll f.sz T S s) + remw (f.p s) (C s) := by
  have l := (land_ok (sz := f.sz) (T := T) z.wf).first s v hv
  have a := begin_dn (T := T) hf z s
  have b := (tick_gn (T := T) hf z s)
  have c := (tick_dn (T := T) hf z s).le
  rcases a.fall with a | a
  · rcases b.fall with b' | ⟨b1, b2⟩
    · have b3 : ph (begin_ f T S s) = ph (landAll f.sz T S s) := by rw [a]
      omega
    · have q : ph (tickS f T S C s) < ph (goAll f.sz f.wy T (f.p s) (begin_ f T S s, C s)).1 := leave_fall b.wf (v := v) (by rw [b2, a]; exact l) hT
      have b3 : ph (begin_ f T S s) = ph (landAll f.sz T S s) := by rw [a]
      have q2 : ph (tickS f T S C s) + remw (f.p s) (tickC f T S C s) < ph (goAll f.sz f.wy T (f.p s) (begin_ f T S s, C s)).1 + remw (f.p s) (tickC f T S C s) := by omega
      omega
  · have := b.fall
    omega
theorem tick_lt (hf : FOk f) (z : Zok f S C) (h : ev f S C = some T) : tot f (tickS f T S C) (tickC f T S C) < tot f S C := by
  obtain ⟨hm, _⟩ := mnL_mem h
  have l := (land_ok (sz := f.sz) (T := T) z.wf).ph
  have b := side_le (T := T) hf z
  have b0 := b false
  have b1 := b true
  have key : ∀ s, T ∈ evs f S C s → (lnd T S s ≠ [] ∨ ph (tickS f T S C s) + remw (f.p s) (tickC f T S C s) < ph (landAll f.sz T S s) + remw (f.p s) (C s)) := fun s hs => by
    unfold evs at hs
    rcases List.mem_append.mp hs with h | h
    · exact .inr (side_lt_until hf z s (by simpa using h) (Int.le_refl _))
    · rcases List.mem_append.mp h with h | h
      · obtain ⟨q, hq, e⟩ := List.mem_map.mp h
        left
        intro e2
        have : q ∈ lnd T S s := List.mem_filter.mpr ⟨hq, by rw [e]; simp⟩
        rw [e2] at this
        simp at this
      · cases e : (S s).first with
        | none => rw [e] at h; simp at h
        | some v =>
          rw [e] at h
          have h : T = v + (f.p s).delay := by simpa using h
          exact .inr (side_lt_first hf z s e (by omega))
  have nn : ∀ s, lnd T S s ≠ [] → 0 < (lnd T S s).length := fun s h => List.length_pos_iff.mpr h
  unfold tot
  rcases List.mem_append.mp hm with hm | hm
  · rcases key false hm with k | k
    · have := nn _ k
      omega
    · omega
  · rcases key true hm with k | k
    · have := nn _ k
      omega
    · omega
theorem bud_eq (x : Sd) : bud x = (x.lg.length : Int) + ph x := rfl
/-- the budget behind the landing -/
theorem land_bud (hf : FOk f) (z : Zok f S C) : bud (landAll f.sz T S false) + bud (landAll f.sz T S true) ≤ bud (S false) + bud (S true) := by
  have l := land_ok (sz := f.sz) (T := T) z.wf
  have h := l.ph
  rw [bud_eq, bud_eq, bud_eq, bud_eq, l.lg, l.lg]
  omega
theorem tick_bud (hf : FOk f) (z : Zok f S C) : totB f (tickS f T S C) (tickC f T S C) ≤ totB f S C := by
  have l := land_bud (T := T) hf z
  have h : ∀ s, bud (tickS f T S C s) + remw (f.p s) (tickC f T S C s) ≤ bud (landAll f.sz T S s) + remw (f.p s) (C s) := fun s => by
    have a := (begin_dn (T := T) hf z s).bud
    have b := (tick_gn (T := T) hf z s).bud
    have c := (tick_dn (T := T) hf z s).bud
    omega
  have h0 := h false
  have h1 := h true
  unfold totB
  omega
theorem tot_pos (hf : FOk f) (z : Zok f S C) : 0 ≤ tot f S C := by
  have a := (z.wf false).ph
  have b := (z.wf true).ph
  have c := remw_pos (c := C false) (hf.p false)
  have d := remw_pos (c := C true) (hf.p true)
  unfold tot
  omega
end
end K10

namespace K10
open PySem L2
def topS (i : Nat) : Stmt := PySem.Challenge.pw_smallheld_k10_whole_sides_changed.main.body.getD i (.Pass ⟨0, 0, 0, 0⟩)
abbrev s_F_init : Stmt := inClass (topS 2) 0
abbrev ps_F_init : List Str := ["self", "line"]
theorem sc_F_init : FnScope ["self", "line"] ["self", "line"] (defScope s_F_init) := ⟨rfl, rfl, rfl, by decide +kernel, rfl, by decide +kernel, by decide +kernel⟩
abbrev s_F_kept : Stmt := inClass (topS 2) 1
abbrev ps_F_kept : List Str := ["self", "side"]
theorem sc_F_kept : FnScope ["self", "side", "amount", "tick"] ["self", "side"] (defScope s_F_kept) := ⟨rfl, rfl, rfl, by decide +kernel, rfl, by decide +kernel, by decide +kernel⟩
abbrev s_F_fresh : Stmt := inClass (topS 2) 2
abbrev ps_F_fresh : List Str := ["self", "side"]
theorem sc_F_fresh : FnScope ["self", "side"] ["self", "side"] (defScope s_F_fresh) := ⟨rfl, rfl, rfl, by decide +kernel, rfl, by decide +kernel, by decide +kernel⟩
abbrev s_F_take_out : Stmt := inClass (topS 2) 3
abbrev ps_F_take_out : List Str := ["self", "side", "amount"]
theorem sc_F_take_out : FnScope ["self", "side", "amount", "left", "first", "tick"] ["self", "side", "amount"] (defScope s_F_take_out) := ⟨rfl, rfl, rfl, by decide +kernel, rfl, by decide +kernel, by decide +kernel⟩
abbrev s_F_send : Stmt := inClass (topS 2) 4
abbrev ps_F_send : List Str := ["self", "side", "amount"]
theorem sc_F_send : FnScope ["self", "side", "amount"] ["self", "side", "amount"] (defScope s_F_send) := ⟨rfl, rfl, rfl, by decide +kernel, rfl, by decide +kernel, by decide +kernel⟩
abbrev s_F_lets : Stmt := inClass (topS 2) 5
abbrev ps_F_lets : List Str := ["self", "side"]
theorem sc_F_lets : FnScope ["self", "side", "rule"] ["self", "side"] (defScope s_F_lets) := ⟨rfl, rfl, rfl, by decide +kernel, rfl, by decide +kernel, by decide +kernel⟩
abbrev s_F_let_go : Stmt := inClass (topS 2) 6
abbrev ps_F_let_go : List Str := ["self", "side"]
theorem sc_F_let_go : FnScope ["self", "side", "amount"] ["self", "side"] (defScope s_F_let_go) := ⟨rfl, rfl, rfl, by decide +kernel, rfl, by decide +kernel, by decide +kernel⟩
abbrev s_F_put : Stmt := inClass (topS 2) 7
abbrev ps_F_put : List Str := ["self", "side", "amount"]
theorem sc_F_put : FnScope ["self", "side", "amount"] ["self", "side", "amount"] (defScope s_F_put) := ⟨rfl, rfl, rfl, by decide +kernel, rfl, by decide +kernel, by decide +kernel⟩
abbrev s_F_land : Stmt := inClass (topS 2) 8
abbrev ps_F_land : List Str := ["self", "sender", "amount", "answered"]
theorem sc_F_land : FnScope ["self", "sender", "amount", "answered", "side"] ["self", "sender", "amount", "answered"] (defScope s_F_land) := ⟨rfl, rfl, rfl, by decide +kernel, rfl, by decide +kernel, by decide +kernel⟩
abbrev s_F_begin : Stmt := inClass (topS 2) 9
abbrev ps_F_begin : List Str := ["self", "tick"]
theorem sc_F_begin : FnScope ["self", "tick", "landing", "there", "sender", "amount", "answered", "side", "piece"] ["self", "tick"] (defScope s_F_begin) := ⟨rfl, rfl, rfl, by decide +kernel, rfl, by decide +kernel, by decide +kernel⟩
abbrev s_F_is_due : Stmt := inClass (topS 2) 10
abbrev ps_F_is_due : List Str := ["self", "side"]
theorem sc_F_is_due : FnScope ["self", "side", "setting"] ["self", "side"] (defScope s_F_is_due) := ⟨rfl, rfl, rfl, by decide +kernel, rfl, by decide +kernel, by decide +kernel⟩
abbrev s_F_leave : Stmt := inClass (topS 2) 11
abbrev ps_F_leave : List Str := ["self"]
theorem sc_F_leave : FnScope ["self", "side"] ["self"] (defScope s_F_leave) := ⟨rfl, rfl, rfl, by decide +kernel, rfl, by decide +kernel, by decide +kernel⟩
abbrev s_F_next_tick : Stmt := inClass (topS 2) 12
abbrev ps_F_next_tick : List Str := ["self"]
theorem sc_F_next_tick : FnScope ["self", "ticks", "side", "piece"] ["self"] (defScope s_F_next_tick) := ⟨rfl, rfl, rfl, by decide +kernel, rfl, by decide +kernel, by decide +kernel⟩
abbrev s_C_init : Stmt := inClass (topS 3) 0
abbrev ps_C_init : List Str := ["self", "steps", "again"]
theorem sc_C_init : FnScope ["self", "steps", "again"] ["self", "steps", "again"] (defScope s_C_init) := ⟨rfl, rfl, rfl, by decide +kernel, rfl, by decide +kernel, by decide +kernel⟩
abbrev s_C_pass_step : Stmt := inClass (topS 3) 1
abbrev ps_C_pass_step : List Str := ["self", "flow"]
theorem sc_C_pass_step : FnScope ["self", "flow"] ["self", "flow"] (defScope s_C_pass_step) := ⟨rfl, rfl, rfl, by decide +kernel, rfl, by decide +kernel, by decide +kernel⟩
abbrev s_C_rests : Stmt := inClass (topS 3) 2
abbrev ps_C_rests : List Str := ["self", "flow", "ticks"]
theorem sc_C_rests : FnScope ["self", "flow", "ticks"] ["self", "flow", "ticks"] (defScope s_C_rests) := ⟨rfl, rfl, rfl, by decide +kernel, rfl, by decide +kernel, by decide +kernel⟩
abbrev s_C_do_step : Stmt := inClass (topS 3) 3
abbrev ps_C_do_step : List Str := ["self", "flow", "side"]
theorem sc_C_do_step : FnScope ["self", "flow", "side", "word", "amount"] ["self", "flow", "side"] (defScope s_C_do_step) := ⟨rfl, rfl, rfl, by decide +kernel, rfl, by decide +kernel, by decide +kernel⟩
abbrev s_C_go_on : Stmt := inClass (topS 3) 4
abbrev ps_C_go_on : List Str := ["self", "flow", "side"]
theorem sc_C_go_on : FnScope ["self", "flow", "side"] ["self", "flow", "side"] (defScope s_C_go_on) := ⟨rfl, rfl, rfl, by decide +kernel, rfl, by decide +kernel, by decide +kernel⟩
abbrev s_events : Stmt := topS 4
abbrev ps_events : List Str := ["flow", "courses"]
theorem sc_events : FnScope ["flow", "courses", "ticks", "after", "course"] ["flow", "courses"] (defScope s_events) := ⟨rfl, rfl, rfl, by decide +kernel, rfl, by decide +kernel, by decide +kernel⟩
abbrev s_do_tick : Stmt := topS 5
abbrev ps_do_tick : List Str := ["flow", "courses", "tick"]
theorem sc_do_tick : FnScope ["flow", "courses", "tick", "side"] ["flow", "courses", "tick"] (defScope s_do_tick) := ⟨rfl, rfl, rfl, by decide +kernel, rfl, by decide +kernel, by decide +kernel⟩
abbrev s_is_integer : Stmt := topS 24
abbrev ps_is_integer : List Str := ["value"]
theorem sc_is_integer : FnScope ["value"] ["value"] (defScope s_is_integer) := ⟨rfl, rfl, rfl, by decide +kernel, rfl, by decide +kernel, by decide +kernel⟩
abbrev s_is_between : Stmt := topS 25
abbrev ps_is_between : List Str := ["value", "low", "high"]
theorem sc_is_between : FnScope ["value", "low", "high"] ["value", "low", "high"] (defScope s_is_between) := ⟨rfl, rfl, rfl, by decide +kernel, rfl, by decide +kernel, by decide +kernel⟩
abbrev s_check_number : Stmt := topS 26
abbrev ps_check_number : List Str := ["value", "low", "high"]
theorem sc_check_number : FnScope ["value", "low", "high"] ["value", "low", "high"] (defScope s_check_number) := ⟨rfl, rfl, rfl, by decide +kernel, rfl, by decide +kernel, by decide +kernel⟩
abbrev s_S_init : Stmt := inClass (topS 27) 0
abbrev ps_S_init : List Str := ["self", "rule", "every", "delay"]
theorem sc_S_init : FnScope ["self", "rule", "every", "delay"] ["self", "rule", "every", "delay"] (defScope s_S_init) := ⟨rfl, rfl, rfl, by decide +kernel, rfl, by decide +kernel, by decide +kernel⟩
abbrev s_check_setting : Stmt := topS 28
abbrev ps_check_setting : List Str := ["value"]
theorem sc_check_setting : FnScope ["value"] ["value"] (defScope s_check_setting) := ⟨rfl, rfl, rfl, by decide +kernel, rfl, by decide +kernel, by decide +kernel⟩
abbrev s_L_init : Stmt := inClass (topS 29) 0
abbrev ps_L_init : List Str := ["self", "size", "way", "near", "far"]
theorem sc_L_init : FnScope ["self", "size", "way", "near", "far"] ["self", "size", "way", "near", "far"] (defScope s_L_init) := ⟨rfl, rfl, rfl, by decide +kernel, rfl, by decide +kernel, by decide +kernel⟩
abbrev s_check_line : Stmt := topS 30
abbrev ps_check_line : List Str := ["value"]
theorem sc_check_line : FnScope ["value"] ["value"] (defScope s_check_line) := ⟨rfl, rfl, rfl, by decide +kernel, rfl, by decide +kernel, by decide +kernel⟩
abbrev s_is_amount : Stmt := topS 33
abbrev ps_is_amount : List Str := ["value"]
theorem sc_is_amount : FnScope ["value"] ["value"] (defScope s_is_amount) := ⟨rfl, rfl, rfl, by decide +kernel, rfl, by decide +kernel, by decide +kernel⟩
abbrev s_is_step : Stmt := topS 34
abbrev ps_is_step : List Str := ["value"]
theorem sc_is_step : FnScope ["value"] ["value"] (defScope s_is_step) := ⟨rfl, rfl, rfl, by decide +kernel, rfl, by decide +kernel, by decide +kernel⟩
abbrev s_check_program : Stmt := topS 35
abbrev ps_check_program : List Str := ["value"]
theorem sc_check_program : FnScope ["value", "index", "step"] ["value"] (defScope s_check_program) := ⟨rfl, rfl, rfl, by decide +kernel, rfl, by decide +kernel, by decide +kernel⟩
abbrev s_is_size : Stmt := topS 36
abbrev ps_is_size : List Str := ["value"]
theorem sc_is_size : FnScope ["value"] ["value"] (defScope s_is_size) := ⟨rfl, rfl, rfl, by decide +kernel, rfl, by decide +kernel, by decide +kernel⟩
abbrev s_check_size : Stmt := topS 37
abbrev ps_check_size : List Str := ["value"]
theorem sc_check_size : FnScope ["value"] ["value"] (defScope s_check_size) := ⟨rfl, rfl, rfl, by decide +kernel, rfl, by decide +kernel, by decide +kernel⟩
abbrev s_pause_steps : Stmt := topS 38
abbrev ps_pause_steps : List Str := ["one", "other"]
theorem sc_pause_steps : FnScope ["one", "other", "step"] ["one", "other"] (defScope s_pause_steps) := ⟨rfl, rfl, rfl, by decide +kernel, rfl, by decide +kernel, by decide +kernel⟩
abbrev s_check_pauses : Stmt := topS 39
abbrev ps_check_pauses : List Str := ["value", "one", "other"]
theorem sc_check_pauses : FnScope ["value", "one", "other", "steps", "index", "ticks"] ["value", "one", "other"] (defScope s_check_pauses) := ⟨rfl, rfl, rfl, by decide +kernel, rfl, by decide +kernel, by decide +kernel⟩
abbrev s_plain_steps : Stmt := topS 41
abbrev ps_plain_steps : List Str := ["program", "x", "ticks"]
theorem sc_plain_steps : FnScope ["program", "x", "ticks", "found", "left", "step"] ["program", "x", "ticks"] (defScope s_plain_steps) := ⟨rfl, rfl, rfl, by decide +kernel, rfl, by decide +kernel, by decide +kernel⟩
abbrev s_R_init : Stmt := inClass (topS 43) 0
abbrev ps_R_init : List Str := ["self", "flow", "courses"]
theorem sc_R_init : FnScope ["self", "flow", "courses", "course", "side", "piece"] ["self", "flow", "courses"] (defScope s_R_init) := ⟨rfl, rfl, rfl, by decide +kernel, rfl, by decide +kernel, by decide +kernel⟩
abbrev s_R_len : Stmt := inClass (topS 43) 1
abbrev ps_R_len : List Str := ["self"]
theorem sc_R_len : FnScope ["self"] ["self"] (defScope s_R_len) := ⟨rfl, rfl, rfl, by decide +kernel, rfl, by decide +kernel, by decide +kernel⟩
abbrev s_run_of : Stmt := topS 44
abbrev ps_run_of : List Str := ["line", "one", "other", "x", "pauses"]
theorem sc_run_of : FnScope ["line", "one", "other", "x", "pauses", "flow", "first", "left", "second", "courses", "tick"] ["line", "one", "other", "x", "pauses"] (defScope s_run_of) := ⟨rfl, rfl, rfl, by decide +kernel, rfl, by decide +kernel, by decide +kernel⟩
abbrev s_check_run : Stmt := topS 45
abbrev ps_check_run : List Str := ["line", "one", "other"]
theorem sc_check_run : FnScope ["line", "one", "other"] ["line", "one", "other"] (defScope s_check_run) := ⟨rfl, rfl, rfl, by decide +kernel, rfl, by decide +kernel, by decide +kernel⟩
abbrev s_run : Stmt := topS 46
abbrev ps_run : List Str := ["line", "one", "other", "x", "pauses"]
theorem sc_run : FnScope ["line", "one", "other", "x", "pauses"] ["line", "one", "other", "x", "pauses"] (defScope s_run) := ⟨rfl, rfl, rfl, by decide +kernel, rfl, by decide +kernel, by decide +kernel⟩
abbrev s_l_mill : Stmt := topS 48
abbrev ps_l_mill : List Str := ["_law_script", "_law_k"]
theorem sc_l_mill : FnScope ["_law_script", "_law_k", "_law_own", "_law_mixed", "_law_entry"] ["_law_script", "_law_k"] (defScope s_l_mill) := ⟨rfl, rfl, rfl, by decide +kernel, rfl, by decide +kernel, by decide +kernel⟩
abbrev s_l_grain : Stmt := topS 49
abbrev ps_l_grain : List Str := ["_law_mill_here", "_law_many"]
theorem sc_l_grain : FnScope ["_law_mill_here", "_law_many", "_law_digit"] ["_law_mill_here", "_law_many"] (defScope s_l_grain) := ⟨rfl, rfl, rfl, by decide +kernel, rfl, by decide +kernel, by decide +kernel⟩
abbrev s_l_pick : Stmt := topS 50
abbrev ps_l_pick : List Str := ["_law_mill_here", "_law_things"]
theorem sc_l_pick : FnScope ["_law_mill_here", "_law_things"] ["_law_mill_here", "_law_things"] (defScope s_l_pick) := ⟨rfl, rfl, rfl, by decide +kernel, rfl, by decide +kernel, by decide +kernel⟩
abbrev s_l_ways : Stmt := topS 51
abbrev ps_l_ways : List Str := ["_law_mill_here"]
theorem sc_l_ways : FnScope ["_law_mill_here", "_law_word"] ["_law_mill_here"] (defScope s_l_ways) := ⟨rfl, rfl, rfl, by decide +kernel, rfl, by decide +kernel, by decide +kernel⟩
abbrev s_l_told : Stmt := topS 52
abbrev ps_l_told : List Str := ["_law_mill_here"]
theorem sc_l_told : FnScope ["_law_mill_here", "_law_big"] ["_law_mill_here"] (defScope s_l_told) := ⟨rfl, rfl, rfl, by decide +kernel, rfl, by decide +kernel, by decide +kernel⟩
abbrev s_l_made : Stmt := topS 53
abbrev ps_l_made : List Str := ["_law_told_here"]
theorem sc_l_made : FnScope ["_law_told_here", "_law_a", "_law_b", "_law_c", "_law_d"] ["_law_told_here"] (defScope s_l_made) := ⟨rfl, rfl, rfl, by decide +kernel, rfl, by decide +kernel, by decide +kernel⟩
abbrev s_l_amount : Stmt := topS 54
abbrev ps_l_amount : List Str := ["_law_mill_here", "_law_letter"]
theorem sc_l_amount : FnScope ["_law_mill_here", "_law_letter"] ["_law_mill_here", "_law_letter"] (defScope s_l_amount) := ⟨rfl, rfl, rfl, by decide +kernel, rfl, by decide +kernel, by decide +kernel⟩
abbrev s_l_plans : Stmt := topS 55
abbrev ps_l_plans : List Str := ["_law_mill_here", "_law_letter"]
theorem sc_l_plans : FnScope ["_law_mill_here", "_law_letter", "_law_plans_here", "_law_k", "_law_near_here", "_law_amount_here", "_law_way", "_law_least"] ["_law_mill_here", "_law_letter"] (defScope s_l_plans) := ⟨rfl, rfl, rfl, by decide +kernel, rfl, by decide +kernel, by decide +kernel⟩
abbrev s_l_choice : Stmt := topS 56
abbrev ps_l_choice : List Str := ["_law_mill_here", "_law_plans_here"]
theorem sc_l_choice : FnScope ["_law_mill_here", "_law_plans_here", "_law_found", "_law_each"] ["_law_mill_here", "_law_plans_here"] (defScope s_l_choice) := ⟨rfl, rfl, rfl, by decide +kernel, rfl, by decide +kernel, by decide +kernel⟩
abbrev s_l_right : Stmt := topS 57
abbrev ps_l_right : List Str := ["_law_mill_here"]
theorem sc_l_right : FnScope ["_law_mill_here", "_law_again", "_law_a", "_law_b", "_law_c", "_law_d", "_law_plans_here", "_law_many", "_law_ticks", "_law_first", "_law_found", "_law_mate", "_law_turned", "_law_k", "_law_one_here", "_law_each", "_law_piece"] ["_law_mill_here"] (defScope s_l_right) := ⟨rfl, rfl, rfl, by decide +kernel, rfl, by decide +kernel, by decide +kernel⟩
abbrev s_law : Stmt := topS 58
abbrev ps_law : List Str := ["_law_script"]
theorem sc_law : FnScope ["_law_script", "_law_k"] ["_law_script"] (defScope s_law) := ⟨rfl, rfl, rfl, by decide +kernel, rfl, by decide +kernel, by decide +kernel⟩
structure Ads where
  f_F_init : Addr
  d_F_init : FuncData
  f_F_kept : Addr
  d_F_kept : FuncData
  f_F_fresh : Addr
  d_F_fresh : FuncData
  f_F_take_out : Addr
  d_F_take_out : FuncData
  f_F_send : Addr
  d_F_send : FuncData
  f_F_lets : Addr
  d_F_lets : FuncData
  f_F_let_go : Addr
  d_F_let_go : FuncData
  f_F_put : Addr
  d_F_put : FuncData
  f_F_land : Addr
  d_F_land : FuncData
  f_F_begin : Addr
  d_F_begin : FuncData
  f_F_is_due : Addr
  d_F_is_due : FuncData
  f_F_leave : Addr
  d_F_leave : FuncData
  f_F_next_tick : Addr
  d_F_next_tick : FuncData
  f_C_init : Addr
  d_C_init : FuncData
  f_C_pass_step : Addr
  d_C_pass_step : FuncData
  f_C_rests : Addr
  d_C_rests : FuncData
  f_C_do_step : Addr
  d_C_do_step : FuncData
  f_C_go_on : Addr
  d_C_go_on : FuncData
  f_events : Addr
  d_events : FuncData
  f_do_tick : Addr
  d_do_tick : FuncData
  f_is_integer : Addr
  d_is_integer : FuncData
  f_is_between : Addr
  d_is_between : FuncData
  f_check_number : Addr
  d_check_number : FuncData
  f_S_init : Addr
  d_S_init : FuncData
  f_check_setting : Addr
  d_check_setting : FuncData
  f_L_init : Addr
  d_L_init : FuncData
  f_check_line : Addr
  d_check_line : FuncData
  f_is_amount : Addr
  d_is_amount : FuncData
  f_is_step : Addr
  d_is_step : FuncData
  f_check_program : Addr
  d_check_program : FuncData
  f_is_size : Addr
  d_is_size : FuncData
  f_check_size : Addr
  d_check_size : FuncData
  f_pause_steps : Addr
  d_pause_steps : FuncData
  f_check_pauses : Addr
  d_check_pauses : FuncData
  f_plain_steps : Addr
  d_plain_steps : FuncData
  f_R_init : Addr
  d_R_init : FuncData
  f_R_len : Addr
  d_R_len : FuncData
  f_run_of : Addr
  d_run_of : FuncData
  f_check_run : Addr
  d_check_run : FuncData
  f_run : Addr
  d_run : FuncData
  f_l_mill : Addr
  d_l_mill : FuncData
  f_l_grain : Addr
  d_l_grain : FuncData
  f_l_pick : Addr
  d_l_pick : FuncData
  f_l_ways : Addr
  d_l_ways : FuncData
  f_l_told : Addr
  d_l_told : FuncData
  f_l_made : Addr
  d_l_made : FuncData
  f_l_amount : Addr
  d_l_amount : FuncData
  f_l_plans : Addr
  d_l_plans : FuncData
  f_l_choice : Addr
  d_l_choice : FuncData
  f_l_right : Addr
  d_l_right : FuncData
  f_law : Addr
  d_law : FuncData
  CF : Addr
  CC : Addr
  CS : Addr
  CL : Addr
  CR : Addr
  t_MOST_SIZE : Tok
  t_MOST_WAY : Tok
  t_MOST_EVERY : Tok
  t_MOST_DELAY : Tok
  t_MOST_STEPS : Tok
  t_MOST_BYTES : Tok
  t_MOST_X : Tok
  t_LETTER : Tok
  a_RULES : Addr
  c_R : Addr
  p_R : Addr
structure Txt (K : PySem.W.Frag) (mg : Str → Option Value) (A : Ads) : Prop where
  F_init : Fun K "__init__" "Flow.__init__" s_F_init A.f_F_init A.d_F_init
  F_kept : Fun K "kept" "Flow.kept" s_F_kept A.f_F_kept A.d_F_kept
  F_fresh : Fun K "fresh" "Flow.fresh" s_F_fresh A.f_F_fresh A.d_F_fresh
  F_take_out : Fun K "take_out" "Flow.take_out" s_F_take_out A.f_F_take_out A.d_F_take_out
  F_send : Fun K "send" "Flow.send" s_F_send A.f_F_send A.d_F_send
  F_lets : Fun K "lets" "Flow.lets" s_F_lets A.f_F_lets A.d_F_lets
  F_let_go : Fun K "let_go" "Flow.let_go" s_F_let_go A.f_F_let_go A.d_F_let_go
  F_put : Fun K "put" "Flow.put" s_F_put A.f_F_put A.d_F_put
  F_land : Fun K "land" "Flow.land" s_F_land A.f_F_land A.d_F_land
  F_begin : Fun K "begin" "Flow.begin" s_F_begin A.f_F_begin A.d_F_begin
  F_is_due : Fun K "is_due" "Flow.is_due" s_F_is_due A.f_F_is_due A.d_F_is_due
  F_leave : Fun K "leave" "Flow.leave" s_F_leave A.f_F_leave A.d_F_leave
  F_next_tick : Fun K "next_tick" "Flow.next_tick" s_F_next_tick A.f_F_next_tick A.d_F_next_tick
  C_init : Fun K "__init__" "Course.__init__" s_C_init A.f_C_init A.d_C_init
  C_pass_step : Fun K "pass_step" "Course.pass_step" s_C_pass_step A.f_C_pass_step A.d_C_pass_step
  C_rests : Fun K "rests" "Course.rests" s_C_rests A.f_C_rests A.d_C_rests
  C_do_step : Fun K "do_step" "Course.do_step" s_C_do_step A.f_C_do_step A.d_C_do_step
  C_go_on : Fun K "go_on" "Course.go_on" s_C_go_on A.f_C_go_on A.d_C_go_on
  events : Fun K "events" "events" s_events A.f_events A.d_events
  do_tick : Fun K "do_tick" "do_tick" s_do_tick A.f_do_tick A.d_do_tick
  is_integer : Fun K "is_integer" "is_integer" s_is_integer A.f_is_integer A.d_is_integer
  is_between : Fun K "is_between" "is_between" s_is_between A.f_is_between A.d_is_between
  check_number : Fun K "check_number" "check_number" s_check_number A.f_check_number A.d_check_number
  S_init : Fun K "__init__" "Setting.__init__" s_S_init A.f_S_init A.d_S_init
  check_setting : Fun K "check_setting" "check_setting" s_check_setting A.f_check_setting A.d_check_setting
  L_init : Fun K "__init__" "Line.__init__" s_L_init A.f_L_init A.d_L_init
  check_line : Fun K "check_line" "check_line" s_check_line A.f_check_line A.d_check_line
  is_amount : Fun K "is_amount" "is_amount" s_is_amount A.f_is_amount A.d_is_amount
  is_step : Fun K "is_step" "is_step" s_is_step A.f_is_step A.d_is_step
  check_program : Fun K "check_program" "check_program" s_check_program A.f_check_program A.d_check_program
  is_size : Fun K "is_size" "is_size" s_is_size A.f_is_size A.d_is_size
  check_size : Fun K "check_size" "check_size" s_check_size A.f_check_size A.d_check_size
  pause_steps : Fun K "pause_steps" "pause_steps" s_pause_steps A.f_pause_steps A.d_pause_steps
  check_pauses : Fun K "check_pauses" "check_pauses" s_check_pauses A.f_check_pauses A.d_check_pauses
  plain_steps : Fun K "plain_steps" "plain_steps" s_plain_steps A.f_plain_steps A.d_plain_steps
  R_init : Fun K "__init__" "Run.__init__" s_R_init A.f_R_init A.d_R_init
  R_len : Fun K "__len__" "Run.__len__" s_R_len A.f_R_len A.d_R_len
  run_of : Fun K "run_of" "run_of" s_run_of A.f_run_of A.d_run_of
  check_run : Fun K "check_run" "check_run" s_check_run A.f_check_run A.d_check_run
  run : FunD K "run" "run" (defArgs s_run) (defBody s_run) (defScope s_run) [] [] A.f_run A.d_run
  l_mill : Fun K "_law_mill" "_law_mill" s_l_mill A.f_l_mill A.d_l_mill
  l_grain : Fun K "_law_grain" "_law_grain" s_l_grain A.f_l_grain A.d_l_grain
  l_pick : Fun K "_law_pick" "_law_pick" s_l_pick A.f_l_pick A.d_l_pick
  l_ways : Fun K "_law_ways" "_law_ways" s_l_ways A.f_l_ways A.d_l_ways
  l_told : Fun K "_law_told" "_law_told" s_l_told A.f_l_told A.d_l_told
  l_made : Fun K "_law_made" "_law_made" s_l_made A.f_l_made A.d_l_made
  l_amount : Fun K "_law_amount" "_law_amount" s_l_amount A.f_l_amount A.d_l_amount
  l_plans : Fun K "_law_plans" "_law_plans" s_l_plans A.f_l_plans A.d_l_plans
  l_choice : Fun K "_law_choice" "_law_choice" s_l_choice A.f_l_choice A.d_l_choice
  l_right : Fun K "_law_right" "_law_right" s_l_right A.f_l_right A.d_l_right
  law : Fun K "law" "law" s_law A.f_law A.d_law
  R_at : FunAt K "__init__" "Run.__init__" s_R_init A.f_R_init A.d_R_init A.c_R
  b_F_init : Binds K A.d_F_init ps_F_init []
  b_F_kept : Binds K A.d_F_kept ps_F_kept []
  b_F_fresh : Binds K A.d_F_fresh ps_F_fresh []
  b_F_take_out : Binds K A.d_F_take_out ps_F_take_out []
  b_F_send : Binds K A.d_F_send ps_F_send []
  b_F_lets : Binds K A.d_F_lets ps_F_lets []
  b_F_let_go : Binds K A.d_F_let_go ps_F_let_go []
  b_F_put : Binds K A.d_F_put ps_F_put []
  b_F_land : Binds K A.d_F_land ps_F_land []
  b_F_begin : Binds K A.d_F_begin ps_F_begin []
  b_F_is_due : Binds K A.d_F_is_due ps_F_is_due []
  b_F_leave : Binds K A.d_F_leave ps_F_leave []
  b_F_next_tick : Binds K A.d_F_next_tick ps_F_next_tick []
  b_C_init : Binds K A.d_C_init ps_C_init []
  b_C_pass_step : Binds K A.d_C_pass_step ps_C_pass_step []
  b_C_rests : Binds K A.d_C_rests ps_C_rests []
  b_C_do_step : Binds K A.d_C_do_step ps_C_do_step []
  b_C_go_on : Binds K A.d_C_go_on ps_C_go_on []
  b_events : Binds K A.d_events ps_events []
  b_do_tick : Binds K A.d_do_tick ps_do_tick []
  b_is_integer : Binds K A.d_is_integer ps_is_integer []
  b_is_between : Binds K A.d_is_between ps_is_between []
  b_check_number : Binds K A.d_check_number ps_check_number []
  b_S_init : Binds K A.d_S_init ps_S_init []
  b_check_setting : Binds K A.d_check_setting ps_check_setting []
  b_L_init : Binds K A.d_L_init ps_L_init []
  b_check_line : Binds K A.d_check_line ps_check_line []
  b_is_amount : Binds K A.d_is_amount ps_is_amount []
  b_is_step : Binds K A.d_is_step ps_is_step []
  b_check_program : Binds K A.d_check_program ps_check_program []
  b_is_size : Binds K A.d_is_size ps_is_size []
  b_check_size : Binds K A.d_check_size ps_check_size []
  b_pause_steps : Binds K A.d_pause_steps ps_pause_steps []
  b_check_pauses : Binds K A.d_check_pauses ps_check_pauses []
  b_plain_steps : Binds K A.d_plain_steps ps_plain_steps []
  b_R_init : Binds K A.d_R_init ps_R_init []
  b_R_len : Binds K A.d_R_len ps_R_len []
  b_run_of : Binds K A.d_run_of ps_run_of []
  b_check_run : Binds K A.d_check_run ps_check_run []
  kb_run : KBn K A.d_run ps_run 3 ["x", "pauses"] (fun us ws => us ++ ws) (fun vs zs => vs ++ zs)
  b_l_mill : Binds K A.d_l_mill ps_l_mill []
  b_l_grain : Binds K A.d_l_grain ps_l_grain []
  b_l_pick : Binds K A.d_l_pick ps_l_pick []
  b_l_ways : Binds K A.d_l_ways ps_l_ways []
  b_l_told : Binds K A.d_l_told ps_l_told []
  b_l_made : Binds K A.d_l_made ps_l_made []
  b_l_amount : Binds K A.d_l_amount ps_l_amount []
  b_l_plans : Binds K A.d_l_plans ps_l_plans []
  b_l_choice : Binds K A.d_l_choice ps_l_choice []
  b_l_right : Binds K A.d_l_right ps_l_right []
  m_F_kept : Meth K A.CF "kept" A.f_F_kept
  m_F_fresh : Meth K A.CF "fresh" A.f_F_fresh
  m_F_take_out : Meth K A.CF "take_out" A.f_F_take_out
  m_F_send : Meth K A.CF "send" A.f_F_send
  m_F_lets : Meth K A.CF "lets" A.f_F_lets
  m_F_let_go : Meth K A.CF "let_go" A.f_F_let_go
  m_F_put : Meth K A.CF "put" A.f_F_put
  m_F_land : Meth K A.CF "land" A.f_F_land
  m_F_begin : Meth K A.CF "begin" A.f_F_begin
  m_F_is_due : Meth K A.CF "is_due" A.f_F_is_due
  m_F_leave : Meth K A.CF "leave" A.f_F_leave
  m_F_next_tick : Meth K A.CF "next_tick" A.f_F_next_tick
  m_C_pass_step : Meth K A.CC "pass_step" A.f_C_pass_step
  m_C_rests : Meth K A.CC "rests" A.f_C_rests
  m_C_do_step : Meth K A.CC "do_step" A.f_C_do_step
  m_C_go_on : Meth K A.CC "go_on" A.f_C_go_on
  m_R_len : Meth K A.CR "__len__" A.f_R_len
  cF : Cls K A.CF
  mk_F : Mk K A.CF A.f_F_init
  nF_line : NoAttr K A.CF "line"
  nF_settings : NoAttr K A.CF "settings"
  nF_tick : NoAttr K A.CF "tick"
  nF_stock : NoAttr K A.CF "stock"
  nF_out : NoAttr K A.CF "out"
  nF_known : NoAttr K A.CF "known"
  nF_small : NoAttr K A.CF "small"
  nF_come : NoAttr K A.CF "come"
  nF_taken : NoAttr K A.CF "taken"
  nF_full : NoAttr K A.CF "full"
  nF_first : NoAttr K A.CF "first"
  nF_long : NoAttr K A.CF "long"
  nF_flight : NoAttr K A.CF "flight"
  nF_log : NoAttr K A.CF "log"
  cC : Cls K A.CC
  mk_C : Mk K A.CC A.f_C_init
  nC_steps : NoAttr K A.CC "steps"
  nC_again : NoAttr K A.CC "again"
  nC_place : NoAttr K A.CC "place"
  nC_until : NoAttr K A.CC "until"
  nC_ended : NoAttr K A.CC "ended"
  nC_begun : NoAttr K A.CC "begun"
  cS : Cls K A.CS
  mk_S : Mk K A.CS A.f_S_init
  nS_rule : NoAttr K A.CS "rule"
  nS_every : NoAttr K A.CS "every"
  nS_delay : NoAttr K A.CS "delay"
  nS_told : NoAttr K A.CS "told"
  cL : Cls K A.CL
  mk_L : Mk K A.CL A.f_L_init
  nL_size : NoAttr K A.CL "size"
  nL_way : NoAttr K A.CL "way"
  nL_near : NoAttr K A.CL "near"
  nL_far : NoAttr K A.CL "far"
  nL_told : NoAttr K A.CL "told"
  cR : Cls K A.CR
  mk_R : Mk K A.CR A.f_R_init
  nR_ends : NoAttr K A.CR "ends"
  nR_stuck : NoAttr K A.CR "stuck"
  nR_pieces : NoAttr K A.CR "pieces"
  nR_answers : NoAttr K A.CR "answers"
  nR_held : NoAttr K A.CR "held"
  nR_unread : NoAttr K A.CR "unread"
  nR_quiet : NoAttr K A.CR "quiet"
  nR_all : NoAttr K A.CR "all"
  g_events : mg "events" = some (.ref A.f_events)
  g_do_tick : mg "do_tick" = some (.ref A.f_do_tick)
  g_is_integer : mg "is_integer" = some (.ref A.f_is_integer)
  g_is_between : mg "is_between" = some (.ref A.f_is_between)
  g_check_number : mg "check_number" = some (.ref A.f_check_number)
  g_check_setting : mg "check_setting" = some (.ref A.f_check_setting)
  g_check_line : mg "check_line" = some (.ref A.f_check_line)
  g_is_amount : mg "is_amount" = some (.ref A.f_is_amount)
  g_is_step : mg "is_step" = some (.ref A.f_is_step)
  g_check_program : mg "check_program" = some (.ref A.f_check_program)
  g_is_size : mg "is_size" = some (.ref A.f_is_size)
  g_check_size : mg "check_size" = some (.ref A.f_check_size)
  g_pause_steps : mg "pause_steps" = some (.ref A.f_pause_steps)
  g_check_pauses : mg "check_pauses" = some (.ref A.f_check_pauses)
  g_plain_steps : mg "plain_steps" = some (.ref A.f_plain_steps)
  g_run_of : mg "run_of" = some (.ref A.f_run_of)
  g_check_run : mg "check_run" = some (.ref A.f_check_run)
  g_run : mg "run" = some (.ref A.f_run)
  g_law_mill : mg "_law_mill" = some (.ref A.f_l_mill)
  g_law_grain : mg "_law_grain" = some (.ref A.f_l_grain)
  g_law_pick : mg "_law_pick" = some (.ref A.f_l_pick)
  g_law_ways : mg "_law_ways" = some (.ref A.f_l_ways)
  g_law_told : mg "_law_told" = some (.ref A.f_l_told)
  g_law_made : mg "_law_made" = some (.ref A.f_l_made)
  g_law_amount : mg "_law_amount" = some (.ref A.f_l_amount)
  g_law_plans : mg "_law_plans" = some (.ref A.f_l_plans)
  g_law_choice : mg "_law_choice" = some (.ref A.f_l_choice)
  g_law_right : mg "_law_right" = some (.ref A.f_l_right)
  g_law : mg "law" = some (.ref A.f_law)
  g_Flow : mg "Flow" = some (.ref A.CF)
  g_Course : mg "Course" = some (.ref A.CC)
  g_Setting : mg "Setting" = some (.ref A.CS)
  g_Line : mg "Line" = some (.ref A.CL)
  g_Run : mg "Run" = some (.ref A.CR)
  g_MOST_SIZE : mg "MOST_SIZE" = some (.int 40 A.t_MOST_SIZE)
  g_MOST_WAY : mg "MOST_WAY" = some (.int 200 A.t_MOST_WAY)
  g_MOST_EVERY : mg "MOST_EVERY" = some (.int 4 A.t_MOST_EVERY)
  g_MOST_DELAY : mg "MOST_DELAY" = some (.int 200 A.t_MOST_DELAY)
  g_MOST_STEPS : mg "MOST_STEPS" = some (.int 6 A.t_MOST_STEPS)
  g_MOST_BYTES : mg "MOST_BYTES" = some (.int 60 A.t_MOST_BYTES)
  g_MOST_X : mg "MOST_X" = some (.int 2000 A.t_MOST_X)
  g_LETTER : mg "LETTER" = some (.str "x" A.t_LETTER)
  g_RULES : mg "RULES" = some (.ref A.a_RULES)
  rules : ∀ H : Hp, SqT K H A.a_RULES [.str "plain", .str "hold", .str "few"]
  n_len : mg "len" = none
  n_sum : mg "sum" = none
  n_max : mg "max" = none
  n_min : mg "min" = none
  n_abs : mg "abs" = none
  n_divmod : mg "divmod" = none
  n_sorted : mg "sorted" = none
  n_all : mg "all" = none
  n_isinstance : mg "isinstance" = none
  n_int : mg "int" = none
  n_tuple : mg "tuple" = none
  n_list : mg "list" = none
  n_bool : mg "bool" = none
  n_str : mg "str" = none
  n_range : mg "range" = none
  n_enumerate : mg "enumerate" = none
  iS_ha : PySem.W.findIn K (.ref A.CS) "__class__" = some (some (.builtin "object.__class__"))
  iS_hm : PySem.W.mroIn K A.CS (.type "object") = some true
  iL_ha : PySem.W.findIn K (.ref A.CL) "__class__" = some (some (.builtin "object.__class__"))
  iL_hm : PySem.W.mroIn K A.CL (.type "object") = some true
  i_hn : PySem.W.specialIn K (.builtin "object.__class__") "__get__" = some (some (.builtin "getset_descriptor.__get__"))
  i_htk : PySem.W.takesIn K (.builtin "object.__class__") = some true
  lenR : PySem.W.findIn K (.ref A.CR) "__len__" = some (some (.ref A.f_R_len))
end K10

namespace K10
open PySem L2
/-! ### a rule that the layer lacks: xs[i] op= e -/
def rGetL (K : PySem.W.Frag) : V → V → Hp → VK → Prop := fun x y H Q => ∃ p xs i v, x = .ref p ∧ y = .int i ∧ SqL K H p xs ∧ 0 ≤ i ∧ atI xs i = some v ∧ Q v H
theorem get_list {X : Cx} : PGet X (rGetL X.K) := by
  intro pins s σ H x y v u Q I rx ry h
  obtain ⟨p, xs, i, z, rfl, rfl, hq, h0, he, q⟩ := h
  cases rx
  obtain ⟨t, rfl⟩ := ry
  obtain ⟨its, r, pl, hz⟩ := I.list hq
  obtain ⟨j, h1, h2, h3, h4, h5⟩ := atI_get he
  obtain ⟨w, ew, rw'⟩ := r.get h2
  have hl := r.length
  have hn := line63
  have hj : i.toNat = j := by
    rw [seqIndex_of h0 h5] at h1
    exact Option.some.inj h1
  exact wpAny_getItem_list pl.isList h0 (by omega) (by rw [hj]; simpa using ew) ⟨z, H, I, rw', q⟩

/-! the same with the written part named (within a comprehension) -/
theorem ix_tupK {X : Cx} (K : PySem.W.Frag) (h : X.K = K) : IxR X (rIxT K) := h ▸ ix_tup
theorem ix_listK {X : Cx} (K : PySem.W.Frag) (h : X.K = K) : IxR X (rIxL K) := h ▸ ix_list
theorem pe_fldK {X : Cx} {e : Expr} {f : Str} {pos : Pos} {ta : TE} (K : PySem.W.Frag) (h : X.K = K) (he : PE X e ta) (hb : attributeBase e f X.env (eval e X.env) = eval e X.env) : PE X (.Attribute e f pos) (tFld K ta f) := h ▸ pe_fld he hb
theorem cr_sumK {X : Cx} (K : PySem.W.Frag) (h : X.K = K) (hc : X.calm = true) : CallR X (.builtin "sum") (rSum K) := h ▸ cr_sum hc
theorem pi_listK {X : Cx} {tg l : Expr} {tl : TE} (K : PySem.W.Frag) (h : X.K = K) (hl : PE X l tl) : PI X tg l (iList K tl) := h ▸ pi_list hl
theorem dInt (a b : Int) : decide (V.int a = V.int b) = decide (a = b) := by simp
/-! ### two places -/
def sdN : Bool → Nat
  | false => 0
  | true => 1
def sdI : Bool → Int
  | false => 0
  | true => 1
def l2 (f : Bool → V) : List V := [f false, f true]
theorem at_l2 (f : Bool → V) (s : Bool) : atI (l2 f) (sdI s) = some (f s) := by cases s <;> rfl
theorem ix_l2 (f : Bool → V) (s : Bool) : ixN (l2 f).length (sdI s) = some (sdN s) := by cases s <;> rfl
theorem sdI_0 (s : Bool) : 0 ≤ sdI s := by cases s <;> decide
def up {α : Type} (S : Bool → α) (s : Bool) (x : α) : Bool → α := fun t => if t = s then x else S t
theorem up_same {α : Type} (S : Bool → α) (s : Bool) (x : α) : up S s x s = x := if_pos rfl
theorem up_ne {α : Type} (S : Bool → α) {s t : Bool} (x : α) (h : t ≠ s) : up S s x t = S t := if_neg h
theorem up_up {α : Type} (S : Bool → α) (s : Bool) (x y : α) : up (up S s x) s y = up S s y := by
  funext t
  unfold up
  split <;> rfl
theorem up_id {α : Type} (S : Bool → α) (s : Bool) : up S s (S s) = S := by
  funext t
  unfold up
  split
  · rename_i h; rw [h]
  · rfl
theorem set_l2 (f : Bool → V) (s : Bool) (v : V) : (l2 f).set (sdN s) v = l2 (up f s v) := by cases s <;> rfl

theorem takeOut_gt {T f t left g : Int} {r : List (Int × Int)} (h : left > 0) (h2 : f > left) : takeOut T ((f, t) :: r) left g = ((f - left, t) :: r, mx g (T - t)) := by
  unfold takeOut
  rw [if_pos h, if_pos h2]
theorem takeOut_le {T f t left g : Int} {r : List (Int × Int)} (h : left > 0) (h2 : ¬ f > left) : takeOut T ((f, t) :: r) left g = takeOut T r (left - f) (mx g (T - t)) := by
  conv => lhs; unfold takeOut
  rw [if_pos h, if_neg h2]
theorem takeOut_0 {T left g : Int} {l : List (Int × Int)} (h : ¬ left > 0) : takeOut T l left g = (l, g) := by
  cases l with
  | nil => rfl
  | cons q r =>
    unfold takeOut
    rw [if_neg h]
theorem ix0 {a0 : Addr} {as : List Addr} : ixN (List.map V.ref (a0 :: as)).length 0 = some 0 := by
  unfold ixN
  rw [if_pos (by decide), if_pos (by rw [List.length_map, List.length_cons]; omega)]
  rfl
theorem sq0 {a0 : Addr} {as : List Addr} : seqIndex? 0 (List.map V.ref (a0 :: as)).length = some 0 := (ixN_seq ix0).1
/-! ### the objects -/
inductive Lc where
  | flow | fdx | stock | st (b : Bool) | out | known | small | come | taken | full | first | long | log | co (b : Bool) | cdx (b : Bool)
  deriving DecidableEq
/-- what stays: the places, the classes, the numbers -/
structure En (A : Ads) where
  f : Lc → Addr
  inj : ∀ l l', f l = f l' → l = l'
  line : Addr
  stg : Addr
  ldx : Addr
  ltl : Addr
  nr : Bool → Addr
  ndx : Bool → Addr
  ntl : Bool → Addr
  stp : Bool → Addr
  sta : Bool → List Addr
  bg : Bool → Addr
  cf : Cf
/-- a piece: tick, side, bytes, answered -/
abbrev Pc := Int × Bool × Int × Int
structure Gh where
  fa : Addr
  fl : List Addr
  lg : List Addr
  st : Bool → List Addr
  fp : List Pc
  lp : List Pc
def pcV (p : Pc) : List V := [.int p.1, .int (sdI p.2.1), .int p.2.2.1, .int p.2.2.2]
def stV (q : Int × Int) : List V := [.int q.1, .int q.2]
def oI : Option Int → V
  | none => .non
  | some i => .int i
def rlS : Rl → Str
  | .plain => "plain"
  | .hold => "hold"
  | .few => "few"
def wdS : Wd → Str
  | .write => "write"
  | .read => "read"
  | .pause => "pause"
def spV (q : Wd × Int) : List V := [.str (wdS q.1), .int q.2]
def proj (b : Bool) (ps : List Pc) : List (Int × Int × Int) := (ps.filter fun p => p.2.1 == b).map fun p => (p.1, p.2.2)
abbrev Tups (H : Hp) : List Addr → List (List V) → Prop := Paired fun a xs => H a = some (.tup xs)
theorem proj_append (b : Bool) (ps qs : List Pc) : proj b (ps ++ qs) = proj b ps ++ proj b qs := by
  unfold proj
  rw [List.filter_append, List.map_append]
theorem proj_one (s b : Bool) (t n a : Int) : proj b [(t, s, n, a)] = if b = s then [(t, n, a)] else [] := by
  cases s <;> cases b <;> rfl

variable {A : Ads}
theorem proj_len : ∀ ps : List Pc, ps.length = (proj false ps).length + (proj true ps).length
  | [] => rfl
  | (t, s, n, a) :: r => by
    have ih := proj_len r
    have e : ∀ b, proj b ((t, s, n, a) :: r) = proj b [(t, s, n, a)] ++ proj b r := fun b => proj_append b [_] r
    rw [e, e, proj_one, proj_one, List.length_cons, ih]
    cases s <;> simp <;> omega
def flowFs (E : En A) (fa : Addr) (T : Int) : List (Str × V) :=
  [("line", .ref E.line), ("settings", .ref E.stg), ("tick", .int T), ("stock", .ref (E.f .stock)), ("out", .ref (E.f .out)), ("known", .ref (E.f .known)), ("small", .ref (E.f .small)),
   ("come", .ref (E.f .come)), ("taken", .ref (E.f .taken)), ("full", .ref (E.f .full)), ("first", .ref (E.f .first)), ("long", .ref (E.f .long)), ("flight", .ref fa), ("log", .ref (E.f .log))]
def coFs (E : En A) (b : Bool) (c : Co) : List (Str × V) :=
  [("steps", .ref (E.stp b)), ("again", .bl false), ("place", .int (c.place : Nat)), ("until", oI c.until_), ("ended", oI c.ended), ("begun", .ref (E.bg b))]
def lineFs (E : En A) : List (Str × V) := [("size", .int E.cf.sz), ("way", .int E.cf.wy), ("near", .ref (E.nr false)), ("far", .ref (E.nr true)), ("told", .ref E.ltl)]
def stgFs (E : En A) (b : Bool) : List (Str × V) := [("rule", .str (rlS (E.cf.p b).rule)), ("every", .int (E.cf.p b).every), ("delay", .int (E.cf.p b).delay), ("told", .ref (E.ntl b))]
section
variable (E : En A) (fa : Addr) (T : Int) (b : Bool) (c : Co)
theorem lkF_line : (flowFs E fa T).lookup ("line" : Str) = some (V.ref E.line) := by rfl
theorem lkF_settings : (flowFs E fa T).lookup ("settings" : Str) = some (V.ref E.stg) := by rfl
theorem lkF_tick : (flowFs E fa T).lookup ("tick" : Str) = some (V.int T) := by rfl
theorem lkF_stock : (flowFs E fa T).lookup ("stock" : Str) = some (V.ref (E.f .stock)) := by rfl
theorem lkF_out : (flowFs E fa T).lookup ("out" : Str) = some (V.ref (E.f .out)) := by rfl
theorem lkF_known : (flowFs E fa T).lookup ("known" : Str) = some (V.ref (E.f .known)) := by rfl
theorem lkF_small : (flowFs E fa T).lookup ("small" : Str) = some (V.ref (E.f .small)) := by rfl
theorem lkF_come : (flowFs E fa T).lookup ("come" : Str) = some (V.ref (E.f .come)) := by rfl
theorem lkF_taken : (flowFs E fa T).lookup ("taken" : Str) = some (V.ref (E.f .taken)) := by rfl
theorem lkF_full : (flowFs E fa T).lookup ("full" : Str) = some (V.ref (E.f .full)) := by rfl
theorem lkF_first : (flowFs E fa T).lookup ("first" : Str) = some (V.ref (E.f .first)) := by rfl
theorem lkF_long : (flowFs E fa T).lookup ("long" : Str) = some (V.ref (E.f .long)) := by rfl
theorem lkF_flight : (flowFs E fa T).lookup ("flight" : Str) = some (V.ref fa) := by rfl
theorem lkF_log : (flowFs E fa T).lookup ("log" : Str) = some (V.ref (E.f .log)) := by rfl
theorem putF_tick (U : Int) : putF "tick" (.int U) (flowFs E fa T) = flowFs E fa U := by rfl
theorem putF_flight (fb : Addr) : putF "flight" (.ref fb) (flowFs E fa T) = flowFs E fb T := by rfl
theorem lkC_steps : (coFs E b c).lookup ("steps" : Str) = some (V.ref (E.stp b)) := by rfl
theorem lkC_again : (coFs E b c).lookup ("again" : Str) = some (V.bl false) := by rfl
theorem lkC_place : (coFs E b c).lookup ("place" : Str) = some (V.int (c.place : Nat)) := by rfl
theorem lkC_until : (coFs E b c).lookup ("until" : Str) = some (oI c.until_) := by rfl
theorem lkC_ended : (coFs E b c).lookup ("ended" : Str) = some (oI c.ended) := by rfl
theorem putC_place (n : Nat) : putF "place" (.int (n : Int)) (coFs E b c) = coFs E b { c with place := n } := by rfl
theorem putC_until (n : Option Int) : putF "until" (oI n) (coFs E b c) = coFs E b { c with until_ := n } := by rfl
theorem putC_ended (n : Option Int) : putF "ended" (oI n) (coFs E b c) = coFs E b { c with ended := n } := by rfl
theorem lkL_size : (lineFs E).lookup ("size" : Str) = some (V.int E.cf.sz) := by rfl
theorem lkL_way : (lineFs E).lookup ("way" : Str) = some (V.int E.cf.wy) := by rfl
theorem lkL_near : (lineFs E).lookup ("near" : Str) = some (V.ref (E.nr false)) := by rfl
theorem lkL_far : (lineFs E).lookup ("far" : Str) = some (V.ref (E.nr true)) := by rfl
theorem lkS_rule : (stgFs E b).lookup ("rule" : Str) = some (V.str (rlS (E.cf.p b).rule)) := by rfl
theorem lkS_every : (stgFs E b).lookup ("every" : Str) = some (V.int (E.cf.p b).every) := by rfl
theorem lkS_delay : (stgFs E b).lookup ("delay" : Str) = some (V.int (E.cf.p b).delay) := by rfl
end
def ob (E : En A) (g : Gh) (T : Int) (S : S2) (C : C2) : Lc → HO
  | .flow => .ins A.CF (E.f .fdx) (flowFs E g.fa T)
  | .fdx => .own (E.f .flow)
  | .stock => .lst (l2 fun b => .ref (E.f (.st b)))
  | .st b => .lst ((g.st b).map .ref)
  | .out => .lst (l2 fun b => .int (S b).out)
  | .known => .lst (l2 fun b => .int (S b).known)
  | .small => .lst (l2 fun b => .int (S b).small)
  | .come => .lst (l2 fun b => .int (S b).come)
  | .taken => .lst (l2 fun b => .int (S b).taken)
  | .full => .lst (l2 fun b => .int (S b).full)
  | .first => .lst (l2 fun b => oI (S b).first)
  | .long => .lst (l2 fun b => .int (S b).long)
  | .log => .lst (g.lg.map .ref)
  | .co b => .ins A.CC (E.f (.cdx b)) (coFs E b (C b))
  | .cdx b => .own (E.f (.co b))
theorem ob_tup {E : En A} {g : Gh} {T : Int} {S : S2} {C : C2} {l : Lc} {xs : List V} : ob E g T S C l ≠ .tup xs := by
  cases l <;> exact fun h => nomatch h
/-- what stands and stays as it is -/
structure Cst (E : En A) (H : Hp) : Prop where
  line : H E.line = some (.ins A.CL E.ldx (lineFs E))
  stg : H E.stg = some (.tup (l2 fun b => .ref (E.nr b)))
  nr : ∀ b, H (E.nr b) = some (.ins A.CS (E.ndx b) (stgFs E b))
  stp : ∀ b, H (E.stp b) = some (.lst ((E.sta b).map .ref))
  sta : ∀ b, Tups H (E.sta b) ((E.cf.p b).steps.map spV)
structure Sys (E : En A) (H0 : Hp) (g : Gh) (H : Hp) (T : Int) (S : S2) (C : C2) : Prop where
  at_ : ∀ l, H (E.f l) = some (ob E g T S C l)
  fl : H g.fa = some (.lst (g.fl.map .ref))
  tfl : Tups H g.fl (g.fp.map pcV)
  tlg : Tups H g.lg (g.lp.map pcV)
  tst : ∀ b, Tups H (g.st b) ((S b).stock.map stV)
  pfl : ∀ b, proj b g.fp = (S b).fl
  plg : ∀ b, proj b g.lp = (S b).lg
  same : Same H0 H
  new : ∀ l, H0 (E.f l) = none
  nfa : H0 g.fa = none
  fne : ∀ l, E.f l ≠ g.fa
  cst : Cst E H0
theorem Tups.mono {H H' : Hp} {as : List Addr} {ps : List (List V)} (h : Tups H as ps) (k : ∀ a xs, H a = some (.tup xs) → H' a = some (.tup xs)) : Tups H' as ps := by
  induction h with
  | nil => exact .nil
  | cons r _ ih => exact .cons (k _ _ r) ih
theorem tup_upd {H : Hp} {x a : Addr} {o u : HO} {xs : List V} (hx : H x = some u) (hu : u ≠ .tup xs) (h : H a = some (.tup xs)) : upd H x o a = some (.tup xs) := by
  have : a ≠ x := fun e => by
    rw [e, hx] at h
    exact hu (Option.some.inj h)
  rw [upd_ne this]
  exact h
theorem Paired.get' {α β : Type} {R : α → β → Prop} : ∀ {as : List α} {bs : List β} {i : Nat} {b : β}, Paired R as bs → bs[i]? = some b → ∃ a, as[i]? = some a ∧ R a b
  | _, _, _, _, .nil, e => by simp at e
  | _, _, 0, _, .cons r _, e => by simp at e; subst e; exact ⟨_, rfl, r⟩
  | _, _, i + 1, b, .cons _ t, e => by
    obtain ⟨a, h1, h2⟩ := Paired.get' (i := i) (b := b) t (by simpa using e)
    exact ⟨a, by simpa using h1, h2⟩
theorem Paired.get {α β : Type} {R : α → β → Prop} : ∀ {as : List α} {bs : List β} {i : Nat} {a : α}, Paired R as bs → as[i]? = some a → ∃ b, bs[i]? = some b ∧ R a b
  | _, _, _, _, .nil, e => by simp at e
  | _, _, 0, _, .cons r _, e => by simp at e; subst e; exact ⟨_, rfl, r⟩
  | _, _, i + 1, a, .cons _ t, e => by
    obtain ⟨b, h1, h2⟩ := Paired.get (i := i) (a := a) t (by simpa using e)
    exact ⟨b, by simpa using h1, h2⟩
theorem Paired.app {α β : Type} {R : α → β → Prop} : ∀ {as as' : List α} {bs bs' : List β}, Paired R as bs → Paired R as' bs' → Paired R (as ++ as') (bs ++ bs')
  | _, _, _, _, .nil, h => h
  | _, _, _, _, .cons r t, h => .cons r (Paired.app t h)
section
variable {E : En A} {H0 H H' : Hp} {g : Gh} {T : Int} {S : S2} {C : C2}
theorem Cst.same (c : Cst E H) (h : Same H H') : Cst E H' :=
  ⟨h _ _ c.line, h _ _ c.stg, fun b => h _ _ (c.nr b), fun b => h _ _ (c.stp b), fun b => (c.sta b).mono fun _ _ e => h _ _ e⟩
theorem Sys.c (Y : Sys E H0 g H T S C) : Cst E H := Y.cst.same Y.same
theorem Sys.cast {S' : S2} (Y : Sys E H0 g H T S C) (e : S = S') : Sys E H0 g H T S' C := e ▸ Y
/-- more is laid, nothing is changed -/
theorem Sys.ext (Y : Sys E H0 g H T S C) (h : Same H H') : Sys E H0 g H' T S C :=
  ⟨fun l => h _ _ (Y.at_ l), h _ _ Y.fl, Y.tfl.mono fun _ _ e => h _ _ e, Y.tlg.mono fun _ _ e => h _ _ e, fun b => (Y.tst b).mono fun _ _ e => h _ _ e, Y.pfl, Y.plg, Y.same.trans h, Y.new, Y.nfa, Y.fne, Y.cst⟩
theorem same_upd {H : Hp} {p : Addr} {o : HO} (h : H p = none) : Same H (upd H p o) := fun b u e => by
  rw [upd_ne (ne_of_none e h)]
  exact e
theorem Sys.lgLen (Y : Sys E H0 g H T S C) : g.lg.length = (S false).lg.length + (S true).lg.length := by
  have h := Y.tlg.length
  rw [List.length_map] at h
  rw [h, proj_len, Y.plg, Y.plg]
theorem Sys.flLen (Y : Sys E H0 g H T S C) : g.fl.length = (S false).fl.length + (S true).fl.length := by
  have h := Y.tfl.length
  rw [List.length_map] at h
  rw [h, proj_len, Y.pfl, Y.pfl]
theorem Sys.lgOk (Y : Sys E H0 g H T S C) (h : ∀ b, (S b).lg.length ≤ 400000) : (g.lg.map V.ref).length < sizeLine := by
  have h0 := h false
  have h1 := h true
  rw [List.length_map, Y.lgLen]
  exact Nat.lt_of_le_of_lt (show _ ≤ 800000 by omega) (by decide)
theorem Sys.flOk (Y : Sys E H0 g H T S C) (h : ∀ b, (S b).fl.length ≤ 400000) : (g.fl.map V.ref).length < sizeLine := by
  have h0 := h false
  have h1 := h true
  rw [List.length_map, Y.flLen]
  exact Nat.lt_of_le_of_lt (show _ ≤ 800000 by omega) (by decide)
/-- one of the places is changed -/
theorem Sys.set (Y : Sys E H0 g H T S C) (l : Lc) {g' : Gh} {T' : Int} {S' : S2} {C' : C2} (hr : ∀ l', l' ≠ l → ob E g' T' S' C' l' = ob E g T S C l')
    (e1 : g'.fa = g.fa) (e2 : g'.fl = g.fl) (tfl : Tups H g'.fl (g'.fp.map pcV)) (tlg : Tups H g'.lg (g'.lp.map pcV)) (tst : ∀ b, Tups H (g'.st b) ((S' b).stock.map stV))
    (pfl : ∀ b, proj b g'.fp = (S' b).fl) (plg : ∀ b, proj b g'.lp = (S' b).lg) : Sys E H0 g' (upd H (E.f l) (ob E g' T' S' C' l)) T' S' C' := by
  have k : ∀ a xs, H a = some (.tup xs) → upd H (E.f l) (ob E g' T' S' C' l) a = some (.tup xs) := fun a xs h => tup_upd (Y.at_ l) ob_tup h
  refine ⟨fun l' => ?_, ?_, tfl.mono k, tlg.mono k, fun b => (tst b).mono k, pfl, plg, fun b o h => ?_, Y.new, by rw [e1]; exact Y.nfa, by rw [e1]; exact Y.fne, Y.cst⟩
  · by_cases q : l' = l
    · rw [q, upd_same]
    · rw [upd_ne (fun e => q (E.inj _ _ e)), hr l' q]
      exact Y.at_ l'
  · rw [e1, e2, upd_ne (Ne.symm (Y.fne l))]
    exact Y.fl
  · rw [upd_ne (ne_of_none h (Y.new l))]
    exact Y.same b o h
/-- a number is changed -/
theorem Sys.num (Y : Sys E H0 g H T S C) (l : Lc) {T' : Int} {S' : S2} {C' : C2} (hr : ∀ l', l' ≠ l → ob E g T' S' C' l' = ob E g T S C l') (h1 : ∀ b, (S' b).stock = (S b).stock) (h2 : ∀ b, (S' b).fl = (S b).fl) (h3 : ∀ b, (S' b).lg = (S b).lg) :
    Sys E H0 g (upd H (E.f l) (ob E g T' S' C' l)) T' S' C' :=
  Y.set l hr rfl rfl Y.tfl Y.tlg (fun b => by rw [h1]; exact Y.tst b) (fun b => by rw [h2]; exact Y.pfl b) fun b => by rw [h3]; exact Y.plg b
theorem up_f {α : Type} {S : S2} {s : Bool} {x : Sd} (f : Sd → α) (h : f x = f (S s)) (b : Bool) : f (up S s x b) = f (S b) := by
  unfold up
  split
  · rename_i e; rw [e]; exact h
  · rfl
theorem up_stock {S : S2} {s b : Bool} {x : Sd} (h : x.stock = (S s).stock) : (up S s x b).stock = (S b).stock := up_f (·.stock) h b
theorem up_fl {S : S2} {s b : Bool} {x : Sd} (h : x.fl = (S s).fl) : (up S s x b).fl = (S b).fl := up_f (·.fl) h b
theorem up_lg {S : S2} {s b : Bool} {x : Sd} (h : x.lg = (S s).lg) : (up S s x b).lg = (S b).lg := up_f (·.lg) h b
theorem l2_set {f : Bool → V} {S : S2} {s : Bool} {x : Sd} (k : Sd → V) (hf : f = fun b => k (S b)) : (l2 f).set (sdN s) (k x) = l2 fun b => k (up S s x b) := by
  subst hf
  cases s <;> rfl
section
variable (Y : Sys E H0 g H T S C) (s : Bool) (v : Int)
include Y
theorem Sys.sOut : Sys E H0 g (upd H (E.f .out) (.lst ((l2 fun b => .int (S b).out).set (sdN s) (.int v)))) T (up S s { S s with out := v }) C := by
  rw [l2_set (x := { S s with out := v }) (fun x => .int x.out) rfl]
  exact Y.num (T' := T) (S' := up S s { S s with out := v }) (C' := C) .out (fun l' h => by cases s <;> cases l' <;> first | rfl | exact absurd rfl h) (up_f (·.stock) rfl) (up_f (·.fl) rfl) (up_f (·.lg) rfl)
theorem Sys.sKnown : Sys E H0 g (upd H (E.f .known) (.lst ((l2 fun b => .int (S b).known).set (sdN s) (.int v)))) T (up S s { S s with known := v }) C := by
  rw [l2_set (x := { S s with known := v }) (fun x => .int x.known) rfl]
  exact Y.num (T' := T) (S' := up S s { S s with known := v }) (C' := C) .known (fun l' h => by cases s <;> cases l' <;> first | rfl | exact absurd rfl h) (up_f (·.stock) rfl) (up_f (·.fl) rfl) (up_f (·.lg) rfl)
theorem Sys.sSmall : Sys E H0 g (upd H (E.f .small) (.lst ((l2 fun b => .int (S b).small).set (sdN s) (.int v)))) T (up S s { S s with small := v }) C := by
  rw [l2_set (x := { S s with small := v }) (fun x => .int x.small) rfl]
  exact Y.num (T' := T) (S' := up S s { S s with small := v }) (C' := C) .small (fun l' h => by cases s <;> cases l' <;> first | rfl | exact absurd rfl h) (up_f (·.stock) rfl) (up_f (·.fl) rfl) (up_f (·.lg) rfl)
theorem Sys.sCome : Sys E H0 g (upd H (E.f .come) (.lst ((l2 fun b => .int (S b).come).set (sdN s) (.int v)))) T (up S s { S s with come := v }) C := by
  rw [l2_set (x := { S s with come := v }) (fun x => .int x.come) rfl]
  exact Y.num (T' := T) (S' := up S s { S s with come := v }) (C' := C) .come (fun l' h => by cases s <;> cases l' <;> first | rfl | exact absurd rfl h) (up_f (·.stock) rfl) (up_f (·.fl) rfl) (up_f (·.lg) rfl)
theorem Sys.sTaken : Sys E H0 g (upd H (E.f .taken) (.lst ((l2 fun b => .int (S b).taken).set (sdN s) (.int v)))) T (up S s { S s with taken := v }) C := by
  rw [l2_set (x := { S s with taken := v }) (fun x => .int x.taken) rfl]
  exact Y.num (T' := T) (S' := up S s { S s with taken := v }) (C' := C) .taken (fun l' h => by cases s <;> cases l' <;> first | rfl | exact absurd rfl h) (up_f (·.stock) rfl) (up_f (·.fl) rfl) (up_f (·.lg) rfl)
theorem Sys.sFull : Sys E H0 g (upd H (E.f .full) (.lst ((l2 fun b => .int (S b).full).set (sdN s) (.int v)))) T (up S s { S s with full := v }) C := by
  rw [l2_set (x := { S s with full := v }) (fun x => .int x.full) rfl]
  exact Y.num (T' := T) (S' := up S s { S s with full := v }) (C' := C) .full (fun l' h => by cases s <;> cases l' <;> first | rfl | exact absurd rfl h) (up_f (·.stock) rfl) (up_f (·.fl) rfl) (up_f (·.lg) rfl)
theorem Sys.sLong : Sys E H0 g (upd H (E.f .long) (.lst ((l2 fun b => .int (S b).long).set (sdN s) (.int v)))) T (up S s { S s with long := v }) C := by
  rw [l2_set (x := { S s with long := v }) (fun x => .int x.long) rfl]
  exact Y.num (T' := T) (S' := up S s { S s with long := v }) (C' := C) .long (fun l' h => by cases s <;> cases l' <;> first | rfl | exact absurd rfl h) (up_f (·.stock) rfl) (up_f (·.fl) rfl) (up_f (·.lg) rfl)
theorem Sys.sFirst (v : Option Int) : Sys E H0 g (upd H (E.f .first) (.lst ((l2 fun b => oI (S b).first).set (sdN s) (oI v)))) T (up S s { S s with first := v }) C := by
  rw [l2_set (x := { S s with first := v }) (fun x => oI x.first) rfl]
  exact Y.num (T' := T) (S' := up S s { S s with first := v }) (C' := C) .first (fun l' h => by cases s <;> cases l' <;> first | rfl | exact absurd rfl h) (up_f (·.stock) rfl) (up_f (·.fl) rfl) (up_f (·.lg) rfl)
/-- the tick -/
theorem Sys.sTick (U : Int) : Sys E H0 g (upd H (E.f .flow) (.ins A.CF (E.f .fdx) (putF "tick" (.int U) (flowFs E g.fa T)))) U S C := by
  rw [putF_tick]
  exact Y.num (T' := U) (S' := S) (C' := C) .flow (fun l' h => by cases l' <;> first | rfl | exact absurd rfl h) (fun _ => rfl) (fun _ => rfl) (fun _ => rfl)
/-- a course -/
theorem Sys.sCo (c : Co) : Sys E H0 g (upd H (E.f (.co s)) (.ins A.CC (E.f (.cdx s)) (coFs E s c))) T S (up C s c) := by
  have e : HO.ins A.CC (E.f (.cdx s)) (coFs E s c) = ob E g T S (up C s c) (.co s) := by
    show _ = HO.ins A.CC (E.f (.cdx s)) (coFs E s (up C s c s))
    rw [up_same]
  rw [e]
  refine Y.num (T' := T) (S' := S) (C' := up C s c) (.co s) (fun l' h => ?_) (fun _ => rfl) (fun _ => rfl) (fun _ => rfl)
  cases l' with
  | co b =>
    have hb : b ≠ s := fun e => h (by rw [e])
    show HO.ins A.CC (E.f (.cdx b)) (coFs E b (up C s c b)) = _
    rw [up_ne _ _ hb]
    rfl
  | _ => rfl
/-- what is held: changed as a list -/
theorem Sys.sStock (as : List Addr) (k : List (Int × Int)) (ht : Tups H as (k.map stV)) : Sys E H0 { g with st := up g.st s as } (upd H (E.f (.st s)) (.lst (as.map .ref))) T (up S s { S s with stock := k }) C := by
  have e : HO.lst (as.map .ref) = ob E { g with st := up g.st s as } T (up S s { S s with stock := k }) C (.st s) := by
    show _ = HO.lst ((up g.st s as s).map .ref)
    rw [up_same]
  rw [e]
  refine Y.set (g' := { g with st := up g.st s as }) (T' := T) (S' := up S s { S s with stock := k }) (C' := C) (.st s) (fun l' h => ?_) rfl rfl Y.tfl Y.tlg (fun b => ?_) (fun b => (Y.pfl b).trans (up_fl (by rfl)).symm) (fun b => (Y.plg b).trans (up_lg (by rfl)).symm)
  · cases l' with
    | st b =>
      have hb : b ≠ s := fun e => h (by rw [e])
      show HO.lst ((up g.st s as b).map .ref) = _
      rw [up_ne _ _ hb]
      rfl
    | _ => cases s <;> rfl
  · show Tups H (up g.st s as b) ((up S s { S s with stock := k } b).stock.map stV)
    unfold up
    split
    · exact ht
    · exact Y.tst b
/-- the log grows -/
theorem Sys.sLog (t : Addr) (n a : Int) (ht : H t = some (.tup (pcV (T, s, n, a)))) :
    Sys E H0 { g with lg := g.lg ++ [t], lp := g.lp ++ [(T, s, n, a)] } (upd H (E.f .log) (.lst (g.lg.map .ref ++ [.ref t]))) T (up S s { S s with lg := (S s).lg ++ [(T, n, a)] }) C := by
  have e : HO.lst (g.lg.map .ref ++ [.ref t]) = ob E { g with lg := g.lg ++ [t], lp := g.lp ++ [(T, s, n, a)] } T (up S s { S s with lg := (S s).lg ++ [(T, n, a)] }) C .log := by
    show _ = HO.lst ((g.lg ++ [t]).map .ref)
    rw [List.map_append]
    rfl
  rw [e]
  refine Y.set (g' := { g with lg := g.lg ++ [t], lp := g.lp ++ [(T, s, n, a)] }) (T' := T) (S' := up S s { S s with lg := (S s).lg ++ [(T, n, a)] }) (C' := C) .log (fun l' h => ?_) rfl rfl Y.tfl ?_ (fun b => ?_) (fun b => (Y.pfl b).trans (up_fl (by rfl)).symm) (fun b => ?_)
  · cases s <;> cases l' <;> first | rfl | exact absurd rfl h
  · show Tups H (g.lg ++ [t]) ((g.lp ++ [(T, s, n, a)]).map pcV)
    rw [List.map_append]
    exact Paired.app Y.tlg (.cons ht .nil)
  · rw [up_stock]
    · exact Y.tst b
    · rfl
  · show proj b (g.lp ++ [(T, s, n, a)]) = _
    rw [proj_append, proj_one, Y.plg]
    unfold up
    split
    · rename_i e; rw [e]
    · rw [List.append_nil]
/-- what is under way grows -/
theorem Sys.sFl (t : Addr) (u n a : Int) (ht : H t = some (.tup (pcV (u, s, n, a)))) :
    Sys E H0 { g with fl := g.fl ++ [t], fp := g.fp ++ [(u, s, n, a)] } (upd H g.fa (.lst (g.fl.map .ref ++ [.ref t]))) T (up S s { S s with fl := (S s).fl ++ [(u, n, a)] }) C := by
  have k : ∀ a xs, H a = some (.tup xs) → upd H g.fa (.lst (g.fl.map .ref ++ [.ref t])) a = some (.tup xs) := fun a xs h => tup_upd Y.fl (fun q => nomatch q) h
  refine ⟨fun l' => ?_, ?_, ?_, Y.tlg.mono k, fun b => ?_, fun b => ?_, fun b => (Y.plg b).trans (up_lg (by rfl)).symm, fun b o h => ?_, Y.new, Y.nfa, Y.fne, Y.cst⟩
  · rw [upd_ne (Y.fne l'), Y.at_ l']
    cases s <;> cases l' <;> rfl
  · show upd H g.fa _ g.fa = some (.lst ((g.fl ++ [t]).map .ref))
    rw [upd_same, List.map_append]
    rfl
  · show Tups _ (g.fl ++ [t]) ((g.fp ++ [(u, s, n, a)]).map pcV)
    rw [List.map_append]
    exact Paired.app (Y.tfl.mono k) (.cons (k _ _ ht) .nil)
  · rw [up_stock]
    · exact (Y.tst b).mono k
    · rfl
  · show proj b (g.fp ++ [(u, s, n, a)]) = _
    rw [proj_append, proj_one, Y.pfl]
    unfold up
    split
    · rename_i e; rw [e]
    · rw [List.append_nil]
  · rw [upd_ne (ne_of_none h Y.nfa)]
    exact Y.same b o h
/-- what is under way is another list -/
theorem Sys.sFlight (D : Addr) (as : List Addr) (ps : List Pc) (S' : S2) (hD : H D = some (.lst (as.map .ref))) (nD : H0 D = none) (dD : ∀ l, E.f l ≠ D) (ht : Tups H as (ps.map pcV))
    (hS : ∀ b, S' b = { S b with fl := proj b ps }) :
    Sys E H0 { g with fa := D, fl := as, fp := ps } (upd H (E.f .flow) (.ins A.CF (E.f .fdx) (putF "flight" (.ref D) (flowFs E g.fa T)))) T S' C := by
  rw [putF_flight]
  have k : ∀ a xs, H a = some (.tup xs) → upd H (E.f .flow) (.ins A.CF (E.f .fdx) (flowFs E D T)) a = some (.tup xs) := fun a xs h => tup_upd (Y.at_ .flow) ob_tup h
  have hS0 := hS false
  have hS1 := hS true
  refine ⟨fun l' => ?_, ?_, ht.mono k, Y.tlg.mono k, fun b => ?_, fun b => ?_, fun b => ?_, fun b o h => ?_, Y.new, nD, dD, Y.cst⟩
  · by_cases q : l' = .flow
    · rw [q, upd_same]
      rfl
    · rw [upd_ne (fun e => q (E.inj _ _ e)), Y.at_ l']
      cases l' <;> first | exact absurd rfl q | (unfold ob; simp only [l2, hS0, hS1])
  · rw [upd_ne (Ne.symm (dD .flow))]
    exact hD
  · rw [hS b]
    exact (Y.tst b).mono k
  · rw [hS b]
  · rw [hS b]
    exact Y.plg b
  · rw [upd_ne (ne_of_none h (Y.new .flow))]
    exact Y.same b o h
end
/-- the whole as a base -/
def own (E : En A) (g : Gh) (b : Addr) : Prop := b = g.fa ∨ ∃ l, b = E.f l
open Classical in
noncomputable def but (E : En A) (g : Gh) (H : Hp) : Hp := fun b => if own E g b then none else H b
theorem Sys.butS (Y : Sys E H0 g H T S C) : Same H0 (but E g H) := fun b o h => by
  unfold but
  rw [if_neg]
  · exact Y.same _ _ h
  · rintro (e | ⟨l, e⟩)
    · rw [e, Y.nfa] at h; cases h
    · rw [e, Y.new] at h; cases h
theorem Sys.rebase (Y : Sys E H0 g H T S C) : Sys E (but E g H) g H T S C := by
  have hs : Same (but E g H) H := fun b o h => by
    unfold but at h
    split at h
    · cases h
    · exact h
  exact ⟨Y.at_, Y.fl, Y.tfl, Y.tlg, Y.tst, Y.pfl, Y.plg, hs, fun l => if_pos (.inr ⟨l, rfl⟩), if_pos (.inl rfl), Y.fne, Y.cst.same Y.butS⟩
theorem Sys.weak {H1 : Hp} (Y : Sys E H1 g H T S C) (k : Same H0 H1) (c : Cst E H0) : Sys E H0 g H T S C :=
  ⟨Y.at_, Y.fl, Y.tfl, Y.tlg, Y.tst, Y.pfl, Y.plg, k.trans Y.same, fun l => k.free (Y.new l), k.free Y.nfa, Y.fne, c⟩
theorem but_some {b : Addr} {o : HO} (Y : Sys E H0 g H T S C) (h : H b = some o) (h1 : b ≠ g.fa) (h2 : ∀ l, b ≠ E.f l) : but E g H b = some o := by
  unfold but
  rw [if_neg]
  · exact h
  · rintro (e | ⟨l, e⟩)
    · exact h1 e
    · exact h2 l e
end
end K10

namespace K10
open PySem PySem.Spec PyProof.Rows L2 LamX
def keyD (p : Pc) : PyData := .tuple [.int p.1, .int (sdI p.2.1)]
def leP (p q : Pc) : Bool := decide (p.1 < q.1 ∨ (p.1 = q.1 ∧ sdI p.2.1 ≤ sdI q.2.1))
theorem keyD_le : PySem.W.dataLe false keyD = leP := PySem.W.dataLe_ii (β := Pc) (fun p => p.1) fun p => sdI p.2.1
def PcVal (H : Hp) (v : Value) (p : Pc) : Prop := ∃ t, v = .ref t ∧ H t = some (.tup (pcV p))
theorem each_pcs {H : Hp} : ∀ {as : List Addr} {ps : List Pc} {us : List Value}, Tups H as (ps.map pcV) → Vals (as.map V.ref) us → PySem.W.EachIs (PcVal H) us ps
  | [], [], _, _, .nil => .nil
  | [], _ :: _, _, h, _ => by cases h
  | _ :: _, [], _, h, _ => by cases h
  | a :: as, p :: ps, _, .cons h t, .cons e q => .cons ⟨a, e, h⟩ (each_pcs t q)
theorem pcs_each {H : Hp} : ∀ {us : List Value} {ps : List Pc}, PySem.W.EachIs (PcVal H) us ps → ∃ bs : List Addr, Tups H bs (ps.map pcV) ∧ Vals (bs.map V.ref) us
  | _, _, .nil => ⟨[], .nil, .nil⟩
  | _, _, .cons ⟨t, e, h⟩ q => by
    obtain ⟨bs, h1, h2⟩ := pcs_each q
    exact ⟨t :: bs, .cons h h1, .cons e h2⟩
def aSortKey (K : PySem.W.Frag) (P : Addr) (q : Str) (Q : VK) (x : V) (H1 : Hp) : Prop := ∃ (l : Addr) (as : List Addr) (ps : List Pc), x = .ref l ∧ SqL K H1 l (as.map .ref) ∧ Tups H1 as (ps.map pcV) ∧ TabS H1 P q ∧
  ∀ (H2 : Hp) (D : Addr) (bs : List Addr), ExtN H1 H2 → TabS H2 P q → H2 D = some (.lst (bs.map .ref)) → Tups H2 bs ((ps.mergeSort leP).map pcV) → Q (.ref D) H2
def tSortKey (K : PySem.W.Frag) (P : Addr) (q : Str) (te : TE) : TE := fun σ H Q => te σ H fun x H1 => aSortKey K P q Q x H1
theorem pe_sortKey {X : Cx} {e : Expr} {te : TE} {c P : Addr} {params : Arguments} {scope : Scope} {p pos lpos kpos p1 p2 p3 p4 : Pos} {k2 k : Nat} (TB : TabB X.base X.mg c P) (hcode : X.env.code = .ref c) (hr : Room k X.A) (hg : Gl X "sorted") (hm : X.mg "sorted" = none) (he : PE X e te) (hs : starEach [e] X.env = (false, eval e X.env) :: starEach [] X.env)
    (hdef : defaultsOf params X.env = ([], [])) (hsc : scope.kind = .function) (hco : scope.isCoroutine = false) (hgen : scope.isGenerator = false) (hown : ∀ y ∈ scope.names, y.2 = .local) (hl : scope.names.lookup ("piece" : Str) = some NameKind.local)
    (hb : ∀ (qual : Str) (cl : List (Str × Addr)) (pm cv ctv u : Value), bindArgs (PySem.W.kla_fn "<lambda>" qual params (.Subscript (.Name "piece" p1) (.Slice none (some (.Constant (.int 2) k2 p2)) none p3) p4) scope cl pm cv ctv) ⟨[u], []⟩ = pure [(("piece" : Str), u)]) :
    PE X (.Call (.Name "sorted" p) [e] [⟨some "key", .Lambda params (.Subscript (.Name "piece" p1) (.Slice none (some (.Constant (.int 2) k2 p2)) none p3) p4) scope lpos, kpos⟩] pos) (tSortKey X.K P (X.env.qual ++ "<lambda>") te) := by
  have ha : PA X [e] (tCons te tNil) := pa_cons he pa_nil hs
  refine ⟨fun pins s σ H Q I h => wpAny_Call_Name_kw (ld_blt I hg hm (show bootBuiltins "sorted" = some (.builtin "sorted") from by decide +kernel) ?_ (by decide) (by decide))⟩
  refine PyProof.Rows.callWith_kw (thn (ha.run pos pins s σ H (fun vs H1 => match vs with | [x] => aSortKey X.K P (X.env.qual ++ "<lambda>") Q x H1 | _ => False) I h) fun us s1 ⟨vs, H1, I1, r1, q1⟩ => ?_) (by rw [hs]; rfl) (by rw [hs]; rfl) (by rfl) (by rfl)
  obtain ⟨x, rfl⟩ : ∃ x, vs = [x] := by
    match vs, q1 with
    | [x], _ => exact ⟨x, rfl⟩
  obtain ⟨l, as, ps, ex, hq, ht, tb, k1⟩ := q1
  subst ex
  obtain rfl := Vals.ref1 r1
  show wpAny (model X.prog X.w) X.A (evalAll [(do let v ← eval (.Lambda params (.Subscript (.Name "piece" p1) (.Slice none (some (.Constant (.int 2) k2 p2)) none p3) p4) scope lpos) X.env; standAt pos; pure v)]) _ _ s1
  refine wpAny_evalAll_cons (wpAny_bind (lam_make2 (T := [(P, X.env.qual ++ "<lambda>")]) I1 TB hcode (List.mem_singleton.mpr rfl) (fun z hz _ => by rw [List.mem_singleton.mp hz]) (fun z hz => by rw [List.mem_singleton.mp hz]; exact tb) hdef (fun y hy ef => by rw [hown y hy] at ef; cases ef) fun f c' pm ctv H2 s2 I2 ex2 tb2 hf nf nfr hc' => wpAny_bind (wpAny_standAt (wpAny_pure (wpAny_evalAll_nil ?_)))))
  show wpAny (model X.prog X.w) X.A (call (.builtin "sorted") [.ref l] [(Str.ofString "key", .ref f)]) _ _ s2
  have hq2 : SqL X.K H2 l (as.map .ref) := by
    rcases hq with (z | ⟨o, z⟩) | z
    · exact .inl (.inl (ex2 _ _ z fun _ y => nomatch y))
    · exact .inl (.inr ⟨o, ex2 _ _ z fun _ y => nomatch y⟩)
    · exact .inr z
  have ht2 : Tups H2 as (ps.map pcV) := ht.mono fun a xs z => ex2 _ _ z fun _ y => nomatch y
  obtain ⟨its, r, pl, hz⟩ := I2.list hq2
  have ev := each_pcs ht2 r
  have hsz : ps.length ≤ sizeLine := by
    rw [← ev.length, ← r.length]
    exact hz
  obtain ⟨⟨oc, vs, t, hoc, hdc, hvc⟩, _, _⟩ := I2.hok c' _ hc'
  refine PySem.W.sorted_key_data (b := false) keyD pl.isList ev (PySem.W.AllAlike.of fun _ _ => by simp [PySem.W.alike, PySem.W.alikeAll, keyD]) (PySem.W.Sortable.tuples fun _ => ⟨_, _, rfl⟩) hsz (fun x _ => ?_) (PyProof.Rows.ksk_s1 _ _) (fun _ => PyProof.Rows.ksk_l1 _ _) (fun _ => PyProof.Rows.ksk_t1 _ _)
    (fun v x hv _ h tk kp => ?_) fun out cc h' tk kp nD hD hout eo => ?_
  · have := hr.units
    have e1 : (keyD x).depth = 1 := by simp [keyD, PyData.depth, PyData.depthAll]
    omega
  · obtain ⟨t1, rfl, hT⟩ := hv
    obtain ⟨_, w, rw1, o1, ho1, hc1, n1, hd1⟩ := (show ObjOk X.prog X.w H2 s2.heap t1 (.tup (pcV x)) from I2.hok t1 _ hT)
    cases rw1 with
    | cons a0 rw1 => cases rw1 with
      | cons a1 rw1 => cases rw1 with
        | cons a2 rw1 => cases rw1 with
          | cons a3 rw1 =>
            cases rw1
            obtain ⟨b0, rfl⟩ := a0
            obtain ⟨b1, rfl⟩ := a1
            obtain ⟨b2, rfl⟩ := a2
            obtain ⟨b3, rfl⟩ := a3
            exact lam_call (s := { s2 with heap := h, toks := tk }) (kp _ _ hf) (show X.A.depth < recursionLimit from hr.depth) ⟨c', oc, vs, t, rfl, kp _ _ hoc, hdc, hvc⟩ (I2.nolimit.keeps kp) hsc hco hgen (fun y hy => by rw [hown y hy]; exact fun z => nomatch z) hl (fun u => hb _ _ _ _ _ u) ⟨o1, kp _ _ ho1, hc1, n1, hd1⟩
  · rw [keyD_le] at eo
    obtain ⟨bs, h1, h2⟩ := pcs_each eo
    have nD2 : H2 (s2.heap.objs.size + 1) = none := I2.hok.fresh (Nat.le_succ _)
    have lb : (bs.map V.ref).length ≤ sizeLine := by
      rw [h2.length, hout]
      exact hsz
    have sm : Same H2 (upd H2 (s2.heap.objs.size + 1) (.lst (bs.map .ref))) := same_upd nD2
    refine ⟨.ref _, upd H2 (s2.heap.objs.size + 1) (.lst (bs.map .ref)), I2.laid (t' := tk) kp (Nat.le_succ _) ⟨lb, out, cc, h2, hD⟩, rfl, k1 _ _ bs (fun b o z n => sm _ _ (ex2 b o z n)) ((tb2 _ (List.mem_singleton.mpr rfl)).ext sm) upd_same (h1.mono fun a xs z => sm _ _ z)⟩
end K10

namespace K10
open PySem L2
theorem line_of {n : Nat} (h : n ≤ 1000000) : n < sizeLine := Nat.lt_of_le_of_lt h (by decide)
section
variable {P : Program} {w : World} {K : PySem.W.Frag} {mg : Str → Option Value} {base : Heap} {A : Ads}
def sp_F_fresh (A : Ads) : Sp := fun vs H Q _ => ∃ (E : En A) (H0 : Hp) (g : Gh) (T : Int) (S : S2) (C : C2) (s : Bool), vs = [.ref (E.f .flow), .int (sdI s)] ∧ Sys E H0 g H T S C ∧ Q (.int ((S s).come - (S s).taken)) H
theorem ok_F_fresh (T : Txt K mg A) : FnOk P w K mg base CX0 1 A.f_F_fresh A.d_F_fresh ps_F_fresh (sp_F_fresh A) := by
  refine T.F_fresh.ok sc_F_fresh (fun vs H Q E h => ?_) (fun cdv AR outer sh H vs Q EX hr h => ?_)
  · obtain ⟨E, H0, g, U, S, C, s, rfl, _⟩ := h
    rfl
  · obtain ⟨E, H0, g, U, S, C, s, rfl, Y, k⟩ := h
    refine ⟨_, (pss_one (ps_ret (pe_op op_sub (pe_ix ix_list (pe_fld (pv 0) rfl) (pv 1) (fun _ _ => rfl)) (pe_ix ix_list (pe_fld (pv 0) rfl) (pv 1) (fun _ _ => rfl))))), ?_⟩
    exact ⟨_, rfl, _, _, _, _, _, rfl, Y.at_ .flow, T.cF, T.nF_come, lkF_come _ _ _, _, rfl, _, _, _, _, rfl, rfl, SqL.of (Y.at_ .come), at_l2 _ s, _, rfl, _, _, _, _, _, rfl, Y.at_ .flow, T.cF, T.nF_taken, lkF_taken _ _ _, _, rfl, _, _, _, _, rfl, rfl, SqL.of (Y.at_ .taken), at_l2 _ s, _, _, rfl, rfl, k⟩
def sp_F_lets (A : Ads) : Sp := fun vs H Q _ => ∃ (E : En A) (H0 : Hp) (g : Gh) (T : Int) (S : S2) (C : C2) (s : Bool), vs = [.ref (E.f .flow), .int (sdI s)] ∧ Sys E H0 g H T S C ∧ Q (.bl (lets (E.cf.p s).rule (S s))) H
theorem ok_F_lets (T : Txt K mg A) : FnOk P w K mg base CX0 1 A.f_F_lets A.d_F_lets ps_F_lets (sp_F_lets A) := by
  refine T.F_lets.ok sc_F_lets (fun vs H Q E h => ?_) (fun cdv AR outer sh H vs Q EX hr h => ?_)
  · obtain ⟨E, H0, g, U, S, C, s, rfl, _⟩ := h
    rfl
  · obtain ⟨E, H0, g, U, S, C, s, rfl, Y, k⟩ := h
    refine ⟨_, (pss_cons (ps_set (i := 2) sc_F_lets.nd rfl (Or.inl rfl) (pe_fld (pe_ix ix_tup (pe_fld (pv 0) rfl) (pv 1) (fun _ _ => rfl)) rfl))
      (pss_cons (ps_if (pt_cmpR op_eq (pv 2) pe_str (nomark _)) (pss_one (ps_ret (pe_cmpR op_eq (pe_ix ix_list (pe_fld (pv 0) rfl) (pv 1) (fun _ _ => rfl)) (pe_ix ix_list (pe_fld (pv 0) rfl) (pv 1) (fun _ _ => rfl)) (nomark _)))) pss_nil)
      (pss_one (ps_ret (pe_or (pe_cmpR op_eq (pv 2) pe_str (nomark _)) (pe_one (pe_cmpR op_le (pe_ix ix_list (pe_fld (pv 0) rfl) (pv 1) (fun _ _ => rfl)) (pe_ix ix_list (pe_fld (pv 0) rfl) (pv 1) (fun _ _ => rfl)) (nomark _)))))))), ?_⟩
    refine ⟨_, rfl, _, _, _, _, _, rfl, Y.at_ .flow, T.cF, T.nF_settings, lkF_settings _ _ _, _, rfl, _, _, _, _, rfl, rfl, SqT.of Y.c.stg, at_l2 _ s, _, _, _, _, _, rfl, Y.c.nr s, T.cS, T.nS_rule, lkS_rule _ _, ?_⟩
    refine ⟨_, rfl, rfl, _, rfl, ?_⟩
    revert k
    cases (E.cf.p s).rule with
    | hold =>
      intro k
      refine iteT ?_
      exact ⟨_, rfl, _, _, _, _, _, rfl, Y.at_ .flow, T.cF, T.nF_out, lkF_out _ _ _, _, rfl, _, _, _, _, rfl, rfl, SqL.of (Y.at_ .out), at_l2 _ s, _, rfl, _, _, _, _, _, rfl, Y.at_ .flow, T.cF, T.nF_known, lkF_known _ _ _, _, rfl, _, _, _, _, rfl, rfl, SqL.of (Y.at_ .known), at_l2 _ s, rfl, by show Q (.bl (decide (V.int _ = V.int _))) H; rw [dInt]; exact k⟩
    | plain =>
      intro k
      refine iteF ?_
      exact ⟨_, rfl, rfl, _, rfl, iteT k⟩
    | few =>
      intro k
      refine iteF ?_
      exact ⟨_, rfl, rfl, _, rfl, iteF ⟨_, rfl, _, _, _, _, _, rfl, Y.at_ .flow, T.cF, T.nF_small, lkF_small _ _ _, _, rfl, _, _, _, _, rfl, rfl, SqL.of (Y.at_ .small), at_l2 _ s, _, rfl, _, _, _, _, _, rfl, Y.at_ .flow, T.cF, T.nF_known, lkF_known _ _ _, _, rfl, _, _, _, _, rfl, rfl, SqL.of (Y.at_ .known), at_l2 _ s, _, _, rfl, rfl, k⟩⟩
def sp_F_kept (A : Ads) : Sp := fun vs H Q _ => ∃ (E : En A) (H0 : Hp) (g : Gh) (T : Int) (S : S2) (C : C2) (s : Bool), vs = [.ref (E.f .flow), .int (sdI s)] ∧ Sys E H0 g H T S C ∧ (S s).stock.length ≤ 1000000 ∧ ∀ H', Same H H' → Q (.int (kept (S s))) H'
theorem ok_F_kept (T : Txt K mg A) : FnOk P w K mg base CX0 1 A.f_F_kept A.d_F_kept ps_F_kept (sp_F_kept A) := by
  refine T.F_kept.ok sc_F_kept (fun vs H Q E h => ?_) (fun cdv AR outer sh H vs Q EX hr h => ?_)
  · obtain ⟨E, H0, g, U, S, C, s, rfl, _⟩ := h
    rfl
  · obtain ⟨E, H0, g, U, S, C, s, rfl, Y, hn, k⟩ := h
    refine ⟨_, (pss_one (ps_ret (pe_callB (cr_sum rfl) (by rfl) T.n_sum (by decide +kernel) (pa_cons (pe_lc (own := [("amount", 2), ("tick", 3)]) (g := (gTup K 2 (gCons (gName 2) (gCons (gName 3) gNil))))  rfl sc_F_kept.nd (pi_list (pe_ix ix_list (pe_fld (pv 0) rfl) (pv 1) (fun _ _ => rfl))) (blkOk_by (N := ["self", "side", "amount", "tick"]) (sc := defScope s_F_kept) (by decide +kernel)) (fun _ _ _ _ _ => (pg_tup (by rfl) (pgs_cons (pg_name (i := 2) sc_F_kept.nd rfl (Or.inl rfl)) (pgs_cons (pg_name (i := 3) sc_F_kept.nd rfl (Or.inl rfl)) pgs_nil)))) (fun _ _ _ _ _ => pts_nil) (fun _ _ _ _ _ => (pv 2))) pa_nil)))), ?_⟩
    refine ⟨_, rfl, _, _, _, _, _, rfl, Y.at_ .flow, T.cF, T.nF_stock, lkF_stock _ _ _, _, rfl, _, _, _, _, rfl, rfl, SqL.of (Y.at_ .stock), at_l2 _ s, _, rfl, ⟨_, SqL.of (Y.at_ (.st s))⟩, fun D nD => ?_⟩
    refine lc_list (K := K) (a := E.f (.st s)) (xs := (g.st s).map .ref) (fun i H' => Same H H' ∧ H' D = some (.lst (((S s).stock.take i).map fun q => V.int q.1))) ⟨same_upd nD, upd_same⟩ (fun i H' _ h => h.1.seq (SqL.of (Y.at_ (.st s)))) ?_ ?_
    · rintro i x H' hi ⟨hs, hD⟩
      rw [List.getElem?_map] at hi
      cases ea : (g.st s)[i]? with
      | none => rw [ea] at hi; cases hi
      | some a =>
        rw [ea] at hi
        cases hi
        obtain ⟨q, hq, ht⟩ := Paired.get (Y.tst s) ea
        rw [List.getElem?_map] at hq
        cases eq : (S s).stock[i]? with
        | none => rw [eq] at hq; cases hq
        | some p =>
          rw [eq] at hq
          cases hq
          have hi' := (List.getElem?_eq_some_iff.mp eq).1
          refine ⟨_, _, rfl, SqT.of (hs _ _ ht), rfl, _, _, rfl, _, _, rfl, rfl, rfl, ?_⟩
          refine ⟨_, rfl, _, hD, line_of (by rw [List.length_map, List.length_take]; omega), fun b o e => (upd_ne (ne_of_none e nD)).trans (hs _ _ e), ?_⟩
          · rw [upd_same, List.take_add_one, eq, List.map_append]
            rfl
    · rintro H' ⟨hs, hD⟩
      refine ⟨_, (S s).stock.map (fun q : Int × Int => q.1), rfl, SqL.of ?_, k H' hs⟩
      have e : (S s).stock.take ((g.st s).map V.ref).length = (S s).stock := List.take_of_length_le (by rw [List.length_map, (Y.tst s).length, List.length_map]; exact Nat.le_refl _)
      rw [e] at hD
      rw [hD, List.map_map]
      rfl
end
end K10

namespace K10
open PySem L2
section
variable {P : Program} {w : World} {K : PySem.W.Frag} {mg : Str → Option Value} {base : Heap} {A : Ads}
def WTake (E : En A) (H0 : Hp) (T : Int) (S : S2) (C : C2) (s : Bool) (n : Int) (m : Nat) (σ : L2.St) (H' : Hp) : Prop :=
  ∃ (g' : Gh) (stk : List (Int × Int)) (left lg : Int) (v4 v5 : Option V), m = 2 * stk.length + (if left > 0 then 1 else 0) ∧ σ = [some (.ref (E.f .flow)), some (.int (sdI s)), some (.int n), some (.int left), v4, v5] ∧
    Sys E H0 g' H' T (up S s { S s with stock := stk, long := lg }) C ∧ left ≤ amt stk ∧ takeOut T stk left lg = takeOut T (S s).stock n (S s).long
def sp_F_take_out (A : Ads) : Sp := fun vs H Q _ => ∃ (E : En A) (H0 : Hp) (g : Gh) (T : Int) (S : S2) (C : C2) (s : Bool) (n : Int), vs = [.ref (E.f .flow), .int (sdI s), .int n] ∧ Sys E H0 g H T S C ∧ n ≤ kept (S s) ∧
  ∀ g' H', Sys E H0 g' H' T (up S s { S s with stock := (takeOut T (S s).stock n (S s).long).1, long := (takeOut T (S s).stock n (S s).long).2 }) C → Q .non H'
theorem ok_F_take_out (T : Txt K mg A) : FnOk P w K mg base CX0 1 A.f_F_take_out A.d_F_take_out ps_F_take_out (sp_F_take_out A) := by
  refine T.F_take_out.ok sc_F_take_out (fun vs H Q E h => ?_) (fun cdv AR outer sh H vs Q EX hr h => ?_)
  · obtain ⟨E, H0, g, U, S, C, s, n, rfl, _⟩ := h
    rfl
  · obtain ⟨E, H0, g, U, S, C, s, n, rfl, Y, hn, k⟩ := h
    refine ⟨_, (pss_cons (ps_set (i := 3) sc_F_take_out.nd rfl (Or.inl rfl) (pv 2))
      (pss_one (ps_while PassesOwn.never (pt_cmpR op_gt (pv 3) pe_int (nomark _)) (pss_cons (ps_asg (pe_ix ix_list (pe_ix ix_list (pe_fld (pv 0) rfl) (pv 1) (fun _ _ => rfl)) pe_int (fun _ _ => rfl)) (pg_tup (by rfl) (pgs_cons (pg_name (i := 4) sc_F_take_out.nd rfl (Or.inl rfl)) (pgs_cons (pg_name (i := 5) sc_F_take_out.nd rfl (Or.inl rfl)) pgs_nil))))
      (pss_cons (ps_asg (pe_callB (call_max2 rfl) (by rfl) T.n_max (by decide +kernel) (pa_cons (pe_ix ix_list (pe_fld (pv 0) rfl) (pv 1) (fun _ _ => rfl)) (pa_cons (pe_op op_sub (pe_fld (pv 0) rfl) (pv 5)) pa_nil))) (pg_sub (pe_fld (pv 0) rfl) (pv 1) set_list))
      (pss_cons (ps_if (pt_cmpR op_gt (pv 4) (pv 3) (nomark _)) (pss_one (ps_asg (pe_tup (pa_cons (pe_op op_sub (pv 4) (pv 3)) (pa_cons (pv 5) pa_nil))) (pg_sub (pe_ix ix_list (pe_fld (pv 0) rfl) (pv 1) (fun _ _ => rfl)) pe_int set_list))) (pss_one (ps_delL (pe_ix ix_list (pe_fld (pv 0) rfl) (pv 1) (fun _ _ => rfl)) pe_int)))
      (pss_one (ps_aug (i := 3) sc_F_take_out.nd rfl (Or.inl rfl) (pe_callB (call_min2 rfl) (by rfl) T.n_min (by decide +kernel) (pa_cons (pv 4) (pa_cons (pv 3) pa_nil))) ip_sub)))))))), ?_⟩
    refine ⟨_, rfl, WTake E H0 U S C s n, ⟨_, g, (S s).stock, n, (S s).long, none, none, rfl, rfl, ?_, hn, rfl⟩, ?_⟩
    · exact Y.cast (up_id S s).symm
    · rintro m σ H1 ⟨g1, stk, left, lg, v4, v5, rfl, rfl, Y1, hl, ht⟩
      refine ⟨_, rfl, _, _, rfl, rfl, _, rfl, ite2 (fun hp => ?_) (fun hp => ?_)⟩
      · have hp : left > 0 := of_decide_eq_true hp
        refine ⟨fun σ' H' => ∃ m', m' < 2 * stk.length + (if left > 0 then 1 else 0) ∧ WTake E H0 U S C s n m' σ' H', fun _ _ h => h, ?_⟩
        have hst : Tups H1 (g1.st s) (stk.map stV) := by
          have q := Y1.tst s
          rw [up_same] at q
          exact q
        cases stk with
        | nil =>
          have : amt [] = 0 := rfl
          omega
        | cons q r =>
          obtain ⟨f, t⟩ := q
          cases eas : g1.st s with
          | nil => rw [eas] at hst; cases hst
          | cons a0 as =>
            rw [eas] at hst
            cases hst with
            | cons h0 hrs =>
              have at1 : H1 (E.f (.st s)) = some (.lst ((a0 :: as).map .ref)) := by
                rw [← eas]
                exact Y1.at_ (.st s)
              refine ⟨_, rfl, _, _, _, _, _, rfl, Y1.at_ .flow, T.cF, T.nF_stock, lkF_stock _ _ _, _, rfl, _, _, _, _, rfl, rfl, SqL.of (Y1.at_ .stock), at_l2 _ s, _, _, _, _, rfl, rfl, SqL.of at1, atI_nat (j := 0) rfl, _, _, rfl, SqT.of h0, rfl, _, _, rfl, _, _, rfl, rfl, ?_⟩
              have Y2 := (Y1.sLong s (mx lg (U - t))).cast (S' := up S s { S s with stock := (f, t) :: r, long := mx lg (U - t) }) (by rw [up_up, up_same] <;> rfl)
              have el : (up S s { S s with stock := (f, t) :: r, long := lg } s).long = lg := by rw [up_same]
              refine ⟨_, rfl, _, _, _, _, _, rfl, Y1.at_ .flow, T.cF, T.nF_long, lkF_long _ _ _, _, rfl, _, _, _, _, rfl, rfl, SqL.of (Y1.at_ .long), at_l2 _ s, _, rfl, _, _, _, _, _, rfl, Y1.at_ .flow, T.cF, T.nF_tick, lkF_tick _ _ _, _, rfl, _, _, rfl, rfl, _, _, rfl, _, rfl, _, _, _, _, _, rfl, Y1.at_ .flow, T.cF, T.nF_long, lkF_long _ _ _, _, rfl, _, _, _, _, rfl, rfl, Y1.at_ .long, ix_l2 _ s, ?_⟩
              rw [el]
              have at2 : upd H1 (E.f .long) (.lst ((l2 fun b => .int (up S s { S s with stock := (f, t) :: r, long := lg } b).long).set (sdN s) (.int (mx lg (U - t))))) (E.f (.st s)) = some (.lst ((a0 :: as).map .ref)) := by
                rw [← eas]
                exact Y2.at_ (.st s)
              refine ⟨_, rfl, _, rfl, _, _, rfl, rfl, _, rfl, ite2 (fun hg => ?_) (fun hg => ?_)⟩
              · have hg : f > left := of_decide_eq_true hg
                refine ⟨_, rfl, _, rfl, _, _, rfl, rfl, _, rfl, by show 2 ≤ sizeLine; decide, fun p np => ?_⟩
                have Y3 := Y2.ext (same_upd np (o := .tup [.int (f - left), .int t]))
                have at3 := (same_upd np (o := .tup [.int (f - left), .int t])) _ _ at2
                refine ⟨_, rfl, _, _, _, _, _, rfl, Y3.at_ .flow, T.cF, T.nF_stock, lkF_stock _ _ _, _, rfl, _, _, _, _, rfl, rfl, SqL.of (Y3.at_ .stock), at_l2 _ s, _, _, _, _, rfl, rfl, at3, ix0, ?_⟩
                have Y4 := (Y3.sStock s (p :: as) ((f - left, t) :: r) (.cons upd_same (hrs.mono fun a xs e => (same_upd np) _ _ (tup_upd (Y1.at_ .long) (fun q => nomatch q) e)))).cast (S' := up S s { S s with stock := (f - left, t) :: r, long := mx lg (U - t) }) (by rw [up_up, up_same] <;> rfl)
                refine ⟨_, rfl, _, rfl, _, rfl, _, _, rfl, _, _, rfl, rfl, ?_⟩
                have e1 : (if left < f then left else f) = left := if_pos hg
                have e2 : left - (if left < f then left else f) = 0 := by rw [e1]; omega
                refine ⟨_, ?_, _, (f - left, t) :: r, left - (if left < f then left else f), mx lg (U - t), _, _, rfl, rfl, Y4, ?_, ?_⟩
                · rw [e2, if_pos hp, if_neg (by omega)]
                  exact Nat.lt_succ_self _
                · rw [e2, amt_cons]
                  rw [amt_cons] at hl
                  omega
                · rw [e2, takeOut_0 (by omega), ← ht, takeOut_gt hp hg]
              · have hg : ¬ f > left := of_decide_eq_false (by simpa using hg)
                refine ⟨_, rfl, _, _, _, _, _, rfl, Y2.at_ .flow, T.cF, T.nF_stock, lkF_stock _ _ _, _, rfl, _, _, _, _, rfl, rfl, SqL.of (Y2.at_ .stock), at_l2 _ s, _, _, _, _, rfl, rfl, at2, by decide, by decide, sq0, ?_⟩
                have Y4 := (Y2.sStock s as r (hrs.mono fun a xs e => tup_upd (Y1.at_ .long) (fun q => nomatch q) e)).cast (S' := up S s { S s with stock := r, long := mx lg (U - t) }) (by rw [up_up, up_same] <;> rfl)
                refine ⟨_, rfl, _, rfl, _, rfl, _, _, rfl, _, _, rfl, rfl, ?_⟩
                have e1 : (if left < f then left else f) = f := if_neg (by omega)
                refine ⟨_, ?_, _, r, left - (if left < f then left else f), mx lg (U - t), _, _, rfl, rfl, Y4, ?_, ?_⟩
                · rw [e1, if_pos hp]
                  have : (if left - f > 0 then 1 else 0) ≤ 1 := by split <;> omega
                  show _ < 2 * (r.length + 1) + 1
                  omega
                · rw [e1]
                  rw [amt_cons] at hl
                  omega
                · rw [e1, ← ht, takeOut_le hp hg]
      · have hp : ¬ left > 0 := of_decide_eq_false (by simpa using hp)
        rw [takeOut_0 hp] at ht
        refine k g1 H1 ?_
        rw [← ht]
        exact Y1
end
end K10

namespace K10
open PySem L2
section
variable {P : Program} {w : World} {K : PySem.W.Frag} {mg : Str → Option Value} {base : Heap} {A : Ads}
def sp_F_send (A : Ads) : Sp := fun vs H Q _ => ∃ (E : En A) (H0 : Hp) (g : Gh) (T : Int) (S : S2) (C : C2) (s : Bool) (n : Int), vs = [.ref (E.f .flow), .int (sdI s), .int n] ∧ Sys E H0 g H T S C ∧ n ≤ kept (S s) ∧
  (∀ b, (S b).lg.length ≤ 400000) ∧ (∀ b, (S b).fl.length ≤ 400000) ∧ ∀ g' H', Sys E H0 g' H' T (up S s (send E.cf.sz E.cf.wy T (S s) n)) C → Q .non H'
theorem ok_F_send (T : Txt K mg A) : FnOk P w K mg base CX0 2 A.f_F_send A.d_F_send ps_F_send (sp_F_send A) := by
  refine T.F_send.ok sc_F_send (fun vs H Q E h => ?_) (fun cdv AR outer sh H vs Q EX hr h => ?_)
  · obtain ⟨E, H0, g, U, S, C, s, n, rfl, _⟩ := h
    rfl
  · obtain ⟨E, H0, g, U, S, C, s, n, rfl, Y, hn, hlg, hfl, k⟩ := h
    refine ⟨_, (pss_cons (ps_expr (pe_meth (pv 0) T.cF T.m_F_take_out (ok_F_take_out T) (hr.mono (by decide)) T.b_F_take_out .nil pass0 (pa_cons (pv 1) (pa_cons (pv 2) pa_nil))))
      (pss_cons (ps_augS (pe_fld (pv 0) rfl) (pv 1) get_list (pv 2) ip_add set_list)
      (Evl.pss_cut (ps_if (pt_chain op_lt op_lt pe_int (pv 2) (pe_fld (pe_fld (pv 0) rfl) rfl)) (pss_one (ps_asg (pe_ix ix_list (pe_fld (pv 0) rfl) (pv 1) (fun _ _ => rfl)) (pg_sub (pe_fld (pv 0) rfl) (pv 1) set_list))) pss_nil)
      (pss_cons (ps_expr (pe_bm PySem.F.plainAttrs_list PySem.F.slot_list_append PySem.F.type_list_append mt_append (pe_fld (pv 0) rfl) (pa_cons (pe_tup (pa_cons (pe_fld (pv 0) rfl) (pa_cons (pv 1) (pa_cons (pv 2) (pa_cons (pe_ix ix_list (pe_fld (pv 0) rfl) (pv 1) (fun _ _ => rfl)) pa_nil))))) pa_nil)))
      (pss_cons (ps_expr (pe_bm PySem.F.plainAttrs_list PySem.F.slot_list_append PySem.F.type_list_append mt_append (pe_fld (pv 0) rfl) (pa_cons (pe_tup (pa_cons (pe_op op_add (pe_fld (pv 0) rfl) (pe_fld (pe_fld (pv 0) rfl) rfl)) (pa_cons (pv 1) (pa_cons (pv 2) (pa_cons (pe_ix ix_list (pe_fld (pv 0) rfl) (pv 1) (fun _ _ => rfl)) pa_nil))))) pa_nil)))
      (pss_cons (ps_asg pe_int (pg_sub (pe_fld (pv 0) rfl) (pv 1) set_list))
      (pss_one (ps_asg pe_non (pg_sub (pe_fld (pv 0) rfl) (pv 1) set_list))))))))), ?_⟩
    refine ⟨_, rfl, _, _, _, rfl, Y.at_ .flow, rfl, _, rfl, _, rfl, E, H0, g, U, S, C, s, n, rfl, Y, hn, fun g1 H1 Y1 => ?_⟩
    refine ⟨_, rfl, _, _, _, _, _, rfl, Y1.at_ .flow, T.cF, T.nF_out, lkF_out _ _ _, _, rfl, _, _, _, _, rfl, rfl, SqL.of (Y1.at_ .out), sdI_0 s, at_l2 _ s, _, rfl, _, _, rfl, rfl, _, _, _, _, rfl, rfl, Y1.at_ .out, ix_l2 _ s, ?_⟩
    have Y2 := (Y1.sOut s ((up S s { S s with stock := (takeOut U (S s).stock n (S s).long).1, long := (takeOut U (S s).stock n (S s).long).2 } s).out + n)).cast
      (S' := up S s { S s with stock := (takeOut U (S s).stock n (S s).long).1, long := (takeOut U (S s).stock n (S s).long).2, out := (S s).out + n }) (by rw [up_up, up_same] <;> rfl)
    revert Y2
    generalize upd H1 (E.f .out) _ = H2
    intro Y2
    -- the small piece
    refine ⟨fun σ' H' => σ' = [some (.ref (E.f .flow)), some (.int (sdI s)), some (.int n)] ∧ ∃ g', Sys E H0 g' H' U (up S s { S s with stock := (takeOut U (S s).stock n (S s).long).1, long := (takeOut U (S s).stock n (S s).long).2, out := (S s).out + n, small := if 0 < n ∧ n < E.cf.sz then (S s).out + n else (S s).small }) C, ?_, ?_⟩
    · refine ⟨_, rfl, _, _, rfl, rfl, _, rfl, ite2 (fun h0 => ?_) (fun h0 => ?_)⟩
      · have h0 : 0 < n := of_decide_eq_true h0
        refine ⟨_, rfl, _, _, _, _, _, rfl, Y2.at_ .flow, T.cF, T.nF_line, lkF_line _ _ _, _, _, _, _, _, rfl, Y2.c.line, T.cL, T.nL_size, lkL_size _, _, _, rfl, rfl, _, rfl, ite2 (fun h1 => ?_) (fun h1 => ?_)⟩
        · have h1 : n < E.cf.sz := of_decide_eq_true h1
          refine ⟨_, rfl, _, _, _, _, _, rfl, Y2.at_ .flow, T.cF, T.nF_out, lkF_out _ _ _, _, rfl, _, _, _, _, rfl, rfl, SqL.of (Y2.at_ .out), at_l2 _ s, _, rfl, _, _, _, _, _, rfl, Y2.at_ .flow, T.cF, T.nF_small, lkF_small _ _ _, _, rfl, _, _, _, _, rfl, rfl, Y2.at_ .small, ix_l2 _ s, rfl, _, (Y2.sSmall s _).cast ?_⟩
          rw [up_up, up_same, if_pos ⟨h0, h1⟩]
        · have h1 : ¬ n < E.cf.sz := of_decide_eq_false (by simpa using h1)
          refine ⟨rfl, _, Y2.cast ?_⟩
          rw [if_neg (fun q => h1 q.2)]
      · have h0 : ¬ 0 < n := of_decide_eq_false (by simpa using h0)
        refine ⟨_, rfl, iteF ⟨rfl, _, Y2.cast ?_⟩⟩
        rw [if_neg (fun q => h0 q.1)]
    rintro σ3 H3 ⟨rfl, g3, Y3⟩
    -- the log
    refine ⟨_, rfl, _, _, _, _, _, rfl, Y3.at_ .flow, T.cF, T.nF_log, lkF_log _ _ _, .inl ⟨rfl, _, SqL.of (Y3.at_ .log)⟩, _, rfl, _, _, _, _, _, rfl, Y3.at_ .flow, T.cF, T.nF_tick, lkF_tick _ _ _, _, rfl, _, rfl, _, rfl, _, _, _, _, _, rfl, Y3.at_ .flow, T.cF, T.nF_come, lkF_come _ _ _, _, rfl, _, _, _, _, rfl, rfl, SqL.of (Y3.at_ .come), at_l2 _ s, by show 4 ≤ sizeLine; decide, fun t nt => ?_⟩
    have Y3t := Y3.ext (same_upd nt (o := .tup [.int U, .int (sdI s), .int n, .int (up S s { S s with stock := (takeOut U (S s).stock n (S s).long).1, long := (takeOut U (S s).stock n (S s).long).2, out := (S s).out + n, small := if 0 < n ∧ n < E.cf.sz then (S s).out + n else (S s).small } s).come]))
    refine ⟨_, _, _, rfl, rfl, Y3t.at_ .log, Y3t.lgOk (fun b => by rw [up_lg (by rfl)]; exact hlg b), ?_⟩
    have Y4 := (Y3t.sLog s t n _ upd_same).cast (S' := up S s { S s with stock := (takeOut U (S s).stock n (S s).long).1, long := (takeOut U (S s).stock n (S s).long).2, out := (S s).out + n, small := if 0 < n ∧ n < E.cf.sz then (S s).out + n else (S s).small, lg := (S s).lg ++ [(U, n, (S s).come)] }) (by rw [up_up, up_same] <;> rfl)
    revert Y4
    generalize upd (upd H3 t _) (E.f .log) _ = H4
    intro Y4
    -- what is under way
    refine ⟨_, rfl, _, _, _, _, _, rfl, Y4.at_ .flow, T.cF, T.nF_flight, lkF_flight _ _ _, .inl ⟨rfl, _, SqL.of Y4.fl⟩, _, rfl, _, _, _, _, _, rfl, Y4.at_ .flow, T.cF, T.nF_tick, lkF_tick _ _ _, _, rfl, _, _, _, _, _, rfl, Y4.at_ .flow, T.cF, T.nF_line, lkF_line _ _ _, _, _, _, _, _, rfl, Y4.c.line, T.cL, T.nL_way, lkL_way _, _, _, rfl, rfl, _, rfl, _, rfl, _, rfl, _, _, _, _, _, rfl, Y4.at_ .flow, T.cF, T.nF_come, lkF_come _ _ _, _, rfl, _, _, _, _, rfl, rfl, SqL.of (Y4.at_ .come), at_l2 _ s, by show 4 ≤ sizeLine; decide, fun t5 nt5 => ?_⟩
    have Y4t := Y4.ext (same_upd nt5 (o := .tup [.int (U + E.cf.wy), .int (sdI s), .int n, .int (up S s { S s with stock := (takeOut U (S s).stock n (S s).long).1, long := (takeOut U (S s).stock n (S s).long).2, out := (S s).out + n, small := if 0 < n ∧ n < E.cf.sz then (S s).out + n else (S s).small, lg := (S s).lg ++ [(U, n, (S s).come)] } s).come]))
    refine ⟨_, _, _, rfl, rfl, Y4t.fl, Y4t.flOk (fun b => by rw [up_fl (by rfl)]; exact hfl b), ?_⟩
    have Y5 := (Y4t.sFl s t5 (U + E.cf.wy) n _ upd_same).cast (S' := up S s { S s with stock := (takeOut U (S s).stock n (S s).long).1, long := (takeOut U (S s).stock n (S s).long).2, out := (S s).out + n, small := if 0 < n ∧ n < E.cf.sz then (S s).out + n else (S s).small, lg := (S s).lg ++ [(U, n, (S s).come)], fl := (S s).fl ++ [(U + E.cf.wy, n, (S s).come)] }) (by rw [up_up, up_same] <;> rfl)
    revert Y5
    show Sys _ _ _ (upd (upd H4 t5 _) g3.fa _) _ _ _ → _
    generalize upd (upd H4 t5 _) g3.fa _ = H5
    intro Y5
    refine ⟨_, rfl, _, _, _, _, _, rfl, Y5.at_ .flow, T.cF, T.nF_full, lkF_full _ _ _, _, rfl, _, _, _, _, rfl, rfl, Y5.at_ .full, ix_l2 _ s, ?_⟩
    have Y6 := Y5.sFull s 0
    refine ⟨_, rfl, _, _, _, _, _, rfl, Y6.at_ .flow, T.cF, T.nF_first, lkF_first _ _ _, _, rfl, _, _, _, _, rfl, rfl, Y6.at_ .first, ix_l2 _ s, ?_⟩
    refine k _ _ ((Y6.sFirst s none).cast ?_)
    rw [up_same, up_up, up_same, up_up]
    rfl
end
end K10

namespace K10
open PySem L2
/-- a side that is in order, and not too large -/
structure Sm (x : Sd) : Prop where
  wf : Wf x
  bud : bud x ≤ 400000
theorem Sm.lg {x : Sd} (h : Sm x) : x.lg.length ≤ 400000 := by
  have a := h.wf.sizes
  have b := h.bud
  omega
theorem Sm.fl {x : Sd} (h : Sm x) : x.fl.length ≤ 400000 := by
  have a := h.wf.sizes
  have b := h.bud
  omega
theorem Sm.stock {x : Sd} (h : Sm x) : x.stock.length ≤ 400000 := by
  have a := h.wf.sizes
  have b := h.bud
  omega
theorem Sm.dn {x y : Sd} (h : Sm x) (d : Dn x y) : Sm y := ⟨d.wf, Int.le_trans d.bud h.bud⟩
theorem Sm.up {S : S2} (h : ∀ b, Sm (S b)) {s : Bool} {x : Sd} (hx : Sm x) (b : Bool) : Sm (up S s x b) := by
  unfold K10.up
  split
  · exact hx
  · exact h b
section
variable {P : Program} {w : World} {K : PySem.W.Frag} {mg : Str → Option Value} {base : Heap} {A : Ads}
def WGo (E : En A) (H0 : Hp) (T : Int) (S : S2) (C : C2) (s : Bool) (m : Nat) (σ : L2.St) (H' : Hp) : Prop :=
  ∃ (g' : Gh) (x : Sd), σ = [some (.ref (E.f .flow)), some (.int (sdI s)), none] ∧ Sys E H0 g' H' T (up S s x) C ∧ Dn (S s) x ∧ kept x ≤ m ∧ rel E.cf.sz E.cf.wy T m x = rel E.cf.sz E.cf.wy T (kept (S s)).toNat (S s)
def sp_F_let_go (A : Ads) : Sp := fun vs H Q _ => ∃ (E : En A) (H0 : Hp) (g : Gh) (T : Int) (S : S2) (C : C2) (s : Bool), vs = [.ref (E.f .flow), .int (sdI s)] ∧ Sys E H0 g H T S C ∧ 1 ≤ E.cf.sz ∧
  (∀ b, Sm (S b)) ∧ ∀ g' H', Sys E H0 g' H' T (up S s (letGo E.cf.sz E.cf.wy T (E.cf.p s).rule (S s))) C → Q .non H'
theorem ok_F_let_go (T : Txt K mg A) : FnOk P w K mg base CX0 3 A.f_F_let_go A.d_F_let_go ps_F_let_go (sp_F_let_go A) := by
  refine T.F_let_go.ok sc_F_let_go (fun vs H Q E h => ?_) (fun cdv AR outer sh H vs Q EX hr h => ?_)
  · obtain ⟨E, H0, g, U, S, C, s, rfl, _⟩ := h
    rfl
  · obtain ⟨E, H0, g, U, S, C, s, rfl, Y, hz, hS, k⟩ := h
    refine ⟨_, (pss_cons (ps_while PassesOwn.never (pt_cmpR op_ge (pe_meth (pv 0) T.cF T.m_F_kept (ok_F_kept T) (hr.mono (by decide)) T.b_F_kept .nil pass0 (pa_cons (pv 1) pa_nil)) (pe_fld (pe_fld (pv 0) rfl) rfl) (nomark _)) (pss_one (ps_expr (pe_meth (pv 0) T.cF T.m_F_send (ok_F_send T) (hr.mono (by decide)) T.b_F_send .nil pass0 (pa_cons (pv 1) (pa_cons (pe_fld (pe_fld (pv 0) rfl) rfl) pa_nil))))))
      (pss_cons (ps_set (i := 2) sc_F_let_go.nd rfl (Or.inl rfl) (pe_meth (pv 0) T.cF T.m_F_kept (ok_F_kept T) (hr.mono (by decide)) T.b_F_kept .nil pass0 (pa_cons (pv 1) pa_nil)))
      (pss_one (ps_if (PW.pt (pw_and (pt_cmpR op_gt (pv 2) pe_int (nomark _)) (pw_and1 (pt_val (pe_meth (pv 0) T.cF T.m_F_lets (ok_F_lets T) (hr.mono (by decide)) T.b_F_lets .nil pass0 (pa_cons (pv 1) pa_nil)))))) (pss_one (ps_expr (pe_meth (pv 0) T.cF T.m_F_send (ok_F_send T) (hr.mono (by decide)) T.b_F_send .nil pass0 (pa_cons (pv 1) (pa_cons (pv 2) pa_nil))))) pss_nil)))), ?_⟩
    refine ⟨WGo E H0 U S C s, ⟨(kept (S s)).toNat, g, S s, rfl, Y.cast (up_id S s).symm, .refl (hS s).wf, by omega, rfl⟩, ?_⟩
    rintro m σ H1 ⟨g1, x, rfl, Y1, d, hk, hx⟩
    have hx1 : Sm x := (hS s).dn d
    refine ⟨_, rfl, _, _, _, rfl, Y1.at_ .flow, rfl, _, rfl, E, H0, g1, U, _, C, s, rfl, Y1, by rw [up_same]; exact Nat.le_trans hx1.stock (by decide), fun H2 hs2 => ?_⟩
    rw [up_same]
    have Y2 := Y1.ext hs2
    refine ⟨_, rfl, _, _, _, _, _, rfl, Y2.at_ .flow, T.cF, T.nF_line, lkF_line _ _ _, _, _, _, _, _, rfl, Y2.c.line, T.cL, T.nL_size, lkL_size _, _, _, rfl, rfl, _, rfl, ite2 (fun hc => ?_) (fun hc => ?_)⟩
    · have hc : E.cf.sz ≤ kept x := of_decide_eq_true hc
      refine ⟨fun σ' H' => ∃ m', m' < m ∧ WGo E H0 U S C s m' σ' H', fun _ _ h => h, ?_⟩
      refine ⟨_, rfl, _, _, _, rfl, Y2.at_ .flow, rfl, _, rfl, _, rfl, _, _, _, _, _, rfl, Y2.at_ .flow, T.cF, T.nF_line, lkF_line _ _ _, _, _, _, _, _, rfl, Y2.c.line, T.cL, T.nL_size, lkL_size _, E, H0, g1, U, _, C, s, _, rfl, Y2, by rw [up_same]; exact hc, fun b => (Sm.up hS hx1 b).lg, fun b => (Sm.up hS hx1 b).fl, fun g3 H3 Y3 => ?_⟩
      rw [up_same, up_up] at Y3
      cases m with
      | zero => omega
      | succ j =>
        refine ⟨j, Nat.lt_succ_self j, g3, _, rfl, Y3, d.trans (send_dn hx1.wf (by omega) hc), ?_, ?_⟩
        · rw [send_kept (by omega) hc]
          omega
        · rw [← hx]
          conv => rhs; unfold rel
          rw [if_pos hc]
    · have hc : ¬ E.cf.sz ≤ kept x := of_decide_eq_false (by simpa using hc)
      have e : rel E.cf.sz E.cf.wy U m x = x := by
        cases m with
        | zero => rfl
        | succ j =>
          unfold rel
          rw [if_neg hc]
      have el : letGo E.cf.sz E.cf.wy U (E.cf.p s).rule (S s) = if 0 < kept x ∧ lets (E.cf.p s).rule x = true then send E.cf.sz E.cf.wy U x (kept x) else x := by
        unfold letGo
        simp only
        rw [← hx, e]
      refine ⟨_, rfl, _, _, _, rfl, Y2.at_ .flow, rfl, _, rfl, E, H0, g1, U, _, C, s, rfl, Y2, by rw [up_same]; exact Nat.le_trans hx1.stock (by decide), fun H3 hs3 => ?_⟩
      rw [up_same]
      have Y3 := Y2.ext hs3
      refine ⟨_, rfl, _, _, rfl, rfl, _, rfl, ite2 (fun h0 => ?_) (fun h0 => ?_)⟩
      · have h0 : 0 < kept x := of_decide_eq_true h0
        refine ⟨_, rfl, _, _, _, rfl, Y3.at_ .flow, rfl, _, rfl, E, H0, g1, U, _, C, s, rfl, Y3, _, rfl, ?_⟩
        rw [up_same]
        refine ite2 (fun h1 => ?_) (fun h1 => ?_)
        · refine ⟨_, rfl, _, _, _, rfl, Y3.at_ .flow, rfl, _, rfl, _, rfl, E, H0, g1, U, _, C, s, _, rfl, Y3, by rw [up_same]; exact Int.le_refl _, fun b => (Sm.up hS hx1 b).lg, fun b => (Sm.up hS hx1 b).fl, fun g4 H4 Y4 => ?_⟩
          rw [up_same, up_up] at Y4
          refine k g4 H4 (Y4.cast ?_)
          rw [el, if_pos ⟨h0, h1⟩]
        · refine k g1 H3 (Y3.cast ?_)
          rw [el, if_neg (fun q => h1 q.2)]
      · have h0 : ¬ 0 < kept x := of_decide_eq_false (by simpa using h0)
        refine iteF (k g1 H3 (Y3.cast ?_))
        rw [el, if_neg (fun q => h0 q.1)]
def sp_F_put (A : Ads) : Sp := fun vs H Q _ => ∃ (E : En A) (H0 : Hp) (g : Gh) (T : Int) (S : S2) (C : C2) (s : Bool) (n : Int), vs = [.ref (E.f .flow), .int (sdI s), .int n] ∧ Sys E H0 g H T S C ∧ 1 ≤ E.cf.sz ∧ 1 ≤ n ∧
  (∀ b, Sm (S b)) ∧ Sm (addSt T (S s) n) ∧ ∀ g' H', Sys E H0 g' H' T (up S s (put E.cf.sz E.cf.wy T (E.cf.p s).rule (S s) n)) C → Q .non H'
theorem ok_F_put (T : Txt K mg A) : FnOk P w K mg base CX0 4 A.f_F_put A.d_F_put ps_F_put (sp_F_put A) := by
  refine T.F_put.ok sc_F_put (fun vs H Q E h => ?_) (fun cdv AR outer sh H vs Q EX hr h => ?_)
  · obtain ⟨E, H0, g, U, S, C, s, n, rfl, _⟩ := h
    rfl
  · obtain ⟨E, H0, g, U, S, C, s, n, rfl, Y, hz, hn, hS, hA, k⟩ := h
    refine ⟨_, (pss_cons (ps_expr (pe_bm PySem.F.plainAttrs_list PySem.F.slot_list_append PySem.F.type_list_append mt_append (pe_ix ix_list (pe_fld (pv 0) rfl) (pv 1) (fun _ _ => rfl)) (pa_cons (pe_tup (pa_cons (pv 2) (pa_cons (pe_fld (pv 0) rfl) pa_nil))) pa_nil)))
      (pss_one (ps_expr (pe_meth (pv 0) T.cF T.m_F_let_go (ok_F_let_go T) (hr.mono (by decide)) T.b_F_let_go .nil pass0 (pa_cons (pv 1) pa_nil))))), ?_⟩
    refine ⟨_, rfl, _, _, _, _, _, rfl, Y.at_ .flow, T.cF, T.nF_stock, lkF_stock _ _ _, _, rfl, _, _, _, _, rfl, rfl, SqL.of (Y.at_ .stock), at_l2 _ s, .inl ⟨rfl, _, SqL.of (Y.at_ (.st s))⟩, _, rfl, _, rfl, _, _, _, _, _, rfl, Y.at_ .flow, T.cF, T.nF_tick, lkF_tick _ _ _, by show 2 ≤ sizeLine; decide, fun t nt => ?_⟩
    have Yt := Y.ext (same_upd nt (o := .tup [.int n, .int U]))
    refine ⟨_, _, _, rfl, rfl, Yt.at_ (.st s), ?_, ?_⟩
    · rw [List.length_map, (Y.tst s).length, List.length_map]
      exact Nat.lt_of_le_of_lt (hS s).stock (by decide)
    have Y2 := Yt.sStock s (g.st s ++ [t]) ((S s).stock ++ [(n, U)]) (by rw [List.map_append]; exact Paired.app (Yt.tst s) (.cons upd_same .nil))
    have e : HO.lst ((g.st s).map .ref ++ [.ref t]) = HO.lst ((g.st s ++ [t]).map .ref) := by rw [List.map_append]; rfl
    rw [e]
    refine ⟨_, rfl, _, _, _, rfl, Y2.at_ .flow, rfl, _, rfl, E, H0, _, U, _, C, s, rfl, Y2, hz, Sm.up hS hA, fun g3 H3 Y3 => ?_⟩
    rw [up_same, up_up] at Y3
    exact k g3 H3 Y3
end
end K10

namespace K10
open PySem L2
theorem sd_not (s : Bool) : 1 - sdI (!s) = sdI s := by cases s <;> rfl
theorem l2_item {f : Bool → V} {i : Nat} {x : V} (h : (l2 f)[i]? = some x) : ∃ s, i = sdN s ∧ x = f s := by
  match i, h with
  | 0, h => exact ⟨false, rfl, (Option.some.inj h).symm⟩
  | 1, h => exact ⟨true, rfl, (Option.some.inj h).symm⟩
/-- the first i sides are done -/
def stp {α : Type} (F : Bool → α → α) (S : Bool → α) (i : Nat) : Bool → α := fun b => if sdN b < i then F b (S b) else S b
theorem stp_0 {α : Type} (F : Bool → α → α) (S : Bool → α) : stp F S 0 = S := by funext b; exact if_neg (Nat.not_lt_zero _)
theorem stp_2 {α : Type} (F : Bool → α → α) (S : Bool → α) : stp F S 2 = fun b => F b (S b) := by funext b; exact if_pos (by cases b <;> decide)
theorem stp_at {α : Type} (F : Bool → α → α) (S : Bool → α) (s : Bool) : stp F S (sdN s) s = S s := if_neg (Nat.lt_irrefl _)
theorem stp_up {α : Type} (F : Bool → α → α) (S : Bool → α) (s : Bool) : up (stp F S (sdN s)) s (F s (S s)) = stp F S (sdN s + 1) := by
  funext b
  unfold up stp
  cases s <;> cases b <;> rfl
section
variable {P : Program} {w : World} {K : PySem.W.Frag} {mg : Str → Option Value} {base : Heap} {A : Ads}
theorem Sys.notOwn {E : En A} {H0 : Hp} {g : Gh} {H : Hp} {T : Int} {S : S2} {C : C2} (Y : Sys E H0 g H T S C) {t : Addr} (nt : H t = none) : t ≠ g.fa ∧ ∀ l, t ≠ E.f l :=
  ⟨fun e => (ne_of_none Y.fl nt) e.symm, fun l e => (ne_of_none (Y.at_ l) nt) e.symm⟩
/-- a new thing that must stay: a base that has it -/
theorem Sys.keep {E : En A} {H0 : Hp} {g : Gh} {H : Hp} {T : Int} {S : S2} {C : C2} (Y : Sys E H0 g H T S C) {t : Addr} {o : HO} (nt : H t = none) : ∃ H1, Sys E H1 g (upd H t o) T S C ∧ Same H0 H1 ∧ H1 t = some o := by
  have Yt := Y.ext (same_upd nt (o := o))
  exact ⟨_, Yt.rebase, Yt.butS, but_some Yt upd_same (Y.notOwn nt).1 (Y.notOwn nt).2⟩
def sp_F_land (A : Ads) : Sp := fun vs H Q _ => ∃ (E : En A) (H0 : Hp) (g : Gh) (T : Int) (S : S2) (C : C2) (s : Bool) (n a : Int), vs = [.ref (E.f .flow), .int (sdI (!s)), .int n, .int a] ∧ Sys E H0 g H T S C ∧
  ∀ g' H', Sys E H0 g' H' T (up S s (land E.cf.sz T (S s) n a)) C → Q .non H'
theorem ok_F_land (T : Txt K mg A) : FnOk P w K mg base CX0 1 A.f_F_land A.d_F_land ps_F_land (sp_F_land A) := by
  refine T.F_land.ok sc_F_land (fun vs H Q E h => ?_) (fun cdv AR outer sh H vs Q EX hr h => ?_)
  · obtain ⟨E, H0, g, U, S, C, s, n, a, rfl, _⟩ := h
    rfl
  · obtain ⟨E, H0, g, U, S, C, s, n, a, rfl, Y, k⟩ := h
    refine ⟨_, (pss_cons (ps_set (i := 4) sc_F_land.nd rfl (Or.inl rfl) (pe_op op_sub pe_int (pv 1)))
      (pss_cons (ps_asg (pe_callB (call_max2 rfl) (by rfl) T.n_max (by decide +kernel) (pa_cons (pe_ix ix_list (pe_fld (pv 0) rfl) (pv 4) (fun _ _ => rfl)) (pa_cons (pv 3) pa_nil))) (pg_sub (pe_fld (pv 0) rfl) (pv 4) set_list))
      (pss_one (ps_if (pt_cmpR op_gt (pv 2) pe_int (nomark _)) (pss_cons (ps_augS (pe_fld (pv 0) rfl) (pv 4) get_list (pv 2) ip_add set_list)
      (Evl.pss_cut (ps_if (pt_cmpR op_eq (pv 2) (pe_fld (pe_fld (pv 0) rfl) rfl) (nomark _)) (pss_one (ps_augS (pe_fld (pv 0) rfl) (pv 4) get_list pe_int ip_add set_list)) pss_nil)
      (pss_one (ps_if (pt_cmpR op_isN (pe_ix ix_list (pe_fld (pv 0) rfl) (pv 4) (fun _ _ => rfl)) pe_non (nomark _)) (pss_one (ps_asg (pe_fld (pv 0) rfl) (pg_sub (pe_fld (pv 0) rfl) (pv 4) set_list))) pss_nil)))) pss_nil)))), ?_⟩
    refine ⟨_, rfl, _, _, rfl, rfl, ?_⟩
    show gName 4 (V.int (1 - sdI (!s))) _ _ _
    rw [sd_not]
    refine ⟨_, rfl, _, _, _, _, _, rfl, Y.at_ .flow, T.cF, T.nF_known, lkF_known _ _ _, _, rfl, _, _, _, _, rfl, rfl, SqL.of (Y.at_ .known), at_l2 _ s, _, rfl, _, _, rfl, _, rfl, _, _, _, _, _, rfl, Y.at_ .flow, T.cF, T.nF_known, lkF_known _ _ _, _, rfl, _, _, _, _, rfl, rfl, Y.at_ .known, ix_l2 _ s, ?_⟩
    have Y2 := (Y.sKnown s (if a > (S s).known then a else (S s).known)).cast (S' := up S s { S s with known := mx (S s).known a }) rfl
    revert Y2
    show Sys _ _ _ (upd H (E.f .known) _) _ _ _ → _
    generalize upd H (E.f .known) _ = H2
    intro Y2
    refine ⟨_, rfl, _, _, rfl, rfl, _, rfl, ite2 (fun h0 => ?_) (fun h0 => ?_)⟩
    · have h0 : 0 < n := of_decide_eq_true h0
      refine ⟨_, rfl, _, _, _, _, _, rfl, Y2.at_ .flow, T.cF, T.nF_come, lkF_come _ _ _, _, rfl, _, _, _, _, rfl, rfl, SqL.of (Y2.at_ .come), sdI_0 s, at_l2 _ s, _, rfl, _, _, rfl, rfl, _, _, _, _, rfl, rfl, Y2.at_ .come, ix_l2 _ s, ?_⟩
      have Y3 := (Y2.sCome s ((up S s { S s with known := mx (S s).known a } s).come + n)).cast (S' := up S s { S s with known := mx (S s).known a, come := (S s).come + n }) (by rw [up_up, up_same] <;> rfl)
      refine ⟨fun σ' H' => σ' = [some (.ref (E.f .flow)), some (.int (sdI (!s))), some (.int n), some (.int a), some (.int (sdI s))] ∧ ∃ g', Sys E H0 g' H' U (up S s { S s with known := mx (S s).known a, come := (S s).come + n, full := if n = E.cf.sz then (S s).full + 1 else (S s).full }) C, ?_, ?_⟩
      · refine ⟨_, rfl, _, rfl, _, _, _, _, _, rfl, Y3.at_ .flow, T.cF, T.nF_line, lkF_line _ _ _, _, _, _, _, _, rfl, Y3.c.line, T.cL, T.nL_size, lkL_size _, rfl, _, rfl, ite2 (fun h1 => ?_) (fun h1 => ?_)⟩
        · rw [dInt] at h1
          have h1 : n = E.cf.sz := of_decide_eq_true h1
          refine ⟨_, rfl, _, _, _, _, _, rfl, Y3.at_ .flow, T.cF, T.nF_full, lkF_full _ _ _, _, rfl, _, _, _, _, rfl, rfl, SqL.of (Y3.at_ .full), sdI_0 s, at_l2 _ s, _, _, rfl, rfl, _, _, _, _, rfl, rfl, Y3.at_ .full, ix_l2 _ s, rfl, _, (Y3.sFull s _).cast ?_⟩
          rw [up_up, up_same, if_pos h1]
        · rw [dInt] at h1
          have h1 : ¬ n = E.cf.sz := of_decide_eq_false (by simpa using h1)
          refine ⟨rfl, _, Y3.cast ?_⟩
          rw [if_neg h1]
      rintro σ4 H4 ⟨rfl, g4, Y4⟩
      refine ⟨_, rfl, _, _, _, _, _, rfl, Y4.at_ .flow, T.cF, T.nF_first, lkF_first _ _ _, _, rfl, _, _, _, _, rfl, rfl, SqL.of (Y4.at_ .first), at_l2 _ s, rfl, _, rfl, ?_⟩
      rw [up_same]
      show if decide (oI (S s).first = V.non) = true then _ else _
      cases hf : (S s).first with
      | none =>
        refine iteT ⟨_, rfl, _, _, _, _, _, rfl, Y4.at_ .flow, T.cF, T.nF_tick, lkF_tick _ _ _, _, rfl, _, _, _, _, _, rfl, Y4.at_ .flow, T.cF, T.nF_first, lkF_first _ _ _, _, rfl, _, _, _, _, rfl, rfl, Y4.at_ .first, ix_l2 _ s, ?_⟩
        refine k _ _ ((Y4.sFirst s (some U)).cast ?_)
        rw [up_up, up_same]
        unfold land
        rw [if_pos h0, hf]
        rfl
      | some v =>
        refine iteF (k _ _ (Y4.cast ?_))
        have e : some ((S s).first.getD U) = (S s).first := by rw [hf]; rfl
        unfold land
        rw [if_pos h0, e]
    · have h0 : ¬ 0 < n := of_decide_eq_false (by simpa using h0)
      refine k _ _ (Y2.cast ?_)
      unfold land
      rw [if_neg h0]
def sp_F_is_due (A : Ads) : Sp := fun vs H Q _ => ∃ (E : En A) (H0 : Hp) (g : Gh) (T : Int) (S : S2) (C : C2) (s : Bool), vs = [.ref (E.f .flow), .int (sdI s)] ∧ Sys E H0 g H T S C ∧ Q (.bl (due (E.cf.p s) T (S s))) H
theorem ok_F_is_due (T : Txt K mg A) : FnOk P w K mg base CX0 1 A.f_F_is_due A.d_F_is_due ps_F_is_due (sp_F_is_due A) := by
  refine T.F_is_due.ok sc_F_is_due (fun vs H Q E h => ?_) (fun cdv AR outer sh H vs Q EX hr h => ?_)
  · obtain ⟨E, H0, g, U, S, C, s, rfl, _⟩ := h
    rfl
  · obtain ⟨E, H0, g, U, S, C, s, rfl, Y, k⟩ := h
    refine ⟨_, (pss_cons (ps_set (i := 2) sc_F_is_due.nd rfl (Or.inl rfl) (pe_ix ix_tup (pe_fld (pv 0) rfl) (pv 1) (fun _ _ => rfl)))
      (pss_cons (ps_if (pt_cmpR op_ge (pe_ix ix_list (pe_fld (pv 0) rfl) (pv 1) (fun _ _ => rfl)) (pe_fld (pv 2) rfl) (nomark _)) (pss_one (ps_ret pe_bl)) pss_nil)
      (pss_one (ps_ret (pe_and (pe_cmpR op_notN (pe_ix ix_list (pe_fld (pv 0) rfl) (pv 1) (fun _ _ => rfl)) pe_non (nomark _)) (pe_one (pe_cmpR op_ge (pe_fld (pv 0) rfl) (pe_op op_add (pe_ix ix_list (pe_fld (pv 0) rfl) (pv 1) (fun _ _ => rfl)) (pe_fld (pv 2) rfl)) (nomark _)))))))), ?_⟩
    refine ⟨_, rfl, _, _, _, _, _, rfl, Y.at_ .flow, T.cF, T.nF_settings, lkF_settings _ _ _, _, rfl, _, _, _, _, rfl, rfl, SqT.of Y.c.stg, at_l2 _ s, _, rfl, _, _, _, _, _, rfl, Y.at_ .flow, T.cF, T.nF_full, lkF_full _ _ _, _, rfl, _, _, _, _, rfl, rfl, SqL.of (Y.at_ .full), at_l2 _ s, _, rfl, _, _, _, _, _, rfl, Y.c.nr s, T.cS, T.nS_every, lkS_every _ _, _, _, rfl, rfl, _, rfl, ite2 (fun h0 => ?_) (fun h0 => ?_)⟩
    · have e : due (E.cf.p s) U (S s) = true := by unfold due; rw [show decide ((S s).full ≥ (E.cf.p s).every) = true from h0]; rfl
      rw [e] at k
      exact k
    · have e : due (E.cf.p s) U (S s) = (match (S s).first with | none => false | some v => decide (U ≥ v + (E.cf.p s).delay)) := by
        unfold due
        rw [show decide ((S s).full ≥ (E.cf.p s).every) = false from by simpa using h0]
        rfl
      rw [e] at k
      revert k
      refine fun k => ⟨_, rfl, _, _, _, _, _, rfl, Y.at_ .flow, T.cF, T.nF_first, lkF_first _ _ _, _, rfl, _, _, _, _, rfl, rfl, SqL.of (Y.at_ .first), at_l2 _ s, rfl, _, rfl, ?_⟩
      cases hf : (S s).first with
      | none =>
        rw [hf] at k
        exact iteF k
      | some v =>
        rw [hf] at k
        refine iteT ⟨_, rfl, _, _, _, _, _, rfl, Y.at_ .flow, T.cF, T.nF_tick, lkF_tick _ _ _, _, rfl, _, _, _, _, _, rfl, Y.at_ .flow, T.cF, T.nF_first, lkF_first _ _ _, _, rfl, _, _, _, _, rfl, rfl, SqL.of (Y.at_ .first), at_l2 _ s, _, rfl, _, _, _, _, _, rfl, Y.c.nr s, T.cS, T.nS_delay, lkS_delay _ _, _, _, (by rw [hf]; rfl), rfl, _, _, rfl, rfl, k⟩
theorem due_fst {p : Pr} {T : Int} {x : Sd} (he : 1 ≤ p.every) (w : Wf x) (h : due p T x = true) : x.first ≠ none := by
  unfold due at h
  rw [Bool.or_eq_true] at h
  rcases h with h | h
  · have h := of_decide_eq_true h
    exact w.ff (by omega)
  · intro e
    rw [e] at h
    cases h
def sp_F_leave (A : Ads) : Sp := fun vs H Q _ => ∃ (E : En A) (H0 : Hp) (g : Gh) (T : Int) (S : S2) (C : C2), vs = [.ref (E.f .flow)] ∧ Sys E H0 g H T S C ∧ (∀ b, 1 ≤ (E.cf.p b).every) ∧ (∀ b, Sm (S b)) ∧
  ∀ g' H', Sys E H0 g' H' T (fun b => leave E.cf.sz E.cf.wy T (E.cf.p b) (S b)) C → Q .non H'
theorem ok_F_leave (T : Txt K mg A) : FnOk P w K mg base CX0 3 A.f_F_leave A.d_F_leave ps_F_leave (sp_F_leave A) := by
  refine T.F_leave.ok sc_F_leave (fun vs H Q E h => ?_) (fun cdv AR outer sh H vs Q EX hr h => ?_)
  · obtain ⟨E, H0, g, U, S, C, rfl, _⟩ := h
    rfl
  · obtain ⟨E, H0, g, U, S, C, rfl, Y, he, hS, k⟩ := h
    refine ⟨_, (pss_one (ps_for PassesOwn.never rfl (pi_tup (pe_tup (pa_cons pe_int (pa_cons pe_int pa_nil)))) (pg_name (i := 1) sc_F_leave.nd rfl (Or.inl rfl)) (pss_one (ps_if (pt_val (pe_meth (pv 0) T.cF T.m_F_is_due (ok_F_is_due T) (hr.mono (by decide)) T.b_F_is_due .nil pass0 (pa_cons (pv 1) pa_nil))) (pss_one (ps_expr (pe_meth (pv 0) T.cF T.m_F_send (ok_F_send T) (hr.mono (by decide)) T.b_F_send .nil pass0 (pa_cons (pv 1) (pa_cons pe_int pa_nil))))) pss_nil)))), ?_⟩
    refine ⟨by show 2 ≤ sizeLine; decide, fun t nt => ?_⟩
    obtain ⟨H1, Y1, k1, t1⟩ := Y.keep (o := .tup [.int 0, .int 1]) nt
    refine ⟨_, rfl, ⟨_, SqT.of upd_same⟩, for_tup (K := K) (a := t) (xs := [.int 0, .int 1]) (fun i σ H' => ∃ (g' : Gh) (v : Option V), σ = [some (.ref (E.f .flow)), v] ∧ Sys E H1 g' H' U (stp (fun b x => leave E.cf.sz E.cf.wy U (E.cf.p b) x) S i) C)
      ⟨g, none, rfl, Y1.cast (stp_0 _ _).symm⟩ (fun i σ H' _ ⟨g', v, _, Y'⟩ => SqT.of (Y'.same _ _ t1)) ?_ ?_⟩
    · rintro i x σ H' hi ⟨g', v, rfl, Y'⟩
      obtain ⟨s, rfl, rfl⟩ := l2_item (f := fun s => .int (sdI s)) hi
      have hSb : ∀ b, Sm (stp (fun b x => leave E.cf.sz E.cf.wy U (E.cf.p b) x) S (sdN s) b) := fun b => by
        unfold stp
        split
        · exact (hS b).dn (leave_dn (he b) (hS b).wf)
        · exact hS b
      refine ⟨_, rfl, _, _, _, rfl, Y'.at_ .flow, rfl, _, rfl, E, H1, g', U, _, C, s, rfl, Y', _, rfl, ?_⟩
      rw [stp_at]
      refine ite2 (fun h0 => ?_) (fun h0 => ?_)
      · refine ⟨_, rfl, _, _, _, rfl, Y'.at_ .flow, rfl, _, rfl, E, H1, g', U, _, C, s, 0, rfl, Y', ?_, fun b => (hSb b).lg, fun b => (hSb b).fl, fun g2 H2 Y2 => ⟨g2, _, rfl, Y2.cast ?_⟩⟩
        · rw [stp_at]
          have := (hS s).wf.kept
          omega
        · rw [stp_at, ← stp_up]
          unfold leave
          rw [if_pos h0]
      · refine ⟨g', _, rfl, Y'.cast ?_⟩
        rw [← stp_up]
        unfold leave
        rw [if_neg h0]
        conv => lhs; rw [← up_id (stp _ S (sdN s)) s, stp_at]
    · rintro σ H' ⟨g', v, rfl, Y'⟩
      exact k g' H' ((Y'.cast (stp_2 _ _)).weak k1 Y.cst)
end
end K10

namespace K10
open PySem L2
theorem proj_filter (b : Bool) (k : Int → Bool) : ∀ ps : List Pc, proj b (ps.filter fun p => k p.1) = (proj b ps).filter fun q => k q.1
  | [] => rfl
  | (t, s, n, a) :: r => by
    have ih := proj_filter b k r
    have e : ∀ l, proj b ((t, s, n, a) :: l) = proj b [(t, s, n, a)] ++ proj b l := fun l => proj_append b [_] l
    rw [e, List.filter_append, ← ih, proj_one]
    by_cases hk : k t = true
    · rw [List.filter_cons_of_pos (by exact hk), e, proj_one]
      split
      · rw [List.filter_cons_of_pos (by exact hk)]
        rfl
      · rfl
    · rw [List.filter_cons_of_neg (by exact hk)]
      split
      · rw [List.filter_cons_of_neg (by exact hk)]
        rfl
      · rfl
/-- the state when the first pieces have landed -/
def lnS (sz T : Int) (S : S2) (ps : List Pc) : S2 := fun b => (proj (!b) ps).foldl (arrive sz T) (cutFl T S b)
theorem lnS_step (sz T : Int) (S : S2) (ps : List Pc) (t : Int) (s : Bool) (n a : Int) : up (lnS sz T S ps) (!s) (land sz T (lnS sz T S ps (!s)) n a) = lnS sz T S (ps ++ [(t, s, n, a)]) := by
  funext b
  unfold lnS
  rw [proj_append, proj_one]
  cases s <;> cases b
  · show List.foldl (arrive sz T) (cutFl T S false) (proj true ps) = List.foldl (arrive sz T) (cutFl T S false) (proj true ps ++ [])
    rw [List.append_nil]
  · show land sz T (List.foldl (arrive sz T) (cutFl T S true) (proj (!true) ps)) n a = List.foldl (arrive sz T) (cutFl T S true) (proj (!true) ps ++ [(t, n, a)])
    rw [List.foldl_append]
    rfl
  · show land sz T (List.foldl (arrive sz T) (cutFl T S false) (proj (!false) ps)) n a = List.foldl (arrive sz T) (cutFl T S false) (proj (!false) ps ++ [(t, n, a)])
    rw [List.foldl_append]
    rfl
  · show List.foldl (arrive sz T) (cutFl T S true) (proj false ps) = List.foldl (arrive sz T) (cutFl T S true) (proj false ps ++ [])
    rw [List.append_nil]
section
variable {P : Program} {w : World} {K : PySem.W.Frag} {mg : Str → Option Value} {base : Heap} {A : Ads}
def sp_F_begin (A : Ads) : Sp := fun vs H Q _ => ∃ (E : En A) (H0 : Hp) (g : Gh) (U T : Int) (S : S2) (C : C2), vs = [.ref (E.f .flow), .int T] ∧ Sys E H0 g H U S C ∧ 1 ≤ E.cf.sz ∧ (∀ b, Sm (S b)) ∧ (∀ b, Sm (landAll E.cf.sz T S b)) ∧
  ∀ g' H', Sys E H0 g' H' T (begin_ E.cf T S) C → Q .non H'
theorem ok_F_begin (T : Txt K mg A) : FnOk P w K mg base CX0 4 A.f_F_begin A.d_F_begin ps_F_begin (sp_F_begin A) := by
  refine T.F_begin.ok sc_F_begin (fun vs H Q E h => ?_) (fun cdv AR outer sh H vs Q EX hr h => ?_)
  · obtain ⟨E, H0, g, U0, U, S, C, rfl, _⟩ := h
    rfl
  · obtain ⟨E, H0, g, U0, U, S, C, rfl, Y0, hz, hS, hL, k⟩ := h
    have hfl : g.fp.length ≤ 800000 := by
      have e := Y0.tfl.length
      rw [List.length_map] at e
      have h0 := (hS false).fl
      have h1 := (hS true).fl
      rw [← e, Y0.flLen]
      omega
    refine ⟨_, (pss_cons (ps_fld (pv 0) (pv 1) rfl)
      (pss_cons (ps_setLc (i := 2) (own := [("piece", 8)]) (g := (gName 8))  rfl sc_F_begin.nd rfl rfl (sw_true rfl rfl rfl (by decide +kernel)) (pi_list (pe_fld (pv 0) rfl)) (blkOk_by (N := ["self", "tick", "landing", "there", "sender", "amount", "answered", "side", "piece"]) (sc := defScope s_F_begin) (by decide +kernel)) (fun _ _ _ _ _ => (pg_name (i := 8) sc_F_begin.nd rfl (Or.inl rfl))) (fun _ _ _ _ _ => (pts_one (pt_cmpR op_le (pe_ix (ix_tupK K rfl) (pv 8) pe_int (fun _ _ => rfl)) (pv 1) (nomark _)))) (fun _ _ _ _ _ => (pv 8)))
      (pss_cons (ps_fld (pv 0) (pe_lc (own := [("piece", 8)]) (g := (gName 8))  rfl sc_F_begin.nd (pi_list (pe_fld (pv 0) rfl)) (blkOk_by (N := ["self", "tick", "landing", "there", "sender", "amount", "answered", "side", "piece"]) (sc := defScope s_F_begin) (by decide +kernel)) (fun _ _ _ _ _ => (pg_name (i := 8) sc_F_begin.nd rfl (Or.inl rfl))) (fun _ _ _ _ _ => (pts_one (pt_cmpR op_gt (pe_ix (ix_tupK K rfl) (pv 8) pe_int (fun _ _ => rfl)) (pv 1) (nomark _)))) (fun _ _ _ _ _ => (pv 8))) rfl)
      (pss_cons (ps_for PassesOwn.never rfl (pi_list (pv 2)) (pg_tup (by rfl) (pgs_cons (pg_name (i := 3) sc_F_begin.nd rfl (Or.inl rfl)) (pgs_cons (pg_name (i := 4) sc_F_begin.nd rfl (Or.inl rfl)) (pgs_cons (pg_name (i := 5) sc_F_begin.nd rfl (Or.inl rfl)) (pgs_cons (pg_name (i := 6) sc_F_begin.nd rfl (Or.inl rfl)) pgs_nil))))) (pss_one (ps_expr (pe_meth (pv 0) T.cF T.m_F_land (ok_F_land T) (hr.mono (by decide)) T.b_F_land .nil pass0 (pa_cons (pv 4) (pa_cons (pv 5) (pa_cons (pv 6) pa_nil)))))))
      (pss_one (ps_for PassesOwn.never rfl (pi_tup (pe_tup (pa_cons pe_int (pa_cons pe_int pa_nil)))) (pg_name (i := 7) sc_F_begin.nd rfl (Or.inl rfl)) (pss_one (ps_expr (pe_meth (pv 0) T.cF T.m_F_let_go (ok_F_let_go T) (hr.mono (by decide)) T.b_F_let_go .nil pass0 (pa_cons (pv 7) pa_nil)))))))))), ?_⟩
    refine ⟨_, rfl, _, rfl, _, _, _, _, rfl, Y0.at_ .flow, T.cF, T.nF_tick, by show 14 < 1000; decide, ?_⟩
    have Y := Y0.sTick U
    revert Y
    generalize upd H (E.f .flow) _ = HA
    intro Y
    refine ⟨_, rfl, _, _, _, _, _, rfl, Y.at_ .flow, T.cF, T.nF_flight, lkF_flight _ _ _, _, rfl, ⟨_, SqL.of Y.fl⟩, fun D nD => ?_⟩
    refine lc_list (K := K) (a := g.fa) (xs := g.fl.map .ref) (fun i H' => Same HA H' ∧ ∃ as : List Addr, as.length ≤ i ∧ H' D = some (.lst (as.map .ref)) ∧ Tups HA as (((g.fp.take i).filter fun p => decide (p.1 ≤ U)).map pcV))
      ⟨same_upd nD, [], Nat.le_refl _, upd_same, .nil⟩ (fun i H' _ h => h.1.seq (SqL.of Y.fl)) ?_ ?_
    · rintro i x H' hi ⟨hs, as, ha, hD, ht⟩
      rw [List.getElem?_map] at hi
      cases ea : g.fl[i]? with
      | none => rw [ea] at hi; cases hi
      | some a =>
        rw [ea] at hi
        cases hi
        obtain ⟨q, hq, hp⟩ := Paired.get Y.tfl ea
        rw [List.getElem?_map] at hq
        cases ep : g.fp[i]? with
        | none => rw [ep] at hq; cases hq
        | some p =>
          rw [ep] at hq
          cases hq
          have hi' := (List.getElem?_eq_some_iff.mp ep).1
          have et : (g.fp.take (i + 1)).filter (fun p => decide (p.1 ≤ U)) = (g.fp.take i).filter (fun p => decide (p.1 ≤ U)) ++ [p].filter (fun p => decide (p.1 ≤ U)) := by rw [List.take_add_one, ep, List.filter_append]; rfl
          refine ⟨rfl, _, rfl, _, _, _, _, rfl, rfl, SqT.of (hs _ _ hp), rfl, _, rfl, _, _, rfl, rfl, _, rfl, ite2 (fun hc => ?_) (fun hc => ?_)⟩
          · refine ⟨_, rfl, _, hD, ?_, fun b o e => (upd_ne (ne_of_none e nD)).trans (hs _ _ e), as ++ [a], ?_, by rw [upd_same, List.map_append]; rfl, ?_⟩
            · rw [List.length_map]
              exact Nat.lt_of_le_of_lt (Nat.le_trans ha (Nat.le_trans (Nat.le_of_lt hi') hfl)) (by decide)
            · rw [List.length_append]
              show as.length + 1 ≤ i + 1
              omega
            · rw [et, List.filter_cons_of_pos (by exact hc), List.map_append]
              exact Paired.app ht (.cons hp .nil)
          · refine ⟨hs, as, by omega, hD, ?_⟩
            rw [et, List.filter_cons_of_neg (by exact hc)]
            simp only [List.filter_nil, List.append_nil]
            exact ht
    rintro HB ⟨hsB, as, _, hDB, htB⟩
    rw [List.take_of_length_le (by rw [List.length_map, Y.tfl.length, List.length_map]; exact Nat.le_refl _)] at htB
    have YB := Y.ext hsB
    refine ⟨_, rfl, _, _, _, _, _, rfl, YB.at_ .flow, T.cF, T.nF_flight, lkF_flight _ _ _, _, rfl, ⟨_, SqL.of YB.fl⟩, fun D2 nD2 => ?_⟩
    refine lc_list (K := K) (a := g.fa) (xs := g.fl.map .ref) (fun i H' => Same HB H' ∧ ∃ as : List Addr, as.length ≤ i ∧ H' D2 = some (.lst (as.map .ref)) ∧ Tups HB as (((g.fp.take i).filter fun p => decide (p.1 > U)).map pcV))
      ⟨same_upd nD2, [], Nat.le_refl _, upd_same, .nil⟩ (fun i H' _ h => h.1.seq (SqL.of YB.fl)) ?_ ?_
    · rintro i x H' hi ⟨hs, as, ha, hD, ht⟩
      rw [List.getElem?_map] at hi
      cases ea : g.fl[i]? with
      | none => rw [ea] at hi; cases hi
      | some a =>
        rw [ea] at hi
        cases hi
        obtain ⟨q, hq, hp⟩ := Paired.get YB.tfl ea
        rw [List.getElem?_map] at hq
        cases ep : g.fp[i]? with
        | none => rw [ep] at hq; cases hq
        | some p =>
          rw [ep] at hq
          cases hq
          have hi' := (List.getElem?_eq_some_iff.mp ep).1
          have et : (g.fp.take (i + 1)).filter (fun p => decide (p.1 > U)) = (g.fp.take i).filter (fun p => decide (p.1 > U)) ++ [p].filter (fun p => decide (p.1 > U)) := by rw [List.take_add_one, ep, List.filter_append]; rfl
          refine ⟨rfl, _, rfl, _, _, _, _, rfl, rfl, SqT.of (hs _ _ hp), rfl, _, rfl, _, _, rfl, rfl, _, rfl, ite2 (fun hc => ?_) (fun hc => ?_)⟩
          · refine ⟨_, rfl, _, hD, ?_, fun b o e => (upd_ne (ne_of_none e nD2)).trans (hs _ _ e), as ++ [a], ?_, by rw [upd_same, List.map_append]; rfl, ?_⟩
            · rw [List.length_map]
              exact Nat.lt_of_le_of_lt (Nat.le_trans ha (Nat.le_trans (Nat.le_of_lt hi') hfl)) (by decide)
            · rw [List.length_append]
              show as.length + 1 ≤ i + 1
              omega
            · rw [et, List.filter_cons_of_pos (by exact hc), List.map_append]
              exact Paired.app ht (.cons hp .nil)
          · refine ⟨hs, as, by omega, hD, ?_⟩
            rw [et, List.filter_cons_of_neg (by exact hc)]
            simp only [List.filter_nil, List.append_nil]
            exact ht
    rintro HC ⟨hsC, as2, _, hDC, htC⟩
    rw [List.take_of_length_le (by rw [List.length_map, YB.tfl.length, List.length_map]; exact Nat.le_refl _)] at htC
    have YC := YB.ext hsC
    refine ⟨_, rfl, _, _, _, _, rfl, YC.at_ .flow, T.cF, T.nF_flight, by show 14 < 1000; decide, ?_⟩
    have YD := YC.sFlight D2 as2 _ (cutFl U S) hDC (YB.same.free nD2) (fun l => Ne.symm ((YB.notOwn nD2).2 l)) (htC.mono fun a xs e => hsC _ _ e) (fun b => by
      unfold cutFl
      rw [proj_filter b (fun t => decide (t > U)), Y.pfl])
    revert YD
    have hD4 : upd HC (E.f .flow) (.ins A.CF (E.f .fdx) (putF "flight" (.ref D2) (flowFs E g.fa U))) D = some (.lst (as.map .ref)) := by
      rw [upd_ne ((Y.notOwn nD).2 .flow)]
      exact hsC _ _ hDB
    have ht4 : Tups (upd HC (E.f .flow) (.ins A.CF (E.f .fdx) (putF "flight" (.ref D2) (flowFs E g.fa U)))) as (((g.fp).filter fun p => decide (p.1 ≤ U)).map pcV) :=
      htB.mono fun a xs e => tup_upd (YC.at_ .flow) ob_tup (hsC _ _ (hsB _ _ e))
    revert hD4 ht4
    generalize upd HC (E.f .flow) _ = HD
    intro hD4 ht4 YD
    have YE := YD.rebase
    have hD5 : but E { g with fa := D2, fl := as2, fp := (g.fp).filter fun p => decide (p.1 > U) } HD D = some (.lst (as.map .ref)) :=
      but_some YD hD4 (ne_of_none hDB nD2) (Y.notOwn nD).2
    have ht5 : Tups (but E { g with fa := D2, fl := as2, fp := (g.fp).filter fun p => decide (p.1 > U) } HD) as (((g.fp).filter fun p => decide (p.1 ≤ U)).map pcV) :=
      ht4.mono fun a xs e => but_some YD e (fun q => by
        rw [q, show HD D2 = _ from YD.fl] at e
        cases e) (fun l q => by
        rw [q, YD.at_ l] at e
        exact ob_tup (Option.some.inj e))
    have k5 := YD.butS
    revert YE hD5 ht5 k5
    generalize but E _ HD = H1
    intro YE hD5 ht5 k5
    have el : as.length = ((g.fp).filter fun p => decide (p.1 ≤ U)).length := by
      have := ht5.length
      rw [List.length_map] at this
      exact this
    refine ⟨_, rfl, _, rfl, ⟨_, SqL.of hD4⟩, for_list (K := K) (a := D) (xs := as.map .ref) (fun i σ H' => ∃ (g' : Gh) (v3 v4 v5 v6 v7 v8 : Option V), σ = [some (.ref (E.f .flow)), some (.int U), some (.ref D), v3, v4, v5, v6, v7, v8] ∧ Sys E H1 g' H' U (lnS E.cf.sz U S (((g.fp).filter fun p => decide (p.1 ≤ U)).take i)) C)
      ⟨_, _, _, _, _, _, _, rfl, YE⟩ (fun i σ H' _ ⟨g', _, _, _, _, _, _, _, Y'⟩ => SqL.of (Y'.same _ _ hD5)) ?_ ?_⟩
    · rintro i x σ H' hi ⟨g', v3, v4, v5, v6, v7, v8, rfl, Y'⟩
      rw [List.getElem?_map] at hi
      cases ea : as[i]? with
      | none => rw [ea] at hi; cases hi
      | some a =>
        rw [ea] at hi
        cases hi
        obtain ⟨q, hq, hp⟩ := Paired.get ht5 ea
        rw [List.getElem?_map] at hq
        cases ep : ((g.fp).filter fun p => decide (p.1 ≤ U))[i]? with
        | none => rw [ep] at hq; cases hq
        | some p =>
          rw [ep] at hq
          cases hq
          obtain ⟨t, s, n, ans⟩ := p
          refine ⟨_, _, rfl, SqT.of (Y'.same _ _ hp), rfl, _, _, rfl, _, _, rfl, _, _, rfl, _, _, rfl, rfl, ?_⟩
          refine ⟨_, rfl, _, _, _, rfl, Y'.at_ .flow, rfl, _, rfl, _, rfl, _, rfl, E, H1, g', U, _, C, !s, n, ans, by rw [Bool.not_not]; rfl, Y', fun g2 H2 Y2 => ⟨g2, _, _, _, _, _, _, rfl, Y2.cast ?_⟩⟩
          rw [lnS_step (t := t), List.take_add_one, ep]
          rfl
    rintro σ HE ⟨g5, v3, v4, v5, v6, v7, v8, rfl, YF⟩
    have YF := YF.cast (S' := landAll E.cf.sz U S) (by
      rw [List.length_map, el, List.take_length]
      funext b
      unfold lnS landAll
      rw [proj_filter (!b) (fun t => decide (t ≤ U)), Y.pfl])
    refine ⟨by show 2 ≤ sizeLine; decide, fun t nt => ?_⟩
    obtain ⟨H2, Y1, k1, t1⟩ := YF.keep (o := .tup [.int 0, .int 1]) nt
    refine ⟨_, rfl, ⟨_, SqT.of upd_same⟩, for_tup (K := K) (a := t) (xs := [.int 0, .int 1]) (fun i σ H' => ∃ (g' : Gh) (v7 : Option V), σ = [some (.ref (E.f .flow)), some (.int U), some (.ref D), v3, v4, v5, v6, v7, v8] ∧ Sys E H2 g' H' U (stp (fun b x => letGo E.cf.sz E.cf.wy U (E.cf.p b).rule x) (landAll E.cf.sz U S) i) C)
      ⟨g5, _, rfl, Y1.cast (stp_0 _ _).symm⟩ (fun i σ H' _ ⟨g', v, _, Y'⟩ => SqT.of (Y'.same _ _ t1)) ?_ ?_⟩
    · rintro i x σ H' hi ⟨g', v, rfl, Y'⟩
      obtain ⟨s, rfl, rfl⟩ := l2_item (f := fun s => .int (sdI s)) hi
      have hSb : ∀ b, Sm (stp (fun b x => letGo E.cf.sz E.cf.wy U (E.cf.p b).rule x) (landAll E.cf.sz U S) (sdN s) b) := fun b => by
        unfold stp
        split
        · exact (hL b).dn (letGo_dn hz (hL b).wf)
        · exact hL b
      refine ⟨_, rfl, _, _, _, rfl, Y'.at_ .flow, rfl, _, rfl, E, H2, g', U, _, C, s, rfl, Y', hz, hSb, fun g2 H2 Y2 => ⟨g2, _, rfl, Y2.cast ?_⟩⟩
      rw [stp_at, stp_up]
    · rintro σ H' ⟨g', v, rfl, Y'⟩
      exact k g' H' (((Y'.cast (stp_2 _ _)).weak k1 YF.cst).weak k5 Y.cst)
end
end K10

namespace K10
open PySem L2
theorem putC_place1 {A : Ads} (E : En A) (b : Bool) (c : Co) : putF "place" (.int ((c.place : Nat) + 1)) (coFs E b c) = coFs E b { c with place := c.place + 1 } := by rfl
theorem putC_ended1 {A : Ads} (E : En A) (b : Bool) (c : Co) (U : Int) : putF "ended" (.int U) (coFs E b c) = coFs E b { c with ended := some U } := by rfl
theorem putC_until1 {A : Ads} (E : En A) (b : Bool) (c : Co) (U : Int) : putF "until" (.int U) (coFs E b c) = coFs E b { c with until_ := some U } := by rfl
theorem putC_until0 {A : Ads} (E : En A) (b : Bool) (c : Co) : putF "until" .non (coFs E b c) = coFs E b { c with until_ := none } := by rfl
theorem doStep_place {sz wy T : Int} {p : Pr} {x : Sd} {c : Co} (h : (doStep sz wy T p x c).1 = true) : (doStep sz wy T p x c).2.2.place = c.place + 1 := by
  unfold doStep at h ⊢
  split at h
  · cases h
  · rfl
  · rename_i n e
    by_cases q : x.come - x.taken < n
    · rw [if_pos q] at h
      cases h
    · rw [if_neg q]
      rfl
  · rename_i n e
    by_cases q : T < c.until_.getD (T + n)
    · rw [if_pos q] at h
      cases h
    · rw [if_neg q]
      rfl
section
variable {P : Program} {w : World} {K : PySem.W.Frag} {mg : Str → Option Value} {base : Heap} {A : Ads}
theorem Sys.castC {E : En A} {H0 : Hp} {g : Gh} {H : Hp} {T : Int} {S : S2} {C C' : C2} (Y : Sys E H0 g H T S C) (e : C = C') : Sys E H0 g H T S C' := e ▸ Y
theorem Cst.len {E : En A} {H : Hp} (c : Cst E H) (s : Bool) : ((E.sta s).map V.ref).length = (E.cf.p s).steps.length := by
  rw [List.length_map, (c.sta s).length, List.length_map]
def sp_C_pass_step (A : Ads) : Sp := fun vs H Q _ => ∃ (E : En A) (H0 : Hp) (g : Gh) (T : Int) (S : S2) (C : C2) (s : Bool), vs = [.ref (E.f (.co s)), .ref (E.f .flow)] ∧ Sys E H0 g H T S C ∧
  ∀ H', Sys E H0 g H' T S (up C s (passStep T (E.cf.p s).steps.length (C s))) → Q .non H'
theorem ok_C_pass_step (T : Txt K mg A) : FnOk P w K mg base CX0 1 A.f_C_pass_step A.d_C_pass_step ps_C_pass_step (sp_C_pass_step A) := by
  refine T.C_pass_step.ok sc_C_pass_step (fun vs H Q E h => ?_) (fun cdv AR outer sh H vs Q EX hr h => ?_)
  · obtain ⟨E, H0, g, U, S, C, s, rfl, _⟩ := h
    rfl
  · obtain ⟨E, H0, g, U, S, C, s, rfl, Y, k⟩ := h
    refine ⟨_, (pss_cons (ps_fldaug (pv 0) pe_int in_add)
      (pss_one (ps_if (pt_cmpR op_eq (pe_fld (pv 0) rfl) (pe_callB call_len_seq (by rfl) T.n_len (by decide +kernel) (pa_cons (pe_fld (pv 0) rfl) pa_nil)) (nomark _)) (pss_one (ps_if (pt_val (pe_fld (pv 0) rfl)) (pss_cons (ps_fld (pv 0) pe_int rfl)
      (pss_one (ps_expr (pe_bm PySem.F.plainAttrs_list PySem.F.slot_list_append PySem.F.type_list_append mt_append (pe_fld (pv 0) rfl) (pa_cons (pe_fld (pv 1) rfl) pa_nil))))) (pss_one (ps_fld (pv 0) (pe_fld (pv 1) rfl) rfl)))) pss_nil))), ?_⟩
    refine ⟨_, rfl, _, _, _, _, _, rfl, Y.at_ (.co s), T.cC, T.nC_place, lkC_place _ _ _, _, _, rfl, rfl, _, _, Y.at_ (.co s), by show 6 < 1000; decide, ?_⟩
    rw [putC_place1]
    have Y2 := Y.sCo s { C s with place := (C s).place + 1 }
    refine ⟨_, rfl, _, _, _, _, _, rfl, Y2.at_ (.co s), T.cC, T.nC_place, lkC_place _ _ _, _, rfl, _, _, _, _, _, rfl, Y2.at_ (.co s), T.cC, T.nC_steps, lkC_steps _ _ _, _, _, rfl, .inl (SqL.of (Y2.c.stp s)), rfl, _, rfl, ?_⟩
    rw [up_same, Y2.c.len, dInt]
    refine ite2 (fun h0 => ?_) (fun h0 => ?_)
    · have h0 : (((C s).place + 1 : Nat) : Int) = ((E.cf.p s).steps.length : Nat) := of_decide_eq_true h0
      refine ⟨_, rfl, _, _, _, _, _, rfl, Y2.at_ (.co s), T.cC, T.nC_again, lkC_again _ _ _, _, rfl, iteF ⟨_, rfl, _, _, _, _, _, rfl, Y2.at_ .flow, T.cF, T.nF_tick, lkF_tick _ _ _, _, rfl, _, _, _, _, rfl, Y2.at_ (.co s), T.cC, T.nC_ended, by show 6 < 1000; decide, ?_⟩⟩
      rw [putC_ended1, up_same]
      refine k _ ((Y2.sCo s _).castC ?_)
      rw [up_up]
      unfold passStep
      rw [if_pos (by omega)]
    · have h0 : ¬ (((C s).place + 1 : Nat) : Int) = ((E.cf.p s).steps.length : Nat) := of_decide_eq_false (by simpa using h0)
      refine k _ (Y2.castC ?_)
      unfold passStep
      rw [if_neg (by omega)]
def restU (T n : Int) (c : Co) : Int := c.until_.getD (T + n)
def sp_C_rests (A : Ads) : Sp := fun vs H Q _ => ∃ (E : En A) (H0 : Hp) (g : Gh) (T : Int) (S : S2) (C : C2) (s : Bool) (n : Int), vs = [.ref (E.f (.co s)), .ref (E.f .flow), .int n] ∧ Sys E H0 g H T S C ∧
  ∀ H', (T < restU T n (C s) → Sys E H0 g H' T S (up C s { C s with until_ := some (restU T n (C s)) }) → Q (.bl true) H') ∧ (¬ T < restU T n (C s) → Sys E H0 g H' T S (up C s { C s with until_ := none }) → Q (.bl false) H')
theorem ok_C_rests (T : Txt K mg A) : FnOk P w K mg base CX0 1 A.f_C_rests A.d_C_rests ps_C_rests (sp_C_rests A) := by
  refine T.C_rests.ok sc_C_rests (fun vs H Q E h => ?_) (fun cdv AR outer sh H vs Q EX hr h => ?_)
  · obtain ⟨E, H0, g, U, S, C, s, n, rfl, _⟩ := h
    rfl
  · obtain ⟨E, H0, g, U, S, C, s, n, rfl, Y, k⟩ := h
    refine ⟨_, (Evl.pss_cut (ps_if (pt_cmpR op_isN (pe_fld (pv 0) rfl) pe_non (nomark _)) (pss_one (ps_fld (pv 0) (pe_op op_add (pe_fld (pv 1) rfl) (pv 2)) rfl)) pss_nil)
      (pss_cons (ps_if (pt_cmpR op_lt (pe_fld (pv 1) rfl) (pe_fld (pv 0) rfl) (nomark _)) (pss_one (ps_ret pe_bl)) pss_nil)
      (pss_cons (ps_fld (pv 0) pe_non rfl)
      (pss_one (ps_ret pe_bl))))), ?_⟩
    refine ⟨fun σ' H' => σ' = [some (.ref (E.f (.co s))), some (.ref (E.f .flow)), some (.int n)] ∧ Sys E H0 g H' U S (up C s { C s with until_ := some (restU U n (C s)) }), ?_, ?_⟩
    · refine ⟨_, rfl, _, _, _, _, _, rfl, Y.at_ (.co s), T.cC, T.nC_until, lkC_until _ _ _, rfl, _, rfl, ?_⟩
      cases hu : (C s).until_ with
      | none =>
        refine iteT ⟨_, rfl, _, _, _, _, _, rfl, Y.at_ .flow, T.cF, T.nF_tick, lkF_tick _ _ _, _, rfl, _, _, rfl, rfl, _, rfl, _, _, _, _, rfl, Y.at_ (.co s), T.cC, T.nC_until, by show 6 < 1000; decide, rfl, ?_⟩
        rw [putC_until1]
        refine (Y.sCo s _).castC ?_
        unfold restU
        rw [hu]
        rfl
      | some u =>
        refine iteF ⟨rfl, Y.castC ?_⟩
        unfold restU
        rw [hu]
        have e : ({ C s with until_ := some ((some u).getD (U + n)) } : Co) = C s := by
          show Co.mk (C s).place (some u) (C s).ended = C s
          rw [← hu]
        rw [e, up_id]
    rintro σ1 H1 ⟨rfl, Y1⟩
    refine ⟨_, rfl, _, _, _, _, _, rfl, Y1.at_ .flow, T.cF, T.nF_tick, lkF_tick _ _ _, _, rfl, _, _, _, _, _, rfl, Y1.at_ (.co s), T.cC, T.nC_until, lkC_until _ _ _, _, _, rfl, (by rw [up_same]; rfl), _, rfl, ite2 (fun h0 => ?_) (fun h0 => ?_)⟩
    · exact (k H1).1 (of_decide_eq_true h0) Y1
    · have h0 : ¬ U < restU U n (C s) := of_decide_eq_false (by simpa using h0)
      refine ⟨_, rfl, _, _, _, _, rfl, Y1.at_ (.co s), T.cC, T.nC_until, by show 6 < 1000; decide, ?_⟩
      rw [putC_until0, up_same]
      exact (k _).2 h0 ((Y1.sCo s _).castC (by rw [up_up]))
def sp_C_do_step (A : Ads) : Sp := fun vs H Q _ => ∃ (E : En A) (H0 : Hp) (g : Gh) (T : Int) (S : S2) (C : C2) (s : Bool), vs = [.ref (E.f (.co s)), .ref (E.f .flow), .int (sdI s)] ∧ Sys E H0 g H T S C ∧ 1 ≤ E.cf.sz ∧ POk (E.cf.p s) ∧
  (C s).place < (E.cf.p s).steps.length ∧ (∀ b, Sm (S b)) ∧ bud (S s) + remw (E.cf.p s) (C s) ≤ 400000 ∧
  ∀ g' H', Sys E H0 g' H' T (up S s (doStep E.cf.sz E.cf.wy T (E.cf.p s) (S s) (C s)).2.1) (up C s (doStep E.cf.sz E.cf.wy T (E.cf.p s) (S s) (C s)).2.2) → Q (.bl (doStep E.cf.sz E.cf.wy T (E.cf.p s) (S s) (C s)).1) H'
theorem ok_C_do_step (T : Txt K mg A) : FnOk P w K mg base CX0 5 A.f_C_do_step A.d_C_do_step ps_C_do_step (sp_C_do_step A) := by
  refine T.C_do_step.ok sc_C_do_step (fun vs H Q E h => ?_) (fun cdv AR outer sh H vs Q EX hr h => ?_)
  · obtain ⟨E, H0, g, U, S, C, s, rfl, _⟩ := h
    rfl
  · obtain ⟨E, H0, g, U, S, C, s, rfl, Y, hz, hp, hpl, hS, hb, k⟩ := h
    obtain ⟨q, hq⟩ : ∃ q, (E.cf.p s).steps[(C s).place]? = some q := ⟨_, List.getElem?_eq_getElem hpl⟩
    have hqm : ((E.cf.p s).steps.map spV)[(C s).place]? = some (spV q) := by rw [List.getElem?_map, hq]; rfl
    obtain ⟨a, ea, hp1⟩ := Paired.get' (Y.c.sta s) hqm
    have eam : ((E.sta s).map V.ref)[(C s).place]? = some (.ref a) := by rw [List.getElem?_map, ea]; rfl
    have hr' := remw_step (T := U) (len := (E.cf.p s).steps.length) hq
    have hrp := remw_pos (c := passStep U (E.cf.p s).steps.length (C s)) hp
    obtain ⟨wd, n⟩ := q
    refine ⟨_, (pss_cons (ps_asg (pe_ix ix_list (pe_fld (pv 0) rfl) (pe_fld (pv 0) rfl) (fun _ _ => rfl)) (pg_tup (by rfl) (pgs_cons (pg_name (i := 3) sc_C_do_step.nd rfl (Or.inl rfl)) (pgs_cons (pg_name (i := 4) sc_C_do_step.nd rfl (Or.inl rfl)) pgs_nil))))
      (pss_cons (ps_if (pt_cmpR op_eq (pv 3) pe_str (nomark _)) (pss_one (ps_expr (pe_meth (pv 1) T.cF T.m_F_put (ok_F_put T) (hr.mono (by decide)) T.b_F_put .nil pass0 (pa_cons (pv 2) (pa_cons (pv 4) pa_nil))))) (pss_one (ps_if (pt_cmpR op_eq (pv 3) pe_str (nomark _)) (pss_cons (ps_if (pt_cmpR op_lt (pe_meth (pv 1) T.cF T.m_F_fresh (ok_F_fresh T) (hr.mono (by decide)) T.b_F_fresh .nil pass0 (pa_cons (pv 2) pa_nil)) (pv 4) (nomark _)) (pss_one (ps_ret pe_bl)) pss_nil)
      (pss_one (ps_augS (pe_fld (pv 1) rfl) (pv 2) get_list (pv 4) ip_add set_list))) (pss_one (ps_if (pt_val (pe_meth (pv 0) T.cC T.m_C_rests (ok_C_rests T) (hr.mono (by decide)) T.b_C_rests .nil pass0 (pa_cons (pv 1) (pa_cons (pv 4) pa_nil)))) (pss_one (ps_ret pe_bl)) pss_nil)))))
      (pss_cons (ps_expr (pe_meth (pv 0) T.cC T.m_C_pass_step (ok_C_pass_step T) (hr.mono (by decide)) T.b_C_pass_step .nil pass0 (pa_cons (pv 1) pa_nil)))
      (pss_one (ps_ret pe_bl))))), ?_⟩
    refine ⟨_, rfl, _, _, _, _, _, rfl, Y.at_ (.co s), T.cC, T.nC_steps, lkC_steps _ _ _, _, rfl, _, _, _, _, _, rfl, Y.at_ (.co s), T.cC, T.nC_place, lkC_place _ _ _, _, _, _, _, rfl, rfl, SqL.of (Y.c.stp s), atI_nat eam, _, _, rfl, SqT.of hp1, rfl, _, _, rfl, _, _, rfl, rfl, ?_⟩
    refine ⟨_, rfl, rfl, _, rfl, ?_⟩
    cases wd with
    | write =>
      have h1 : 1 ≤ n := hp.amts _ (List.mem_of_getElem? hq) rfl
      have e : doStep E.cf.sz E.cf.wy U (E.cf.p s) (S s) (C s) = (true, put E.cf.sz E.cf.wy U (E.cf.p s).rule (S s) n, passStep U (E.cf.p s).steps.length (C s)) := by
        unfold doStep
        rw [hq]
      have hA : Sm (addSt U (S s) n) := by
        refine ⟨addSt_wf (hS s).wf h1, ?_⟩
        have e1 := addSt_ph (x := S s) (T := U) (n := n)
        have e2 : bud (addSt U (S s) n) = ((S s).lg.length : Int) + ph (addSt U (S s) n) := rfl
        have e3 : bud (S s) = ((S s).lg.length : Int) + ph (S s) := rfl
        have e4 : stw ((Wd.write, n) : Wd × Int) = 4 * n := rfl
        omega
      rw [e] at k
      refine iteT ⟨_, rfl, _, _, _, rfl, Y.at_ .flow, rfl, _, rfl, _, rfl, E, H0, g, U, S, C, s, n, rfl, Y, hz, h1, hS, hA, fun g2 H2 Y2 => ?_⟩
      refine ⟨_, rfl, _, _, _, rfl, Y2.at_ (.co s), rfl, _, rfl, E, H0, g2, U, _, C, s, rfl, Y2, fun H3 Y3 => ?_⟩
      exact k g2 H3 Y3
    | read =>
      refine iteF ⟨_, rfl, rfl, _, rfl, iteT ?_⟩
      refine ⟨_, rfl, _, _, _, rfl, Y.at_ .flow, rfl, _, rfl, E, H0, g, U, S, C, s, rfl, Y, _, rfl, _, _, rfl, rfl, _, rfl, ite2 (fun h0 => ?_) (fun h0 => ?_)⟩
      · have h0 : (S s).come - (S s).taken < n := of_decide_eq_true h0
        have e : doStep E.cf.sz E.cf.wy U (E.cf.p s) (S s) (C s) = (false, S s, C s) := by
          unfold doStep
          rw [hq]
          simp only
          rw [if_pos h0]
        rw [e] at k
        exact k g H ((Y.cast (up_id S s).symm).castC (up_id C s).symm)
      · have h0 : ¬ (S s).come - (S s).taken < n := of_decide_eq_false (by simpa using h0)
        have e : doStep E.cf.sz E.cf.wy U (E.cf.p s) (S s) (C s) = (true, { S s with taken := (S s).taken + n }, passStep U (E.cf.p s).steps.length (C s)) := by
          unfold doStep
          rw [hq]
          simp only
          rw [if_neg h0]
        rw [e] at k
        refine ⟨_, rfl, _, _, _, _, _, rfl, Y.at_ .flow, T.cF, T.nF_taken, lkF_taken _ _ _, _, rfl, _, _, _, _, rfl, rfl, SqL.of (Y.at_ .taken), sdI_0 s, at_l2 _ s, _, rfl, _, _, rfl, rfl, _, _, _, _, rfl, rfl, Y.at_ .taken, ix_l2 _ s, ?_⟩
        have Y2 := Y.sTaken s ((S s).taken + n)
        refine ⟨_, rfl, _, _, _, rfl, Y2.at_ (.co s), rfl, _, rfl, E, H0, g, U, _, C, s, rfl, Y2, fun H3 Y3 => ?_⟩
        exact k g H3 Y3
    | pause =>
      refine iteF ⟨_, rfl, rfl, _, rfl, iteF ?_⟩
      refine ⟨_, rfl, _, _, _, rfl, Y.at_ (.co s), rfl, _, rfl, _, rfl, E, H0, g, U, S, C, s, n, rfl, Y, fun H2 => ⟨fun h0 Y2 => ⟨_, rfl, iteT ?_⟩, fun h0 Y2 => ⟨_, rfl, iteF ?_⟩⟩⟩
      · have e : doStep E.cf.sz E.cf.wy U (E.cf.p s) (S s) (C s) = (false, S s, { C s with until_ := some (restU U n (C s)) }) := by
          unfold doStep
          rw [hq]
          simp only
          rw [if_pos (show U < (C s).until_.getD (U + n) from h0)]
          rfl
        rw [e] at k
        exact k g H2 (Y2.cast (up_id S s).symm)
      · have e : doStep E.cf.sz E.cf.wy U (E.cf.p s) (S s) (C s) = (true, S s, passStep U (E.cf.p s).steps.length { C s with until_ := none }) := by
          unfold doStep
          rw [hq]
          simp only
          rw [if_neg (show ¬ U < (C s).until_.getD (U + n) from h0)]
        rw [e] at k
        refine ⟨_, rfl, _, _, _, rfl, Y2.at_ (.co s), rfl, _, rfl, E, H0, g, U, _, _, s, rfl, Y2, fun H3 Y3 => ?_⟩
        rw [up_same, up_up] at Y3
        exact k g H3 (Y3.cast (up_id S s).symm)
def WRun (E : En A) (H0 : Hp) (T : Int) (S : S2) (C : C2) (s : Bool) (m : Nat) (σ : L2.St) (H' : Hp) : Prop :=
  ∃ (g' : Gh) (x : Sd) (c : Co), σ = [some (.ref (E.f (.co s))), some (.ref (E.f .flow)), some (.int (sdI s))] ∧ Sys E H0 g' H' T (up S s x) (up C s c) ∧ Gn (E.cf.p s) (S s) (C s) x c ∧ (E.cf.p s).steps.length - c.place ≤ m ∧
    goOn E.cf.sz E.cf.wy T (E.cf.p s) m (x, c) = goAll E.cf.sz E.cf.wy T (E.cf.p s) (S s, C s)
def sp_C_go_on (A : Ads) : Sp := fun vs H Q _ => ∃ (E : En A) (H0 : Hp) (g : Gh) (T : Int) (S : S2) (C : C2) (s : Bool), vs = [.ref (E.f (.co s)), .ref (E.f .flow), .int (sdI s)] ∧ Sys E H0 g H T S C ∧ 1 ≤ E.cf.sz ∧ POk (E.cf.p s) ∧
  Ci (E.cf.p s) (C s) ∧ (∀ b, Sm (S b)) ∧ bud (S s) + remw (E.cf.p s) (C s) ≤ 400000 ∧
  ∀ g' H', Sys E H0 g' H' T (up S s (goAll E.cf.sz E.cf.wy T (E.cf.p s) (S s, C s)).1) (up C s (goAll E.cf.sz E.cf.wy T (E.cf.p s) (S s, C s)).2) → Q .non H'
theorem ok_C_go_on (T : Txt K mg A) : FnOk P w K mg base CX0 6 A.f_C_go_on A.d_C_go_on ps_C_go_on (sp_C_go_on A) := by
  refine T.C_go_on.ok sc_C_go_on (fun vs H Q E h => ?_) (fun cdv AR outer sh H vs Q EX hr h => ?_)
  · obtain ⟨E, H0, g, U, S, C, s, rfl, _⟩ := h
    rfl
  · obtain ⟨E, H0, g, U, S, C, s, rfl, Y, hz, hp, hc, hS, hb, k⟩ := h
    refine ⟨_, (pss_one (ps_while PassesOwn.never (PW.pt (pw_and (pt_cmpR op_isN (pe_fld (pv 0) rfl) pe_non (nomark _)) (pw_and1 (pt_val (pe_meth (pv 0) T.cC T.m_C_do_step (ok_C_do_step T) (hr.mono (by decide)) T.b_C_do_step .nil pass0 (pa_cons (pv 1) (pa_cons (pv 2) pa_nil))))))) (pss_one ps_pass))), ?_⟩
    refine ⟨WRun E H0 U S C s, ⟨(E.cf.p s).steps.length - (C s).place, g, S s, C s, rfl, (Y.cast (up_id S s).symm).castC (up_id C s).symm, .refl (hS s).wf hc, Nat.le_refl _, rfl⟩, ?_⟩
    rintro m σ H1 ⟨g1, x, c, rfl, Y1, gn, hm, hx⟩
    refine ⟨_, rfl, _, _, _, _, _, rfl, Y1.at_ (.co s), T.cC, T.nC_ended, lkC_ended _ _ _, rfl, _, rfl, ?_⟩
    rw [up_same]
    show if decide (oI c.ended = V.non) = true then _ else _
    have hrem := remw_pos (c := c) hp
    have hgb := gn.bud
    have hx1 : Sm x := ⟨gn.wf, by omega⟩
    cases he : c.ended with
    | none =>
      have hpl := gn.ci.go he
      refine iteT ⟨_, rfl, _, _, _, rfl, Y1.at_ (.co s), rfl, _, rfl, _, rfl, E, H0, g1, U, _, _, s, rfl, Y1, hz, hp, by rw [up_same]; exact hpl, Sm.up hS hx1, by rw [up_same, up_same]; omega, fun g2 H2 Y2 => ?_⟩
      rw [up_same, up_same, up_up, up_up] at Y2
      rw [up_same, up_same]
      cases m with
      | zero => omega
      | succ j =>
        have gs := doStep_gn (wy := E.cf.wy) (T := U) hz hp gn.wf gn.ci he
        unfold goOn at hx
        simp only at hx
        rw [if_pos he] at hx
        refine ⟨_, rfl, ?_⟩
        cases hd : (doStep E.cf.sz E.cf.wy U (E.cf.p s) x c).1 with
        | true =>
          rw [if_pos hd] at hx
          refine iteT ⟨fun σ' H' => ∃ m', m' < j + 1 ∧ WRun E H0 U S C s m' σ' H', fun _ _ h => h, ?_⟩
          refine ⟨j, Nat.lt_succ_self j, g2, _, _, rfl, Y2, gn.trans gs, ?_, hx⟩
          have : (doStep E.cf.sz E.cf.wy U (E.cf.p s) x c).2.2.place = c.place + 1 := doStep_place hd
          omega
        | false =>
          rw [if_neg (by rw [hd]; exact Bool.false_ne_true)] at hx
          refine iteF (k g2 H2 ?_)
          rw [← hx]
          exact Y2
    | some u =>
      refine iteF (iteF (k g1 H1 ?_))
      have e : goOn E.cf.sz E.cf.wy U (E.cf.p s) m (x, c) = (x, c) := by
        cases m with
        | zero => rfl
        | succ j =>
          unfold goOn
          simp only
          rw [if_neg (by rw [he]; simp)]
      rw [← hx, e]
      exact Y1
end
end K10

namespace K10
open PySem L2
def two (f : Bool → List Int) (i : Nat) : List Int := if i = 0 then [] else if i = 1 then f false else f false ++ f true
theorem two_up (f : Bool → List Int) (s : Bool) : two f (sdN s + 1) = two f (sdN s) ++ f s := by cases s <;> rfl
theorem two_len {f : Bool → List Int} (h : ∀ b, (f b).length ≤ 1) (i : Nat) : (two f i).length ≤ 2 := by
  have h0 := h false
  have h1 := h true
  unfold two
  split
  · exact Nat.zero_le _
  · split
    · omega
    · rw [List.length_append]; omega
theorem opt_len (o : Option Int) : o.toList.length ≤ 1 := by
  cases o with
  | none => exact Nat.zero_le _
  | some _ => exact Nat.le_refl _
theorem proj_mem (x : Int) : ∀ fp : List Pc, x ∈ fp.map (·.1) ↔ x ∈ (proj false fp).map (·.1) ∨ x ∈ (proj true fp).map (·.1)
  | [] => by simp [proj]
  | (t, s, n, a) :: r => by
    have ih := proj_mem x r
    have e : ∀ b, proj b ((t, s, n, a) :: r) = proj b [(t, s, n, a)] ++ proj b r := fun b => proj_append b [_] r
    rw [e, e, proj_one, proj_one]
    rw [List.map_cons, List.mem_cons, ih]
    cases s
    · show x = t ∨ _ ↔ x ∈ List.map (fun p : Int × Int × Int => p.1) ([(t, n, a)] ++ proj false r) ∨ x ∈ List.map (fun p : Int × Int × Int => p.1) ([] ++ proj true r)
      rw [List.nil_append, List.map_append, List.mem_append]
      simp only [List.map_cons, List.map_nil, List.mem_singleton]
      exact ⟨fun h => h.elim (fun h => .inl (.inl h)) fun h => h.elim (fun h => .inl (.inr h)) .inr, fun h => h.elim (fun h => h.elim .inl fun h => .inr (.inl h)) fun h => .inr (.inr h)⟩
    · show x = t ∨ _ ↔ x ∈ List.map (fun p : Int × Int × Int => p.1) ([] ++ proj false r) ∨ x ∈ List.map (fun p : Int × Int × Int => p.1) ([(t, n, a)] ++ proj true r)
      rw [List.nil_append, List.map_append, List.mem_append]
      simp only [List.map_cons, List.map_nil, List.mem_singleton]
      exact ⟨fun h => h.elim (fun h => .inr (.inl h)) fun h => h.elim .inl fun h => .inr (.inr h), fun h => h.elim (fun h => .inr (.inl h)) fun h => h.elim .inl fun h => .inr (.inr h)⟩
theorem mnL_cat (u l : List Int) : mnL (u ++ (mnL l).toList) = mnL (u ++ l) := by
  cases q : mnL l with
  | none =>
    rw [mnL_none.mp q]
    rfl
  | some r =>
    obtain ⟨h1, h2⟩ := mnL_mem q
    show mnL (u ++ [r]) = _
    cases q2 : mnL (u ++ [r]) with
    | none =>
      have := mnL_none.mp q2
      simp at this
    | some m =>
      obtain ⟨h3, h4⟩ := mnL_mem q2
      refine (mnL_of ?_ fun y hy => ?_).symm
      · rcases List.mem_append.mp h3 with h | h
        · exact List.mem_append_left _ h
        · rw [List.mem_singleton.mp h]
          exact List.mem_append_right _ h1
      · rcases List.mem_append.mp hy with h | h
        · exact h4 y (List.mem_append_left _ h)
        · exact Int.le_trans (h4 r (List.mem_append_right _ (List.mem_singleton.mpr rfl))) (h2 y h)
def fsl (f : Cf) (S : S2) (b : Bool) : List Int := ((S b).first.map fun v => v + (f.p b).delay).toList
def evF (f : Cf) (S : S2) (b : Bool) : List Int := (S b).fl.map (·.1) ++ fsl f S b
def nxt (f : Cf) (S : S2) : Option Int := mnL (evF f S false ++ evF f S true)
def unt (C : C2) (b : Bool) : List Int := (C b).until_.toList
theorem ev_eq (f : Cf) (S : S2) (C : C2) : mnL (two (unt C) 2 ++ (nxt f S).toList) = ev f S C := by
  unfold nxt
  rw [mnL_cat]
  refine mnL_congr fun x => ?_
  show x ∈ (unt C false ++ unt C true) ++ (evF f S false ++ evF f S true) ↔ x ∈ (unt C false ++ evF f S false) ++ (unt C true ++ evF f S true)
  simp only [List.mem_append]
  constructor
  · rintro ((h | h) | (h | h))
    · exact .inl (.inl h)
    · exact .inr (.inl h)
    · exact .inl (.inr h)
    · exact .inr (.inr h)
  · rintro ((h | h) | (h | h))
    · exact .inl (.inl h)
    · exact .inr (.inl h)
    · exact .inl (.inr h)
    · exact .inr (.inr h)
section
variable {P : Program} {w : World} {K : PySem.W.Frag} {mg : Str → Option Value} {base : Heap} {A : Ads}
def sp_F_next_tick (A : Ads) : Sp := fun vs H Q _ => ∃ (E : En A) (H0 : Hp) (g : Gh) (T : Int) (S : S2) (C : C2), vs = [.ref (E.f .flow)] ∧ Sys E H0 g H T S C ∧ (∀ b, Sm (S b)) ∧ ∀ H', Same H H' → Q (oI (nxt E.cf S)) H'
theorem ok_F_next_tick (T : Txt K mg A) : FnOk P w K mg base CX0 1 A.f_F_next_tick A.d_F_next_tick ps_F_next_tick (sp_F_next_tick A) := by
  refine T.F_next_tick.ok sc_F_next_tick (fun vs H Q E h => ?_) (fun cdv AR outer sh H vs Q EX hr h => ?_)
  · obtain ⟨E, H0, g, U, S, C, rfl, _⟩ := h
    rfl
  · obtain ⟨E, H0, g, U, S, C, rfl, Y, hS, k⟩ := h
    have hfl : g.fp.length ≤ 800000 := by
      have e := Y.tfl.length
      rw [List.length_map] at e
      have h0 := (hS false).fl
      have h1 := (hS true).fl
      rw [← e, Y.flLen]
      omega
    refine ⟨_, (pss_cons (ps_setLc (i := 1) (own := [("piece", 3)]) (g := (gName 3))  rfl sc_F_next_tick.nd rfl rfl (sw_true rfl rfl rfl (by decide +kernel)) (pi_list (pe_fld (pv 0) rfl)) (blkOk_by (N := ["self", "ticks", "side", "piece"]) (sc := defScope s_F_next_tick) (by decide +kernel)) (fun _ _ _ _ _ => (pg_name (i := 3) sc_F_next_tick.nd rfl (Or.inl rfl))) (fun _ _ _ _ _ => pts_nil) (fun _ _ _ _ _ => (pe_ix (ix_tupK K rfl) (pv 3) pe_int (fun _ _ => rfl))))
      (pss_cons (ps_for PassesOwn.never rfl (pi_tup (pe_tup (pa_cons pe_int (pa_cons pe_int pa_nil)))) (pg_name (i := 2) sc_F_next_tick.nd rfl (Or.inl rfl)) (pss_one (ps_if (pt_cmpR op_notN (pe_ix ix_list (pe_fld (pv 0) rfl) (pv 2) (fun _ _ => rfl)) pe_non (nomark _)) (pss_one (ps_expr (pe_bm PySem.F.plainAttrs_list PySem.F.slot_list_append PySem.F.type_list_append mt_append (pv 1) (pa_cons (pe_op op_add (pe_ix ix_list (pe_fld (pv 0) rfl) (pv 2) (fun _ _ => rfl)) (pe_fld (pe_ix ix_tup (pe_fld (pv 0) rfl) (pv 2) (fun _ _ => rfl)) rfl)) pa_nil)))) pss_nil)))
      (pss_one (ps_ret (pe_ifExp (pt_cmpR op_gt (pe_callB call_len_seq (by rfl) T.n_len (by decide +kernel) (pa_cons (pv 1) pa_nil)) pe_int (nomark _)) (pe_callB (cr_min rfl) (by rfl) T.n_min (by decide +kernel) (pa_cons (pv 1) pa_nil)) pe_non))))), ?_⟩
    refine ⟨_, rfl, _, _, _, _, _, rfl, Y.at_ .flow, T.cF, T.nF_flight, lkF_flight _ _ _, _, rfl, ⟨_, SqL.of Y.fl⟩, fun D nD => ?_⟩
    refine lc_list (K := K) (a := g.fa) (xs := g.fl.map .ref) (fun i H' => Same H H' ∧ H' D = some (.lst (((g.fp.take i).map (·.1)).map V.int))) ⟨same_upd nD, upd_same⟩ (fun i H' _ h => h.1.seq (SqL.of Y.fl)) ?_ ?_
    · rintro i x H' hi ⟨hs, hD⟩
      rw [List.getElem?_map] at hi
      cases ea : g.fl[i]? with
      | none => rw [ea] at hi; cases hi
      | some a =>
        rw [ea] at hi
        cases hi
        obtain ⟨q, hq, hp⟩ := Paired.get Y.tfl ea
        rw [List.getElem?_map] at hq
        cases ep : g.fp[i]? with
        | none => rw [ep] at hq; cases hq
        | some p =>
          rw [ep] at hq
          cases hq
          have hi' := (List.getElem?_eq_some_iff.mp ep).1
          refine ⟨rfl, _, rfl, _, _, _, _, rfl, rfl, SqT.of (hs _ _ hp), rfl, _, hD, ?_, fun b o e => (upd_ne (ne_of_none e nD)).trans (hs _ _ e), ?_⟩
          · rw [List.length_map, List.length_map, List.length_take]
            exact Nat.lt_of_le_of_lt (show _ ≤ 800000 by omega) (by decide)
          · rw [upd_same, List.take_add_one, ep, List.map_append, List.map_append]
            rfl
    rintro HB ⟨hsB, hDB⟩
    rw [List.take_of_length_le (by rw [List.length_map, Y.tfl.length, List.length_map]; exact Nat.le_refl _)] at hDB
    refine ⟨by show 2 ≤ sizeLine; decide, fun t nt => ?_⟩
    have nDt : D ≠ t := ne_of_none hDB nt
    have ntH : H t = none := hsB.free nt
    refine ⟨_, rfl, ⟨_, SqT.of upd_same⟩, for_tup (K := K) (a := t) (xs := [.int 0, .int 1]) (fun i σ H' => ∃ v : Option V, σ = [some (.ref (E.f .flow)), some (.ref D), v, none] ∧ Same H H' ∧ H' t = some (.tup [.int 0, .int 1]) ∧ H' D = some (.lst ((g.fp.map (·.1) ++ two (fsl E.cf S) i).map V.int)))
      ⟨none, rfl, hsB.trans (same_upd nt), upd_same, by rw [upd_ne nDt, hDB]; unfold two; rw [if_pos rfl, List.append_nil]⟩ (fun i σ H' _ ⟨v, _, _, h, _⟩ => SqT.of h) ?_ ?_⟩
    · rintro i x σ H' hi ⟨v, rfl, hs, ht, hD⟩
      obtain ⟨s, rfl, rfl⟩ := l2_item (f := fun s => .int (sdI s)) hi
      have Y' := Y.ext hs
      refine ⟨_, rfl, _, _, _, _, _, rfl, Y'.at_ .flow, T.cF, T.nF_first, lkF_first _ _ _, _, rfl, _, _, _, _, rfl, rfl, SqL.of (Y'.at_ .first), at_l2 _ s, rfl, _, rfl, ?_⟩
      rw [two_up, ← List.append_assoc]
      cases hf : (S s).first with
      | none =>
        have e : fsl E.cf S s = [] := by unfold fsl; rw [hf]; rfl
        rw [e, List.append_nil]
        exact iteF ⟨_, rfl, hs, ht, hD⟩
      | some u =>
        have e : fsl E.cf S s = [u + (E.cf.p s).delay] := by unfold fsl; rw [hf]; rfl
        rw [e]
        refine iteT ⟨_, rfl, .inl ⟨rfl, _, SqL.of hD⟩, _, rfl, _, _, _, _, _, rfl, Y'.at_ .flow, T.cF, T.nF_first, lkF_first _ _ _, _, rfl, _, _, _, _, rfl, rfl, SqL.of (Y'.at_ .first), at_l2 _ s, _, rfl, _, _, _, _, _, rfl, Y'.at_ .flow, T.cF, T.nF_settings, lkF_settings _ _ _, _, rfl, _, _, _, _, rfl, rfl, SqT.of Y'.c.stg, at_l2 _ s, _, _, _, _, _, rfl, Y'.c.nr s, T.cS, T.nS_delay, lkS_delay _ _, _, _, (by rw [hf]; rfl), rfl, _, _, _, rfl, rfl, hD, ?_, _, rfl, fun b o e => (upd_ne (ne_of_none e nD)).trans (hs _ _ e), by rw [upd_ne nDt.symm]; exact ht, ?_⟩
        · have := two_len (f := fsl E.cf S) (fun b => opt_len _) (sdN s)
          rw [List.length_map, List.length_append, List.length_map]
          exact Nat.lt_of_le_of_lt (show _ ≤ 800002 by omega) (by decide)
        · rw [upd_same, List.map_append (l₂ := [_])]
          rfl
    · rintro σ H' ⟨v, rfl, hs, ht, hD⟩
      replace hD : H' D = some (.lst ((g.fp.map (fun p : Pc => p.1) ++ two (fsl E.cf S) 2).map V.int)) := hD
      have ex : ∀ x, x ∈ g.fp.map (·.1) ++ two (fsl E.cf S) 2 ↔ x ∈ evF E.cf S false ++ evF E.cf S true := fun x => by
        show x ∈ g.fp.map (·.1) ++ (fsl E.cf S false ++ fsl E.cf S true) ↔ x ∈ ((S false).fl.map (·.1) ++ fsl E.cf S false) ++ ((S true).fl.map (·.1) ++ fsl E.cf S true)
        simp only [List.mem_append]
        rw [proj_mem, Y.pfl, Y.pfl]
        constructor
        · rintro ((h | h) | (h | h))
          · exact .inl (.inl h)
          · exact .inr (.inl h)
          · exact .inl (.inr h)
          · exact .inr (.inr h)
        · rintro ((h | h) | (h | h))
          · exact .inl (.inl h)
          · exact .inr (.inl h)
          · exact .inl (.inr h)
          · exact .inr (.inr h)
      have en : nxt E.cf S = mnL (g.fp.map (·.1) ++ two (fsl E.cf S) 2) := (mnL_congr ex).symm
      refine ⟨_, rfl, _, _, rfl, .inl (SqL.of hD), _, _, rfl, rfl, _, rfl, ite2 (fun h0 => ?_) (fun h0 => ?_)⟩
      · have h0 := of_decide_eq_true h0
        rw [List.length_map] at h0
        refine ⟨_, rfl, _, _, rfl, SqL.of hD, by exact_mod_cast h0, fun m hm hle => ?_⟩
        have := k H' hs
        rw [en, mnL_of hm hle] at this
        exact this
      · have h0 : ¬ (0 : Int) < ((g.fp.map (·.1) ++ two (fsl E.cf S) 2).length : Nat) := by
          intro q
          refine h0 (decide_eq_true ?_)
          rw [List.length_map]
          exact q
        have e0 : g.fp.map (·.1) ++ two (fsl E.cf S) 2 = [] := List.length_eq_zero_iff.mp (by omega)
        have := k H' hs
        rw [en, e0] at this
        exact this
end
end K10

namespace K10
open PySem L2
section
variable {P : Program} {w : World} {K : PySem.W.Frag} {mg : Str → Option Value} {base : Heap} {A : Ads}
def sp_events (A : Ads) : Sp := fun vs H Q _ => ∃ (E : En A) (H0 : Hp) (g : Gh) (T : Int) (S : S2) (C : C2) (ct : Addr), vs = [.ref (E.f .flow), .ref ct] ∧ Sys E H0 g H T S C ∧ H ct = some (.tup (l2 fun b => .ref (E.f (.co b)))) ∧ (∀ b, Sm (S b)) ∧ ∀ H', Same H H' → Q (oI (ev E.cf S C)) H'
theorem ok_events (T : Txt K mg A) : FnOk P w K mg base CX0 2 A.f_events A.d_events ps_events (sp_events A) := by
  refine T.events.ok sc_events (fun vs H Q E h => ?_) (fun cdv AR outer sh H vs Q EX hr h => ?_)
  · obtain ⟨E, H0, g, U, S, C, ct, rfl, _⟩ := h
    rfl
  · obtain ⟨E, H0, g, U, S, C, ct, rfl, Y, hct, hS, k⟩ := h
    refine ⟨_, (pss_cons (ps_setLc (i := 2) (own := [("course", 4)]) (g := (gName 4))  rfl sc_events.nd rfl rfl (sw_true rfl rfl rfl (by decide +kernel)) (pi_tup (pv 1)) (blkOk_by (N := ["flow", "courses", "ticks", "after", "course"]) (sc := defScope s_events) (by decide +kernel)) (fun _ _ _ _ _ => (pg_name (i := 4) sc_events.nd rfl (Or.inl rfl))) (fun _ _ _ _ _ => (pts_one (pt_cmpR op_notN (pe_fldK K rfl (pv 4) rfl) pe_non (nomark _)))) (fun _ _ _ _ _ => (pe_fldK K rfl (pv 4) rfl)))
      (pss_cons (ps_set (i := 3) sc_events.nd rfl (Or.inl rfl) (pe_meth0 (pv 0) T.cF T.m_F_next_tick (ok_F_next_tick T) (hr.mono (by decide)) T.b_F_next_tick .nil pass0))
      (pss_cons (ps_if (pt_cmpR op_notN (pv 3) pe_non (nomark _)) (pss_one (ps_expr (pe_bm PySem.F.plainAttrs_list PySem.F.slot_list_append PySem.F.type_list_append mt_append (pv 2) (pa_cons (pv 3) pa_nil)))) pss_nil)
      (pss_one (ps_ret (pe_ifExp (pt_cmpR op_gt (pe_callB call_len_seq (by rfl) T.n_len (by decide +kernel) (pa_cons (pv 2) pa_nil)) pe_int (nomark _)) (pe_callB (cr_min rfl) (by rfl) T.n_min (by decide +kernel) (pa_cons (pv 2) pa_nil)) pe_non)))))), ?_⟩
    refine ⟨_, rfl, _, rfl, ⟨_, SqT.of hct⟩, fun D nD => ?_⟩
    refine lc_tup (K := K) (a := ct) (xs := l2 fun b => .ref (E.f (.co b))) (fun i H' => Same H H' ∧ H' D = some (.lst ((two (unt C) i).map V.int))) ⟨same_upd nD, upd_same⟩ (fun i H' _ h => SqT.of (h.1 _ _ hct)) ?_ ?_
    · rintro i x H' hi ⟨hs, hD⟩
      obtain ⟨s, rfl, rfl⟩ := l2_item (f := fun b => .ref (E.f (.co b))) hi
      have Y' := Y.ext hs
      refine ⟨rfl, _, rfl, _, _, _, _, _, rfl, Y'.at_ (.co s), T.cC, T.nC_until, lkC_until _ _ _, rfl, _, rfl, ?_⟩
      rw [two_up]
      cases hu : (C s).until_ with
      | none =>
        have e : unt C s = [] := by unfold unt; rw [hu]; rfl
        rw [e, List.append_nil]
        exact iteF ⟨hs, hD⟩
      | some u =>
        have e : unt C s = [u] := by unfold unt; rw [hu]; rfl
        rw [e]
        refine iteT ⟨_, rfl, _, _, _, _, _, rfl, Y'.at_ (.co s), T.cC, T.nC_until, lkC_until _ _ _, _, hD, ?_, fun b o e => (upd_ne (ne_of_none e nD)).trans (hs _ _ e), ?_⟩
        · have := two_len (f := unt C) (fun b => opt_len _) (sdN s)
          rw [List.length_map]
          exact Nat.lt_of_le_of_lt this (by decide)
        · rw [upd_same, List.map_append, hu]
          rfl
    · rintro HB ⟨hsB, hDB⟩
      have YB := Y.ext hsB
      refine ⟨_, rfl, _, _, _, rfl, YB.at_ .flow, rfl, E, H0, g, U, S, C, rfl, YB, hS, fun HC hsC => ?_⟩
      have hDC := hsC _ _ hDB
      have hs2 : Same H HC := hsB.trans hsC
      have hl := two_len (f := unt C) (fun b => opt_len _) 2
      have fin : ∀ H' : Hp, Same H H' → H' D = some (.lst ((two (unt C) 2 ++ (nxt E.cf S).toList).map V.int)) →
          tRet (tIf (tTest (tOp (rI0 fun i j => V.bl (decide (j < i))) (tCB (fun xs H Q => ∃ p ys, xs = [V.ref p] ∧ (SqL K H p ys ∨ SqT K H p ys) ∧ Q (V.int ys.length) H) (tCons (tVar 2) tNil)) (tC (V.int 0)))) (tCB (rMin K) (tCons (tVar 2) tNil)) (tC V.non))
            { nx := fun x H' => Q V.non H', rt := Q } [some (.ref (E.f .flow)), some (.ref ct), some (.ref D), some (oI (nxt E.cf S)), none] H' := fun H' (hs : Same H H') hD => by
        have kk := k H' hs
        rw [← ev_eq] at kk
        refine ⟨_, rfl, _, _, rfl, .inl (SqL.of hD), _, _, rfl, rfl, _, rfl, ite2 (fun h0 => ?_) (fun h0 => ?_)⟩
        · have h0 := of_decide_eq_true h0
          rw [List.length_map] at h0
          refine ⟨_, rfl, _, _, rfl, SqL.of hD, by exact_mod_cast h0, fun m hm hle => ?_⟩
          rw [mnL_of hm hle] at kk
          exact kk
        · have h0 : ¬ (0 : Int) < ((two (unt C) 2 ++ (nxt E.cf S).toList).length : Nat) := by
            intro q
            refine h0 (decide_eq_true ?_)
            rw [List.length_map]
            exact q
          have e0 : two (unt C) 2 ++ (nxt E.cf S).toList = [] := List.length_eq_zero_iff.mp (by omega)
          rw [e0] at kk
          exact kk
      refine ⟨_, rfl, rfl, _, rfl, ?_⟩
      cases hx : nxt E.cf S with
      | none =>
        rw [hx] at fin
        refine iteF (fin HC hs2 ?_)
        rw [hDC]
        show _ = some (HO.lst ((two (unt C) 2 ++ []).map V.int))
        rw [List.append_nil]
        rfl
      | some r =>
        rw [hx] at fin
        refine iteT ⟨_, rfl, .inl ⟨rfl, _, SqL.of hDC⟩, _, rfl, _, _, _, rfl, rfl, hDC, ?_, ?_⟩
        · rw [List.length_map]
          exact Nat.lt_of_le_of_lt hl (by decide)
        · refine fin _ (fun b o e => (upd_ne (ne_of_none e nD)).trans (hs2 _ _ e)) ?_
          rw [upd_same, List.map_append]
          rfl
/-- what is asked ahead of a tick -/
structure Rdy (E : En A) (S : S2) (C : C2) : Prop where
  f : FOk E.cf
  z : Zok E.cf S C
  b : totB E.cf S C ≤ 400000
theorem Rdy.side {E : En A} {S : S2} {C : C2} (r : Rdy E S C) (s : Bool) : bud (S s) + remw (E.cf.p s) (C s) ≤ 400000 := by
  have a := r.b
  have b0 := (r.z.wf false).sizes
  have b1 := (r.z.wf true).sizes
  have c0 := remw_pos (c := C false) (r.f.p false)
  have c1 := remw_pos (c := C true) (r.f.p true)
  unfold totB at a
  cases s <;> omega
theorem Rdy.sm {E : En A} {S : S2} {C : C2} (r : Rdy E S C) (s : Bool) : Sm (S s) := by
  have a := r.side s
  have c := remw_pos (c := C s) (r.f.p s)
  exact ⟨r.z.wf s, by omega⟩
theorem Rdy.land {E : En A} {S : S2} {C : C2} (r : Rdy E S C) (T : Int) (s : Bool) : bud (landAll E.cf.sz T S s) + remw (E.cf.p s) (C s) ≤ 400000 := by
  have l := land_ok (sz := E.cf.sz) (T := T) r.z.wf
  have a := land_bud (T := T) r.f r.z
  have b0 := (l.wf false).sizes
  have b1 := (l.wf true).sizes
  have c0 := remw_pos (c := C false) (r.f.p false)
  have c1 := remw_pos (c := C true) (r.f.p true)
  have t := r.b
  unfold totB at t
  cases s <;> omega
theorem Rdy.begin {E : En A} {S : S2} {C : C2} (r : Rdy E S C) (T : Int) (s : Bool) : bud (begin_ E.cf T S s) + remw (E.cf.p s) (C s) ≤ 400000 := by
  have a := r.land T s
  have b := (begin_dn (T := T) r.f r.z s).bud
  omega
theorem Rdy.tick {E : En A} {S : S2} {C : C2} (r : Rdy E S C) (T : Int) : Rdy E (tickS E.cf T S C) (tickC E.cf T S C) :=
  ⟨r.f, tick_ok r.f r.z, Int.le_trans (tick_bud r.f r.z) r.b⟩
def goS (f : Cf) (T : Int) (C : C2) : Bool → Sd → Sd := fun b x => (goAll f.sz f.wy T (f.p b) (x, C b)).1
def goC (f : Cf) (T : Int) (S : S2) : Bool → Co → Co := fun b c => (goAll f.sz f.wy T (f.p b) (S b, c)).2
def sp_do_tick (A : Ads) : Sp := fun vs H Q _ => ∃ (E : En A) (H0 : Hp) (g : Gh) (U T : Int) (S : S2) (C : C2) (ct : Addr), vs = [.ref (E.f .flow), .ref ct, .int T] ∧ Sys E H0 g H U S C ∧ H0 ct = some (.tup (l2 fun b => .ref (E.f (.co b)))) ∧ Rdy E S C ∧
  ∀ g' H', Sys E H0 g' H' T (tickS E.cf T S C) (tickC E.cf T S C) → Q .non H'
theorem ok_do_tick (T : Txt K mg A) : FnOk P w K mg base CX0 7 A.f_do_tick A.d_do_tick ps_do_tick (sp_do_tick A) := by
  refine T.do_tick.ok sc_do_tick (fun vs H Q E h => ?_) (fun cdv AR outer sh H vs Q EX hr h => ?_)
  · obtain ⟨E, H0, g, U0, U, S, C, ct, rfl, _⟩ := h
    rfl
  · obtain ⟨E, H0, g, U0, U, S, C, ct, rfl, Y, hct, r, k⟩ := h
    have hz := r.f.sz
    refine ⟨_, (pss_cons (ps_expr (pe_meth (pv 0) T.cF T.m_F_begin (ok_F_begin T) (hr.mono (by decide)) T.b_F_begin .nil pass0 (pa_cons (pv 2) pa_nil)))
      (pss_cons (ps_for PassesOwn.never rfl (pi_tup (pe_tup (pa_cons pe_int (pa_cons pe_int pa_nil)))) (pg_name (i := 3) sc_do_tick.nd rfl (Or.inl rfl)) (pss_one (ps_expr (pe_meth (pe_ix ix_tup (pv 1) (pv 3) (fun _ _ => rfl)) T.cC T.m_C_go_on (ok_C_go_on T) (hr.mono (by decide)) T.b_C_go_on .nil pass0 (pa_cons (pv 0) (pa_cons (pv 3) pa_nil))))))
      (pss_one (ps_expr (pe_meth0 (pv 0) T.cF T.m_F_leave (ok_F_leave T) (hr.mono (by decide)) T.b_F_leave .nil pass0))))), ?_⟩
    refine ⟨_, rfl, _, _, _, rfl, Y.at_ .flow, rfl, _, rfl, E, H0, g, U0, U, S, C, rfl, Y, hz, r.sm, fun s => ⟨(land_ok r.z.wf).wf s, by have := r.land U s; have := remw_pos (c := C s) (r.f.p s); omega⟩, fun g1 H1 Y1 => ?_⟩
    refine ⟨by show 2 ≤ sizeLine; decide, fun t nt => ?_⟩
    obtain ⟨H2, Y2, k2, t2⟩ := Y1.keep (o := .tup [.int 0, .int 1]) nt
    have hct2 := k2 _ _ hct
    have wb : ∀ b, Sm (begin_ E.cf U S b) := fun b => ⟨(begin_dn r.f r.z b).wf, by have := r.begin U b; have := remw_pos (c := C b) (r.f.p b); omega⟩
    have wg : ∀ b, Sm (goS E.cf U C b (begin_ E.cf U S b)) := fun b => by
      have a := goAll_gn (wy := E.cf.wy) (T := U) hz (r.f.p b) (wb b).wf (r.z.ci b)
      refine ⟨a.wf, ?_⟩
      have h1 := a.bud
      have h2 := r.begin U b
      have h3 := remw_pos (c := (goAll E.cf.sz E.cf.wy U (E.cf.p b) (begin_ E.cf U S b, C b)).2) (r.f.p b)
      show bud (goAll E.cf.sz E.cf.wy U (E.cf.p b) (begin_ E.cf U S b, C b)).1 ≤ _
      omega
    refine ⟨_, rfl, ⟨_, SqT.of upd_same⟩, for_tup (K := K) (a := t) (xs := [.int 0, .int 1]) (fun i σ H' => ∃ (g' : Gh) (v : Option V), σ = [some (.ref (E.f .flow)), some (.ref ct), some (.int U), v] ∧ Sys E H2 g' H' U (stp (goS E.cf U C) (begin_ E.cf U S) i) (stp (goC E.cf U (begin_ E.cf U S)) C i))
      ⟨g1, none, rfl, (Y2.cast (stp_0 _ _).symm).castC (stp_0 _ _).symm⟩ (fun i σ H' _ ⟨g', v, _, Y'⟩ => SqT.of (Y'.same _ _ t2)) ?_ ?_⟩
    · rintro i x σ H' hi ⟨g', v, rfl, Y'⟩
      obtain ⟨s, rfl, rfl⟩ := l2_item (f := fun s => .int (sdI s)) hi
      have hSb : ∀ b, Sm (stp (goS E.cf U C) (begin_ E.cf U S) (sdN s) b) := fun b => by
        unfold stp
        split
        · exact wg b
        · exact wb b
      refine ⟨_, rfl, _, rfl, _, _, _, _, rfl, rfl, SqT.of (Y'.same _ _ hct2), at_l2 _ s, _, _, _, rfl, Y'.at_ (.co s), rfl, _, rfl, _, rfl, E, H2, g', U, _, _, s, rfl, Y', hz, r.f.p s, by rw [stp_at]; exact r.z.ci s, hSb, by rw [stp_at, stp_at]; exact r.begin U s, fun g3 H3 Y3 => ⟨g3, _, rfl, ?_⟩⟩
      rw [stp_at, stp_at] at Y3
      exact (Y3.cast (stp_up (goS E.cf U C) _ s)).castC (stp_up (goC E.cf U (begin_ E.cf U S)) C s)
    · rintro σ H' ⟨g', v, rfl, Y'⟩
      have Y4 := (Y'.cast (stp_2 _ _)).castC (stp_2 _ _)
      refine ⟨_, rfl, _, _, _, rfl, Y4.at_ .flow, rfl, E, H2, g', U, _, _, rfl, Y4, fun b => (r.f.p b).every, wg, fun g5 H5 Y5 => ?_⟩
      exact k g5 H5 (Y5.weak k2 Y.cst)
end
end K10

namespace K10
open PySem L2
/-! ### steps of a program as they are written -/
inductive Ps where
  | io (rd : Bool) (n : Option Int)
  | pa (a b : Int)
def amV : Option Int → V
  | none => .str "x"
  | some i => .int i
def rdS : Bool → Str
  | false => "write"
  | true => "read"
def psV : Ps → List V
  | .io rd n => [.str (rdS rd), amV n]
  | .pa a b => [.str "pause", .int a, .int b]
def AmOk : Option Int → Prop
  | none => True
  | some i => 1 ≤ i ∧ i ≤ 60
def PsOk : Ps → Prop
  | .io _ n => AmOk n
  | .pa a b => 0 ≤ a ∧ a ≤ b ∧ b ≤ 200
/-- a program that stands at an address -/
def Prg (H : Hp) (a : Addr) (ps : List Ps) : Prop := ∃ as : List Addr, H a = some (.tup (as.map .ref)) ∧ Tups H as (ps.map psV)
theorem Prg.same {H H' : Hp} {a : Addr} {ps : List Ps} (h : Prg H a ps) (s : Same H H') : Prg H' a ps := by
  obtain ⟨as, h1, h2⟩ := h
  exact ⟨as, s _ _ h1, h2.mono fun _ _ e => s _ _ e⟩
/-- for i, x in enumerate(t) -/
theorem for_enumT {K : PySem.W.Frag} {a : Addr} {xs : List V} {g : TG} {tb : TS} {D : Ends} {σ : L2.St} {H : Hp} (Pv : Nat → L2.St → Hp → Prop) (h0 : Pv 0 σ H) (hl : ∀ i σ H, Pv i σ H → SqT K H a xs)
    (hs : ∀ i x T σ H, xs[i]? = some x → Pv i σ H → H T = none → g (.ref T) σ (upd H T (.tup [.int (i : Nat), x])) fun σ2 H2 => tb { D with nx := Pv (i + 1), ct := Pv (i + 1), bk := D.nx } σ2 H2) (hd : ∀ σ H, Pv xs.length σ H → D.nx σ H) :
    ∃ W : Nat → Nat → L2.St → Hp → Prop, (∃ m, W 0 m σ H) ∧ ∀ i m σ H, W i m σ H →
      ((IteT K a).stop i H ∧ D.nx σ H) ∨ ((IteT K a).go i H ∧ ∃ N : L2.St → Hp → Prop, (∀ σ' H', N σ' H' → ∃ m', m' < m ∧ W (i + 1) m' σ' H') ∧ ∀ x H', (IteT K a).yld i H x H' → g x σ H' fun σ2 H2 => tb { D with nx := N, ct := N, bk := D.nx } σ2 H2) := by
  refine ⟨fun i m σ H => m = xs.length - i ∧ i ≤ xs.length ∧ Pv i σ H, ⟨_, rfl, Nat.zero_le _, h0⟩, fun i m σ H hw => ?_⟩
  obtain ⟨rfl, hi, p⟩ := hw
  by_cases hlt : i < xs.length
  · refine .inr ⟨⟨xs, xs[i], hl i σ H p, List.getElem?_eq_getElem hlt⟩, Pv (i + 1), fun σ' H' p' => ⟨_, by omega, rfl, hlt, p'⟩, fun v H' y => ?_⟩
    obtain ⟨t, x, rfl, nt, rfl, hx⟩ := y
    exact hs i x t σ H (hx xs (hl i σ H p)) p nt
  · have e : i = xs.length := Nat.le_antisymm hi (Nat.le_of_not_lt hlt)
    subst e
    exact .inl ⟨⟨xs, hl _ σ H p, Nat.le_refl _⟩, hd σ H p⟩
def sFs (r : Rl) (e d : Int) (t : Addr) : List (Str × V) := [("rule", .str (rlS r)), ("every", .int e), ("delay", .int d), ("told", .ref t)]
def lFs (sz wy : Int) (n0 n1 t : Addr) : List (Str × V) := [("size", .int sz), ("way", .int wy), ("near", .ref n0), ("far", .ref n1), ("told", .ref t)]
section
variable (v0 v1 v2 v3 v4 : V)
theorem pS1 : putF "rule" v0 [] = ([("rule", v0)] : List (Str × V)) := by rfl
theorem pS2 : putF "every" v1 ([("rule", v0)] : List (Str × V)) = ([("rule", v0), ("every", v1)] : List (Str × V)) := by rfl
theorem pS3 : putF "delay" v2 ([("rule", v0), ("every", v1)] : List (Str × V)) = ([("rule", v0), ("every", v1), ("delay", v2)] : List (Str × V)) := by rfl
theorem pS4 : putF "told" v3 ([("rule", v0), ("every", v1), ("delay", v2)] : List (Str × V)) = ([("rule", v0), ("every", v1), ("delay", v2), ("told", v3)] : List (Str × V)) := by rfl
theorem pL1 : putF "size" v0 [] = ([("size", v0)] : List (Str × V)) := by rfl
theorem pL2 : putF "way" v1 ([("size", v0)] : List (Str × V)) = ([("size", v0), ("way", v1)] : List (Str × V)) := by rfl
theorem pL3 : putF "near" v2 ([("size", v0), ("way", v1)] : List (Str × V)) = ([("size", v0), ("way", v1), ("near", v2)] : List (Str × V)) := by rfl
theorem pL4 : putF "far" v3 ([("size", v0), ("way", v1), ("near", v2)] : List (Str × V)) = ([("size", v0), ("way", v1), ("near", v2), ("far", v3)] : List (Str × V)) := by rfl
theorem pL5 : putF "told" v4 ([("size", v0), ("way", v1), ("near", v2), ("far", v3)] : List (Str × V)) = ([("size", v0), ("way", v1), ("near", v2), ("far", v3), ("told", v4)] : List (Str × V)) := by rfl
end
theorem lkS_told (r : Rl) (e d : Int) (t : Addr) : (sFs r e d t).lookup ("told" : Str) = some (V.ref t) := by rfl
section
variable {P : Program} {w : World} {K : PySem.W.Frag} {mg : Str → Option Value} {base : Heap} {A : Ads}
def sp_is_integer : Sp := fun vs H Q _ => ∃ v, vs = [v] ∧ ((∃ i, v = .int i ∧ Q (.bl true) H) ∨ ∃ z, v = .str z ∧ Q (.bl false) H)
theorem ok_is_integer (T : Txt K mg A) : FnOk P w K mg base CX0 1 A.f_is_integer A.d_is_integer ps_is_integer sp_is_integer := by
  refine T.is_integer.ok sc_is_integer (fun vs H Q E h => ?_) (fun cdv AR outer sh H vs Q EX hr h => ?_)
  · obtain ⟨v, rfl, _⟩ := h
    rfl
  · obtain ⟨v, rfl, h⟩ := h
    refine ⟨_, (pss_one (ps_ret (pe_and (pe_callB call_isi (by rfl) T.n_isinstance (by decide +kernel) (pa_cons (pv 0) (pa_cons (pe_bltn (v := .ty "int") rfl T.n_int (by decide +kernel) rfl) pa_nil))) (pe_one (pe_not (pe_callB call_isi (by rfl) T.n_isinstance (by decide +kernel) (pa_cons (pv 0) (pa_cons (pe_bltn (v := .ty "bool") rfl T.n_bool (by decide +kernel) rfl) pa_nil)))))))), ?_⟩
    rcases h with ⟨i, rfl, k⟩ | ⟨z, rfl, k⟩
    · exact ⟨_, rfl, _, _, _, _, _, rfl, .ty "int", .base (.int i), kit_ty (r := true) (by decide +kernel), _, rfl, iteT ⟨_, rfl, _, _, _, _, _, rfl, .ty "bool", .base (.int i), kit_ty (r := false) (by decide +kernel), _, rfl, k⟩⟩
    · exact ⟨_, rfl, _, _, _, _, _, rfl, .ty "int", .base (.str z), kit_ty (r := false) (by decide +kernel), _, rfl, iteF k⟩
def sp_is_between : Sp := fun vs H Q _ => ∃ (v : V) (lo hi : Int), vs = [v, .int lo, .int hi] ∧ ((∃ i, v = .int i ∧ lo ≤ i ∧ i ≤ hi ∧ Q (.bl true) H) ∨ ∃ z, v = .str z ∧ Q (.bl false) H)
theorem ok_is_between (T : Txt K mg A) : FnOk P w K mg base CX0 2 A.f_is_between A.d_is_between ps_is_between sp_is_between := by
  refine T.is_between.ok sc_is_between (fun vs H Q E h => ?_) (fun cdv AR outer sh H vs Q EX hr h => ?_)
  · obtain ⟨v, lo, hi, rfl, _⟩ := h
    rfl
  · obtain ⟨v, lo, hi, rfl, h⟩ := h
    refine ⟨_, (pss_one (ps_ret (pe_and (pe_call (ok_is_integer T) (hr.mono (by decide)) rfl T.g_is_integer T.is_integer.kp T.b_is_integer .nil pass0 (pa_cons (pv 0) pa_nil)) (pe_one (pe_chain op_le op_le (pv 1) (pv 0) (pv 2)))))), ?_⟩
    rcases h with ⟨i, rfl, h0, h1, k⟩ | ⟨z, rfl, k⟩
    · refine ⟨_, rfl, _, rfl, .inl ⟨i, rfl, _, rfl, iteT ⟨_, rfl, _, rfl, _, _, rfl, rfl, _, rfl, ?_⟩⟩⟩
      rw [if_pos (decide_eq_true h0)]
      refine ⟨_, rfl, _, _, rfl, rfl, ?_⟩
      show Q (.bl (decide (i ≤ hi))) H
      rw [decide_eq_true h1]
      exact k
    · exact ⟨_, rfl, _, rfl, .inr ⟨z, rfl, _, rfl, iteF k⟩⟩
def sp_check_number : Sp := fun vs H Q _ => ∃ i lo hi : Int, vs = [.int i, .int lo, .int hi] ∧ lo ≤ i ∧ i ≤ hi ∧ Q .non H
theorem ok_check_number (T : Txt K mg A) : FnOk P w K mg base CX0 3 A.f_check_number A.d_check_number ps_check_number sp_check_number := by
  refine T.check_number.ok sc_check_number (fun vs H Q E h => ?_) (fun cdv AR outer sh H vs Q EX hr h => ?_)
  · obtain ⟨i, lo, hi, rfl, _⟩ := h
    rfl
  · obtain ⟨i, lo, hi, rfl, h0, h1, k⟩ := h
    refine ⟨_, (pss_one (ps_if (pt_not (pt_val (pe_call (ok_is_between T) (hr.mono (by decide)) rfl T.g_is_between T.is_between.kp T.b_is_between .nil pass0 (pa_cons (pv 0) (pa_cons (pv 1) (pa_cons (pv 2) pa_nil)))))) (pss_one ps_never) pss_nil)), ?_⟩
    exact ⟨_, rfl, _, rfl, _, rfl, _, _, _, rfl, .inl ⟨i, rfl, h0, h1, _, rfl, iteF k⟩⟩
def sp_S_init (A : Ads) : Sp := fun vs H Q _ => ∃ (x dx : Addr) (r : Rl) (e d : Int), vs = [.ref x, .str (rlS r), .int e, .int d] ∧ (1 ≤ e ∧ e ≤ 4) ∧ (0 ≤ d ∧ d ≤ 200) ∧ H x = some (.ins A.CS dx []) ∧
  ∀ (H' : Hp) (t : Addr), (∀ b o, b ≠ x → H b = some o → H' b = some o) → H' x = some (.ins A.CS dx (sFs r e d t)) → Q .non H'
theorem ok_S_init (T : Txt K mg A) : FnOk P w K mg base CX0 4 A.f_S_init A.d_S_init ps_S_init (sp_S_init A) := by
  refine T.S_init.ok sc_S_init (fun vs H Q E h => ?_) (fun cdv AR outer sh H vs Q EX hr h => ?_)
  · obtain ⟨x, dx, r, e, d, rfl, _⟩ := h
    rfl
  · obtain ⟨x, dx, r, e, d, rfl, he, hd, hx, k⟩ := h
    refine ⟨_, (pss_cons (ps_if (PW.pt (pw_or (pt_not (pt_val (pe_callB call_isi (by rfl) T.n_isinstance (by decide +kernel) (pa_cons (pv 1) (pa_cons (pe_bltn (v := .ty "str") rfl T.n_str (by decide +kernel) rfl) pa_nil))))) (pw_or1 (pt_cmpR op_notIn_seq (pv 1) (pe_glob (v := .ref A.a_RULES) rfl T.g_RULES rfl) rfl)))) (pss_one ps_never) pss_nil)
      (pss_cons (ps_expr (pe_call (ok_check_number T) (hr.mono (by decide)) rfl T.g_check_number T.check_number.kp T.b_check_number .nil pass0 (pa_cons (pv 2) (pa_cons pe_int (pa_cons (pe_glob (v := .int 4) rfl T.g_MOST_EVERY ⟨_, rfl⟩) pa_nil)))))
      (pss_cons (ps_expr (pe_call (ok_check_number T) (hr.mono (by decide)) rfl T.g_check_number T.check_number.kp T.b_check_number .nil pass0 (pa_cons (pv 3) (pa_cons pe_int (pa_cons (pe_glob (v := .int 200) rfl T.g_MOST_DELAY ⟨_, rfl⟩) pa_nil)))))
      (pss_cons (ps_fld (pv 0) (pv 1) rfl)
      (pss_cons (ps_fld (pv 0) (pv 2) rfl)
      (pss_cons (ps_fld (pv 0) (pv 3) rfl)
      (pss_one (ps_fld (pv 0) (pe_tup (pa_cons (pv 1) (pa_cons (pv 2) (pa_cons (pv 3) pa_nil)))) rfl)))))))), ?_⟩
    refine ⟨_, rfl, _, _, _, _, _, rfl, .ty "str", .base (.str _), kit_ty (r := true) (by decide +kernel), _, rfl, iteF ⟨_, rfl, _, _, rfl, .inr (T.rules _), rfl, rfl, _, rfl, ?_⟩⟩
    have hin : (!inV (.str (rlS r)) [.str "plain", .str "hold", .str "few"]) = false := by cases r <;> decide +kernel
    show if (!inV (.str (rlS r)) [.str "plain", .str "hold", .str "few"]) = true then _ else _
    rw [hin]
    refine iteF ⟨_, rfl, _, _, _, rfl, he.1, he.2, _, rfl, _, _, _, rfl, hd.1, hd.2, ?_⟩
    refine ⟨_, rfl, _, rfl, _, _, _, _, rfl, hx, T.cS, T.nS_rule, by show 0 < 1000; decide, ?_⟩
    rw [pS1]
    refine ⟨_, rfl, _, rfl, _, _, _, _, rfl, upd_same, T.cS, T.nS_every, by show 1 < 1000; decide, ?_⟩
    rw [pS2, upd_upd]
    refine ⟨_, rfl, _, rfl, _, _, _, _, rfl, upd_same, T.cS, T.nS_delay, by show 2 < 1000; decide, ?_⟩
    rw [pS3, upd_upd]
    refine ⟨_, rfl, _, rfl, _, rfl, by show 3 ≤ sizeLine; decide, fun t nt => ?_⟩
    have nxt : x ≠ t := ne_of_none (H := upd H x _) upd_same nt
    have nt' : H t = none := by
      rw [upd_ne (Ne.symm nxt)] at nt
      exact nt
    refine ⟨_, rfl, _, _, _, _, rfl, by rw [upd_ne nxt]; exact upd_same, T.cS, T.nS_told, by show 3 < 1000; decide, ?_⟩
    rw [pS4]
    refine k _ t (fun b o hb e => ?_) upd_same
    rw [upd_ne hb, upd_ne (ne_of_none e nt'), upd_ne hb]
    exact e
def sp_check_setting (A : Ads) : Sp := fun vs H Q _ => ∃ (a dx : Addr) (fs : List (Str × V)), vs = [.ref a] ∧ H a = some (.ins A.CS dx fs) ∧ Q .non H
theorem kit_self (K : PySem.W.Frag) (C : Addr) : PySem.W.kitOne K (.ref C) (.ref C) = some true := by
  unfold PySem.W.kitOne
  rw [if_pos]
  simp
theorem ok_check_setting (T : Txt K mg A) : FnOk P w K mg base CX0 1 A.f_check_setting A.d_check_setting ps_check_setting (sp_check_setting A) := by
  refine T.check_setting.ok sc_check_setting (fun vs H Q E h => ?_) (fun cdv AR outer sh H vs Q EX hr h => ?_)
  · obtain ⟨a, dx, fs, rfl, _⟩ := h
    rfl
  · obtain ⟨a, dx, fs, rfl, ha, k⟩ := h
    refine ⟨_, (pss_one (ps_if (pt_not (pt_val (pe_callB call_isi (by rfl) T.n_isinstance (by decide +kernel) (pa_cons (pv 0) (pa_cons (pe_glob (v := .ref A.CS) rfl T.g_Setting rfl) pa_nil))))) (pss_one ps_never) pss_nil)), ?_⟩
    exact ⟨_, rfl, _, _, _, _, _, rfl, .own A.CS, .base (.ins ha T.cS T.iS_ha T.i_hn T.i_htk T.iS_hm), kit_self K _, _, rfl, iteF k⟩
def sp_check_line (A : Ads) : Sp := fun vs H Q _ => ∃ (a dx : Addr) (fs : List (Str × V)), vs = [.ref a] ∧ H a = some (.ins A.CL dx fs) ∧ Q .non H
theorem ok_check_line (T : Txt K mg A) : FnOk P w K mg base CX0 1 A.f_check_line A.d_check_line ps_check_line (sp_check_line A) := by
  refine T.check_line.ok sc_check_line (fun vs H Q E h => ?_) (fun cdv AR outer sh H vs Q EX hr h => ?_)
  · obtain ⟨a, dx, fs, rfl, _⟩ := h
    rfl
  · obtain ⟨a, dx, fs, rfl, ha, k⟩ := h
    refine ⟨_, (pss_one (ps_if (pt_not (pt_val (pe_callB call_isi (by rfl) T.n_isinstance (by decide +kernel) (pa_cons (pv 0) (pa_cons (pe_glob (v := .ref A.CL) rfl T.g_Line rfl) pa_nil))))) (pss_one ps_never) pss_nil)), ?_⟩
    exact ⟨_, rfl, _, _, _, _, _, rfl, .own A.CL, .base (.ins ha T.cL T.iL_ha T.i_hn T.i_htk T.iL_hm), kit_self K _, _, rfl, iteF k⟩
def sp_L_init (A : Ads) : Sp := fun vs H Q _ => ∃ (x dx n0 n1 d0 d1 t0 t1 : Addr) (sz wy : Int) (r0 r1 : Rl) (e0 e1 y0 y1 : Int), vs = [.ref x, .int sz, .int wy, .ref n0, .ref n1] ∧ (1 ≤ sz ∧ sz ≤ 40) ∧ (1 ≤ wy ∧ wy ≤ 200) ∧
  H n0 = some (.ins A.CS d0 (sFs r0 e0 y0 t0)) ∧ H n1 = some (.ins A.CS d1 (sFs r1 e1 y1 t1)) ∧ H x = some (.ins A.CL dx []) ∧ n0 ≠ x ∧ n1 ≠ x ∧
  ∀ (H' : Hp) (t : Addr), (∀ b o, b ≠ x → H b = some o → H' b = some o) → H' x = some (.ins A.CL dx (lFs sz wy n0 n1 t)) → Q .non H'
theorem ok_L_init (T : Txt K mg A) : FnOk P w K mg base CX0 4 A.f_L_init A.d_L_init ps_L_init (sp_L_init A) := by
  refine T.L_init.ok sc_L_init (fun vs H Q E h => ?_) (fun cdv AR outer sh H vs Q EX hr h => ?_)
  · obtain ⟨x, dx, n0, n1, d0, d1, t0, t1, sz, wy, r0, r1, e0, e1, y0, y1, rfl, _⟩ := h
    rfl
  · obtain ⟨x, dx, n0, n1, d0, d1, t0, t1, sz, wy, r0, r1, e0, e1, y0, y1, rfl, hz, hw, h0, h1, hx, ne0, ne1, k⟩ := h
    refine ⟨_, (pss_cons (ps_expr (pe_call (ok_check_number T) (hr.mono (by decide)) rfl T.g_check_number T.check_number.kp T.b_check_number .nil pass0 (pa_cons (pv 1) (pa_cons pe_int (pa_cons (pe_glob (v := .int 40) rfl T.g_MOST_SIZE ⟨_, rfl⟩) pa_nil)))))
      (pss_cons (ps_expr (pe_call (ok_check_number T) (hr.mono (by decide)) rfl T.g_check_number T.check_number.kp T.b_check_number .nil pass0 (pa_cons (pv 2) (pa_cons pe_int (pa_cons (pe_glob (v := .int 200) rfl T.g_MOST_WAY ⟨_, rfl⟩) pa_nil)))))
      (pss_cons (ps_expr (pe_call (ok_check_setting T) (hr.mono (by decide)) rfl T.g_check_setting T.check_setting.kp T.b_check_setting .nil pass0 (pa_cons (pv 3) pa_nil)))
      (pss_cons (ps_expr (pe_call (ok_check_setting T) (hr.mono (by decide)) rfl T.g_check_setting T.check_setting.kp T.b_check_setting .nil pass0 (pa_cons (pv 4) pa_nil)))
      (pss_cons (ps_fld (pv 0) (pv 1) rfl)
      (pss_cons (ps_fld (pv 0) (pv 2) rfl)
      (pss_cons (ps_fld (pv 0) (pv 3) rfl)
      (pss_cons (ps_fld (pv 0) (pv 4) rfl)
      (pss_one (ps_fld (pv 0) (pe_tup (pa_cons (pv 1) (pa_cons (pv 2) (pa_cons (pe_fld (pv 3) rfl) (pa_cons (pe_fld (pv 4) rfl) pa_nil))))) rfl)))))))))), ?_⟩
    refine ⟨_, rfl, _, _, _, rfl, hz.1, hz.2, _, rfl, _, _, _, rfl, hw.1, hw.2, _, rfl, _, _, _, rfl, h0, _, rfl, _, _, _, rfl, h1, ?_⟩
    refine ⟨_, rfl, _, rfl, _, _, _, _, rfl, hx, T.cL, T.nL_size, by show 0 < 1000; decide, ?_⟩
    rw [pL1]
    refine ⟨_, rfl, _, rfl, _, _, _, _, rfl, upd_same, T.cL, T.nL_way, by show 1 < 1000; decide, ?_⟩
    rw [pL2, upd_upd]
    refine ⟨_, rfl, _, rfl, _, _, _, _, rfl, upd_same, T.cL, T.nL_near, by show 2 < 1000; decide, ?_⟩
    rw [pL3, upd_upd]
    refine ⟨_, rfl, _, rfl, _, _, _, _, rfl, upd_same, T.cL, T.nL_far, by show 3 < 1000; decide, ?_⟩
    rw [pL4, upd_upd]
    refine ⟨_, rfl, _, rfl, _, rfl, _, _, _, _, _, rfl, by rw [upd_ne ne0]; exact h0, T.cS, T.nS_told, lkS_told _ _ _ _, _, rfl, _, _, _, _, _, rfl, by rw [upd_ne ne1]; exact h1, T.cS, T.nS_told, lkS_told _ _ _ _, by show 4 ≤ sizeLine; decide, fun t nt => ?_⟩
    have nxt : x ≠ t := ne_of_none (H := upd H x _) upd_same nt
    have nt' : H t = none := by
      rw [upd_ne (Ne.symm nxt)] at nt
      exact nt
    refine ⟨_, rfl, _, _, _, _, rfl, by rw [upd_ne nxt]; exact upd_same, T.cL, T.nL_told, by show 4 < 1000; decide, ?_⟩
    rw [pL5]
    refine k _ t (fun b o hb e => ?_) upd_same
    rw [upd_ne hb, upd_ne (ne_of_none e nt'), upd_ne hb]
    exact e
def sp_is_amount : Sp := fun vs H Q _ => ∃ n : Option Int, vs = [amV n] ∧ AmOk n ∧ Q (.bl true) H
theorem ok_is_amount (T : Txt K mg A) : FnOk P w K mg base CX0 3 A.f_is_amount A.d_is_amount ps_is_amount sp_is_amount := by
  refine T.is_amount.ok sc_is_amount (fun vs H Q E h => ?_) (fun cdv AR outer sh H vs Q EX hr h => ?_)
  · obtain ⟨n, rfl, _⟩ := h
    rfl
  · obtain ⟨n, rfl, hn, k⟩ := h
    refine ⟨_, (pss_one (ps_ret (pe_or (pe_call (ok_is_between T) (hr.mono (by decide)) rfl T.g_is_between T.is_between.kp T.b_is_between .nil pass0 (pa_cons (pv 0) (pa_cons pe_int (pa_cons (pe_glob (v := .int 60) rfl T.g_MOST_BYTES ⟨_, rfl⟩) pa_nil)))) (pe_one (pe_and (pe_callB call_isi (by rfl) T.n_isinstance (by decide +kernel) (pa_cons (pv 0) (pa_cons (pe_bltn (v := .ty "str") rfl T.n_str (by decide +kernel) rfl) pa_nil))) (pe_one (pe_cmpR op_eq (pv 0) (pe_glob (v := .str "x") rfl T.g_LETTER ⟨_, rfl⟩) (nomark _)))))))), ?_⟩
    cases n with
    | some i => exact ⟨_, rfl, _, _, _, rfl, .inl ⟨i, rfl, hn.1, hn.2, _, rfl, iteT k⟩⟩
    | none =>
      refine ⟨_, rfl, _, _, _, rfl, .inr ⟨_, rfl, _, rfl, iteF ⟨_, rfl, _, _, _, _, _, rfl, .ty "str", .base (.str _), kit_ty (r := true) (by decide +kernel), _, rfl, iteT ⟨_, rfl, rfl, ?_⟩⟩⟩⟩
      show Q (.bl (decide (V.str "x" = V.str "x"))) H
      rw [decide_eq_true rfl]
      exact k
def sp_is_size : Sp := fun vs H Q _ => ∃ i : Int, vs = [.int i] ∧ 1 ≤ i ∧ i ≤ 2000 ∧ Q (.bl true) H
theorem ok_is_size (T : Txt K mg A) : FnOk P w K mg base CX0 3 A.f_is_size A.d_is_size ps_is_size sp_is_size := by
  refine T.is_size.ok sc_is_size (fun vs H Q E h => ?_) (fun cdv AR outer sh H vs Q EX hr h => ?_)
  · obtain ⟨n, rfl, _⟩ := h
    rfl
  · obtain ⟨n, rfl, h0, h1, k⟩ := h
    refine ⟨_, (pss_one (ps_ret (pe_call (ok_is_between T) (hr.mono (by decide)) rfl T.g_is_between T.is_between.kp T.b_is_between .nil pass0 (pa_cons (pv 0) (pa_cons pe_int (pa_cons (pe_glob (v := .int 2000) rfl T.g_MOST_X ⟨_, rfl⟩) pa_nil)))))), ?_⟩
    exact ⟨_, rfl, _, _, _, rfl, .inl ⟨n, rfl, h0, h1, k⟩⟩
def sp_check_size : Sp := fun vs H Q _ => ∃ i : Int, vs = [.int i] ∧ 1 ≤ i ∧ i ≤ 2000 ∧ Q .non H
theorem ok_check_size (T : Txt K mg A) : FnOk P w K mg base CX0 4 A.f_check_size A.d_check_size ps_check_size sp_check_size := by
  refine T.check_size.ok sc_check_size (fun vs H Q E h => ?_) (fun cdv AR outer sh H vs Q EX hr h => ?_)
  · obtain ⟨n, rfl, _⟩ := h
    rfl
  · obtain ⟨n, rfl, h0, h1, k⟩ := h
    refine ⟨_, (pss_one (ps_if (pt_not (pt_val (pe_call (ok_is_size T) (hr.mono (by decide)) rfl T.g_is_size T.is_size.kp T.b_is_size .nil pass0 (pa_cons (pv 0) pa_nil)))) (pss_one ps_never) pss_nil)), ?_⟩
    exact ⟨_, rfl, _, rfl, h0, h1, _, rfl, iteF k⟩
end
end K10

namespace K10
open PySem L2
def isPa : Ps → Bool
  | .io _ _ => false
  | .pa _ _ => true
def pas (ps : List Ps) : List Ps := ps.filter isPa
def wrS (rd : Bool) : V := .str (rdS rd)
section
variable {P : Program} {w : World} {K : PySem.W.Frag} {mg : Str → Option Value} {base : Heap} {A : Ads}
def sp_is_step : Sp := fun vs H Q _ => ∃ (a : Addr) (p : Ps), vs = [.ref a] ∧ H a = some (.tup (psV p)) ∧ PsOk p ∧ ∀ H', Same H H' → Q (.bl true) H'
theorem ok_is_step (T : Txt K mg A) : FnOk P w K mg base CX0 4 A.f_is_step A.d_is_step ps_is_step sp_is_step := by
  refine T.is_step.ok sc_is_step (fun vs H Q E h => ?_) (fun cdv AR outer sh H vs Q EX hr h => ?_)
  · obtain ⟨a, p, rfl, _⟩ := h
    rfl
  · obtain ⟨a, p, rfl, ha, hp, k⟩ := h
    refine ⟨_, (pss_cons (ps_if (PW.pt (pw_or (pt_not (pt_val (pe_callB call_isi (by rfl) T.n_isinstance (by decide +kernel) (pa_cons (pv 0) (pa_cons (pe_bltn (v := .ty "tuple") rfl T.n_tuple (by decide +kernel) rfl) pa_nil))))) (pw_or (pt_cmpR op_notIn_seq (pe_callB call_len_seq (by rfl) T.n_len (by decide +kernel) (pa_cons (pv 0) pa_nil)) (pe_tup (pa_cons pe_int (pa_cons pe_int pa_nil))) rfl) (pw_or1 (pt_not (pt_val (pe_callB call_isi (by rfl) T.n_isinstance (by decide +kernel) (pa_cons (pe_ix ix_tup (pv 0) pe_int (fun _ _ => rfl)) (pa_cons (pe_bltn (v := .ty "str") rfl T.n_str (by decide +kernel) rfl) pa_nil))))))))) (pss_one (ps_ret pe_bl)) pss_nil)
      (pss_cons (ps_if (PW.pt (pw_and (pt_cmpR op_eq (pe_ix ix_tup (pv 0) pe_int (fun _ _ => rfl)) pe_str (nomark _)) (pw_and1 (pt_cmpR op_eq (pe_callB call_len_seq (by rfl) T.n_len (by decide +kernel) (pa_cons (pv 0) pa_nil)) pe_int (nomark _))))) (pss_one (ps_ret (pe_and (pe_call (ok_is_between T) (hr.mono (by decide)) rfl T.g_is_between T.is_between.kp T.b_is_between .nil pass0 (pa_cons (pe_ix ix_tup (pv 0) pe_int (fun _ _ => rfl)) (pa_cons pe_int (pa_cons (pe_glob (v := .int 200) rfl T.g_MOST_DELAY ⟨_, rfl⟩) pa_nil)))) (pe_one (pe_call (ok_is_between T) (hr.mono (by decide)) rfl T.g_is_between T.is_between.kp T.b_is_between .nil pass0 (pa_cons (pe_ix ix_tup (pv 0) pe_int (fun _ _ => rfl)) (pa_cons (pe_ix ix_tup (pv 0) pe_int (fun _ _ => rfl)) (pa_cons (pe_glob (v := .int 200) rfl T.g_MOST_DELAY ⟨_, rfl⟩) pa_nil)))))))) pss_nil)
      (pss_one (ps_ret (pe_and (pe_cmpR op_in_seq (pe_ix ix_tup (pv 0) pe_int (fun _ _ => rfl)) (pe_tup (pa_cons pe_str (pa_cons pe_str pa_nil))) rfl) (pe_and (pe_cmpR op_eq (pe_callB call_len_seq (by rfl) T.n_len (by decide +kernel) (pa_cons (pv 0) pa_nil)) pe_int (nomark _)) (pe_one (pe_call (ok_is_amount T) (hr.mono (by decide)) rfl T.g_is_amount T.is_amount.kp T.b_is_amount .nil pass0 (pa_cons (pe_ix ix_tup (pv 0) pe_int (fun _ _ => rfl)) pa_nil))))))))), ?_⟩
    cases p with
    | io rd n => 
      refine ⟨_, rfl, _, _, _, _, _, rfl, .ty "tuple", .base (.tup ha), kit_ty (r := true) (by decide +kernel), _, rfl, iteF ⟨_, rfl, _, _, rfl, .inr (SqT.of ha), by show 2 ≤ sizeLine; decide, fun t nt => ⟨_, _, rfl, .inr (SqT.of upd_same), rfl, rfl, _, rfl, ?_⟩⟩⟩
      have e1 : (!inV (.int ((psV (.io rd n)).length : Nat)) [.int 2, .int 3]) = false := by show (!inV (.int (2 : Nat)) [.int 2, .int 3]) = false; decide +kernel
      show if (!inV (.int ((psV (.io rd n)).length : Nat)) [.int 2, .int 3]) = true then _ else _
      rw [e1]
      have ha2 := (upd_ne (H := H) (o := .tup [.int 2, .int 3]) (ne_of_none ha nt)).trans ha
      have s2 : Same H (upd H t (.tup [.int 2, .int 3])) := same_upd nt
      revert ha2 s2
      generalize upd H t _ = H2
      intro ha2 s2
      refine iteF ⟨_, rfl, _, _, _, _, rfl, rfl, SqT.of ha2, rfl, _, _, _, _, _, rfl, .ty "str", .base (.str _), kit_ty (r := true) (by decide +kernel), _, rfl, iteF ⟨_, rfl, _, _, _, _, rfl, rfl, SqT.of ha2, rfl, rfl, _, rfl, ?_⟩⟩
      have e2 : decide (V.str (rdS rd) = V.str "pause") = false := by cases rd <;> decide +kernel
      show if decide (V.str (rdS rd) = V.str "pause") = true then _ else _
      rw [e2]
      refine iteF (iteF ⟨_, rfl, _, _, _, _, rfl, rfl, SqT.of ha2, rfl, by show 2 ≤ sizeLine; decide, fun t3 nt3 => ⟨_, _, rfl, .inr (SqT.of upd_same), rfl, rfl, _, rfl, ?_⟩⟩)
      have e3 : inV (V.str (rdS rd)) [.str "write", .str "read"] = true := by cases rd <;> decide +kernel
      show if inV (V.str (rdS rd)) [.str "write", .str "read"] = true then _ else _
      rw [e3]
      have ha3 := (upd_ne (H := H2) (o := .tup [.str "write", .str "read"]) (ne_of_none ha2 nt3)).trans ha2
      refine iteT ⟨_, rfl, _, _, rfl, .inr (SqT.of ha3), rfl, _, rfl, ?_⟩
      have e4 : decide (V.int ((psV (.io rd n)).length : Nat) = V.int 2) = true := by show decide (V.int (2 : Nat) = V.int 2) = true; decide +kernel
      show if decide (V.int ((psV (.io rd n)).length : Nat) = V.int 2) = true then _ else _
      rw [e4]
      exact iteT ⟨_, rfl, _, _, _, _, rfl, rfl, SqT.of ha3, rfl, n, rfl, hp, k _ (s2.trans (same_upd nt3))⟩
    | pa a0 b0 =>
      refine ⟨_, rfl, _, _, _, _, _, rfl, .ty "tuple", .base (.tup ha), kit_ty (r := true) (by decide +kernel), _, rfl, iteF ⟨_, rfl, _, _, rfl, .inr (SqT.of ha), by show 2 ≤ sizeLine; decide, fun t nt => ⟨_, _, rfl, .inr (SqT.of upd_same), rfl, rfl, _, rfl, ?_⟩⟩⟩
      have e1 : (!inV (.int ((psV (.pa a0 b0)).length : Nat)) [.int 2, .int 3]) = false := by show (!inV (.int (3 : Nat)) [.int 2, .int 3]) = false; decide +kernel
      show if (!inV (.int ((psV (.pa a0 b0)).length : Nat)) [.int 2, .int 3]) = true then _ else _
      rw [e1]
      have ha2 := (upd_ne (H := H) (o := .tup [.int 2, .int 3]) (ne_of_none ha nt)).trans ha
      have s2 : Same H (upd H t (.tup [.int 2, .int 3])) := same_upd nt
      revert ha2 s2
      generalize upd H t _ = H2
      intro ha2 s2
      refine iteF ⟨_, rfl, _, _, _, _, rfl, rfl, SqT.of ha2, rfl, _, _, _, _, _, rfl, .ty "str", .base (.str _), kit_ty (r := true) (by decide +kernel), _, rfl, iteF ⟨_, rfl, _, _, _, _, rfl, rfl, SqT.of ha2, rfl, rfl, _, rfl, ?_⟩⟩
      have e2 : decide (V.str "pause" = V.str "pause") = true := decide_eq_true rfl
      show if decide (V.str "pause" = V.str "pause") = true then _ else _
      rw [e2]
      refine iteT ⟨_, rfl, _, _, rfl, .inr (SqT.of ha2), rfl, _, rfl, ?_⟩
      have e4 : decide (V.int ((psV (.pa a0 b0)).length : Nat) = V.int 3) = true := by show decide (V.int (3 : Nat) = V.int 3) = true; decide +kernel
      show if decide (V.int ((psV (.pa a0 b0)).length : Nat) = V.int 3) = true then _ else _
      rw [e4]
      obtain ⟨p0, p1, p2⟩ := hp
      exact iteT ⟨_, rfl, _, _, _, _, rfl, rfl, SqT.of ha2, rfl, _, _, _, rfl, .inl ⟨a0, rfl, p0, by omega, _, rfl, iteT ⟨_, rfl, _, _, _, _, rfl, rfl, SqT.of ha2, rfl, _, rfl, _, _, _, _, rfl, rfl, SqT.of ha2, rfl, _, _, _, rfl, .inl ⟨b0, rfl, p1, p2, k _ s2⟩⟩⟩⟩
def sp_check_program : Sp := fun vs H Q _ => ∃ (a : Addr) (ps : List Ps), vs = [.ref a] ∧ Prg H a ps ∧ ps.length ≤ 6 ∧ (∀ p ∈ ps, PsOk p) ∧ ∀ H', Same H H' → Q .non H'
theorem ok_check_program (T : Txt K mg A) : FnOk P w K mg base CX0 5 A.f_check_program A.d_check_program ps_check_program sp_check_program := by
  refine T.check_program.ok sc_check_program (fun vs H Q E h => ?_) (fun cdv AR outer sh H vs Q EX hr h => ?_)
  · obtain ⟨a, ps, rfl, _⟩ := h
    rfl
  · obtain ⟨a, ps, rfl, ⟨as, ha, ht⟩, hl, hp, k⟩ := h
    refine ⟨_, (pss_cons (ps_if (PW.pt (pw_or (pt_not (pt_val (pe_callB call_isi (by rfl) T.n_isinstance (by decide +kernel) (pa_cons (pv 0) (pa_cons (pe_bltn (v := .ty "tuple") rfl T.n_tuple (by decide +kernel) rfl) pa_nil))))) (pw_or1 (pt_cmpR op_gt (pe_callB call_len_seq (by rfl) T.n_len (by decide +kernel) (pa_cons (pv 0) pa_nil)) (pe_glob (v := .int 6) rfl T.g_MOST_STEPS ⟨_, rfl⟩) (nomark _))))) (pss_one ps_never) pss_nil)
      (pss_one (ps_for PassesOwn.never rfl (pi_enumT (by rfl) T.n_enumerate (pa_cons (pv 0) pa_nil)) (pg_tup (by rfl) (pgs_cons (pg_name (i := 1) sc_check_program.nd rfl (Or.inl rfl)) (pgs_cons (pg_name (i := 2) sc_check_program.nd rfl (Or.inl rfl)) pgs_nil))) (pss_one (ps_if (pt_not (pt_val (pe_call (ok_is_step T) (hr.mono (by decide)) rfl T.g_is_step T.is_step.kp T.b_is_step .nil pass0 (pa_cons (pv 2) pa_nil)))) (pss_one ps_never) pss_nil))))), ?_⟩
    have el := ht.length
    rw [List.length_map] at el
    refine ⟨_, rfl, _, _, _, _, _, rfl, .ty "tuple", .base (.tup ha), kit_ty (r := true) (by decide +kernel), _, rfl, iteF ⟨_, rfl, _, _, rfl, .inr (SqT.of ha), _, _, rfl, rfl, _, rfl, ?_⟩⟩
    have e1 : decide (((as.map V.ref).length : Int) > 6) = false := by
      rw [List.length_map, el]
      exact decide_eq_false (by omega)
    show if decide (((as.map V.ref).length : Int) > 6) = true then _ else _
    rw [e1]
    refine iteF ⟨_, rfl, _, _, rfl, SqT.of ha, for_enumT (K := K) (a := a) (xs := as.map .ref) (fun i σ H' => ∃ v u : Option V, σ = [some (.ref a), v, u] ∧ Same H H') ⟨none, none, rfl, .refl _⟩ (fun i σ H' ⟨v, u, _, h⟩ => SqT.of (h _ _ ha)) ?_ ?_⟩
    · rintro i x t σ H' hi ⟨v, u, rfl, hs⟩ nt
      rw [List.getElem?_map] at hi
      cases ea : as[i]? with
      | none => rw [ea] at hi; cases hi
      | some b =>
        rw [ea] at hi
        cases hi
        obtain ⟨q, hq, hb⟩ := Paired.get ht ea
        rw [List.getElem?_map] at hq
        cases ep : ps[i]? with
        | none => rw [ep] at hq; cases hq
        | some p =>
          rw [ep] at hq
          cases hq
          have hs2 := hs.trans (same_upd (o := .tup [.int (i : Nat), .ref b]) nt)
          refine ⟨_, _, rfl, SqT.of upd_same, rfl, _, _, rfl, _, _, rfl, rfl, _, rfl, b, p, rfl, hs2 _ _ hb, hp p (List.mem_of_getElem? ep), fun H3 h3 => ⟨_, rfl, iteF ⟨_, _, rfl, hs2.trans h3⟩⟩⟩
    · rintro σ H' ⟨v, u, rfl, hs⟩
      exact k H' hs
def sp_pause_steps : Sp := fun vs H Q _ => ∃ (a b : Addr) (ps qs : List Ps), vs = [.ref a, .ref b] ∧ Prg H a ps ∧ Prg H b qs ∧ ps.length ≤ 6 ∧ qs.length ≤ 6 ∧
  ∀ (H' : Hp) (l : Addr) (as : List Addr), Same H H' → H' l = some (.lst (as.map .ref)) → Tups H' as ((pas (ps ++ qs)).map psV) → Q (.ref l) H'
theorem ok_pause_steps (T : Txt K mg A) : FnOk P w K mg base CX0 1 A.f_pause_steps A.d_pause_steps ps_pause_steps sp_pause_steps := by
  refine T.pause_steps.ok sc_pause_steps (fun vs H Q E h => ?_) (fun cdv AR outer sh H vs Q EX hr h => ?_)
  · obtain ⟨a, b, ps, qs, rfl, _⟩ := h
    rfl
  · obtain ⟨a, b, ps, qs, rfl, ⟨as, ha, hta⟩, ⟨bs, hb, htb⟩, hl, hl2, k⟩ := h
    refine ⟨_, (pss_one (ps_ret (pe_lc (own := [("step", 2)]) (g := (gName 2))  rfl sc_pause_steps.nd (pi_tup (pe_tup (StX.pa_star (pv 0) (StX.pa_star (pv 1) pa_nil)))) (blkOk_by (N := ["one", "other", "step"]) (sc := defScope s_pause_steps) (by decide +kernel)) (fun _ _ _ _ _ => (pg_name (i := 2) sc_pause_steps.nd rfl (Or.inl rfl))) (fun _ _ _ _ _ => (pts_one (pt_cmpR op_eq (pe_ix (ix_tupK K rfl) (pv 2) pe_int (fun _ _ => rfl)) pe_str (nomark _)))) (fun _ _ _ _ _ => (pv 2))))), ?_⟩
    have el := hta.length
    have el2 := htb.length
    rw [List.length_map] at el el2
    refine ⟨_, rfl, _, _, rfl, .inl (SqT.of ha), _, rfl, _, _, rfl, .inl (SqT.of hb), ?_⟩
    refine ⟨?_, fun t nt => ⟨_, rfl, ⟨_, SqT.of upd_same⟩, fun D nD => ?_⟩⟩
    · rw [List.append_nil, List.length_append, List.length_map, List.length_map]
      exact Nat.le_trans (show _ ≤ 12 by omega) (by decide)
    have nDt : t ≠ D := ne_of_none (H := upd H t _) upd_same nD
    have s1 : Same H (upd H t (.tup (as.map .ref ++ (bs.map .ref ++ [])))) := same_upd nt
    have ht1 : upd H t (.tup (as.map .ref ++ (bs.map .ref ++ []))) t = some (.tup ((as ++ bs).map .ref)) := by rw [upd_same, List.append_nil, List.map_append]
    have htt : Tups H (as ++ bs) ((ps ++ qs).map psV) := by rw [List.map_append]; exact Paired.app hta htb
    revert s1 ht1 nD
    generalize upd H t _ = H1
    intro nD s1 ht1
    refine lc_tup (K := K) (a := t) (xs := (as ++ bs).map .ref) (fun i H' => Same H1 H' ∧ ∃ cs : List Addr, cs.length ≤ i ∧ H' D = some (.lst (cs.map .ref)) ∧ Tups H1 cs ((pas ((ps ++ qs).take i)).map psV)) ⟨same_upd nD, [], Nat.le_refl _, upd_same, .nil⟩ (fun i H' _ h => SqT.of (h.1 _ _ ht1)) ?_ ?_
    · rintro i x H' hi ⟨hs, cs, hc, hD, ht⟩
      rw [List.getElem?_map] at hi
      cases ea : (as ++ bs)[i]? with
      | none => rw [ea] at hi; cases hi
      | some c =>
        rw [ea] at hi
        cases hi
        obtain ⟨q, hq, hp⟩ := Paired.get htt ea
        rw [List.getElem?_map] at hq
        cases ep : (ps ++ qs)[i]? with
        | none => rw [ep] at hq; cases hq
        | some p =>
          rw [ep] at hq
          cases hq
          have hi' := (List.getElem?_eq_some_iff.mp ep).1
          rw [List.length_append] at hi'
          have et : pas ((ps ++ qs).take (i + 1)) = pas ((ps ++ qs).take i) ++ pas [p] := by unfold pas; rw [List.take_add_one, ep, List.filter_append]; rfl
          cases p with
          | io rd n =>
            refine ⟨rfl, _, rfl, _, _, _, _, rfl, rfl, SqT.of (hs _ _ (s1 _ _ hp)), rfl, rfl, _, rfl, ?_⟩
            have e2 : decide (V.str (rdS rd) = V.str "pause") = false := by cases rd <;> decide +kernel
            show if decide (V.str (rdS rd) = V.str "pause") = true then _ else _
            rw [e2]
            refine iteF ⟨hs, cs, by omega, hD, ?_⟩
            rw [et]
            show Tups H1 cs ((pas ((ps ++ qs).take i) ++ []).map psV)
            rw [List.append_nil]
            exact ht
          | pa a0 b0 =>
            refine ⟨rfl, _, rfl, _, _, _, _, rfl, rfl, SqT.of (hs _ _ (s1 _ _ hp)), rfl, rfl, _, rfl, ?_⟩
            have e2 : decide (V.str "pause" = V.str "pause") = true := decide_eq_true rfl
            show if decide (V.str "pause" = V.str "pause") = true then _ else _
            rw [e2]
            refine iteT ⟨_, rfl, _, hD, ?_, fun b o e => (upd_ne (ne_of_none e nD)).trans (hs _ _ e), cs ++ [c], ?_, by rw [upd_same, List.map_append]; rfl, ?_⟩
            · rw [List.length_map]
              exact Nat.lt_of_le_of_lt (show _ ≤ 12 by omega) (by decide)
            · rw [List.length_append]
              show cs.length + 1 ≤ i + 1
              omega
            · rw [et, List.map_append]
              exact Paired.app ht (.cons (s1 _ _ hp) .nil)
    · rintro H' ⟨hs, cs, _, hD, ht⟩
      rw [List.take_of_length_le (by rw [List.length_map, List.length_append, List.length_append]; omega)] at ht
      exact k H' D cs (s1.trans hs) hD (ht.mono fun _ _ e => hs _ _ e)
/-- the ticks that are given for the pauses -/
def TkOk (ts : List Int) (ps : List Ps) : Prop := Paired (fun (t : Int) (p : Ps) => ∃ a b, p = .pa a b ∧ a ≤ t ∧ t ≤ b) ts ps
def sp_check_pauses : Sp := fun vs H Q _ => ∃ (v a b : Addr) (ts : List Int) (ps qs : List Ps), vs = [.ref v, .ref a, .ref b] ∧ H v = some (.tup (ts.map .int)) ∧ Prg H a ps ∧ Prg H b qs ∧ ps.length ≤ 6 ∧ qs.length ≤ 6 ∧
  TkOk ts (pas (ps ++ qs)) ∧ ∀ H', Same H H' → Q .non H'
theorem ok_check_pauses (T : Txt K mg A) : FnOk P w K mg base CX0 3 A.f_check_pauses A.d_check_pauses ps_check_pauses sp_check_pauses := by
  refine T.check_pauses.ok sc_check_pauses (fun vs H Q E h => ?_) (fun cdv AR outer sh H vs Q EX hr h => ?_)
  · obtain ⟨v, a, b, ts, ps, qs, rfl, _⟩ := h
    rfl
  · obtain ⟨v, a, b, ts, ps, qs, rfl, hv, ha, hb, hl, hl2, ok, k⟩ := h
    refine ⟨_, (pss_cons (ps_set (i := 3) sc_check_pauses.nd rfl (Or.inl rfl) (pe_call (ok_pause_steps T) (hr.mono (by decide)) rfl T.g_pause_steps T.pause_steps.kp T.b_pause_steps .nil pass0 (pa_cons (pv 1) (pa_cons (pv 2) pa_nil))))
      (pss_cons (ps_if (PW.pt (pw_or (pt_not (pt_val (pe_callB call_isi (by rfl) T.n_isinstance (by decide +kernel) (pa_cons (pv 0) (pa_cons (pe_bltn (v := .ty "tuple") rfl T.n_tuple (by decide +kernel) rfl) pa_nil))))) (pw_or1 (pt_cmpR op_ne (pe_callB call_len_seq (by rfl) T.n_len (by decide +kernel) (pa_cons (pv 0) pa_nil)) (pe_callB call_len_seq (by rfl) T.n_len (by decide +kernel) (pa_cons (pv 3) pa_nil)) (nomark _))))) (pss_one ps_never) pss_nil)
      (pss_one (ps_for PassesOwn.never rfl (pi_enumT (by rfl) T.n_enumerate (pa_cons (pv 0) pa_nil)) (pg_tup (by rfl) (pgs_cons (pg_name (i := 4) sc_check_pauses.nd rfl (Or.inl rfl)) (pgs_cons (pg_name (i := 5) sc_check_pauses.nd rfl (Or.inl rfl)) pgs_nil))) (pss_one (ps_if (pt_not (pt_val (pe_call (ok_is_between T) (hr.mono (by decide)) rfl T.g_is_between T.is_between.kp T.b_is_between .nil pass0 (pa_cons (pv 5) (pa_cons (pe_ix ix_tup (pe_ix ix_list (pv 3) (pv 4) (fun _ _ => rfl)) pe_int (fun _ _ => rfl)) (pa_cons (pe_ix ix_tup (pe_ix ix_list (pv 3) (pv 4) (fun _ _ => rfl)) pe_int (fun _ _ => rfl)) pa_nil)))))) (pss_one ps_never) pss_nil)))))), ?_⟩
    have eo := ok.length
    refine ⟨_, rfl, _, rfl, a, b, ps, qs, rfl, ha, hb, hl, hl2, fun H2 l as s2 hL hT => ?_⟩
    have el := hT.length
    rw [List.length_map] at el
    have hv2 := s2 _ _ hv
    refine ⟨_, rfl, _, _, _, _, _, rfl, .ty "tuple", .base (.tup hv2), kit_ty (r := true) (by decide +kernel), _, rfl, iteF ⟨_, rfl, _, _, rfl, .inr (SqT.of hv2), _, rfl, _, _, rfl, .inl (SqL.of hL), rfl, _, rfl, ?_⟩⟩
    have e1 : (!decide (V.int ((ts.map V.int).length : Nat) = V.int ((as.map V.ref).length : Nat))) = false := by
      rw [List.length_map, List.length_map, el, eo, decide_eq_true rfl]
      rfl
    show if (!decide (V.int ((ts.map V.int).length : Nat) = V.int ((as.map V.ref).length : Nat))) = true then _ else _
    rw [e1]
    refine iteF ⟨_, rfl, _, _, rfl, SqT.of hv2, for_enumT (K := K) (a := v) (xs := ts.map .int) (fun i σ H' => ∃ x y : Option V, σ = [some (.ref v), some (.ref a), some (.ref b), some (.ref l), x, y] ∧ Same H2 H') ⟨none, none, rfl, .refl _⟩ (fun i σ H' ⟨x, y, _, h⟩ => SqT.of (h _ _ hv2)) ?_ ?_⟩
    · rintro i x t σ H' hi ⟨x0, y0, rfl, hs⟩ nt
      rw [List.getElem?_map] at hi
      cases et : ts[i]? with
      | none => rw [et] at hi; cases hi
      | some tk =>
        rw [et] at hi
        cases hi
        obtain ⟨q, hq, a0, b0, rfl, h0, h1⟩ := Paired.get ok et
        obtain ⟨c, ec, hc⟩ := Paired.get' hT (show ((pas (ps ++ qs)).map psV)[i]? = some (psV (.pa a0 b0)) by rw [List.getElem?_map, hq]; rfl)
        have hs2 := hs.trans (same_upd (o := .tup [.int (i : Nat), .int tk]) nt)
        have eix : atI (as.map V.ref) ((i : Nat) : Int) = some (V.ref c) := by
          refine atI_nat ?_
          rw [List.getElem?_map, ec]
          rfl
        have hL2 := SqL.of (K := K) (hs2 _ _ hL)
        have hc2 := SqT.of (K := K) (hs2 _ _ hc)
        refine ⟨_, _, rfl, SqT.of upd_same, rfl, _, _, rfl, _, _, rfl, rfl, _, rfl, _, rfl, _, rfl, _, _, _, _, rfl, rfl, hL2, ?_, _, _, _, _, rfl, rfl, hc2, rfl, _, rfl, _, rfl, _, _, _, _, rfl, rfl, hL2, ?_, _, _, _, _, rfl, rfl, hc2, rfl, _, a0, b0, rfl, .inl ⟨tk, rfl, h0, h1, _, rfl, iteF ⟨_, _, rfl, hs2⟩⟩⟩
        · exact eix
        · exact eix
    · rintro σ H' ⟨x0, y0, rfl, hs⟩
      exact k H' (s2.trans hs)
/-- a step as it is run -/
def rsv (x : Int) : List Ps → List Int → List (Wd × Int) × List Int
  | [], ts => ([], ts)
  | .io rd n :: r, ts => ((if rd then Wd.read else Wd.write, n.getD x) :: (rsv x r ts).1, (rsv x r ts).2)
  | .pa _ _ :: r, [] => rsv x r []
  | .pa _ _ :: r, t :: ts => ((Wd.pause, t) :: (rsv x r ts).1, (rsv x r ts).2)
theorem cut_tl (x : V) (xs : List V) : cutV (x :: xs) (some 1) none = xs := by
  unfold cutV
  rw [show HT.sIx (x :: xs).length 0 (some 1) = 1 from (HT.sIx_nat _ 0 1).trans (by rw [List.length_cons]; omega), HT.sIx_none]
  show xs.take ((x :: xs).length - 1) = xs
  exact List.take_of_length_le (by rw [List.length_cons]; omega)
theorem dropC {ps : List Ps} {i : Nat} {p : Ps} (h : ps[i]? = some p) : ps.drop i = p :: ps.drop (i + 1) := by
  obtain ⟨hl, e⟩ := List.getElem?_eq_some_iff.mp h
  rw [List.drop_eq_getElem_cons hl, e]
theorem add_tup {H H' : Hp} {f t : Addr} {cs : List Addr} {l : List (List V)} {q : List V} (hs : Same H H') (nf : H f = none) (hf : H' f = some (.lst (cs.map .ref))) (hT : Tups H' cs l) (nt : H' t = none) :
    Same H (upd (upd H' t (.tup q)) f (.lst (cs.map .ref ++ [.ref t]))) ∧ upd (upd H' t (.tup q)) f (.lst (cs.map .ref ++ [.ref t])) f = some (.lst ((cs ++ [t]).map .ref)) ∧
    Tups (upd (upd H' t (.tup q)) f (.lst (cs.map .ref ++ [.ref t]))) (cs ++ [t]) (l ++ [q]) ∧ ∀ b o, b ≠ f → H' b = some o → upd (upd H' t (.tup q)) f (.lst (cs.map .ref ++ [.ref t])) b = some o := by
  have nft : f ≠ t := ne_of_none hf nt
  have h1 : ∀ b o, b ≠ f → H' b = some o → upd (upd H' t (.tup q)) f (.lst (cs.map .ref ++ [.ref t])) b = some o := fun b o hb e => by
    rw [upd_ne hb, upd_ne (ne_of_none e nt)]
    exact e
  refine ⟨fun b o e => h1 b o (ne_of_none e nf) (hs _ _ e), by rw [upd_same, List.map_append]; rfl, Paired.app (hT.mono fun b xs e => h1 _ _ (fun h => ?_) e) (.cons ?_ .nil), h1⟩
  · rw [h, hf] at e
    cases e
  · show upd (upd H' t (.tup q)) f _ t = _
    rw [upd_ne (Ne.symm nft), upd_same]
def sp_plain_steps : Sp := fun vs H Q _ => ∃ (a tk : Addr) (ps : List Ps) (x : Int) (ts : List Int), vs = [.ref a, .int x, .ref tk] ∧ Prg H a ps ∧ ps.length ≤ 6 ∧ (H tk = some (.lst (ts.map .int)) ∨ H tk = some (.tup (ts.map .int))) ∧
  (pas ps).length ≤ ts.length ∧ ∀ (H' : Hp) (t l r : Addr) (as : List Addr), Same H H' → H l = none → H' t = some (.tup [.ref l, .ref r]) → H' l = some (.lst (as.map .ref)) → Tups H' as ((rsv x ps ts).1.map spV) → H' r = some (.lst ((rsv x ps ts).2.map .int)) → Q (.ref t) H'
theorem ok_plain_steps (T : Txt K mg A) : FnOk P w K mg base CX0 1 A.f_plain_steps A.d_plain_steps ps_plain_steps sp_plain_steps := by
  refine T.plain_steps.ok sc_plain_steps (fun vs H Q E h => ?_) (fun cdv AR outer sh H vs Q EX hr h => ?_)
  · obtain ⟨a, tk, ps, x, ts, rfl, _⟩ := h
    rfl
  · obtain ⟨a, tk, ps, x, ts, rfl, ⟨as, ha, hta⟩, hl, htk, hn, k⟩ := h
    refine ⟨_, (pss_cons (ps_par (i := 3) (j := 4) rfl sc_plain_steps.nd rfl rfl (by decide) rfl rfl (pa_cons (pe_lst pa_nil) (pa_cons (pe_callTy call_list_of (by rfl) T.n_list (by decide +kernel) (pa_cons (pv 2) pa_nil)) pa_nil)) (by rfl))
      (pss_cons (ps_for PassesOwn.never rfl (pi_tup (pv 0)) (pg_name (i := 5) sc_plain_steps.nd rfl (Or.inl rfl)) (pss_one (ps_if (pt_cmpR op_eq (pe_ix ix_tup (pv 5) pe_int (fun _ _ => rfl)) pe_str (nomark _)) (pss_cons (ps_expr (pe_bm PySem.F.plainAttrs_list PySem.F.slot_list_append PySem.F.type_list_append mt_append (pv 3) (pa_cons (pe_tup (pa_cons pe_str (pa_cons (pe_ix ix_list (pv 4) pe_int (fun _ _ => rfl)) pa_nil))) pa_nil)))
      (pss_one (ps_set (i := 4) sc_plain_steps.nd rfl (Or.inl rfl) (pe_slice sl_list (pv 4) (po_some pe_int) po_none)))) (pss_one (ps_expr (pe_bm PySem.F.plainAttrs_list PySem.F.slot_list_append PySem.F.type_list_append mt_append (pv 3) (pa_cons (pe_tup (pa_cons (pe_ix ix_tup (pv 5) pe_int (fun _ _ => rfl)) (pa_cons (pe_ifExp (pt_cmpR op_eq (pe_ix ix_tup (pv 5) pe_int (fun _ _ => rfl)) (pe_glob (v := .str "x") rfl T.g_LETTER ⟨_, rfl⟩) (nomark _)) (pv 1) (pe_ix ix_tup (pv 5) pe_int (fun _ _ => rfl))) pa_nil))) pa_nil)))))))
      (pss_one (ps_ret (pe_tup (pa_cons (pv 3) (pa_cons (pv 4) pa_nil))))))), ?_⟩
    have el := hta.length
    rw [List.length_map] at el
    have hsq : SqL K H tk (ts.map .int) ∨ SqT K H tk (ts.map .int) := htk.imp SqL.of SqT.of
    refine ⟨Nat.zero_le _, fun f nf => ?_⟩
    have sq1 : SqL K (upd H f (.lst [])) tk (ts.map .int) ∨ SqT K (upd H f (.lst [])) tk (ts.map .int) := htk.imp (fun h => SqL.of (same_upd nf _ _ h)) fun h => SqT.of (same_upd nf _ _ h)
    refine ⟨_, rfl, _, _, rfl, sq1, fun g ng => ⟨_, _, rfl, ?_⟩⟩
    have nfg : f ≠ g := ne_of_none (H := upd H f _) upd_same ng
    have ngH : H g = none := by
      rw [upd_ne (Ne.symm nfg)] at ng
      exact ng
    refine ⟨_, rfl, _, rfl, ⟨_, SqT.of (same_upd ng _ _ (same_upd nf _ _ ha))⟩, for_tup (K := K) (a := a) (xs := as.map .ref)
      (fun i σ H' => ∃ (lf : Addr) (v : Option V) (done : List (Wd × Int)) (rem : List Int) (cs : List Addr), σ = [some (.ref a), some (.int x), some (.ref tk), some (.ref f), some (.ref lf), v] ∧ Same H H' ∧
        H' f = some (.lst (cs.map .ref)) ∧ Tups H' cs (done.map spV) ∧ cs.length ≤ i ∧ H' lf = some (.lst (rem.map .int)) ∧ lf ≠ f ∧ (pas (ps.drop i)).length ≤ rem.length ∧
        rsv x ps ts = (done ++ (rsv x (ps.drop i) rem).1, (rsv x (ps.drop i) rem).2))
      ⟨g, none, [], ts, [], rfl, (same_upd nf).trans (same_upd ng), by rw [upd_ne nfg, upd_same]; rfl, .nil, Nat.le_refl _, upd_same, Ne.symm nfg, hn, rfl⟩ (fun i σ H' _ ⟨_, _, _, _, _, _, h, _⟩ => SqT.of (h _ _ ha)) ?_ ?_⟩
    · rintro i y σ H' hi ⟨lf, v, done, rem, cs, rfl, hs, hf, hT, hc, hlf, nlf, hr1, he⟩
      rw [List.getElem?_map] at hi
      cases ea : as[i]? with
      | none => rw [ea] at hi; cases hi
      | some b =>
        rw [ea] at hi
        cases hi
        obtain ⟨q, hq, hb⟩ := Paired.get hta ea
        rw [List.getElem?_map] at hq
        cases ep : ps[i]? with
        | none => rw [ep] at hq; cases hq
        | some p =>
          rw [ep] at hq
          cases hq
          have hi' := (List.getElem?_eq_some_iff.mp ep).1
          have ed := dropC ep
          rw [ed] at hr1 he
          have hcl : (cs.map V.ref).length < sizeLine := by
            rw [List.length_map]
            exact Nat.lt_of_le_of_lt (show _ ≤ 6 by omega) (by decide)
          cases p with
          | pa a0 b0 =>
            refine ⟨_, rfl, _, _, _, _, rfl, rfl, SqT.of (hs _ _ hb), rfl, rfl, _, rfl, ?_⟩
            have e2 : decide (V.str "pause" = V.str "pause") = true := decide_eq_true rfl
            show if decide (V.str "pause" = V.str "pause") = true then _ else _
            rw [e2]
            cases rem with
            | nil => exact absurd hr1 (by show ¬ (pas (ps.drop (i + 1))).length + 1 ≤ 0; omega)
            | cons t0 rem =>
              refine iteT ⟨_, rfl, .inl ⟨rfl, _, SqL.of hf⟩, _, rfl, _, _, _, _, rfl, rfl, SqL.of hlf, atI_nat (j := 0) rfl, by show 2 ≤ sizeLine; decide, fun t nt => ?_⟩
              obtain ⟨c1, c2, c3, c4⟩ := add_tup (q := spV (Wd.pause, t0)) hs nf hf hT nt
              refine ⟨_, _, _, rfl, rfl, (upd_ne (ne_of_none hf nt)).trans hf, hcl, ?_⟩
              have hlf3 := c4 _ _ nlf hlf
              refine ⟨_, rfl, _, rfl, _, _, rfl, SqL.of hlf3, fun p np => ?_⟩
              have npf : p ≠ f := Ne.symm (ne_of_none c2 np)
              refine ⟨p, _, done ++ [(.pause, t0)], rem, cs ++ [t], rfl, c1.trans (same_upd np), (upd_ne (Ne.symm npf)).trans c2, by rw [List.map_append]; exact c3.mono fun _ _ e => same_upd np _ _ e, ?_, ?_, npf, ?_, ?_⟩
              · rw [List.length_append]
                show cs.length + 1 ≤ i + 1
                omega
              · rw [upd_same, List.map_cons, cut_tl]
              · exact Nat.le_of_succ_le_succ hr1
              · rw [he, List.append_assoc]
                rfl
          | io rd n =>
            refine ⟨_, rfl, _, _, _, _, rfl, rfl, SqT.of (hs _ _ hb), rfl, rfl, _, rfl, ?_⟩
            have e2 : decide (V.str (rdS rd) = V.str "pause") = false := by cases rd <;> decide +kernel
            show if decide (V.str (rdS rd) = V.str "pause") = true then _ else _
            rw [e2]
            have fin : ∀ t, H' t = none → Same H (upd (upd H' t (.tup (spV (if rd then Wd.read else Wd.write, n.getD x)))) f (.lst (cs.map .ref ++ [.ref t]))) → ∃ (lf0 : Addr) (v0 : Option V) (done : List (Wd × Int)) (rem : List Int) (cs0 : List Addr), [some (V.ref a), some (.int x), some (.ref tk), some (.ref f), some (.ref lf), some (.ref b)] = [some (V.ref a), some (.int x), some (.ref tk), some (.ref f), some (.ref lf0), v0] ∧
                Same H (upd (upd H' t (.tup [.str (rdS rd), .int (n.getD x)])) f (.lst (cs.map .ref ++ [.ref t]))) ∧
                upd (upd H' t (.tup [.str (rdS rd), .int (n.getD x)])) f (.lst (cs.map .ref ++ [.ref t])) f = some (.lst (cs0.map .ref)) ∧ Tups (upd (upd H' t (.tup [.str (rdS rd), .int (n.getD x)])) f (.lst (cs.map .ref ++ [.ref t]))) cs0 (done.map spV) ∧ cs0.length ≤ i + 1 ∧
                upd (upd H' t (.tup [.str (rdS rd), .int (n.getD x)])) f (.lst (cs.map .ref ++ [.ref t])) lf0 = some (.lst (rem.map .int)) ∧ lf0 ≠ f ∧ (pas (ps.drop (i + 1))).length ≤ rem.length ∧
                rsv x ps ts = (done ++ (rsv x (ps.drop (i + 1)) rem).1, (rsv x (ps.drop (i + 1)) rem).2) := fun t nt c1 => by
              obtain ⟨_, c2, c3, c4⟩ := add_tup (q := spV (if rd then Wd.read else Wd.write, n.getD x)) hs nf hf hT nt
              have eq : spV (if rd then Wd.read else Wd.write, n.getD x) = [.str (rdS rd), .int (n.getD x)] := by cases rd <;> rfl
              rw [← eq]
              refine ⟨lf, _, done ++ [(if rd then Wd.read else Wd.write, n.getD x)], rem, cs ++ [t], rfl, c1, c2, by rw [List.map_append]; exact c3, ?_, c4 _ _ nlf hlf, nlf, hr1, ?_⟩
              · rw [List.length_append]
                show cs.length + 1 ≤ i + 1
                omega
              · rw [he, List.append_assoc]
                rfl
            have c0 : ∀ t, H' t = none → Same H (upd (upd H' t (.tup (spV (if rd then Wd.read else Wd.write, n.getD x)))) f (.lst (cs.map .ref ++ [.ref t]))) := fun t nt => (add_tup hs nf hf hT nt).1
            cases n with
            | none =>
              refine iteF ⟨_, rfl, .inl ⟨rfl, _, SqL.of hf⟩, _, rfl, _, _, _, _, rfl, rfl, SqT.of (hs _ _ hb), rfl, _, rfl, _, _, _, _, rfl, rfl, SqT.of (hs _ _ hb), rfl, rfl, _, rfl, ?_⟩
              show if decide (V.str "x" = V.str "x") = true then _ else _
              rw [decide_eq_true rfl]
              exact iteT ⟨_, rfl, by show 2 ≤ sizeLine; decide, fun t nt => ⟨_, _, _, rfl, rfl, (upd_ne (ne_of_none hf nt)).trans hf, hcl, fin t nt (c0 t nt)⟩⟩
            | some m =>
              refine iteF ⟨_, rfl, .inl ⟨rfl, _, SqL.of hf⟩, _, rfl, _, _, _, _, rfl, rfl, SqT.of (hs _ _ hb), rfl, _, rfl, _, _, _, _, rfl, rfl, SqT.of (hs _ _ hb), rfl, rfl, _, rfl, ?_⟩
              have e3 : decide (V.int m = V.str "x") = false := decide_eq_false fun h => nomatch h
              show if decide (V.int m = V.str "x") = true then _ else _
              rw [e3]
              exact iteF ⟨_, rfl, _, _, _, _, rfl, rfl, SqT.of (hs _ _ hb), rfl, by show 2 ≤ sizeLine; decide, fun t nt => ⟨_, _, _, rfl, rfl, (upd_ne (ne_of_none hf nt)).trans hf, hcl, fin t nt (c0 t nt)⟩⟩
    · rintro σ H' ⟨lf, v, done, rem, cs, rfl, hs, hf, hT, hc, hlf, nlf, hr1, he⟩
      have e0 : ps.drop (as.map V.ref).length = [] := List.drop_eq_nil_of_le (by rw [List.length_map]; omega)
      rw [e0] at he
      have e1 : rsv x ps ts = (done, rem) := by
        rw [he]
        show (done ++ [], rem) = _
        rw [List.append_nil]
      refine ⟨_, rfl, _, rfl, by show 2 ≤ sizeLine; decide, fun t nt => ?_⟩
      refine k _ t f lf cs (hs.trans (same_upd nt)) nf upd_same (same_upd nt _ _ hf) ?_ ?_
      · rw [e1]
        exact hT.mono fun _ _ e => same_upd nt _ _ e
      · rw [e1]
        exact same_upd nt _ _ hlf
def sp_check_run (A : Ads) : Sp := fun vs H Q _ => ∃ (l dl a b : Addr) (fs : List (Str × V)) (ps qs : List Ps), vs = [.ref l, .ref a, .ref b] ∧ H l = some (.ins A.CL dl fs) ∧ Prg H a ps ∧ Prg H b qs ∧ ps.length ≤ 6 ∧ qs.length ≤ 6 ∧ (∀ p ∈ ps, PsOk p) ∧ (∀ p ∈ qs, PsOk p) ∧
  ∀ H', Same H H' → Q .non H'
theorem ok_check_run (T : Txt K mg A) : FnOk P w K mg base CX0 6 A.f_check_run A.d_check_run ps_check_run (sp_check_run A) := by
  refine T.check_run.ok sc_check_run (fun vs H Q E h => ?_) (fun cdv AR outer sh H vs Q EX hr h => ?_)
  · obtain ⟨l, dl, a, b, fs, ps, qs, rfl, _⟩ := h
    rfl
  · obtain ⟨l, dl, a, b, fs, ps, qs, rfl, hL, ha, hb, h1, h2, h3, h4, k⟩ := h
    refine ⟨_, (pss_cons (ps_expr (pe_call (ok_check_line T) (hr.mono (by decide)) rfl T.g_check_line T.check_line.kp T.b_check_line .nil pass0 (pa_cons (pv 0) pa_nil)))
      (pss_cons (ps_expr (pe_call (ok_check_program T) (hr.mono (by decide)) rfl T.g_check_program T.check_program.kp T.b_check_program .nil pass0 (pa_cons (pv 1) pa_nil)))
      (pss_one (ps_expr (pe_call (ok_check_program T) (hr.mono (by decide)) rfl T.g_check_program T.check_program.kp T.b_check_program .nil pass0 (pa_cons (pv 2) pa_nil)))))), ?_⟩
    exact ⟨_, rfl, _, _, _, rfl, hL, _, rfl, a, ps, rfl, ha, h1, h3, fun H2 s2 => ⟨_, rfl, b, qs, rfl, hb.same s2, h2, h4, fun H3 s3 => k H3 (s2.trans s3)⟩⟩
end
end K10

namespace K10
open PySem L2
theorem sz0 : ([] : List V).length ≤ sizeLine := Nat.zero_le _
theorem sz1 (a : V) : [a].length ≤ sizeLine := by show 1 ≤ sizeLine; decide
theorem sz2 (a b : V) : [a, b].length ≤ sizeLine := by show 2 ≤ sizeLine; decide
section
variable {v0 v1 v2 v3 v4 v5 v6 v7 v8 v9 v10 v11 v12 v13 : V}
theorem pF0 : putF "line" v0 ([] : List (Str × V)) = ([("line", v0)] : List (Str × V)) := by rfl
theorem pF1 : putF "settings" v1 ([("line", v0)] : List (Str × V)) = ([("line", v0), ("settings", v1)] : List (Str × V)) := by rfl
theorem pF2 : putF "tick" v2 ([("line", v0), ("settings", v1)] : List (Str × V)) = ([("line", v0), ("settings", v1), ("tick", v2)] : List (Str × V)) := by rfl
theorem pF3 : putF "stock" v3 ([("line", v0), ("settings", v1), ("tick", v2)] : List (Str × V)) = ([("line", v0), ("settings", v1), ("tick", v2), ("stock", v3)] : List (Str × V)) := by rfl
theorem pF4 : putF "out" v4 ([("line", v0), ("settings", v1), ("tick", v2), ("stock", v3)] : List (Str × V)) = ([("line", v0), ("settings", v1), ("tick", v2), ("stock", v3), ("out", v4)] : List (Str × V)) := by rfl
theorem pF5 : putF "known" v5 ([("line", v0), ("settings", v1), ("tick", v2), ("stock", v3), ("out", v4)] : List (Str × V)) = ([("line", v0), ("settings", v1), ("tick", v2), ("stock", v3), ("out", v4), ("known", v5)] : List (Str × V)) := by rfl
theorem pF6 : putF "small" v6 ([("line", v0), ("settings", v1), ("tick", v2), ("stock", v3), ("out", v4), ("known", v5)] : List (Str × V)) = ([("line", v0), ("settings", v1), ("tick", v2), ("stock", v3), ("out", v4), ("known", v5), ("small", v6)] : List (Str × V)) := by rfl
theorem pF7 : putF "come" v7 ([("line", v0), ("settings", v1), ("tick", v2), ("stock", v3), ("out", v4), ("known", v5), ("small", v6)] : List (Str × V)) = ([("line", v0), ("settings", v1), ("tick", v2), ("stock", v3), ("out", v4), ("known", v5), ("small", v6), ("come", v7)] : List (Str × V)) := by rfl
theorem pF8 : putF "taken" v8 ([("line", v0), ("settings", v1), ("tick", v2), ("stock", v3), ("out", v4), ("known", v5), ("small", v6), ("come", v7)] : List (Str × V)) = ([("line", v0), ("settings", v1), ("tick", v2), ("stock", v3), ("out", v4), ("known", v5), ("small", v6), ("come", v7), ("taken", v8)] : List (Str × V)) := by rfl
theorem pF9 : putF "full" v9 ([("line", v0), ("settings", v1), ("tick", v2), ("stock", v3), ("out", v4), ("known", v5), ("small", v6), ("come", v7), ("taken", v8)] : List (Str × V)) = ([("line", v0), ("settings", v1), ("tick", v2), ("stock", v3), ("out", v4), ("known", v5), ("small", v6), ("come", v7), ("taken", v8), ("full", v9)] : List (Str × V)) := by rfl
theorem pF10 : putF "first" v10 ([("line", v0), ("settings", v1), ("tick", v2), ("stock", v3), ("out", v4), ("known", v5), ("small", v6), ("come", v7), ("taken", v8), ("full", v9)] : List (Str × V)) = ([("line", v0), ("settings", v1), ("tick", v2), ("stock", v3), ("out", v4), ("known", v5), ("small", v6), ("come", v7), ("taken", v8), ("full", v9), ("first", v10)] : List (Str × V)) := by rfl
theorem pF11 : putF "long" v11 ([("line", v0), ("settings", v1), ("tick", v2), ("stock", v3), ("out", v4), ("known", v5), ("small", v6), ("come", v7), ("taken", v8), ("full", v9), ("first", v10)] : List (Str × V)) = ([("line", v0), ("settings", v1), ("tick", v2), ("stock", v3), ("out", v4), ("known", v5), ("small", v6), ("come", v7), ("taken", v8), ("full", v9), ("first", v10), ("long", v11)] : List (Str × V)) := by rfl
theorem pF12 : putF "flight" v12 ([("line", v0), ("settings", v1), ("tick", v2), ("stock", v3), ("out", v4), ("known", v5), ("small", v6), ("come", v7), ("taken", v8), ("full", v9), ("first", v10), ("long", v11)] : List (Str × V)) = ([("line", v0), ("settings", v1), ("tick", v2), ("stock", v3), ("out", v4), ("known", v5), ("small", v6), ("come", v7), ("taken", v8), ("full", v9), ("first", v10), ("long", v11), ("flight", v12)] : List (Str × V)) := by rfl
theorem pF13 : putF "log" v13 ([("line", v0), ("settings", v1), ("tick", v2), ("stock", v3), ("out", v4), ("known", v5), ("small", v6), ("come", v7), ("taken", v8), ("full", v9), ("first", v10), ("long", v11), ("flight", v12)] : List (Str × V)) = ([("line", v0), ("settings", v1), ("tick", v2), ("stock", v3), ("out", v4), ("known", v5), ("small", v6), ("come", v7), ("taken", v8), ("full", v9), ("first", v10), ("long", v11), ("flight", v12), ("log", v13)] : List (Str × V)) := by rfl
end
section
variable {v0 v1 v2 v3 v4 v5 : V}
theorem pC0 : putF "steps" v0 ([] : List (Str × V)) = ([("steps", v0)] : List (Str × V)) := by rfl
theorem pC1 : putF "again" v1 ([("steps", v0)] : List (Str × V)) = ([("steps", v0), ("again", v1)] : List (Str × V)) := by rfl
theorem pC2 : putF "place" v2 ([("steps", v0), ("again", v1)] : List (Str × V)) = ([("steps", v0), ("again", v1), ("place", v2)] : List (Str × V)) := by rfl
theorem pC3 : putF "until" v3 ([("steps", v0), ("again", v1), ("place", v2)] : List (Str × V)) = ([("steps", v0), ("again", v1), ("place", v2), ("until", v3)] : List (Str × V)) := by rfl
theorem pC4 : putF "ended" v4 ([("steps", v0), ("again", v1), ("place", v2), ("until", v3)] : List (Str × V)) = ([("steps", v0), ("again", v1), ("place", v2), ("until", v3), ("ended", v4)] : List (Str × V)) := by rfl
theorem pC5 : putF "begun" v5 ([("steps", v0), ("again", v1), ("place", v2), ("until", v3), ("ended", v4)] : List (Str × V)) = ([("steps", v0), ("again", v1), ("place", v2), ("until", v3), ("ended", v4), ("begun", v5)] : List (Str × V)) := by rfl
end
/-- an instance that is being made, with what is laid for it -/
structure Ob (H : Hp) (x C dx : Addr) (H' : Hp) (fs : List (Str × V)) (l : List (Addr × HO)) : Prop where
  hx : H x ≠ none
  at_ : H' x = some (.ins C dx fs)
  fr : ∀ b o, b ≠ x → H b = some o → H' b = some o
  ok : ∀ p ∈ l, H p.1 = none ∧ H' p.1 = some p.2
  nd : (l.map (·.1)).Nodup
section
variable {H H' : Hp} {x C dx : Addr} {fs fs' : List (Str × V)} {l : List (Addr × HO)} {f : Str} {v : V} {p : Addr} {o : HO}
theorem Ob.start (h : H x = some (.ins C dx [])) : Ob H x C dx H [] [] := ⟨by rw [h]; exact nofun, h, fun _ _ _ e => e, nofun, .nil⟩
theorem Ob.put (O : Ob H x C dx H' fs l) (e : putF f v fs = fs') : Ob H x C dx (upd H' x (.ins C dx (putF f v fs))) fs' l :=
  ⟨O.hx, by rw [upd_same, e], fun b o hb h => by rw [upd_ne hb]; exact O.fr b o hb h, fun p hp => ⟨(O.ok p hp).1, by rw [upd_ne (fun h => O.hx (by rw [← h]; exact (O.ok p hp).1))]; exact (O.ok p hp).2⟩, O.nd⟩
theorem Ob.new (O : Ob H x C dx H' fs l) (n : H' p = none) : Ob H x C dx (upd H' p o) fs ((p, o) :: l) := by
  have k := same_upd (o := o) n
  have nx : p ≠ x := fun h => by rw [h, O.at_] at n; cases n
  refine ⟨O.hx, k _ _ O.at_, fun b u hb h => k _ _ (O.fr b u hb h), fun q hq => ?_, ?_⟩
  · rcases List.mem_cons.mp hq with rfl | hq
    · refine ⟨?_, upd_same⟩
      cases e : H p with
      | none => rfl
      | some u => rw [O.fr p u nx e] at n; cases n
    · exact ⟨(O.ok q hq).1, k _ _ (O.ok q hq).2⟩
  · rw [List.map_cons, List.nodup_cons]
    refine ⟨fun h => ?_, O.nd⟩
    obtain ⟨q, hq, e⟩ := List.mem_map.mp h
    have := (O.ok q hq).2
    rw [e, n] at this
    cases this
end
def z2 : HO := .lst [.int 0, .int 0]
section
variable {P : Program} {w : World} {K : PySem.W.Frag} {mg : Str → Option Value} {base : Heap} {A : Ads}
def fsF (line stg stock out known small come taken full first long fl lg : Addr) : List (Str × V) :=
  [("line", .ref line), ("settings", .ref stg), ("tick", .int 0), ("stock", .ref stock), ("out", .ref out), ("known", .ref known), ("small", .ref small), ("come", .ref come), ("taken", .ref taken), ("full", .ref full), ("first", .ref first), ("long", .ref long), ("flight", .ref fl), ("log", .ref lg)]
def sp_F_init (A : Ads) : Sp := fun vs H Q _ => ∃ (x dx line dl n0 n1 tl : Addr) (sz wy : Int), vs = [.ref x, .ref line] ∧ H line = some (.ins A.CL dl (lFs sz wy n0 n1 tl)) ∧ H x = some (.ins A.CF dx []) ∧ line ≠ x ∧
  ∀ (H' : Hp) (stg s0 s1 stock out known small come taken full first long fl lg : Addr), Ob H x A.CF dx H' (fsF line stg stock out known small come taken full first long fl lg)
    [(lg, .lst []), (fl, .lst []), (long, z2), (first, .lst [.non, .non]), (full, z2), (taken, z2), (come, z2), (small, z2), (known, z2), (out, z2), (stock, .lst [.ref s0, .ref s1]), (s1, .lst []), (s0, .lst []), (stg, .tup [.ref n0, .ref n1])] → Q .non H'
theorem ok_F_init (T : Txt K mg A) : FnOk P w K mg base CX0 1 A.f_F_init A.d_F_init ps_F_init (sp_F_init A) := by
  refine T.F_init.ok sc_F_init (fun vs H Q E h => ?_) (fun cdv AR outer sh H0 vs Q EX hr h => ?_)
  · obtain ⟨x, dx, line, dl, n0, n1, tl, sz, wy, rfl, _⟩ := h
    rfl
  · obtain ⟨x, dx, line, dl, n0, n1, tl, sz, wy, rfl, hl, hx, ne, k⟩ := h
    refine ⟨_, (pss_cons (ps_fld (pv 0) (pv 1) rfl)
      (pss_cons (ps_fld (pv 0) (pe_tup (pa_cons (pe_fld (pv 1) rfl) (pa_cons (pe_fld (pv 1) rfl) pa_nil))) rfl)
      (pss_cons (ps_fld (pv 0) pe_int rfl)
      (pss_cons (ps_fld (pv 0) (pe_lst (pa_cons (pe_lst pa_nil) (pa_cons (pe_lst pa_nil) pa_nil))) rfl)
      (pss_cons (ps_fld (pv 0) (pe_lst (pa_cons pe_int (pa_cons pe_int pa_nil))) rfl)
      (pss_cons (ps_fld (pv 0) (pe_lst (pa_cons pe_int (pa_cons pe_int pa_nil))) rfl)
      (pss_cons (ps_fld (pv 0) (pe_lst (pa_cons pe_int (pa_cons pe_int pa_nil))) rfl)
      (pss_cons (ps_fld (pv 0) (pe_lst (pa_cons pe_int (pa_cons pe_int pa_nil))) rfl)
      (pss_cons (ps_fld (pv 0) (pe_lst (pa_cons pe_int (pa_cons pe_int pa_nil))) rfl)
      (pss_cons (ps_fld (pv 0) (pe_lst (pa_cons pe_int (pa_cons pe_int pa_nil))) rfl)
      (pss_cons (ps_fld (pv 0) (pe_lst (pa_cons pe_non (pa_cons pe_non pa_nil))) rfl)
      (pss_cons (ps_fld (pv 0) (pe_lst (pa_cons pe_int (pa_cons pe_int pa_nil))) rfl)
      (pss_cons (ps_fld (pv 0) (pe_lst pa_nil) rfl)
      (pss_one (ps_fld (pv 0) (pe_lst pa_nil) rfl))))))))))))))), ?_⟩
    have O0 := Ob.start hx
    refine ⟨_, rfl,_, rfl, _, _, _, _, rfl, O0.at_, T.cF, T.nF_line, by show 0 < 1000; decide, ?_⟩
    have O1 := O0.put (pF0 (v0 := .ref line))
    revert O1
    generalize upd H0 x _ = H1
    intro O1
    refine ⟨_, rfl, _, _, _, _, _, rfl, O1.fr _ _ ne hl, T.cL, T.nL_near, rfl, _, rfl, _, _, _, _, _, rfl, O1.fr _ _ ne hl, T.cL, T.nL_far, rfl,by first | exact sz2 _ _ | exact sz0 | exact sz1 _, fun a1 nw1 => ⟨_, rfl, _, _, _, _, rfl, (O1.new (o := .tup [.ref n0, .ref n1]) nw1).at_, T.cF, T.nF_settings, by show 1 < 1000; decide, ?_⟩⟩
    have O2 := (O1.new (o := .tup [.ref n0, .ref n1]) nw1).put (pF1 (v1 := .ref a1))
    revert O2
    generalize upd (upd H1 a1 _) x _ = H2
    intro O2
    refine ⟨_, rfl, _, _, _, _, rfl, O2.at_, T.cF, T.nF_tick, by show 2 < 1000; decide, ?_⟩
    have O3 := O2.put (pF2 (v2 := .int 0))
    revert O3
    generalize upd H2 x _ = H3
    intro O3
    refine ⟨by first | exact sz2 _ _ | exact sz0 | exact sz1 _, fun s0 ns0 => ⟨by first | exact sz2 _ _ | exact sz0 | exact sz1 _, fun s1 ns1 => ⟨by first | exact sz2 _ _ | exact sz0 | exact sz1 _, fun a3 nw3 => ⟨_, rfl, _, _, _, _, rfl, ((((O3.new (o := .lst []) ns0).new (o := .lst []) ns1).new (o := .lst [.ref s0, .ref s1]) nw3)).at_, T.cF, T.nF_stock, by show 3 < 1000; decide, ?_⟩⟩⟩⟩
    have O4 := (((O3.new (o := .lst []) ns0).new (o := .lst []) ns1).new (o := .lst [.ref s0, .ref s1]) nw3).put (pF3 (v3 := .ref a3))
    revert O4
    generalize upd (upd (upd (upd H3 s0 _) s1 _) a3 _) x _ = H4
    intro O4
    refine ⟨by first | exact sz2 _ _ | exact sz0 | exact sz1 _, fun a4 nw4 => ⟨_, rfl, _, _, _, _, rfl, (O4.new (o := .lst [.int 0, .int 0]) nw4).at_, T.cF, T.nF_out, by show 4 < 1000; decide, ?_⟩⟩
    have O5 := (O4.new (o := .lst [.int 0, .int 0]) nw4).put (pF4 (v4 := .ref a4))
    revert O5
    generalize upd (upd H4 a4 _) x _ = H5
    intro O5
    refine ⟨by first | exact sz2 _ _ | exact sz0 | exact sz1 _, fun a5 nw5 => ⟨_, rfl, _, _, _, _, rfl, (O5.new (o := .lst [.int 0, .int 0]) nw5).at_, T.cF, T.nF_known, by show 5 < 1000; decide, ?_⟩⟩
    have O6 := (O5.new (o := .lst [.int 0, .int 0]) nw5).put (pF5 (v5 := .ref a5))
    revert O6
    generalize upd (upd H5 a5 _) x _ = H6
    intro O6
    refine ⟨by first | exact sz2 _ _ | exact sz0 | exact sz1 _, fun a6 nw6 => ⟨_, rfl, _, _, _, _, rfl, (O6.new (o := .lst [.int 0, .int 0]) nw6).at_, T.cF, T.nF_small, by show 6 < 1000; decide, ?_⟩⟩
    have O7 := (O6.new (o := .lst [.int 0, .int 0]) nw6).put (pF6 (v6 := .ref a6))
    revert O7
    generalize upd (upd H6 a6 _) x _ = H7
    intro O7
    refine ⟨by first | exact sz2 _ _ | exact sz0 | exact sz1 _, fun a7 nw7 => ⟨_, rfl, _, _, _, _, rfl, (O7.new (o := .lst [.int 0, .int 0]) nw7).at_, T.cF, T.nF_come, by show 7 < 1000; decide, ?_⟩⟩
    have O8 := (O7.new (o := .lst [.int 0, .int 0]) nw7).put (pF7 (v7 := .ref a7))
    revert O8
    generalize upd (upd H7 a7 _) x _ = H8
    intro O8
    refine ⟨by first | exact sz2 _ _ | exact sz0 | exact sz1 _, fun a8 nw8 => ⟨_, rfl, _, _, _, _, rfl, (O8.new (o := .lst [.int 0, .int 0]) nw8).at_, T.cF, T.nF_taken, by show 8 < 1000; decide, ?_⟩⟩
    have O9 := (O8.new (o := .lst [.int 0, .int 0]) nw8).put (pF8 (v8 := .ref a8))
    revert O9
    generalize upd (upd H8 a8 _) x _ = H9
    intro O9
    refine ⟨by first | exact sz2 _ _ | exact sz0 | exact sz1 _, fun a9 nw9 => ⟨_, rfl, _, _, _, _, rfl, (O9.new (o := .lst [.int 0, .int 0]) nw9).at_, T.cF, T.nF_full, by show 9 < 1000; decide, ?_⟩⟩
    have O10 := (O9.new (o := .lst [.int 0, .int 0]) nw9).put (pF9 (v9 := .ref a9))
    revert O10
    generalize upd (upd H9 a9 _) x _ = H10
    intro O10
    refine ⟨by first | exact sz2 _ _ | exact sz0 | exact sz1 _, fun a10 nw10 => ⟨_, rfl, _, _, _, _, rfl, (O10.new (o := .lst [.non, .non]) nw10).at_, T.cF, T.nF_first, by show 10 < 1000; decide, ?_⟩⟩
    have O11 := (O10.new (o := .lst [.non, .non]) nw10).put (pF10 (v10 := .ref a10))
    revert O11
    generalize upd (upd H10 a10 _) x _ = H11
    intro O11
    refine ⟨by first | exact sz2 _ _ | exact sz0 | exact sz1 _, fun a11 nw11 => ⟨_, rfl, _, _, _, _, rfl, (O11.new (o := .lst [.int 0, .int 0]) nw11).at_, T.cF, T.nF_long, by show 11 < 1000; decide, ?_⟩⟩
    have O12 := (O11.new (o := .lst [.int 0, .int 0]) nw11).put (pF11 (v11 := .ref a11))
    revert O12
    generalize upd (upd H11 a11 _) x _ = H12
    intro O12
    refine ⟨by first | exact sz2 _ _ | exact sz0 | exact sz1 _, fun a12 nw12 => ⟨_, rfl, _, _, _, _, rfl, (O12.new (o := .lst []) nw12).at_, T.cF, T.nF_flight, by show 12 < 1000; decide, ?_⟩⟩
    have O13 := (O12.new (o := .lst []) nw12).put (pF12 (v12 := .ref a12))
    revert O13
    generalize upd (upd H12 a12 _) x _ = H13
    intro O13
    refine ⟨by first | exact sz2 _ _ | exact sz0 | exact sz1 _, fun a13 nw13 => ⟨_, rfl, _, _, _, _, rfl, (O13.new (o := .lst []) nw13).at_, T.cF, T.nF_log, by show 13 < 1000; decide, ?_⟩⟩
    have O14 := (O13.new (o := .lst []) nw13).put (pF13 (v13 := .ref a13))
    revert O14
    generalize upd (upd H13 a13 _) x _ = H14
    intro O14
    exact k _ _ _ _ _ _ _ _ _ _ _ _ _ _ _ O14
def fsC (stp bg : Addr) (e : Option Int) : List (Str × V) := [("steps", .ref stp), ("again", .bl false), ("place", .int 0), ("until", .non), ("ended", oI e), ("begun", .ref bg)]
def sp_C_init (A : Ads) : Sp := fun vs H Q _ => ∃ (x dx stp : Addr) (as : List V), vs = [.ref x, .ref stp, .bl false] ∧ H stp = some (.lst as) ∧ H x = some (.ins A.CC dx []) ∧
  ∀ (H' : Hp) (bg : Addr), Ob H x A.CC dx H' (fsC stp bg (if as.length = 0 then some 0 else none)) [(bg, .lst [.int 0])] → Q .non H'
theorem ok_C_init (T : Txt K mg A) : FnOk P w K mg base CX0 1 A.f_C_init A.d_C_init ps_C_init (sp_C_init A) := by
  refine T.C_init.ok sc_C_init (fun vs H Q E h => ?_) (fun cdv AR outer sh H0 vs Q EX hr h => ?_)
  · obtain ⟨x, dx, stp, as, rfl, _⟩ := h
    rfl
  · obtain ⟨x, dx, stp, as, rfl, hs, hx, k⟩ := h
    refine ⟨_, (pss_cons (ps_fld (pv 0) (pv 1) rfl)
      (pss_cons (ps_fld (pv 0) (pv 2) rfl)
      (pss_cons (ps_fld (pv 0) pe_int rfl)
      (pss_cons (ps_fld (pv 0) pe_non rfl)
      (pss_cons (ps_fld (pv 0) (pe_ifExp (pt_cmpR op_eq (pe_callB call_len_seq (by rfl) T.n_len (by decide +kernel) (pa_cons (pv 1) pa_nil)) pe_int (nomark _)) pe_int pe_non) rfl)
      (pss_one (ps_fld (pv 0) (pe_lst (pa_cons pe_int pa_nil)) rfl))))))), ?_⟩
    have ne : stp ≠ x := fun h => by rw [h, hx] at hs; cases hs
    have O0 := Ob.start hx
    refine ⟨_, rfl,_, rfl, _, _, _, _, rfl, O0.at_, T.cC, T.nC_steps, by show 0 < 1000; decide, ?_⟩
    have O1 := O0.put (pC0 (v0 := .ref stp))
    revert O1
    generalize upd H0 x _ = H1
    intro O1
    refine ⟨_, rfl,_, rfl, _, _, _, _, rfl, O1.at_, T.cC, T.nC_again, by show 1 < 1000; decide, ?_⟩
    have O2 := O1.put (pC1 (v1 := .bl false))
    revert O2
    generalize upd H1 x _ = H2
    intro O2
    refine ⟨_, rfl, _, _, _, _, rfl, O2.at_, T.cC, T.nC_place, by show 2 < 1000; decide, ?_⟩
    have O3 := O2.put (pC2 (v2 := .int 0))
    revert O3
    generalize upd H2 x _ = H3
    intro O3
    refine ⟨_, rfl, _, _, _, _, rfl, O3.at_, T.cC, T.nC_until, by show 3 < 1000; decide, ?_⟩
    have O4 := O3.put (pC3 (v3 := .non))
    revert O4
    generalize upd H3 x _ = H4
    intro O4
    refine ⟨_, rfl, _, _, rfl, .inl (SqL.of (O4.fr _ _ ne hs)), rfl, _, rfl, ?_⟩
    have k2 : ∀ (H5 : Hp), Ob H0 x A.CC dx H5 [("steps", .ref stp), ("again", .bl false), ("place", .int 0), ("until", .non), ("ended", oI (if as.length = 0 then some 0 else none))] [] → sFld K (tVar 0) (tLst (tCons (tC (V.int 0)) tNil)) "begun" { nx := fun x H' => Q V.non H', rt := Q } (L2.start ["self", "steps", "again"] [V.ref x, V.ref stp, V.bl false]) H5 := fun H5 O5 => by
      refine ⟨by first | exact sz2 _ _ | exact sz0 | exact sz1 _, fun bg nb => ⟨_, rfl, _, _, _, _, rfl, (O5.new (o := .lst [.int 0]) nb).at_, T.cC, T.nC_begun, by show 5 < 1000; decide, ?_⟩⟩
      exact k _ bg ((O5.new (o := .lst [.int 0]) nb).put (pC5 (v5 := .ref bg)))
    by_cases h0 : as.length = 0
    · rw [if_pos h0] at k2
      rw [show decide (V.int (as.length : Nat) = V.int 0) = true by rw [h0]; rfl]
      exact iteT ⟨_, rfl, _, _, _, _, rfl, O4.at_, T.cC, T.nC_ended, by show 4 < 1000; decide, k2 _ (O4.put (pC4 (v4 := .int 0)))⟩
    · rw [if_neg h0] at k2
      rw [show decide (V.int (as.length : Nat) = V.int 0) = false from decide_eq_false fun h => h0 (by injection h with h; omega)]
      exact iteF ⟨_, rfl, _, _, _, _, rfl, O4.at_, T.cC, T.nC_ended, by show 4 < 1000; decide, k2 _ (O4.put (pC4 (v4 := .non)))⟩
end
end K10

namespace K10
open PySem L2 LamX
/-- the name of the code object of the key -/
def lamQ : Str := (PyProof.Rows.envOfC "Run.__init__" (defScope s_R_init) 0 0 (.ref 0)).qual ++ "<lambda>"
def noT (H : Hp) : Hp := fun b => match H b with
  | some (.tbl _) => none
  | o => o
theorem noT_some {H : Hp} {b : Addr} {o : HO} (h : H b = some o) (n : ∀ ps, o ≠ .tbl ps) : noT H b = some o := by
  unfold noT
  rw [h]
  cases o <;> first | rfl | exact absurd rfl (n _)
theorem noT_none {H : Hp} {b : Addr} (h : H b = none) : noT H b = none := by
  unfold noT
  rw [h]
theorem noT_to {H : Hp} {b : Addr} {o : HO} (h : noT H b = some o) : H b = some o ∧ ∀ ps, o ≠ .tbl ps := by
  unfold noT at h
  split at h
  · cases h
  · rename_i h2
    refine ⟨h, fun ps e => ?_⟩
    rw [e] at h
    exact h2 ps h
theorem noT_tbl (H : Hp) (b : Addr) (ps : Array Value) : noT H b ≠ some (.tbl ps) := fun h => (noT_to h).2 ps rfl
section
variable {A : Ads} {E : En A} {H0 H H' : Hp} {g : Gh} {T : Int} {S : S2} {C : C2} {x dx : Addr}
theorem ob_tbl {l : Lc} {ps : Array Value} : ob E g T S C l ≠ .tbl ps := by
  cases l <;> exact fun h => nomatch h
theorem Cst.noT (c : Cst E H0) : Cst E (K10.noT H0) := ⟨noT_some c.line nofun, noT_some c.stg nofun, fun b => noT_some (c.nr b) nofun, fun b => noT_some (c.stp b) nofun, fun b => (c.sta b).mono fun _ _ e => noT_some e nofun⟩
theorem Sys.noT (Y : Sys E H0 g H T S C) : Sys E (K10.noT H0) g H T S C :=
  ⟨Y.at_, Y.fl, Y.tfl, Y.tlg, Y.tst, Y.pfl, Y.plg, fun b o e => Y.same b o (noT_to e).1, fun l => noT_none (Y.new l), noT_none Y.nfa, Y.fne, Y.cst.noT⟩
/-- x is not of the two sides' things -/
structure Off (E : En A) (H0 : Hp) (g : Gh) (H : Hp) (x : Addr) : Prop where
  b : H0 x = none
  fa : x ≠ g.fa
  f : ∀ l, x ≠ E.f l
  t : ∀ xs, H x ≠ some (.tup xs)
theorem Sys.fr (Y : Sys E H0 g H T S C) (hn : ∀ b ps, H0 b ≠ some (.tbl ps)) (o : Off E H0 g H x) (f : FrN x H H') : Sys E H0 g H' T S C := by
  have ft : ∀ a xs, H a = some (.tup xs) → H' a = some (.tup xs) := fun a xs e => f a _ (fun h => o.t xs (h ▸ e)) e nofun
  exact ⟨fun l => f _ _ (Ne.symm (o.f l)) (Y.at_ l) fun ps => ob_tbl, f _ _ (Ne.symm o.fa) Y.fl nofun, Y.tfl.mono ft, Y.tlg.mono ft, fun b => (Y.tst b).mono ft, Y.pfl, Y.plg,
    fun b u e => f b u (fun h => by rw [h, o.b] at e; cases e) (Y.same b u e) (fun ps h => hn b ps (h ▸ e)), Y.new, Y.nfa, Y.fne, Y.cst⟩
structure ObR (A : Ads) (H : Hp) (x dx : Addr) (H' : Hp) (fs : List (Str × V)) (l : List (Addr × HO)) : Prop where
  at_ : H' x = some (.ins A.CR dx fs)
  fr : FrN x H H'
  tab : TabS H' A.p_R lamQ
  ok : ∀ p ∈ l, H' p.1 = some p.2 ∧ p.1 ≠ x ∧ ∀ ps, p.2 ≠ .tbl ps
variable {fs fs' : List (Str × V)} {H2 : Hp} {l : List (Addr × HO)} {f : Str} {v : V} {p : Addr} {o : HO}
theorem FrN.trans {H1 H2 : Hp} (f : FrN x H H1) (e : FrN x H1 H2) : FrN x H H2 := fun b o hb h n => e b o hb (f b o hb h n) n
theorem ObR.at (O : ObR A H x dx H' fs l) (e : H' = H2) : ObR A H x dx H2 fs l := e ▸ O
theorem ObR.put (O : ObR A H x dx H' fs l) (e : putF f v fs = fs') : ObR A H x dx (upd H' x (.ins A.CR dx (putF f v fs))) fs' l :=
  ⟨by rw [upd_same, e], O.fr.upd, TabS.upd O.tab O.at_ nofun (by unfold CodeO; exact nofun), fun p hp => ⟨(upd_ne (O.ok p hp).2.1).trans (O.ok p hp).1, (O.ok p hp).2⟩⟩
theorem ObR.extN (O : ObR A H x dx H' fs l) (e : ExtN H' H2) (t : TabS H2 A.p_R lamQ) : ObR A H x dx H2 fs l :=
  ⟨e _ _ O.at_ nofun, O.fr.ext e, t, fun p hp => ⟨e _ _ (O.ok p hp).1 (O.ok p hp).2.2, (O.ok p hp).2⟩⟩
theorem ObR.ext (O : ObR A H x dx H' fs l) (e : Same H' H2) : ObR A H x dx H2 fs l := O.extN (ExtN.of e) (O.tab.ext e)
theorem ObR.new (O : ObR A H x dx H' fs l) (n : H' p = none) (h : ∀ ps, o ≠ .tbl ps) : ObR A H x dx (upd H' p o) fs ((p, o) :: l) := by
  have nx : p ≠ x := fun h => by rw [h, O.at_] at n; cases n
  have O2 := O.ext (same_upd (o := o) n)
  refine ⟨O2.at_, O2.fr, O2.tab, fun q hq => ?_⟩
  rcases List.mem_cons.mp hq with rfl | hq
  · exact ⟨upd_same, nx, h⟩
  · exact O2.ok q hq
end
section
variable {v0 v1 v2 v3 v4 v5 v6 v7 : V}
theorem pR0 : putF "ends" v0 ([] : List (Str × V)) = ([("ends", v0)] : List (Str × V)) := by rfl
theorem pR1 : putF "stuck" v1 ([("ends", v0)] : List (Str × V)) = ([("ends", v0), ("stuck", v1)] : List (Str × V)) := by rfl
theorem pR2 : putF "pieces" v2 ([("ends", v0), ("stuck", v1)] : List (Str × V)) = ([("ends", v0), ("stuck", v1), ("pieces", v2)] : List (Str × V)) := by rfl
theorem pR3 : putF "answers" v3 ([("ends", v0), ("stuck", v1), ("pieces", v2)] : List (Str × V)) = ([("ends", v0), ("stuck", v1), ("pieces", v2), ("answers", v3)] : List (Str × V)) := by rfl
theorem pR4 : putF "held" v4 ([("ends", v0), ("stuck", v1), ("pieces", v2), ("answers", v3)] : List (Str × V)) = ([("ends", v0), ("stuck", v1), ("pieces", v2), ("answers", v3), ("held", v4)] : List (Str × V)) := by rfl
theorem pR5 : putF "unread" v5 ([("ends", v0), ("stuck", v1), ("pieces", v2), ("answers", v3), ("held", v4)] : List (Str × V)) = ([("ends", v0), ("stuck", v1), ("pieces", v2), ("answers", v3), ("held", v4), ("unread", v5)] : List (Str × V)) := by rfl
theorem pR6 : putF "quiet" v6 ([("ends", v0), ("stuck", v1), ("pieces", v2), ("answers", v3), ("held", v4), ("unread", v5)] : List (Str × V)) = ([("ends", v0), ("stuck", v1), ("pieces", v2), ("answers", v3), ("held", v4), ("unread", v5), ("quiet", v6)] : List (Str × V)) := by rfl
theorem pR7 : putF "all" v7 ([("ends", v0), ("stuck", v1), ("pieces", v2), ("answers", v3), ("held", v4), ("unread", v5), ("quiet", v6)] : List (Str × V)) = ([("ends", v0), ("stuck", v1), ("pieces", v2), ("answers", v3), ("held", v4), ("unread", v5), ("quiet", v6), ("all", v7)] : List (Str × V)) := by rfl
end
theorem side_dec (a b : Bool) : decide (V.int (sdI a) = V.int (sdI b)) = (a == b) := by cases a <;> cases b <;> rfl
/-- one for each piece of a side that has no bytes -/
def an1 (s : Bool) (l : List Pc) : List Int := (l.filter fun p => (p.2.1 == s) && decide (p.2.2.1 = 0)).map fun _ => 1
def ansR (s : Bool) (l : List Pc) : Int := (an1 s l).sum
def rFs (en : Addr) (st : Bool) (pc an he un : Addr) (qu : Int) (al : Addr) : List (Str × V) :=
  [("ends", .ref en), ("stuck", .bl st), ("pieces", .ref pc), ("answers", .ref an), ("held", .ref he), ("unread", .ref un), ("quiet", .int qu), ("all", .ref al)]
def endsV (C : C2) : List V := l2 fun b => oI (C b).ended
section
variable {P : Program} {w : World} {K : PySem.W.Frag} {mg : Str → Option Value} {base : Heap} {A : Ads}
def sp_R_init (A : Ads) : Sp := fun vs H Q _ => ∃ (E : En A) (H0 : Hp) (g : Gh) (T : Int) (S : S2) (C : C2) (x dx ct : Addr), vs = [.ref x, .ref (E.f .flow), .ref ct] ∧ Sys E H0 g H T S C ∧ (∀ b, Sm (S b)) ∧ H0 ct = some (.tup (l2 fun b => .ref (E.f (.co b)))) ∧
  H x = some (.ins A.CR dx []) ∧ Off E H0 g H x ∧ TabS H A.p_R lamQ ∧
  ∀ (H' : Hp) (en pc an he un al : Addr) (bs : List Addr) (qu : Int), (qu ∈ (0 : Int) :: g.lp.map (fun p => p.1 + E.cf.wy)) → (∀ y ∈ (0 : Int) :: g.lp.map (fun p => p.1 + E.cf.wy), y ≤ qu) →
    ObR A H x dx H' (rFs en (inV .non (endsV C)) pc an he un qu al)
      [(un, .tup (l2 fun b => .int ((S b).come - (S b).taken))), (he, .tup (l2 fun b => .int (S b).long)), (an, .tup (l2 fun b => .int (ansR b g.lp))), (pc, .tup (bs.map .ref)), (en, .tup (endsV C))] →
    Tups H' bs ((g.lp.mergeSort leP).map pcV) → Q .non H'
theorem ok_R_init (T : Txt K mg A) (TB : TabB base mg A.c_R A.p_R) : FnOk P w K mg base CX0 2 A.f_R_init A.d_R_init ps_R_init (sp_R_init A) := by
  refine T.R_at.ok sc_R_init (fun vs H Q E h => ?_) (fun AR outer sh H vs Q EX hr h => ?_)
  · obtain ⟨E, H0, g, U, S, C, x, dx, ct, rfl, _⟩ := h
    rfl
  · obtain ⟨E, H0, g, U, S, C, x, dx, ct, rfl, Y0, hS, hct, hx, off, tb, k⟩ := h
    refine ⟨_, (pss_cons (ps_fld (pv 0) (pe_callTy call_tuple_of (by rfl) T.n_tuple (by decide +kernel) (pa_cons (pe_lc (own := [("course", 3)]) (g := (gName 3))  rfl sc_R_init.nd (pi_tup (pv 2)) (blkOk_by (N := ["self", "flow", "courses", "course", "side", "piece"]) (sc := defScope s_R_init) (by decide +kernel)) (fun _ _ _ _ _ => (pg_name (i := 3) sc_R_init.nd rfl (Or.inl rfl))) (fun _ _ _ _ _ => pts_nil) (fun _ _ _ _ _ => (pe_fldK K rfl (pv 3) rfl))) pa_nil)) rfl)
      (pss_cons (ps_fld (pv 0) (pe_cmpR op_in_seq pe_non (pe_fld (pv 0) rfl) rfl) rfl)
      (pss_cons (ps_fld (pv 0) (pe_callTy call_tuple_of (by rfl) T.n_tuple (by decide +kernel) (pa_cons (pe_sortKey TB rfl hr (by rfl) T.n_sorted (pe_fld (pv 1) rfl) rfl rfl rfl rfl rfl (by decide +kernel) rfl (fun _ _ _ _ _ _ => rfl)) pa_nil)) rfl)
      (pss_cons (ps_fld (pv 0) (pe_callTy call_tuple_of (by rfl) T.n_tuple (by decide +kernel) (pa_cons (pe_lc (own := [("side", 4)]) (g := (gName 4))  rfl sc_R_init.nd (pi_tup (pe_tup (pa_cons pe_int (pa_cons pe_int pa_nil)))) (blkOk_by (N := ["self", "flow", "courses", "course", "side", "piece"]) (sc := defScope s_R_init) (by decide +kernel)) (fun _ _ _ _ _ => (pg_name (i := 4) sc_R_init.nd rfl (Or.inr rfl))) (fun _ _ _ _ _ => pts_nil) (fun _ _ _ _ _ => (pe_callB (cr_sumK K rfl rfl) (by rfl) T.n_sum (by decide +kernel) (pa_cons (pe_lc (own := [("piece", 5)]) (g := (gName 5))  rfl sc_R_init.nd (pi_listK K rfl (pe_fldK K rfl (pv 1) rfl)) (blkOk_by (N := ["self", "flow", "courses", "course", "side", "piece"]) (sc := _) (by rfl)) (fun _ _ _ _ _ => (pg_name (i := 5) sc_R_init.nd rfl (Or.inl rfl))) (fun _ _ _ _ _ => (pts_one (PW.pt (pw_and (pt_cmpR op_eq (pe_ix (ix_tupK K rfl) (pv 5) pe_int (fun _ _ => rfl)) (pv 4) (nomark _)) (pw_and1 (pt_cmpR op_eq (pe_ix (ix_tupK K rfl) (pv 5) pe_int (fun _ _ => rfl)) pe_int (nomark _))))))) (fun _ _ _ _ _ => pe_int)) pa_nil)))) pa_nil)) rfl)
      (pss_cons (ps_fld (pv 0) (pe_callTy call_tuple_of (by rfl) T.n_tuple (by decide +kernel) (pa_cons (pe_fld (pv 1) rfl) pa_nil)) rfl)
      (pss_cons (ps_fld (pv 0) (pe_tup (pa_cons (pe_meth (pv 1) T.cF T.m_F_fresh (ok_F_fresh T) (hr.mono (by decide)) T.b_F_fresh .nil pass0 (pa_cons pe_int pa_nil)) (pa_cons (pe_meth (pv 1) T.cF T.m_F_fresh (ok_F_fresh T) (hr.mono (by decide)) T.b_F_fresh .nil pass0 (pa_cons pe_int pa_nil)) pa_nil))) rfl)
      (pss_cons (ps_fld (pv 0) (pe_callB (cr_max rfl) (by rfl) T.n_max (by decide +kernel) (pa_cons (pe_lst (pa_cons pe_int (StX.pa_star (pe_lc (own := [("piece", 5)]) (g := (gName 5))  rfl sc_R_init.nd (pi_list (pe_fld (pv 1) rfl)) (blkOk_by (N := ["self", "flow", "courses", "course", "side", "piece"]) (sc := defScope s_R_init) (by decide +kernel)) (fun _ _ _ _ _ => (pg_name (i := 5) sc_R_init.nd rfl (Or.inl rfl))) (fun _ _ _ _ _ => pts_nil) (fun _ _ _ _ _ => (pe_op op_add (pe_ix (ix_tupK K rfl) (pv 5) pe_int (fun _ _ => rfl)) (pe_fldK K rfl (pe_fldK K rfl (pv 1) rfl) rfl)))) pa_nil))) pa_nil)) rfl)
      (pss_one (ps_fld (pv 0) (pe_tup (pa_cons (pe_fld (pv 0) rfl) (pa_cons (pe_fld (pv 0) rfl) (pa_cons (pe_fld (pv 0) rfl) (pa_cons (pe_fld (pv 0) rfl) (pa_cons (pe_fld (pv 0) rfl) pa_nil)))))) rfl))))))))), ?_⟩
    have Y := Y0.noT
    have offT : Off E (noT H0) g H x := ⟨noT_none off.b, off.fa, off.f, off.t⟩
    have hct := noT_some hct nofun
    have YS : ∀ {H'}, FrN x H H' → Sys E (noT H0) g H' U S C := fun f => Y.fr (noT_tbl H0) offT f
    have O0 : ObR A H x dx H [] [] := ⟨hx, .refl x H, tb, nofun⟩
    have hll : g.lp.length ≤ 800000 := by
      have e := Y.tlg.length
      rw [List.length_map] at e
      have h0 := (hS false).lg
      have h1 := (hS true).lg
      rw [← e, Y.lgLen]
      omega
    refine ⟨_, rfl, _, rfl, ⟨_, SqT.of (Y.same _ _ hct)⟩, fun D nD => lc_tup (K := K) (a := ct) (xs := l2 fun b => .ref (E.f (.co b))) (fun i H' => Same H H' ∧ H' D = some (.lst ((endsV C).take i))) ⟨same_upd nD, upd_same⟩ (fun i H' _ h => SqT.of (h.1 _ _ (Y.same _ _ hct))) ?_ ?_⟩
    · rintro i y H' hi ⟨hs, hD⟩
      obtain ⟨s, rfl, rfl⟩ := l2_item hi
      refine ⟨rfl, _, rfl, _, _, _, _, _, rfl, hs _ _ (Y.at_ (.co s)), T.cC, T.nC_ended, lkC_ended _ _ _, _, hD, ?_, fun b o e => (upd_ne (ne_of_none e nD)).trans (hs _ _ e), ?_⟩
      · cases s <;> exact line_of (show _ ≤ 1000000 from Nat.le_trans (List.length_take_le _ _) (by decide))
      · rw [upd_same]
        cases s <;> rfl
    rintro HA ⟨sA, hDA⟩
    refine ⟨_, _, rfl, .inl ⟨SqL.of hDA, fun en nen => ⟨_, rfl, _, _, _, _, rfl, ((O0.ext sA).new (o := .tup (endsV C)) nen nofun).at_, T.cR, T.nR_ends, by show 0 < 1000; decide, ?_⟩⟩⟩
    generalize hB : upd _ x _ = HB
    have O1 := (((O0.ext sA).new (o := .tup (endsV C)) nen nofun).put (pR0 (v0 := .ref en))).at hB
    clear hB
    have fe : (endsV C).all flatV = true := by
      show (flatV (oI (C false).ended) && (flatV (oI (C true).ended) && true)) = true
      cases (C false).ended <;> cases (C true).ended <;> rfl
    refine ⟨_, rfl, _, _, _, _, _, rfl, O1.at_, T.cR, T.nR_ends, rfl, _, _, rfl, .inr (SqT.of (O1.ok (en, _) (by simp)).1), rfl, fe, _, rfl, _, _, _, _, rfl, O1.at_, T.cR, T.nR_stuck, by show 1 < 1000; decide, ?_⟩
    generalize hC : upd _ x _ = HC
    have O2 := (O1.put (pR1 (v1 := .bl (inV .non (endsV C))))).at hC
    clear hC
    have Y2 := YS O2.fr
    refine ⟨_, rfl, _, _, _, _, _, rfl, Y2.at_ .flow, T.cF, T.nF_log, lkF_log _ _ _, _, g.lg, g.lp, rfl, SqL.of (Y2.at_ .log), Y2.tlg, O2.tab, fun HD0 D bs ex tbD hD hbs => ⟨_, _, rfl, .inl ⟨SqL.of hD, fun pc npc => ⟨_, rfl, _, _, _, _, rfl, ((O2.extN ex tbD).new (o := .tup (bs.map .ref)) npc nofun).at_, T.cR, T.nR_pieces, by show 2 < 1000; decide, ?_⟩⟩⟩⟩
    generalize hE : upd _ x _ = HE
    have O3 := (((O2.extN ex tbD).new (o := .tup (bs.map .ref)) npc nofun).put (pR2 (v2 := .ref pc))).at hE
    have hbE : Tups HE bs ((g.lp.mergeSort leP).map pcV) := by
      rw [← hE]
      exact hbs.mono fun b xs e => tup_upd ((same_upd npc) _ _ (ex _ _ O2.at_ nofun)) nofun (same_upd npc _ _ e)
    clear hE
    have Y3 := YS O3.fr
    have off3 : Off E (noT H0) g HE x := ⟨offT.b, offT.fa, offT.f, fun xs e => by rw [O3.at_] at e; cases e⟩
    have YS3 : ∀ {H'}, FrN x HE H' → Sys E (noT H0) g H' U S C := fun f => Y3.fr (noT_tbl H0) off3 f
    have P3 : ObR A HE x dx HE _ _ := ⟨O3.at_, .refl x HE, O3.tab, O3.ok⟩
    refine ⟨by show 2 ≤ sizeLine; decide, fun t nt => ⟨_, rfl, ⟨_, SqT.of upd_same⟩, fun D4 nD4 => lc_tup (K := K) (a := t) (xs := l2 fun s => .int (sdI s)) (fun i H' => Same (upd HE t (.tup [.int 0, .int 1])) H' ∧ H' D4 = some (.lst ((l2 fun b => V.int (ansR b g.lp)).take i))) ⟨same_upd nD4, upd_same⟩ (fun i H' _ h => SqT.of (h.1 _ _ upd_same)) ?_ ?_⟩⟩
    · rintro i y H' hi ⟨hs, hD4⟩
      obtain ⟨s, rfl, rfl⟩ := l2_item (f := fun s => .int (sdI s)) hi
      have hsE : Same HE H' := (same_upd nt).trans hs
      have Y' := Y3.ext hsE
      refine ⟨rfl, _, rfl, _, _, _, _, _, rfl, Y'.at_ .flow, T.cF, T.nF_log, lkF_log _ _ _, _, rfl, ⟨_, SqL.of (Y'.at_ .log)⟩, fun D5 nD5 => lc_list (K := K) (a := E.f .log) (xs := g.lg.map .ref) (fun j H'' => Same H' H'' ∧ H'' D5 = some (.lst ((an1 s (g.lp.take j)).map V.int))) ⟨same_upd nD5, upd_same⟩ (fun j H'' _ h => SqL.of (h.1 _ _ (Y'.at_ .log))) ?_ ?_⟩
      · rintro j z H'' hj ⟨hs2, hD5⟩
        rw [List.getElem?_map] at hj
        cases ea : g.lg[j]? with
        | none => rw [ea] at hj; cases hj
        | some a =>
          rw [ea] at hj
          cases hj
          obtain ⟨q, hq, hp⟩ := Paired.get Y'.tlg ea
          rw [List.getElem?_map] at hq
          cases ep : g.lp[j]? with
          | none => rw [ep] at hq; cases hq
          | some p =>
            rw [ep] at hq
            cases hq
            have hj' := (List.getElem?_eq_some_iff.mp ep).1
            have et : an1 s (g.lp.take (j + 1)) = an1 s (g.lp.take j) ++ an1 s [p] := by unfold an1; rw [List.take_add_one, ep, List.filter_append, List.map_append]; rfl
            have hpt := SqT.of (K := K) (hs2 _ _ hp)
            have eN : ∀ c, c = ((p.2.1 == s) && decide (p.2.2.1 = 0)) → an1 s [p] = if c = true then [1] else [] := fun c hc => by
              unfold an1
              cases c with
              | true => rw [List.filter_cons_of_pos (by exact hc.symm)]; rfl
              | false => rw [List.filter_cons_of_neg (by rw [← hc]; decide)]; rfl
            have no : an1 s [p] = [] → Same H' H'' ∧ H'' D5 = some (.lst ((an1 s (g.lp.take (j + 1))).map V.int)) := fun h => by
              rw [et, h, List.append_nil]
              exact ⟨hs2, hD5⟩
            refine ⟨rfl, _, rfl, _, _, _, _, rfl, rfl, hpt, rfl, _, rfl, rfl, _, rfl, ?_⟩
            show if decide (V.int (sdI p.2.1) = V.int (sdI s)) = true then _ else _
            rw [side_dec]
            cases c1 : (p.2.1 == s) with
            | false =>
              rw [c1] at eN
              exact iteF (no (eN false rfl))
            | true =>
              rw [c1] at eN
              refine iteT ⟨_, rfl, _, _, _, _, rfl, rfl, hpt, rfl, rfl, _, rfl, ?_⟩
              show if decide (V.int p.2.2.1 = V.int 0) = true then _ else _
              rw [dInt]
              cases c2 : decide (p.2.2.1 = 0) with
              | false =>
                rw [c2] at eN
                exact iteF (no (eN false rfl))
              | true =>
                rw [c2] at eN
                refine iteT ⟨_, hD5, ?_, fun b o e => (upd_ne (ne_of_none e nD5)).trans (hs2 _ _ e), ?_⟩
                · rw [List.length_map]
                  unfold an1
                  rw [List.length_map]
                  exact line_of (Nat.le_trans (List.length_filter_le _ _) (by rw [List.length_take]; omega))
                · rw [upd_same, et, eN true rfl, List.map_append]
                  rfl
      · rintro H'' ⟨hs2, hD5⟩
        rw [List.take_of_length_le (by rw [List.length_map, Y3.tlg.length, List.length_map]; exact Nat.le_refl _)] at hD5
        refine ⟨_, _, rfl, SqL.of hD5, _, hs2 _ _ hD4, ?_, fun b o e => (upd_ne (ne_of_none e nD4)).trans (hs2 _ _ (hs _ _ e)), ?_⟩
        · exact line_of (Nat.le_trans (List.length_take_le _ _) (by show _ ≤ _; cases s <;> decide))
        · rw [upd_same]
          cases s <;> rfl
    rintro H4 ⟨s4, hD4⟩
    have s4E : Same HE H4 := (same_upd nt).trans s4
    refine ⟨_, _, rfl, .inl ⟨SqL.of hD4, fun an nan => ⟨_, rfl, _, _, _, _, rfl, ((P3.ext s4E).new (o := .tup (l2 fun b => .int (ansR b g.lp))) nan nofun).at_, T.cR, T.nR_answers, by show 3 < 1000; decide, ?_⟩⟩⟩
    generalize hF : upd _ x _ = HF
    have P4 := (((P3.ext s4E).new (o := .tup (l2 fun b => .int (ansR b g.lp))) nan nofun).put (pR3 (v3 := .ref an))).at hF
    clear hF
    have Y4 := YS3 P4.fr
    refine ⟨_, rfl, _, _, _, _, _, rfl, Y4.at_ .flow, T.cF, T.nF_long, lkF_long _ _ _, _, _, rfl, .inl ⟨SqL.of (Y4.at_ .long), fun he nhe => ⟨_, rfl, _, _, _, _, rfl, (P4.new (o := .tup (l2 fun b => .int (S b).long)) nhe nofun).at_, T.cR, T.nR_held, by show 4 < 1000; decide, ?_⟩⟩⟩
    generalize hG : upd _ x _ = HG
    have P5 := ((P4.new (o := .tup (l2 fun b => .int (S b).long)) nhe nofun).put (pR4 (v4 := .ref he))).at hG
    clear hG
    have Y5 := YS3 P5.fr
    refine ⟨_, rfl, _, _, _, rfl, Y5.at_ .flow, rfl, E, noT H0, g, U, S, C, false, rfl, Y5, _, rfl, _, _, _, rfl, Y5.at_ .flow, rfl, E, noT H0, g, U, S, C, true, rfl, Y5, by show 2 ≤ sizeLine; decide, fun un nun => ⟨_, rfl, _, _, _, _, rfl, (P5.new (o := .tup (l2 fun b => .int ((S b).come - (S b).taken))) nun nofun).at_, T.cR, T.nR_unread, by show 5 < 1000; decide, ?_⟩⟩
    generalize hI : upd _ x _ = HI
    have P6 := ((P5.new (o := .tup (l2 fun b => .int ((S b).come - (S b).taken))) nun nofun).put (pR5 (v5 := .ref un))).at hI
    clear hI
    have Y6 := YS3 P6.fr
    refine ⟨_, rfl, _, _, _, _, _, rfl, Y6.at_ .flow, T.cF, T.nF_log, lkF_log _ _ _, _, rfl, ⟨_, SqL.of (Y6.at_ .log)⟩, fun D6 nD6 => lc_list (K := K) (a := E.f .log) (xs := g.lg.map .ref) (fun j H'' => Same HI H'' ∧ H'' D6 = some (.lst (((g.lp.take j).map fun p => p.1 + E.cf.wy).map V.int))) ⟨same_upd nD6, upd_same⟩ (fun j H'' _ h => SqL.of (h.1 _ _ (Y6.at_ .log))) ?_ ?_⟩
    · rintro j z H'' hj ⟨hs2, hD6⟩
      rw [List.getElem?_map] at hj
      cases ea : g.lg[j]? with
      | none => rw [ea] at hj; cases hj
      | some a =>
        rw [ea] at hj
        cases hj
        obtain ⟨q, hq, hp⟩ := Paired.get Y6.tlg ea
        rw [List.getElem?_map] at hq
        cases ep : g.lp[j]? with
        | none => rw [ep] at hq; cases hq
        | some p =>
          rw [ep] at hq
          cases hq
          have hj' := (List.getElem?_eq_some_iff.mp ep).1
          have Y7 := Y6.ext hs2
          refine ⟨rfl, _, rfl, _, _, _, _, rfl, rfl, SqT.of (hs2 _ _ hp), rfl, _, rfl, _, _, _, _, _, rfl, Y7.at_ .flow, T.cF, T.nF_line, lkF_line _ _ _, _, _, _, _, _, rfl, Y7.c.line, T.cL, T.nL_way, lkL_way _, _, _, rfl, rfl, _, hD6, ?_, fun b o e => (upd_ne (ne_of_none e nD6)).trans (hs2 _ _ e), ?_⟩
          · rw [List.length_map, List.length_map, List.length_take]
            exact line_of (by omega)
          · rw [upd_same, List.take_add_one, ep, List.map_append, List.map_append]
            rfl
    rintro H7 ⟨s7, hD6⟩
    rw [List.take_of_length_le (by rw [List.length_map, Y3.tlg.length, List.length_map]; exact Nat.le_refl _)] at hD6
    refine ⟨_, _, rfl, .inr (SqL.of hD6), ?_, fun l8 nl8 => ⟨_, (0 : Int) :: g.lp.map (fun p => p.1 + E.cf.wy), rfl, SqL.of (by rw [upd_same, List.append_nil]; rfl), Nat.succ_pos _, fun qu hq1 hq2 => ?_⟩⟩
    · rw [List.append_nil, List.length_cons, List.length_map, List.length_map]
      exact Nat.le_of_lt (line_of (by omega))
    have s8 : Same HI (upd H7 l8 (.lst (V.int 0 :: ((g.lp.map fun p => p.1 + E.cf.wy).map V.int ++ [])))) := s7.trans (same_upd nl8)
    refine ⟨_, rfl, _, _, _, _, rfl, (P6.ext s8).at_, T.cR, T.nR_quiet, by show 6 < 1000; decide, ?_⟩
    generalize hJ : upd _ x _ = HJ
    have P7 := ((P6.ext s8).put (pR6 (v6 := .int qu))).at hJ
    clear hJ
    refine ⟨_, rfl, _, _, _, _, _, rfl, P7.at_, T.cR, T.nR_ends, rfl, _, rfl, _, _, _, _, _, rfl, P7.at_, T.cR, T.nR_pieces, rfl, _, rfl, _, _, _, _, _, rfl, P7.at_, T.cR, T.nR_held, rfl, _, rfl, _, _, _, _, _, rfl, P7.at_, T.cR, T.nR_unread, rfl, _, rfl, _, _, _, _, _, rfl, P7.at_, T.cR, T.nR_quiet, rfl, by show 5 ≤ sizeLine; decide, fun al nal => ⟨_, rfl, _, _, _, _, rfl, (P7.ext (same_upd nal)).at_, T.cR, T.nR_all, by show 7 < 1000; decide, ?_⟩⟩
    generalize hK : upd _ x _ = HK
    have P8 := ((P7.ext (same_upd nal)).put (pR7 (v7 := .ref al))).at hK
    clear hK
    exact k _ en pc an he un al bs qu hq1 hq2 ⟨P8.at_, O3.fr.trans P8.fr, P8.tab, P8.ok⟩ (hbE.mono fun b xs e => P8.fr b _ (fun h => by rw [h, O3.at_] at e; cases e) e nofun)
end
end K10

/-! where both sides start; the whole run -/
namespace K10
def sd0 : Sd := ⟨[], 0, 0, 0, 0, 0, 0, none, 0, [], []⟩
def S00 : S2 := fun _ => sd0
def C00 (f : Cf) : C2 := fun b => ⟨0, none, if (f.p b).steps.length = 0 then some 0 else none⟩
def fuel (f : Cf) : Nat := (tot f (tickS f 0 S00 (C00 f)) (tickC f 0 S00 (C00 f))).toNat + 1
def fin (f : Cf) : S2 × C2 := runL f (fuel f) 0 (S00, C00 f)
structure P2Ok (p : Pr) : Prop where
  every : 1 ≤ p.every
  len : p.steps.length ≤ 6
  amts : ∀ q ∈ p.steps, q.1 = .write → 1 ≤ q.2 ∧ q.2 ≤ 2000
theorem P2Ok.pok {p : Pr} (h : P2Ok p) : POk p := ⟨h.every, fun q hq e => (h.amts q hq e).1⟩
theorem sum_le_of {l : List Int} {m : Int} (h : ∀ x ∈ l, x ≤ m) (h0 : 0 ≤ m) : l.sum ≤ l.length * m := by
  induction l with
  | nil => simp
  | cons a r ih =>
    have h1 := h a List.mem_cons_self
    have h2 := ih fun x hx => h x (List.mem_cons_of_mem _ hx)
    rw [List.sum_cons, List.length_cons]
    have e : ((r.length + 1 : Nat) : Int) * m = (r.length : Int) * m + m := by
      rw [Int.natCast_add, Int.add_mul]
      simp
    omega
theorem remw0 {f : Cf} (h : ∀ b, P2Ok (f.p b)) (b : Bool) : remw (f.p b) (C00 f b) ≤ 48000 := by
  have hb := h b
  show (((f.p b).steps.drop 0).map stw).sum ≤ 48000
  rw [List.drop_zero]
  have h1 := sum_le_of (l := (f.p b).steps.map stw) (m := 8000) (fun x hx => by
    obtain ⟨q, hq, rfl⟩ := List.mem_map.mp hx
    unfold stw
    split
    · rename_i e
      have := (hb.amts q hq e).2
      omega
    · omega
    · omega) (by omega)
  rw [List.length_map] at h1
  have h2 := hb.len
  omega
theorem zok0 {f : Cf} (h : ∀ b, P2Ok (f.p b)) : Zok f S00 (C00 f) :=
  ⟨fun s => ⟨nofun, nofun⟩, fun s => ⟨Nat.zero_le _, fun e => by
    show 0 < (f.p s).steps.length
    by_cases h0 : (f.p s).steps.length = 0
    · have : (C00 f s).ended = some 0 := if_pos h0
      rw [this] at e
      cases e
    · omega, fun e => absurd rfl e⟩⟩
theorem totB0 {f : Cf} (h : ∀ b, P2Ok (f.p b)) : totB f S00 (C00 f) ≤ 400000 := by
  have h0 := remw0 h false
  have h1 := remw0 h true
  have e : ∀ b, bud (S00 b) = 0 := fun b => by rfl
  unfold totB
  rw [e, e]
  omega
theorem C00_flip (f : Cf) : C00 f.flip = flip (C00 f) := rfl
theorem S00_flip : flip S00 = S00 := rfl
theorem tot_flip (f : Cf) (S : S2) (C : C2) : tot f.flip (flip S) (flip C) = tot f S C := by
  show ph (S true) + remw (f.p true) (C true) + (ph (S false) + remw (f.p false) (C false)) = _
  unfold tot
  omega
theorem fuel_flip (f : Cf) : fuel f.flip = fuel f := by
  unfold fuel
  rw [C00_flip, ← S00_flip, tickS_flip, tickC_flip, tot_flip, S00_flip]
theorem fin_flip (f : Cf) : fin f.flip = (flip (fin f).1, flip (fin f).2) := by
  unfold fin
  rw [fuel_flip, C00_flip]
  exact runL_flip f (fuel f) 0 S00 (C00 f)
/-! ### the steps -/
theorem rsv_app (x : Int) : ∀ (ps : List Ps) (t u : List Int), (pas ps).length = t.length → rsv x ps (t ++ u) = ((rsv x ps t).1, u)
  | [], [], u, _ => rfl
  | [], _ :: _, u, h => by simp [pas] at h
  | .io rd n :: r, t, u, h => by
    have ih := rsv_app x r t u h
    show (_ :: (rsv x r (t ++ u)).1, (rsv x r (t ++ u)).2) = _
    rw [ih]
    rfl
  | .pa _ _ :: r, [], u, h => by simp [pas, isPa] at h
  | .pa _ _ :: r, a :: t, u, h => by
    have ih := rsv_app x r t u (Nat.succ.inj h)
    show (_ :: (rsv x r (t ++ u)).1, (rsv x r (t ++ u)).2) = _
    rw [ih]
    rfl
theorem rsv_ok {x : Int} (hx : 1 ≤ x) (hx2 : x ≤ 2000) : ∀ (ps : List Ps) (ts : List Int), (∀ p ∈ ps, PsOk p) → (rsv x ps ts).1.length ≤ ps.length ∧ ∀ q ∈ (rsv x ps ts).1, q.1 = .write → 1 ≤ q.2 ∧ q.2 ≤ 2000
  | [], ts, _ => ⟨Nat.le_refl _, nofun⟩
  | .io rd n :: r, ts, h => by
    obtain ⟨h1, h2⟩ := rsv_ok hx hx2 r ts fun p hp => h p (List.mem_cons_of_mem _ hp)
    refine ⟨Nat.succ_le_succ h1, fun q hq e => ?_⟩
    rcases List.mem_cons.mp hq with rfl | hq
    · have h0 := h (.io rd n) List.mem_cons_self
      cases n with
      | none => exact ⟨hx, hx2⟩
      | some m => exact ⟨h0.1, Int.le_trans h0.2 (by decide)⟩
    · exact h2 q hq e
  | .pa _ _ :: r, [], h => by
    obtain ⟨h1, h2⟩ := rsv_ok hx hx2 r [] fun p hp => h p (List.mem_cons_of_mem _ hp)
    exact ⟨Nat.le_succ_of_le h1, h2⟩
  | .pa _ _ :: r, t :: ts, h => by
    obtain ⟨h1, h2⟩ := rsv_ok hx hx2 r ts fun p hp => h p (List.mem_cons_of_mem _ hp)
    refine ⟨Nat.succ_le_succ h1, fun q hq e => ?_⟩
    rcases List.mem_cons.mp hq with rfl | hq
    · cases e
    · exact h2 q hq e
/-- the numbers of a run -/
def cfOf (sz wy : Int) (r0 : Rl) (e0 y0 : Int) (s0 : List (Wd × Int)) (r1 : Rl) (e1 y1 : Int) (s1 : List (Wd × Int)) : Cf := ⟨sz, wy, fun b => if b then ⟨r1, e1, y1, s1⟩ else ⟨r0, e0, y0, s0⟩⟩
theorem cfOf_flip (sz wy : Int) (r0 : Rl) (e0 y0 : Int) (s0 : List (Wd × Int)) (r1 : Rl) (e1 y1 : Int) (s1 : List (Wd × Int)) : (cfOf sz wy r0 e0 y0 s0 r1 e1 y1 s1).flip = cfOf sz wy r1 e1 y1 s1 r0 e0 y0 s0 := by
  unfold cfOf Cf.flip
  congr 1
  funext b
  cases b <;> rfl
end K10

namespace K10
open PySem L2 LamX
/-! ### places -/
def unL : Nat → Lc
  | 0 => .co true | 1 => .cdx true | 2 => .co false | 3 => .cdx false | 4 => .flow | 5 => .fdx | 6 => .log | 8 => .long | 9 => .first | 10 => .full | 11 => .taken | 12 => .come | 13 => .small | 14 => .known | 15 => .out | 16 => .stock | 17 => .st true | 18 => .st false
  | _ => .flow
def idL : Lc → Nat
  | .co true => 0 | .cdx true => 1 | .co false => 2 | .cdx false => 3 | .flow => 4 | .fdx => 5 | .log => 6 | .long => 8 | .first => 9 | .full => 10 | .taken => 11 | .come => 12 | .small => 13 | .known => 14 | .out => 15 | .stock => 16 | .st true => 17 | .st false => 18
theorem un_id (l : Lc) : unL (idL l) = l := by
  cases l with
  | st b => cases b <;> rfl
  | co b => cases b <;> rfl
  | cdx b => cases b <;> rfl
  | _ => rfl
def plc (L : List Addr) (l : Lc) : Addr := (L[idL l]?).getD 0
theorem plc_inj {L : List Addr} (hn : L.Nodup) (hl : 19 ≤ L.length) (l l' : Lc) (h : plc L l = plc L l') : l = l' := by
  have lt : ∀ l, idL l < L.length := fun l => Nat.lt_of_lt_of_le (by
    cases l with
    | st b => cases b <;> decide
    | co b => cases b <;> decide
    | cdx b => cases b <;> decide
    | _ => decide) hl
  have e : ∀ l, L[idL l]? = some (plc L l) := fun l => by
    unfold plc
    rw [List.getElem?_eq_getElem (lt l)]
    rfl
  have h2 : L[idL l]? = L[idL l']? := by rw [e, e, h]
  have h3 := (List.getElem?_inj (lt l) hn).mp h2
  rw [← un_id l, ← un_id l', h3]
theorem plc_mem {L : List Addr} (hl : 19 ≤ L.length) (l : Lc) : plc L l ∈ L := by
  have lt : idL l < L.length := Nat.lt_of_lt_of_le (by
    cases l with
    | st b => cases b <;> decide
    | co b => cases b <;> decide
    | cdx b => cases b <;> decide
    | _ => decide) hl
  unfold plc
  rw [List.getElem?_eq_getElem lt]
  exact List.getElem_mem _
theorem nd_new {L : List Addr} {H : Hp} {p : Addr} (n : H p = none) (h : ∀ a ∈ L, H a ≠ none) (hn : L.Nodup) : (p :: L).Nodup :=
  List.nodup_cons.mpr ⟨fun m => h p m n, hn⟩
theorem Ob.made {H H' : Hp} {x C dx : Addr} {fs : List (Str × V)} {l : List (Addr × HO)} (n1 : H x = none) (n2 : H dx = none) (ne : dx ≠ x) (O : Ob (upd (upd H dx (.own x)) x (.ins C dx [])) x C dx H' fs l) :
    Same H H' ∧ H' x = some (.ins C dx fs) ∧ H' dx = some (.own x) ∧ (∀ p ∈ l, H p.1 = none ∧ H' p.1 = some p.2) ∧ (x :: dx :: l.map (·.1)).Nodup := by
  have hb : ∀ b o, H b = some o → upd (upd H dx (.own x)) x (.ins C dx []) b = some o := fun b o e => by
    rw [upd_ne (ne_of_none e n1), upd_ne (ne_of_none e n2)]
    exact e
  have hdx : upd (upd H dx (.own x)) x (.ins C dx []) dx = some (.own x) := by rw [upd_ne ne, upd_same]
  have hl : ∀ p ∈ l, p.1 ≠ x ∧ p.1 ≠ dx := fun p hp => by
    have h := (O.ok p hp).1
    exact ⟨fun e => (by rw [e, upd_same] at h; cases h), fun e => (by rw [e, hdx] at h; cases h)⟩
  refine ⟨fun b o e => O.fr b o (ne_of_none e n1) (hb b o e), O.at_, O.fr dx _ ne hdx, fun p hp => ⟨?_, (O.ok p hp).2⟩, ?_⟩
  · cases e : H p.1 with
    | none => rfl
    | some u =>
      have h := hb _ _ e
      rw [(O.ok p hp).1] at h
      cases h
  · refine List.nodup_cons.mpr ⟨fun h => ?_, List.nodup_cons.mpr ⟨fun h => ?_, O.nd⟩⟩
    · rcases List.mem_cons.mp h with h | h
      · exact ne h.symm
      · obtain ⟨p, hp, e⟩ := List.mem_map.mp h
        exact (hl p hp).1 e
    · obtain ⟨p, hp, e⟩ := List.mem_map.mp h
      exact (hl p hp).2 e
section
variable {A : Ads} {E : En A} {g : Gh} {H : Hp}
theorem but_to : Same (but E g H) H := fun b o h => by
  unfold but at h
  split at h
  · cases h
  · exact h
theorem but_if {b : Addr} {o : HO} (h : H b = some o) (n : ¬ own E g b) : but E g H b = some o := by
  unfold but
  rw [if_neg n]
  exact h
end
theorem nd2 {L : List Addr} {H : Hp} {x dx : Addr} (n1 : H x = none) (n2 : H dx = none) (ne : dx ≠ x) (h : ∀ a ∈ L, H a ≠ none) (hn : L.Nodup) : (x :: dx :: L).Nodup :=
  List.nodup_cons.mpr ⟨fun m => (List.mem_cons.mp m).elim (fun e => ne e.symm) fun m => h x m n1, nd_new n2 h hn⟩
theorem plc_ne {L : List Addr} {b : Addr} (hn : L.Nodup) (hl : 19 ≤ L.length) (hb : L[7]? = some b) (l : Lc) : plc L l ≠ b := fun h => by
  have lt : idL l < L.length := Nat.lt_of_lt_of_le (by
    cases l with
    | st b => cases b <;> decide
    | co b => cases b <;> decide
    | cdx b => cases b <;> decide
    | _ => decide) hl
  have e : L[idL l]? = some (plc L l) := by
    unfold plc
    rw [List.getElem?_eq_getElem lt]
    rfl
  have h3 := (List.getElem?_inj lt hn).mp (e.trans (by rw [h, hb]))
  revert h3
  cases l with
  | st b => cases b <;> decide
  | co b => cases b <;> decide
  | cdx b => cases b <;> decide
  | _ => decide
theorem sys_init {A : Ads} {f : Cf} {H : Hp} {line dl n0 n1 tl d0 d1 t0 t1 fx fdx stg s0 s1 stock out known small come taken full first long fl lg l1 l2' c0 c1 dc0 dc1 bg0 bg1 : Addr} {as1 as2 : List Addr}
    (hn : [c1, dc1, c0, dc0, fx, fdx, lg, fl, long, first, full, taken, come, small, known, out, stock, s1, s0, stg].Nodup)
    (hl : H line = some (.ins A.CL dl (lFs f.sz f.wy n0 n1 tl))) (h0 : H n0 = some (.ins A.CS d0 (sFs (f.p false).rule (f.p false).every (f.p false).delay t0))) (h1 : H n1 = some (.ins A.CS d1 (sFs (f.p true).rule (f.p true).every (f.p true).delay t1)))
    (hx : H fx = some (.ins A.CF fdx (fsF line stg stock out known small come taken full first long fl lg))) (hdx : H fdx = some (.own fx))
    (o : ∀ p ∈ [(lg, HO.lst []), (fl, .lst []), (long, z2), (first, .lst [.non, .non]), (full, z2), (taken, z2), (come, z2), (small, z2), (known, z2), (out, z2), (stock, .lst [.ref s0, .ref s1]), (s1, .lst []), (s0, .lst []), (stg, .tup [.ref n0, .ref n1])], H p.1 = some p.2)
    (hc0 : H c0 = some (.ins A.CC dc0 (fsC l1 bg0 (if (as1.map V.ref).length = 0 then some 0 else none)))) (hd0 : H dc0 = some (.own c0)) (hc1 : H c1 = some (.ins A.CC dc1 (fsC l2' bg1 (if (as2.map V.ref).length = 0 then some 0 else none)))) (hd1 : H dc1 = some (.own c1))
    (hl1 : H l1 = some (.lst (as1.map .ref))) (hl2 : H l2' = some (.lst (as2.map .ref))) (hT1 : Tups H as1 ((f.p false).steps.map spV)) (hT2 : Tups H as2 ((f.p true).steps.map spV))
    (hno : ∀ b ∈ [line, n0, n1, l1, l2'], b ∉ [c1, dc1, c0, dc0, fx, fdx, lg, fl, long, first, full, taken, come, small, known, out, stock, s1, s0, stg]) :
    ∃ (E : En A) (g : Gh), E.f .flow = fx ∧ (l2 fun b => V.ref (E.f (.co b))) = [.ref c0, .ref c1] ∧ E.cf = f ∧ Sys E (but E g H) g H 0 S00 (C00 f) ∧ ∀ b, own E g b → b ∈ [c1, dc1, c0, dc0, fx, fdx, lg, fl, long, first, full, taken, come, small, known, out, stock, s1, s0, stg] := by
  have e1 : (as1.map V.ref).length = (f.p false).steps.length := by
    have := hT1.length
    rw [List.length_map] at this ⊢
    exact this
  have e2 : (as2.map V.ref).length = (f.p true).steps.length := by
    have := hT2.length
    rw [List.length_map] at this ⊢
    exact this
  rw [e1] at hc0
  rw [e2] at hc1
  let E : En A := ⟨plc [c1, dc1, c0, dc0, fx, fdx, lg, fl, long, first, full, taken, come, small, known, out, stock, s1, s0, stg], plc_inj hn (by show 19 ≤ 20; decide), line, stg, dl, tl, fun b => if b then n1 else n0, fun b => if b then d1 else d0, fun b => if b then t1 else t0, fun b => if b then l2' else l1, fun b => if b then as2 else as1, fun b => if b then bg1 else bg0, f⟩
  let g : Gh := ⟨fl, [], [], fun _ => [], [], []⟩
  have ho : ∀ b, own E g b → b ∈ [c1, dc1, c0, dc0, fx, fdx, lg, fl, long, first, full, taken, come, small, known, out, stock, s1, s0, stg] := fun b h => by
    rcases h with h | ⟨l, h⟩
    · rw [h]
      show fl ∈ _
      simp
    · rw [h]
      exact plc_mem (by show 19 ≤ 20; decide) l
  have at_ : ∀ l, H (E.f l) = some (ob E g 0 S00 (C00 f) l) := fun l => by
    cases l with
    | flow => exact hx
    | fdx => exact hdx
    | stock => exact o (stock, .lst [.ref s0, .ref s1]) (by simp)
    | st b => exact match b with | false => (by exact o (s0, .lst []) (by simp)) | true => (by exact o (s1, .lst []) (by simp))
    | out => exact o (out, z2) (by simp)
    | known => exact o (known, z2) (by simp)
    | small => exact o (small, z2) (by simp)
    | come => exact o (come, z2) (by simp)
    | taken => exact o (taken, z2) (by simp)
    | full => exact o (full, z2) (by simp)
    | first => exact o (first, .lst [.non, .non]) (by simp)
    | long => exact o (long, z2) (by simp)
    | log => exact o (lg, .lst []) (by simp)
    | co b => exact match b with | false => (by exact hc0) | true => (by exact hc1)
    | cdx b => exact match b with | false => (by exact hd0) | true => (by exact hd1)
  have tupN : ∀ {b xs}, H b = some (.tup xs) → ¬ own E g b := fun {b xs} h q => by
    rcases q with q | ⟨l, q⟩
    · have q2 := o (fl, .lst []) (by simp)
      rw [show b = fl from q, q2] at h
      cases h
    · rw [q, at_ l] at h
      exact ob_tup (Option.some.inj h)
  refine ⟨E, g, rfl, rfl, rfl, ⟨at_, o (fl, .lst []) (by simp), .nil, .nil, fun _ => .nil, fun b => rfl, fun b => rfl, but_to, fun l => if_pos (.inr ⟨l, rfl⟩), if_pos (.inl rfl), fun l => plc_ne hn (by show 19 ≤ 20; decide) rfl l, ?_⟩, ho⟩
  refine ⟨but_if hl fun q => hno line (by simp) (ho line q), but_if (o (stg, .tup [.ref n0, .ref n1]) (by simp)) (tupN (o (stg, .tup [.ref n0, .ref n1]) (by simp))), fun b => ?_, fun b => ?_, fun b => ?_⟩
  · cases b
    · exact but_if h0 fun q => hno n0 (by simp) (ho n0 q)
    · exact but_if h1 fun q => hno n1 (by simp) (ho n1 q)
  · cases b
    · exact but_if hl1 fun q => hno l1 (by simp) (ho l1 q)
    · exact but_if hl2 fun q => hno l2' (by simp) (ho l2' q)
  · cases b
    · exact hT1.mono fun a xs e => but_if e (tupN e)
    · exact hT2.mono fun a xs e => but_if e (tupN e)
theorem TabS.but {A : Ads} {E : En A} {H0 H : Hp} {g : Gh} {T : Int} {S : S2} {C : C2} {P : Addr} {q : Str} (Y : Sys E H0 g H T S C) (t : TabS H P q) : TabS (K10.but E g H) P q := by
  obtain ⟨ps, hP, ht, ha⟩ := t
  have no : ∀ {b o}, H b = some o → ((∃ ps, o = .tbl ps) ∨ ∃ q, o = CodeO b q) → ¬ own E g b := fun {b o} h ho q => by
    rcases q with q | ⟨l, q⟩
    · rw [q, Y.fl] at h
      rcases ho with ⟨ps, e⟩ | ⟨q, e⟩
      · rw [e] at h; cases h
      · rw [e] at h; unfold CodeO at h; cases h
    · rw [q, Y.at_ l] at h
      rcases ho with ⟨ps, e⟩ | ⟨q, e⟩
      · exact ob_tbl ((Option.some.inj h).trans e)
      · have e2 := (Option.some.inj h).trans e
        unfold CodeO at e2
        cases l <;> cases e2
  refine ⟨ps, but_if hP (no hP (.inl ⟨_, rfl⟩)), ht, fun pos cv hc => ?_⟩
  obtain ⟨c, rfl, hcc⟩ := ha pos cv hc
  exact ⟨c, rfl, but_if hcc (no hcc (.inr ⟨_, rfl⟩))⟩
structure Ln (A : Ads) (H : Hp) (line dl n0 n1 tl d0 d1 t0 t1 : Addr) (sz wy : Int) (r0 : Rl) (e0 y0 : Int) (r1 : Rl) (e1 y1 : Int) : Prop where
  l : H line = some (.ins A.CL dl (lFs sz wy n0 n1 tl))
  n : H n0 = some (.ins A.CS d0 (sFs r0 e0 y0 t0))
  f : H n1 = some (.ins A.CS d1 (sFs r1 e1 y1 t1))
/-- what a Run tells -/
structure RunV (A : Ads) (Z : S2 × C2) (wy : Int) (H : Hp) (x dx en pc an he un al : Addr) (bs : List Addr) (qu : Int) (lp : List Pc) : Prop where
  at_ : H x = some (.ins A.CR dx (rFs en (inV .non (endsV Z.2)) pc an he un qu al))
  plg : ∀ b, proj b lp = (Z.1 b).lg
  q1 : qu ∈ (0 : Int) :: lp.map (fun p => p.1 + wy)
  q2 : ∀ y ∈ (0 : Int) :: lp.map (fun p => p.1 + wy), y ≤ qu
  hen : H en = some (.tup (endsV Z.2))
  hpc : H pc = some (.tup (bs.map .ref))
  han : H an = some (.tup (l2 fun b => .int (ansR b lp)))
  hhe : H he = some (.tup (l2 fun b => .int (Z.1 b).long))
  hun : H un = some (.tup (l2 fun b => .int ((Z.1 b).come - (Z.1 b).taken)))
  hbs : Tups H bs ((lp.mergeSort leP).map pcV)
  hlen : lp.length ≤ 800000
theorem RunV.ext {A : Ads} {Z : S2 × C2} {wy : Int} {H H' : Hp} {x dx en pc an he un al : Addr} {bs : List Addr} {qu : Int} {lp : List Pc} (r : RunV A Z wy H x dx en pc an he un al bs qu lp) (e : ExtN H H') : RunV A Z wy H' x dx en pc an he un al bs qu lp :=
  ⟨e _ _ r.at_ nofun, r.plg, r.q1, r.q2, e _ _ r.hen nofun, e _ _ r.hpc nofun, e _ _ r.han nofun, e _ _ r.hhe nofun, e _ _ r.hun nofun, r.hbs.mono fun _ _ h => e _ _ h nofun, r.hlen⟩
section
variable {P : Program} {w : World} {K : PySem.W.Frag} {mg : Str → Option Value} {base : Heap} {A : Ads}
def cfR (sz wy : Int) (r0 : Rl) (e0 y0 : Int) (r1 : Rl) (e1 y1 : Int) (ps qs : List Ps) (x : Int) (u1 u2 : List Int) : Cf := cfOf sz wy r0 e0 y0 (rsv x ps u1).1 r1 e1 y1 (rsv x qs u2).1
def sp_run_of (A : Ads) : Sp := fun vs H Q _ => ∃ (line dl n0 n1 tl d0 d1 t0 t1 a b tk : Addr) (sz wy : Int) (r0 : Rl) (e0 y0 : Int) (r1 : Rl) (e1 y1 : Int) (ps qs : List Ps) (x : Int) (u1 u2 : List Int), vs = [.ref line, .ref a, .ref b, .int x, .ref tk] ∧
  Ln A H line dl n0 n1 tl d0 d1 t0 t1 sz wy r0 e0 y0 r1 e1 y1 ∧ 1 ≤ sz ∧ 1 ≤ e0 ∧ 1 ≤ e1 ∧ Prg H a ps ∧ Prg H b qs ∧ ps.length ≤ 6 ∧ qs.length ≤ 6 ∧ (∀ p ∈ ps, PsOk p) ∧ (∀ p ∈ qs, PsOk p) ∧ 1 ≤ x ∧ x ≤ 2000 ∧
  H tk = some (.tup ((u1 ++ u2).map .int)) ∧ (pas ps).length = u1.length ∧ (pas qs).length = u2.length ∧ TabS H A.p_R lamQ ∧
  ∀ (H' : Hp) (xr dx en pc an he un al : Addr) (bs : List Addr) (qu : Int) (lp : List Pc), RunV A (fin (cfR sz wy r0 e0 y0 r1 e1 y1 ps qs x u1 u2)) wy H' xr dx en pc an he un al bs qu lp → ExtN H H' → TabS H' A.p_R lamQ → Q (.ref xr) H'
theorem ok_run_of (T : Txt K mg A) (TB : TabB base mg A.c_R A.p_R) : FnOk P w K mg base CX0 8 A.f_run_of A.d_run_of ps_run_of (sp_run_of A) := by
  refine T.run_of.ok sc_run_of (fun vs H Q E h => ?_) (fun cdv AR outer sh H vs Q EX hr h => ?_)
  · obtain ⟨line, dl, n0, n1, tl, d0, d1, t0, t1, a, b, tk, sz, wy, r0, e0, y0, r1, e1, y1, ps, qs, x, u1, u2, rfl, _⟩ := h
    rfl
  · obtain ⟨line, dl, n0, n1, tl, d0, d1, t0, t1, a, b, tk, sz, wy, r0, e0, y0, r1, e1, y1, ps, qs, x, u1, u2, rfl, L, hz, he0, he1, ha, hb, hp, hq, op, oq, hx1, hx2, htk, hu1, hu2, tb, k⟩ := h
    refine ⟨_, (pss_cons (ps_set (i := 5) sc_run_of.nd rfl (Or.inl rfl) (pe_make T.mk_F (ok_F_init T) (hr.mono (by decide)) rfl T.g_Flow T.b_F_init .nil pass0 (pa_cons (pv 0) pa_nil)))
      (pss_cons (ps_asg (pe_call (ok_plain_steps T) (hr.mono (by decide)) rfl T.g_plain_steps T.plain_steps.kp T.b_plain_steps .nil pass0 (pa_cons (pv 1) (pa_cons (pv 3) (pa_cons (pv 4) pa_nil)))) (pg_tup (by rfl) (pgs_cons (pg_name (i := 6) sc_run_of.nd rfl (Or.inl rfl)) (pgs_cons (pg_name (i := 7) sc_run_of.nd rfl (Or.inl rfl)) pgs_nil))))
      (pss_cons (ps_asg (pe_call (ok_plain_steps T) (hr.mono (by decide)) rfl T.g_plain_steps T.plain_steps.kp T.b_plain_steps .nil pass0 (pa_cons (pv 2) (pa_cons (pv 3) (pa_cons (pv 7) pa_nil)))) (pg_tup (by rfl) (pgs_cons (pg_name (i := 8) sc_run_of.nd rfl (Or.inl rfl)) (pgs_cons (pg_name (i := 7) sc_run_of.nd rfl (Or.inl rfl)) pgs_nil))))
      (pss_cons (ps_set (i := 9) sc_run_of.nd rfl (Or.inl rfl) (pe_tup (pa_cons (pe_make T.mk_C (ok_C_init T) (hr.mono (by decide)) rfl T.g_Course T.b_C_init .nil pass0 (pa_cons (pv 6) (pa_cons pe_bl pa_nil))) (pa_cons (pe_make T.mk_C (ok_C_init T) (hr.mono (by decide)) rfl T.g_Course T.b_C_init .nil pass0 (pa_cons (pv 8) (pa_cons pe_bl pa_nil))) pa_nil))))
      (pss_cons (ps_set (i := 10) sc_run_of.nd rfl (Or.inl rfl) pe_int)
      (pss_cons (ps_while PassesOwn.never (pt_cmpR op_notN (pv 10) pe_non (nomark _)) (pss_cons (ps_expr (pe_call (ok_do_tick T) (hr.mono (by decide)) rfl T.g_do_tick T.do_tick.kp T.b_do_tick .nil pass0 (pa_cons (pv 5) (pa_cons (pv 9) (pa_cons (pv 10) pa_nil)))))
      (pss_one (ps_set (i := 10) sc_run_of.nd rfl (Or.inl rfl) (pe_call (ok_events T) (hr.mono (by decide)) rfl T.g_events T.events.kp T.b_events .nil pass0 (pa_cons (pv 5) (pa_cons (pv 9) pa_nil)))))))
      (pss_one (ps_ret (pe_make T.mk_R (ok_R_init T TB) (hr.mono (by decide)) rfl T.g_Run T.b_R_init .nil pass0 (pa_cons (pv 5) (pa_cons (pv 9) pa_nil))))))))))), ?_⟩
    refine ⟨_, rfl, fun fx fdx nfx nfdx nef => ⟨fx, fdx, line, dl, n0, n1, tl, sz, wy, rfl, ?_, upd_same, ne_of_none L.l nfx, fun H1 stg s0 s1 stock out known small come taken full first long fl lg O1 => ⟨rfl, ?_⟩⟩⟩
    · rw [upd_ne (ne_of_none L.l nfx), upd_ne (ne_of_none L.l nfdx)]
      exact L.l
    obtain ⟨m1, x1, dx1, o1, nd1⟩ := Ob.made nfx nfdx nef O1
    refine ⟨_, rfl, _, rfl, _, rfl, a, tk, ps, x, u1 ++ u2, rfl, ha.same m1, hp, .inr (m1 _ _ htk), by rw [List.length_append]; omega, fun H2 w1 l1 g1 as1 m2 nl1 ht1 hl1 hT1 hg1 => ?_⟩
    rw [rsv_app x ps u1 u2 hu1] at hT1 hg1
    refine ⟨_, _, rfl, SqT.of ht1, rfl, _, _, rfl, _, _, rfl, rfl, ?_⟩
    have m02 : Same H H2 := m1.trans m2
    refine ⟨_, rfl, _, rfl, _, rfl, b, g1, qs, x, u2, rfl, hb.same m02, hq, .inl hg1, by omega, fun H3 w2 l2' g2 as2 m3 nl2 ht2 hl2 hT2 hg2 => ?_⟩
    refine ⟨_, _, rfl, SqT.of ht2, rfl, _, _, rfl, _, _, rfl, rfl, ?_⟩
    refine ⟨_, rfl, fun c0 dc0 nc0 ndc0 nec0 => ⟨c0, dc0, l1, as1.map .ref, rfl, ?_, upd_same, fun H4 bg0 O4 => ⟨rfl, ?_⟩⟩⟩
    · have h := m3 _ _ hl1
      rw [upd_ne (ne_of_none h nc0), upd_ne (ne_of_none h ndc0)]
      exact h
    obtain ⟨m4, x4, dx4, o4, nd4⟩ := Ob.made nc0 ndc0 nec0 O4
    refine ⟨_, rfl, fun c1 dc1 nc1 ndc1 nec1 => ⟨c1, dc1, l2', as2.map .ref, rfl, ?_, upd_same, fun H5 bg1 O5 => ⟨rfl, ?_⟩⟩⟩
    · have h := m4 _ _ hl2
      rw [upd_ne (ne_of_none h nc1), upd_ne (ne_of_none h ndc1)]
      exact h
    obtain ⟨m5, x5, dx5, o5, nd5⟩ := Ob.made nc1 ndc1 nec1 O5
    refine ⟨by show 2 ≤ sizeLine; decide, fun ct nct => ?_⟩
    have hR1 : ∀ p ∈ [fx, fdx, lg, fl, long, first, full, taken, come, small, known, out, stock, s1, s0, stg], H p = none ∧ H1 p ≠ none := fun p hp => by
      rcases List.mem_cons.mp hp with rfl | hp
      · exact ⟨nfx, by rw [x1]; exact nofun⟩
      rcases List.mem_cons.mp hp with rfl | hp
      · exact ⟨nfdx, by rw [dx1]; exact nofun⟩
      have hp2 : p ∈ List.map (fun q : Addr × HO => q.1) [(lg, HO.lst []), (fl, .lst []), (long, z2), (first, .lst [.non, .non]), (full, z2), (taken, z2), (come, z2), (small, z2), (known, z2), (out, z2), (stock, .lst [.ref s0, .ref s1]), (s1, .lst []), (s0, .lst []), (stg, .tup [.ref n0, .ref n1])] := hp
      obtain ⟨q, hq, rfl⟩ := List.mem_map.mp hp2
      exact ⟨(o1 q hq).1, by rw [(o1 q hq).2]; exact nofun⟩
    have m13 : Same H1 H3 := m2.trans m3
    have m03 : Same H H3 := m1.trans m13
    have sm : ∀ {G G' : Hp} {p : Addr}, Same G G' → G p ≠ none → G' p ≠ none := fun {G G' p} h n e => by
      cases q : G p with
      | none => exact n q
      | some u => rw [h _ _ q] at e; cases e
    have hR3 : ∀ p ∈ [fx, fdx, lg, fl, long, first, full, taken, come, small, known, out, stock, s1, s0, stg], H3 p ≠ none := fun p hp => sm m13 (hR1 p hp).2
    have nd3 := nd2 nc0 ndc0 nec0 hR3 nd1
    have hR4 : ∀ p ∈ [c0, dc0, fx, fdx, lg, fl, long, first, full, taken, come, small, known, out, stock, s1, s0, stg], H4 p ≠ none := fun p hp => by
      rcases List.mem_cons.mp hp with rfl | hp
      · rw [x4]; exact nofun
      rcases List.mem_cons.mp hp with rfl | hp
      · rw [dx4]; exact nofun
      exact sm m4 (hR3 p hp)
    have ndL := nd2 nc1 ndc1 nec1 hR4 nd3
    have hLn : ∀ p ∈ [c1, dc1, c0, dc0, fx, fdx, lg, fl, long, first, full, taken, come, small, known, out, stock, s1, s0, stg], H p = none := fun p hp => by
      rcases List.mem_cons.mp hp with rfl | hp
      · exact (m03.trans m4).free nc1
      rcases List.mem_cons.mp hp with rfl | hp
      · exact (m03.trans m4).free ndc1
      rcases List.mem_cons.mp hp with rfl | hp
      · exact m03.free nc0
      rcases List.mem_cons.mp hp with rfl | hp
      · exact m03.free ndc0
      exact (hR1 p hp).1
    have m6 : Same H5 (upd H5 ct (.tup [.ref c0, .ref c1])) := same_upd nct
    have hct : upd H5 ct (.tup [.ref c0, .ref c1]) ct = some (.tup [.ref c0, .ref c1]) := upd_same
    revert m6 hct
    generalize upd H5 ct (.tup [.ref c0, .ref c1]) = H6
    intro m6 hct
    have m46 := m5.trans m6
    have m36 := m4.trans m46
    have m16 := m13.trans m36
    have m06 := m1.trans m16
    have nl : ∀ {p : Addr}, H1 p = none → H3 p ≠ none → p ∉ [c1, dc1, c0, dc0, fx, fdx, lg, fl, long, first, full, taken, come, small, known, out, stock, s1, s0, stg] := fun {p} n1 n3 hp => by
      rcases List.mem_cons.mp hp with e | hp
      · rw [e] at n3; exact n3 (m4.free nc1)
      rcases List.mem_cons.mp hp with e | hp
      · rw [e] at n3; exact n3 (m4.free ndc1)
      rcases List.mem_cons.mp hp with e | hp
      · rw [e] at n3; exact n3 nc0
      rcases List.mem_cons.mp hp with e | hp
      · rw [e] at n3; exact n3 ndc0
      exact (hR1 p hp).2 n1
    have hno : ∀ b ∈ [line, n0, n1, l1, l2'], b ∉ [c1, dc1, c0, dc0, fx, fdx, lg, fl, long, first, full, taken, come, small, known, out, stock, s1, s0, stg] := fun b hb hm => by
      have old : ∀ {b o}, H b = some o → b ∉ [c1, dc1, c0, dc0, fx, fdx, lg, fl, long, first, full, taken, come, small, known, out, stock, s1, s0, stg] := fun {b o} e hm => by
        rw [hLn b hm] at e
        cases e
      rcases List.mem_cons.mp hb with e | hb
      · rw [e] at hm; exact old L.l hm
      rcases List.mem_cons.mp hb with e | hb
      · rw [e] at hm; exact old L.n hm
      rcases List.mem_cons.mp hb with e | hb
      · rw [e] at hm; exact old L.f hm
      rcases List.mem_cons.mp hb with e | hb
      · rw [e] at hm; exact nl nl1 (by rw [m3 _ _ hl1]; exact nofun) hm
      rw [List.mem_singleton.mp hb] at hm
      exact nl (m2.free nl2) (by rw [hl2]; exact nofun) hm
    obtain ⟨E, g, rfl, ec, hcf, Y, ho⟩ := sys_init (A := A) (f := cfR sz wy r0 e0 y0 r1 e1 y1 ps qs x u1 u2) (H := H6) ndL (m06 _ _ L.l) (m06 _ _ L.n) (m06 _ _ L.f) (m16 _ _ x1) (m16 _ _ dx1) (fun p hp => m16 _ _ (o1 p hp).2) (m46 _ _ x4) (m46 _ _ dx4) (m6 _ _ x5) (m6 _ _ dx5)
      (m36 _ _ (m3 _ _ hl1)) (m36 _ _ hl2) (hT1.mono fun _ _ e => m36 _ _ (m3 _ _ e)) (hT2.mono fun _ _ e => m36 _ _ e) hno
    have P2 : ∀ b, P2Ok ((cfR sz wy r0 e0 y0 r1 e1 y1 ps qs x u1 u2).p b) := fun b => by
      cases b
      · have h := rsv_ok hx1 hx2 ps u1 op
        exact ⟨he0, Nat.le_trans h.1 hp, h.2⟩
      · have h := rsv_ok hx1 hx2 qs u2 oq
        exact ⟨he1, Nat.le_trans h.1 hq, h.2⟩
    have hwy : E.cf.wy = wy := by rw [hcf]; rfl
    have hsz : 1 ≤ E.cf.sz := by rw [hcf]; exact hz
    rw [← hcf] at P2 k Y
    have rdy : Rdy E S00 (C00 E.cf) := ⟨⟨hsz, fun b => (P2 b).pok⟩, zok0 P2, totB0 P2⟩
    have hctB : but E g H6 ct = some (.tup (l2 fun b => .ref (E.f (.co b)))) := by
      rw [ec]
      refine but_if hct fun q => ?_
      rcases q with q | ⟨l, q⟩
      · rw [q, Y.fl] at hct
        cases hct
      · rw [q, Y.at_ l] at hct
        exact ob_tup (Option.some.inj hct)
    have tb6 : TabS (but E g H6) A.p_R lamQ := TabS.but Y (tb.ext m06)
    have exB : ∀ {b o}, H b = some o → but E g H6 b = some o := fun {b o} e => but_if (m06 _ _ e) fun q => by
      rw [hLn b (ho b q)] at e
      cases e
    revert hctB tb6 exB Y
    generalize but E g H6 = HB
    intro Y hctB tb6 exB
    refine ⟨fun m σ H' => ∃ (g' : Gh) (U : Int) (S : S2) (C : C2) (v : Option Int), σ = [some (.ref line), some (.ref a), some (.ref b), some (.int x), some (.ref tk), some (.ref (E.f .flow)), some (.ref l1), some (.ref g2), some (.ref l2'), some (.ref ct), some (oI v)] ∧ Sys E HB g' H' U S C ∧ Rdy E S C ∧
      ((v = none ∧ (S, C) = fin E.cf ∧ m = 0) ∨ ∃ T, v = some T ∧ runL E.cf m T (S, C) = fin E.cf ∧ tot E.cf (tickS E.cf T S C) (tickC E.cf T S C) + 1 ≤ m),
      ⟨fuel E.cf, g, 0, S00, C00 E.cf, some 0, rfl, Y, rdy, .inr ⟨0, rfl, rfl, ?_⟩⟩, ?_⟩
    · unfold fuel
      have := tot_pos (rdy.tick 0).f (rdy.tick 0).z
      omega
    rintro m σ H' ⟨g', U, S, C, v, rfl, Y', rd, hv⟩
    refine ⟨_, rfl, rfl, _, rfl, ?_⟩
    rcases hv with ⟨rfl, hfin, _⟩ | ⟨T', rfl, hrun, hm⟩
    · show if (!decide (V.non = V.non)) = true then _ else _
      rw [decide_eq_true rfl]
      refine iteF ⟨_, rfl, _, rfl, fun rx rdx nrx nrdx ner => ?_⟩
      have sR : Same H' (upd (upd H' rdx (.own rx)) rx (.ins A.CR rdx [])) := fun b o e => by
        rw [upd_ne (ne_of_none e nrx), upd_ne (ne_of_none e nrdx)]
        exact e
      have hlen : g'.lp.length ≤ 800000 := by
        have e := Y'.tlg.length
        rw [List.length_map] at e
        have h0 := (rd.sm false).lg
        have h1 := (rd.sm true).lg
        rw [← e, Y'.lgLen]
        omega
      refine ⟨E, HB, g', U, S, C, rx, rdx, ct, rfl, Y'.ext sR, rd.sm, hctB, upd_same, ⟨Y'.same.free nrx, Ne.symm (ne_of_none Y'.fl nrx), fun l => Ne.symm (ne_of_none (Y'.at_ l) nrx), fun xs e => by rw [upd_same] at e; cases e⟩, tb6.ext fun b o e => sR _ _ (Y'.same _ _ e),
        fun H9 en pc an he un al bs qu q1 q2 O9 hb9 => ⟨rfl, ?_⟩⟩
      refine k H9 rx rdx en pc an he un al bs qu g'.lp ?_ (fun b o e n => O9.fr b o (ne_of_none (Y'.same _ _ (exB e)) nrx) (sR _ _ (Y'.same _ _ (exB e))) n) O9.tab
      rw [← hfin]
      rw [hwy] at q1 q2
      exact ⟨O9.at_, Y'.plg, q1, q2, (O9.ok (en, .tup (endsV C)) (by simp)).1, (O9.ok (pc, .tup (bs.map .ref)) (by simp)).1, (O9.ok (an, .tup (l2 fun b => .int (ansR b g'.lp))) (by simp)).1, (O9.ok (he, .tup (l2 fun b => .int (S b).long)) (by simp)).1, (O9.ok (un, .tup (l2 fun b => .int ((S b).come - (S b).taken))) (by simp)).1, hb9, hlen⟩
    · show if (!decide (V.int T' = V.non)) = true then _ else _
      rw [show decide (V.int T' = V.non) = false from decide_eq_false nofun]
      refine iteT ⟨fun σ' H'' => ∃ m', m' < m ∧ ∃ (g' : Gh) (U : Int) (S : S2) (C : C2) (v : Option Int), σ' = [some (.ref line), some (.ref a), some (.ref b), some (.int x), some (.ref tk), some (.ref (E.f .flow)), some (.ref l1), some (.ref g2), some (.ref l2'), some (.ref ct), some (oI v)] ∧ Sys E HB g' H'' U S C ∧ Rdy E S C ∧
        ((v = none ∧ (S, C) = fin E.cf ∧ m' = 0) ∨ ∃ T, v = some T ∧ runL E.cf m' T (S, C) = fin E.cf ∧ tot E.cf (tickS E.cf T S C) (tickC E.cf T S C) + 1 ≤ m'), fun σ' H'' h => h, ?_⟩
      refine ⟨_, rfl, _, rfl, _, rfl, E, HB, g', U, T', S, C, ct, rfl, Y', hctB, rd, fun g2 H2' Y2 => ?_⟩
      have rd2 := rd.tick T'
      refine ⟨_, rfl, _, rfl, E, HB, g2, T', _, _, ct, rfl, Y2, Y2.same _ _ hctB, rd2.sm, fun H3' s3 => ?_⟩
      have tp := tot_pos rd2.f rd2.z
      obtain ⟨n, rfl⟩ : ∃ n, m = n + 1 := ⟨m - 1, by omega⟩
      unfold runL at hrun
      simp only at hrun
      cases hev : ev E.cf (tickS E.cf T' S C) (tickC E.cf T' S C) with
      | none =>
        rw [hev] at hrun
        exact ⟨0, Nat.succ_pos _, g2, T', _, _, none, rfl, Y2.ext s3, rd2, .inl ⟨rfl, hrun, rfl⟩⟩
      | some T2 =>
        rw [hev] at hrun
        have lt := tick_lt rd2.f rd2.z hev
        exact ⟨n, Nat.lt_succ_self _, g2, T', _, _, some T2, rfl, Y2.ext s3, rd2, .inr ⟨T2, rfl, hrun, by omega⟩⟩
end
end K10

namespace K10
open PySem L2 LamX
section
variable {P : Program} {w : World} {K : PySem.W.Frag} {mg : Str → Option Value} {base : Heap} {A : Ads}
theorem Ln.same {H H' : Hp} {line dl n0 n1 tl d0 d1 t0 t1 : Addr} {sz wy : Int} {r0 : Rl} {e0 y0 : Int} {r1 : Rl} {e1 y1 : Int} (L : Ln A H line dl n0 n1 tl d0 d1 t0 t1 sz wy r0 e0 y0 r1 e1 y1) (s : ExtN H H') : Ln A H' line dl n0 n1 tl d0 d1 t0 t1 sz wy r0 e0 y0 r1 e1 y1 :=
  ⟨s _ _ L.l nofun, s _ _ L.n nofun, s _ _ L.f nofun⟩
def sp_run (A : Ads) : Sp := fun vs H Q _ => ∃ (line dl n0 n1 tl d0 d1 t0 t1 a b tk : Addr) (sz wy : Int) (r0 : Rl) (e0 y0 : Int) (r1 : Rl) (e1 y1 : Int) (ps qs : List Ps) (x : Int) (u1 u2 : List Int), vs = [.ref line, .ref a, .ref b, .int x, .ref tk] ∧
  Ln A H line dl n0 n1 tl d0 d1 t0 t1 sz wy r0 e0 y0 r1 e1 y1 ∧ 1 ≤ sz ∧ 1 ≤ e0 ∧ 1 ≤ e1 ∧ Prg H a ps ∧ Prg H b qs ∧ ps.length ≤ 6 ∧ qs.length ≤ 6 ∧ (∀ p ∈ ps, PsOk p) ∧ (∀ p ∈ qs, PsOk p) ∧ 1 ≤ x ∧ x ≤ 2000 ∧
  H tk = some (.tup ((u1 ++ u2).map .int)) ∧ TkOk u1 (pas ps) ∧ TkOk u2 (pas qs) ∧ TabS H A.p_R lamQ ∧
  ∀ (H' : Hp) (xr dx en pc an he un al : Addr) (bs : List Addr) (qu : Int) (lp : List Pc), RunV A (fin (cfR sz wy r0 e0 y0 r1 e1 y1 ps qs x u1 u2)) wy H' xr dx en pc an he un al bs qu lp → ExtN H H' → TabS H' A.p_R lamQ → Q (.ref xr) H'
theorem ok_run (T : Txt K mg A) (TB : TabB base mg A.c_R A.p_R) : FnOk P w K mg base CX0 9 A.f_run A.d_run ps_run (sp_run A) := by
  refine T.run.ok sc_run (fun vs H Q E h => ?_) (fun cdv AR outer sh H vs Q EX hr h => ?_)
  · obtain ⟨line, dl, n0, n1, tl, d0, d1, t0, t1, a, b, tk, sz, wy, r0, e0, y0, r1, e1, y1, ps, qs, x, u1, u2, rfl, _⟩ := h
    rfl
  · obtain ⟨line, dl, n0, n1, tl, d0, d1, t0, t1, a, b, tk, sz, wy, r0, e0, y0, r1, e1, y1, ps, qs, x, u1, u2, rfl, L, hz, he0, he1, ha, hb, hp, hq, op, oq, hx1, hx2, htk, ok1, ok2, tb, k⟩ := h
    refine ⟨_, PSs.nox (pss_cons (ps_expr (pe_call (ok_check_run T) (hr.mono (by decide)) rfl T.g_check_run T.check_run.kp T.b_check_run .nil pass0 (pa_cons (pv 0) (pa_cons (pv 1) (pa_cons (pv 2) pa_nil)))))
      (pss_cons (ps_expr (pe_call (ok_check_size T) (hr.mono (by decide)) rfl T.g_check_size T.check_size.kp T.b_check_size .nil pass0 (pa_cons (pv 3) pa_nil)))
      (pss_cons (ps_if (pt_cmpR op_isN (pv 4) pe_non (nomark _)) (pss_one ps_never) pss_nil)
      (pss_cons (ps_expr (pe_call (ok_check_pauses T) (hr.mono (by decide)) rfl T.g_check_pauses T.check_pauses.kp T.b_check_pauses .nil pass0 (pa_cons (pv 4) (pa_cons (pv 1) (pa_cons (pv 2) pa_nil)))))
      (pss_one (ps_ret (pe_call (ok_run_of T TB) (hr.mono (by decide)) rfl T.g_run_of T.run_of.kp T.b_run_of .nil pass0 (pa_cons (pv 0) (pa_cons (pv 1) (pa_cons (pv 2) (pa_cons (pv 3) (pa_cons (pv 4) pa_nil)))))))))))), ?_⟩
    refine ⟨_, rfl, _, rfl, _, rfl, line, dl, a, b, _, ps, qs, rfl, L.l, ha, hb, hp, hq, op, oq, fun H1 m1 => ?_⟩
    refine ⟨_, rfl, x, rfl, hx1, hx2, _, rfl, rfl, _, rfl, ?_⟩
    show if decide (V.ref tk = V.non) = true then _ else _
    rw [show decide (V.ref tk = V.non) = false from decide_eq_false nofun]
    have okA : TkOk (u1 ++ u2) (pas (ps ++ qs)) := by
      unfold pas
      rw [List.filter_append]
      exact Paired.app ok1 ok2
    refine iteF ⟨_, rfl, _, rfl, _, rfl, tk, a, b, u1 ++ u2, ps, qs, rfl, m1 _ _ htk, ha.same m1, hb.same m1, hp, hq, okA, fun H2 m2 => ?_⟩
    have m := m1.trans m2
    exact ⟨_, rfl, _, rfl, _, rfl, _, rfl, _, rfl, line, dl, n0, n1, tl, d0, d1, t0, t1, a, b, tk, sz, wy, r0, e0, y0, r1, e1, y1, ps, qs, x, u1, u2, rfl, L.same (ExtN.of m), hz, he0, he1, ha.same m, hb.same m, hp, hq, op, oq, hx1, hx2, m _ _ htk, ok1.length.symm, ok2.length.symm, tb.ext m,
      fun H' xr dx en pc an he un al bs qu lp r e t => k H' xr dx en pc an he un al bs qu lp r ((ExtN.of m).trans e) t⟩
end
end K10

/-! the plain law: what both runs tell -/
namespace K10
open PySem.W L2
theorem sort_filter {α : Type} {le : α → α → Bool} (h : TotalLe le) (p : α → Bool) (l : List α) : (l.mergeSort le).filter p = (l.filter p).mergeSort le := by
  refine sort_unique h ((sort_pairwise h l).filter p) fun c => ?_
  have e : ∀ m : List α, (m.filter p).filter (sameRank le c) = (m.filter (sameRank le c)).filter p := fun m => by
    rw [List.filter_filter, List.filter_filter]
    exact List.filter_congr fun x _ => Bool.and_comm _ _
  rw [e, e, sort_stable h]
theorem leP_total : TotalLe leP := ⟨fun a b c h1 h2 => by
  unfold leP at *
  rw [decide_eq_true_eq] at *
  omega, fun a b => by
  unfold leP
  rw [decide_eq_true_eq, decide_eq_true_eq]
  omega⟩
def le1 (a b : Int × Int × Int) : Bool := decide (a.1 ≤ b.1)
theorem proj_sort (k : Bool) (lp : List Pc) : proj k (lp.mergeSort leP) = (proj k lp).mergeSort le1 := by
  unfold proj
  rw [sort_filter leP_total]
  refine sort_maps _ fun a ha b hb => ?_
  have e1 : a.2.1 = k := beq_iff_eq.mp (List.mem_filter.mp ha).2
  have e2 : b.2.1 = k := beq_iff_eq.mp (List.mem_filter.mp hb).2
  unfold leP le1
  rw [e1, e2]
  refine decide_eq_decide.mpr ?_
  show _ ↔ a.1 ≤ b.1
  omega
theorem proj_cons (b : Bool) (p : Pc) (r : List Pc) : proj b (p :: r) = (if p.2.1 = b then [(p.1, p.2.2)] else []) ++ proj b r := by
  have e : proj b (p :: r) = proj b [p] ++ proj b r := proj_append b [p] r
  rw [e]
  congr 1
  unfold proj
  by_cases h : p.2.1 = b
  · rw [if_pos h, List.filter_cons_of_pos (by exact beq_iff_eq.mpr h)]
    rfl
  · rw [if_neg h, List.filter_cons_of_neg (by rw [beq_iff_eq]; exact h)]
    rfl
theorem ansR_eq (s : Bool) (lp : List Pc) : ansR s lp = (((proj s lp).filter fun q => decide (q.2.1 = 0)).map fun _ => (1 : Int)).sum := by
  unfold ansR
  congr 1
  induction lp with
  | nil => rfl
  | cons p r ih =>
    rw [proj_cons, List.filter_append, List.map_append, ← ih]
    show an1 s ([p] ++ r) = _
    unfold an1
    rw [List.filter_append, List.map_append]
    congr 1
    by_cases h : p.2.1 = s
    · rw [if_pos h]
      by_cases h2 : p.2.2.1 = 0
      · rw [List.filter_cons_of_pos (by show ((p.2.1 == s) && decide (p.2.2.1 = 0)) = true; rw [h, h2]; cases s <;> rfl), List.filter_cons_of_pos (by show decide (p.2.2.1 = 0) = true; rw [h2]; rfl)]
        rfl
      · rw [List.filter_cons_of_neg (by show ¬ ((p.2.1 == s) && decide (p.2.2.1 = 0)) = true; rw [decide_eq_false h2, Bool.and_false]; decide), List.filter_cons_of_neg (by show ¬ decide (p.2.2.1 = 0) = true; rw [decide_eq_false h2]; decide)]
        rfl
    · rw [if_neg h, List.filter_cons_of_neg (by show ¬ ((p.2.1 == s) && decide (p.2.2.1 = 0)) = true; rw [Bool.and_eq_true, beq_iff_eq]; exact fun q => h q.1)]
      rfl
theorem quiet_mem (x wy : Int) (lp : List Pc) : x ∈ lp.map (fun p => p.1 + wy) ↔ x ∈ (proj false lp).map (fun q => q.1 + wy) ∨ x ∈ (proj true lp).map (fun q => q.1 + wy) := by
  induction lp with
  | nil => simp [proj]
  | cons p r ih =>
    rw [List.map_cons, List.mem_cons, ih, proj_cons, proj_cons, List.map_append, List.map_append, List.mem_append, List.mem_append]
    cases h : p.2.1
    · rw [if_pos rfl, if_neg (by decide)]
      simp only [List.map_cons, List.map_nil, List.mem_singleton, List.not_mem_nil, false_or]
      exact or_assoc.symm
    · rw [if_neg (by decide), if_pos rfl]
      simp only [List.map_cons, List.map_nil, List.mem_singleton, List.not_mem_nil, false_or]
      exact or_left_comm
/-- two logs, the sides changed -/
def Sw (lp lp' : List Pc) : Prop := ∀ b, proj b lp' = proj (!b) lp
theorem Sw.quiet {lp lp' : List Pc} (h : Sw lp lp') (x wy : Int) : x ∈ lp'.map (fun p => p.1 + wy) ↔ x ∈ lp.map (fun p => p.1 + wy) := by
  rw [quiet_mem, quiet_mem, h, h]
  exact or_comm
theorem Sw.qu {lp lp' : List Pc} (h : Sw lp lp') {wy q q' : Int} (a : q ∈ (0 : Int) :: lp.map (fun p => p.1 + wy)) (b : ∀ y ∈ (0 : Int) :: lp.map (fun p => p.1 + wy), y ≤ q)
    (a' : q' ∈ (0 : Int) :: lp'.map (fun p => p.1 + wy)) (b' : ∀ y ∈ (0 : Int) :: lp'.map (fun p => p.1 + wy), y ≤ q') : q' = q := by
  have e : ∀ x, x ∈ (0 : Int) :: lp'.map (fun p => p.1 + wy) ↔ x ∈ (0 : Int) :: lp.map (fun p => p.1 + wy) := fun x => by
    rw [List.mem_cons, List.mem_cons, h.quiet]
  exact Int.le_antisymm (b _ ((e _).mp a')) (b' _ ((e _).mpr a))
theorem Sw.ans {lp lp' : List Pc} (h : Sw lp lp') (b : Bool) : ansR b lp' = ansR (!b) lp := by rw [ansR_eq, ansR_eq, h]
theorem Sw.side {lp lp' : List Pc} (h : Sw lp lp') (b : Bool) : proj (!b) (lp'.mergeSort leP) = proj b (lp.mergeSort leP) := by
  rw [proj_sort, proj_sort, h, Bool.not_not]
theorem Sw.len {lp lp' : List Pc} (h : Sw lp lp') : lp'.length = lp.length := by
  rw [proj_len, proj_len lp, h, h]
  exact Nat.add_comm _ _
/-! ### the answers, sorted -/
def row (p : Pc) : List Int := [p.1, sdI p.2.1, p.2.2.1, p.2.2.2]
def rowT (p : Pc) : List Int := [p.1, 1 - sdI p.2.1, p.2.2.1, p.2.2.2]
def isAn (p : Pc) : Bool := decide (p.2.2.1 = 0)
def jn (x y : List (Int × Int × Int)) : List Pc := x.map (fun q => (q.1, false, q.2)) ++ y.map (fun q => (q.1, true, q.2))
theorem jn_perm (lp : List Pc) : (jn (proj false lp) (proj true lp)).Perm lp := by
  induction lp with
  | nil => exact .nil
  | cons p r ih =>
    obtain ⟨t, s, q⟩ := p
    rw [proj_cons, proj_cons]
    cases s
    · exact .cons _ ih
    · exact List.perm_middle.trans (.cons _ ih)
theorem jn_row (x y : List (Int × Int × Int)) : (((jn x y).filter isAn).map rowT).Perm (((jn y x).filter isAn).map row) := by
  unfold jn
  rw [List.filter_append, List.filter_append, List.map_append, List.map_append]
  have e1 : ∀ x : List (Int × Int × Int), ((x.map fun q => ((q.1, false, q.2) : Pc)).filter isAn).map rowT = ((x.map fun q => ((q.1, true, q.2) : Pc)).filter isAn).map row := fun x => by
    induction x with
    | nil => rfl
    | cons a r ih =>
      rw [List.map_cons, List.map_cons]
      by_cases h : a.2.1 = 0
      · have h' : decide (a.2.1 = 0) = true := decide_eq_true h
        rw [List.filter_cons_of_pos (by exact h'), List.filter_cons_of_pos (by exact h'), List.map_cons, List.map_cons, ih]
        rfl
      · have h' : ¬ decide (a.2.1 = 0) = true := by rw [decide_eq_true_eq]; exact h
        rw [List.filter_cons_of_neg (by exact h'), List.filter_cons_of_neg (by exact h'), ih]
  have e2 : ∀ x : List (Int × Int × Int), ((x.map fun q => ((q.1, true, q.2) : Pc)).filter isAn).map rowT = ((x.map fun q => ((q.1, false, q.2) : Pc)).filter isAn).map row := fun x => by
    induction x with
    | nil => rfl
    | cons a r ih =>
      rw [List.map_cons, List.map_cons]
      by_cases h : a.2.1 = 0
      · have h' : decide (a.2.1 = 0) = true := decide_eq_true h
        rw [List.filter_cons_of_pos (by exact h'), List.filter_cons_of_pos (by exact h'), List.map_cons, List.map_cons, ih]
        rfl
      · have h' : ¬ decide (a.2.1 = 0) = true := by rw [decide_eq_true_eq]; exact h
        rw [List.filter_cons_of_neg (by exact h'), List.filter_cons_of_neg (by exact h'), ih]
  rw [e1, e2]
  exact List.perm_append_comm
theorem rows_total : TotalLe (fun p q : List Int => decide (p ≤ q)) := ⟨fun a b c h1 h2 => decide_eq_true (List.le_trans (of_decide_eq_true h1) (of_decide_eq_true h2)), fun a b => (List.le_total a b).imp decide_eq_true decide_eq_true⟩
theorem rows_one {x y : List (List Int)} (h : x.Perm y) : x.mergeSort (fun p q => decide (p ≤ q)) = y.mergeSort fun p q => decide (p ≤ q) := by
  refine List.Perm.eq_of_pairwise (le := fun p q : List Int => decide (p ≤ q) = true) (fun a b _ _ h1 h2 => List.le_antisymm (of_decide_eq_true h1) (of_decide_eq_true h2)) (sort_pairwise rows_total x) (sort_pairwise rows_total y) ?_
  exact ((List.mergeSort_perm x _).trans h).trans (List.mergeSort_perm y _).symm
theorem Sw.rows {lp lp' : List Pc} (h : Sw lp lp') : ((((lp'.mergeSort leP).filter isAn).map row).mergeSort fun p q => decide (p ≤ q)) = (((lp.mergeSort leP).filter isAn).map rowT).mergeSort fun p q => decide (p ≤ q) := by
  refine rows_one ?_
  have a : (lp'.mergeSort leP).Perm (jn (proj true lp) (proj false lp)) := by
    have e := jn_perm lp'
    rw [h false, h true] at e
    exact (List.mergeSort_perm _ _).trans e.symm
  have b : (lp.mergeSort leP).Perm (jn (proj false lp) (proj true lp)) := (List.mergeSort_perm _ _).trans (jn_perm lp).symm
  exact ((a.filter _).map _).trans ((jn_row _ _).symm.trans ((b.filter _).map _).symm)
theorem endsV_flip (C : C2) : endsV (flip C) = [oI (C true).ended, oI (C false).ended] := rfl
theorem stuck_flip (C : C2) : inV .non (endsV (flip C)) = inV .non (endsV C) := by
  show (eqV (oI (C true).ended) .non || (eqV (oI (C false).ended) .non || false)) = (eqV (oI (C false).ended) .non || (eqV (oI (C true).ended) .non || false))
  rw [Bool.or_false, Bool.or_false, Bool.or_comm]
end K10

namespace K10
open PySem L2 LamX
/-- all but a stays -/
def Fr (a : Addr) (H H' : Hp) : Prop := ∀ b o, b ≠ a → H b = some o → H' b = some o
theorem Fr.refl (a : Addr) (H : Hp) : Fr a H H := fun _ _ _ e => e
theorem Fr.trans {a : Addr} {H H1 H2 : Hp} (f : Fr a H H1) (g : Fr a H1 H2) : Fr a H H2 := fun b o hb e => g b o hb (f b o hb e)
theorem Fr.same {a : Addr} {H H1 : Hp} (s : Same H H1) : Fr a H H1 := fun b o _ e => s b o e
theorem Fr.upd {a : Addr} {H : Hp} {o : HO} : Fr a H (upd H a o) := fun b u hb e => by
  rw [upd_ne hb]
  exact e
/-- the law's mill at a -/
def Mil (H : Hp) (a : Addr) : Prop := ∃ m0 m1 m2 : Int, H a = some (.lst [.int m0, .int m1, .int m2])
theorem Mil.same {H H' : Hp} {a : Addr} (m : Mil H a) (s : Same H H') : Mil H' a := by
  obtain ⟨m0, m1, m2, h⟩ := m
  exact ⟨m0, m1, m2, s _ _ h⟩
theorem Mil.ne {H : Hp} {a p : Addr} (m : Mil H a) (n : H p = none) : p ≠ a := fun e => by
  obtain ⟨m0, m1, m2, h⟩ := m
  rw [e, h] at n
  cases n
theorem Mil.neT {H : Hp} {a p : Addr} {xs : List V} (m : Mil H a) (n : H p = some (.tup xs)) : p ≠ a := fun e => by
  obtain ⟨m0, m1, m2, h⟩ := m
  rw [e, h] at n
  cases n
section
variable {P : Program} {w : World} {K : PySem.W.Frag} {mg : Str → Option Value} {base : Heap} {A : Ads}
def sp_l_grain : Sp := fun vs H Q _ => ∃ (a : Addr) (n : Int), vs = [.ref a, .int n] ∧ Mil H a ∧ 0 < n ∧ n < 1000 ∧ ∀ H' d, 0 ≤ d → d < n → Fr a H H' → Mil H' a → Q (.int d) H'
theorem ok_l_grain (T : Txt K mg A) : FnOk P w K mg base CX0 1 A.f_l_grain A.d_l_grain ps_l_grain sp_l_grain := by
  refine T.l_grain.ok sc_l_grain (fun vs H Q E h => ?_) (fun cdv AR outer sh H vs Q EX hr h => ?_)
  · obtain ⟨a, n, rfl, _⟩ := h
    rfl
  · obtain ⟨a, n, rfl, ⟨m0, m1, m2, ha⟩, hn, hn2, k⟩ := h
    refine ⟨_, (pss_cons (ps_asg (pe_op op_add (pe_ix ix_list (pv 0) pe_int (fun _ _ => rfl)) pe_int) (pg_sub (pv 0) pe_int set_list))
      (pss_cons (ps_if (pt_cmpR op_gt (pe_ix ix_list (pv 0) pe_int (fun _ _ => rfl)) pe_int (nomark _)) (pss_cons (ps_asg (pe_callB call_divmodW (by rfl) T.n_divmod (by decide +kernel) (pa_cons (pe_callTy call_int1 (by rfl) T.n_int (by decide +kernel) (pa_cons (pe_ix ix_list (pv 0) pe_int (fun _ _ => rfl)) pa_nil)) (pa_cons (pv 1) pa_nil))) (pg_tup (by rfl) (pgs_cons (pg_sub (pv 0) pe_int set_list) (pgs_cons (pg_name (i := 2) sc_l_grain.nd rfl (Or.inl rfl)) pgs_nil))))
      (pss_one (ps_ret (pv 2)))) pss_nil)
      (pss_cons (ps_asg (pe_op op_mod (pe_callTy call_int1 (by rfl) T.n_int (by decide +kernel) (pa_cons (pe_op op_add (pe_op op_add (pe_op op_mul (pe_ix ix_list (pv 0) pe_int (fun _ _ => rfl)) pe_int) (pe_op op_mul (pe_ix ix_list (pv 0) pe_int (fun _ _ => rfl)) pe_int)) (pe_op op_mul (pe_op op_fdiv (pe_ix ix_list (pv 0) pe_int (fun _ _ => rfl)) pe_int) pe_int)) pa_nil)) pe_int) (pg_sub (pv 0) pe_int set_list))
      (pss_one (ps_ret (pe_op op_mod (pe_callTy call_int1 (by rfl) T.n_int (by decide +kernel) (pa_cons (pe_op op_fdiv (pe_ix ix_list (pv 0) pe_int (fun _ _ => rfl)) pe_int) pa_nil)) (pv 1))))))), ?_⟩
    refine ⟨_, rfl, _, _, _, _, rfl, rfl, SqL.of ha, rfl, _, _, rfl, rfl, _, rfl, _, _, _, _, rfl, rfl, ha, rfl, ?_⟩
    have hb1 : Fr a H (upd H a (.lst [.int m0, .int (m1 + 4), .int m2])) := Fr.upd
    have hb2 : upd H a (.lst [.int m0, .int (m1 + 4), .int m2]) a = some (.lst [.int m0, .int (m1 + 4), .int m2]) := upd_same
    show (fun H' => _) (upd H a (.lst [.int m0, .int (m1 + 4), .int m2]))
    revert hb1 hb2
    generalize upd H a (.lst [.int m0, .int (m1 + 4), .int m2]) = H1
    intro f1 h1
    refine ⟨_, rfl, _, _, _, _, rfl, rfl, SqL.of h1, rfl, _, _, rfl, rfl, _, rfl, ite2 (fun hc => ?_) (fun hc => ?_)⟩
    · refine ⟨_, rfl, _, _, _, _, rfl, rfl, SqL.of h1, rfl, .inl ⟨_, rfl, _, rfl, _, _, rfl, ⟨hn, PyProof.noPylong_small (by omega)⟩, fun p np => ⟨_, _, rfl, SqT.of upd_same, rfl, _, _, rfl, _, rfl, _, _, _, _, rfl, rfl, (upd_ne (ne_of_none h1 np)).trans h1, rfl, _, _, rfl, rfl, _, rfl, ?_⟩⟩⟩
      refine k _ _ (Int.emod_nonneg _ (by omega)) (Int.emod_lt_of_pos _ hn) (fun b o hb e => ?_) ⟨_, _, _, upd_same⟩
      rw [upd_ne hb, upd_ne (ne_of_none (f1 b o hb e) np)]
      exact f1 b o hb e
    · refine ⟨_, rfl, _, _, _, _, rfl, rfl, SqL.of h1, rfl, _, _, rfl, rfl, .inr (by decide), _, rfl, _, _, _, _, rfl, rfl, SqL.of h1, rfl, _, _, rfl, rfl, .inr (by decide), _, _, rfl, rfl, _, rfl, _, _, _, _, rfl, rfl, SqL.of h1, rfl, _, _, rfl, rfl, ⟨by decide, by decide⟩, _, _, rfl, rfl, .inr (by decide), _, _, rfl, rfl, .inl ⟨_, rfl, _, _, rfl, rfl, (show (0 : Int) < 1999999817 by decide), _, rfl, _, _, _, _, rfl, rfl, h1, rfl, ?_⟩⟩
      refine ⟨_, rfl, _, _, _, _, rfl, rfl, SqL.of upd_same, rfl, _, _, rfl, rfl, ⟨by decide, by decide⟩, .inl ⟨_, rfl, _, rfl, _, _, rfl, rfl, hn, ?_⟩⟩
      exact k _ _ (Int.emod_nonneg _ (by omega)) (Int.emod_lt_of_pos _ hn) (f1.trans Fr.upd) ⟨_, _, _, upd_same⟩
def sp_l_pick : Sp := fun vs H Q _ => ∃ (a l : Addr) (xs : List V), vs = [.ref a, .ref l] ∧ Mil H a ∧ H l = some (.lst xs) ∧ l ≠ a ∧ 0 < xs.length ∧ xs.length < 1000 ∧ ∀ H' v, v ∈ xs → Fr a H H' → Mil H' a → Q v H'
theorem ok_l_pick (T : Txt K mg A) : FnOk P w K mg base CX0 2 A.f_l_pick A.d_l_pick ps_l_pick sp_l_pick := by
  refine T.l_pick.ok sc_l_pick (fun vs H Q E h => ?_) (fun cdv AR outer sh H vs Q EX hr h => ?_)
  · obtain ⟨a, l, xs, rfl, _⟩ := h
    rfl
  · obtain ⟨a, l, xs, rfl, hm, hl, hne, h0, h1, k⟩ := h
    refine ⟨_, (pss_one (ps_ret (pe_ix ix_list (pv 1) (pe_call (ok_l_grain T) (hr.mono (by decide)) rfl T.g_law_grain T.l_grain.kp T.b_l_grain .nil pass0 (pa_cons (pv 0) (pa_cons (pe_callB call_len_seq (by rfl) T.n_len (by decide +kernel) (pa_cons (pv 1) pa_nil)) pa_nil))) (fun _ _ => rfl)))), ?_⟩
    refine ⟨_, rfl, _, rfl, _, rfl, _, _, rfl, .inl (SqL.of hl), a, _, rfl, hm, by omega, by omega, fun H' d d0 d1 f m => ?_⟩
    have hd : d.toNat < xs.length := by omega
    refine ⟨l, xs, d, xs[d.toNat], rfl, rfl, SqL.of (f l _ hne hl), ?_, k H' _ (List.getElem_mem hd) f m⟩
    have e : ((d.toNat : Nat) : Int) = d := by omega
    have q := atI_nat (List.getElem?_eq_getElem hd)
    rw [e] at q
    exact q
theorem Fr.of_none {a : Addr} {H H' : Hp} {p : Addr} {o : HO} (f : Fr a (L2.upd H p o) H') (n : H p = none) : Fr a H H' := fun b u hb e => f b u hb (by rw [upd_ne (ne_of_none e n)]; exact e)
theorem Mil.upd {H : Hp} {a p : Addr} {o : HO} (m : Mil H a) (n : H p = none) : Mil (L2.upd H p o) a := m.same (same_upd n)
/-- the ways of a side: rule, every, delay -/
def Ways (H : Hp) (t : Addr) (r : Rl) (e y : Int) : Prop := H t = some (.tup [.str (rlS r), .int e, .int y]) ∧ 1 ≤ e ∧ e ≤ 4 ∧ 0 ≤ y ∧ y ≤ 200
def sp_l_ways : Sp := fun vs H Q _ => ∃ (a : Addr), vs = [.ref a] ∧ Mil H a ∧ ∀ H' t r e y, Ways H' t r e y → Fr a H H' → Mil H' a → Q (.ref t) H'
theorem ok_l_ways (T : Txt K mg A) : FnOk P w K mg base CX0 3 A.f_l_ways A.d_l_ways ps_l_ways sp_l_ways := by
  refine T.l_ways.ok sc_l_ways (fun vs H Q E h => ?_) (fun cdv AR outer sh H vs Q EX hr h => ?_)
  · obtain ⟨a, rfl, _⟩ := h
    rfl
  · obtain ⟨a, rfl, hm, k⟩ := h
    refine ⟨_, (pss_cons (ps_set (i := 1) sc_l_ways.nd rfl (Or.inl rfl) (pe_call (ok_l_pick T) (hr.mono (by decide)) rfl T.g_law_pick T.l_pick.kp T.b_l_pick .nil pass0 (pa_cons (pv 0) (pa_cons (pe_lst (pa_cons pe_str (pa_cons pe_str (pa_cons pe_str (pa_cons pe_str pa_nil))))) pa_nil))))
      (pss_one (ps_ret (pe_tup (pa_cons (pv 1) (pa_cons (pe_op op_add pe_int (pe_call (ok_l_grain T) (hr.mono (by decide)) rfl T.g_law_grain T.l_grain.kp T.b_l_grain .nil pass0 (pa_cons (pv 0) (pa_cons pe_int pa_nil)))) (pa_cons (pe_call (ok_l_pick T) (hr.mono (by decide)) rfl T.g_law_pick T.l_pick.kp T.b_l_pick .nil pass0 (pa_cons (pv 0) (pa_cons (pe_lst (pa_cons pe_int (pa_cons pe_int (pa_cons pe_int (pa_cons pe_int (pa_cons pe_int (pa_cons (pe_call (ok_l_grain T) (hr.mono (by decide)) rfl T.g_law_grain T.l_grain.kp T.b_l_grain .nil pass0 (pa_cons (pv 0) (pa_cons pe_int pa_nil))) pa_nil))))))) pa_nil))) pa_nil))))))), ?_⟩
    refine ⟨_, rfl, by show 4 ≤ sizeLine; decide, fun l nl => ⟨a, l, _, rfl, hm.upd nl, upd_same, hm.ne nl, by show 0 < 4; decide, by show 4 < 1000; decide, fun H1 v hv f1 m1 => ?_⟩⟩
    obtain ⟨r, rfl⟩ : ∃ r, v = .str (rlS r) := by
      rcases List.mem_cons.mp hv with rfl | hv
      · exact ⟨.plain, rfl⟩
      rcases List.mem_cons.mp hv with rfl | hv
      · exact ⟨.hold, rfl⟩
      rcases List.mem_cons.mp hv with rfl | hv
      · exact ⟨.few, rfl⟩
      rw [List.mem_singleton.mp hv]
      exact ⟨.hold, rfl⟩
    have f1 := f1.of_none nl
    refine ⟨_, rfl, _, rfl, a, 4, rfl, m1, by decide, by decide, fun H2 d d0 d1 f2 m2 => ⟨_, _, rfl, rfl, ?_⟩⟩
    refine ⟨_, rfl, _, rfl, a, 60, rfl, m2, by decide, by decide, fun H3 d' d0' d1' f3 m3 => ?_⟩
    refine ⟨by show 6 ≤ sizeLine; decide, fun l2 nl2 => ⟨a, l2, _, rfl, m3.upd nl2, upd_same, m3.ne nl2, by show 0 < 6; decide, by show 6 < 1000; decide, fun H4 v hv f4 m4 => ?_⟩⟩
    obtain ⟨y, rfl, y0, y1⟩ : ∃ y : Int, v = .int y ∧ 0 ≤ y ∧ y ≤ 200 := by
      rcases List.mem_cons.mp hv with rfl | hv
      · exact ⟨_, rfl, by decide, by decide⟩
      rcases List.mem_cons.mp hv with rfl | hv
      · exact ⟨_, rfl, by decide, by decide⟩
      rcases List.mem_cons.mp hv with rfl | hv
      · exact ⟨_, rfl, by decide, by decide⟩
      rcases List.mem_cons.mp hv with rfl | hv
      · exact ⟨_, rfl, by decide, by decide⟩
      rcases List.mem_cons.mp hv with rfl | hv
      · exact ⟨_, rfl, by decide, by decide⟩
      rw [List.mem_singleton.mp hv]
      exact ⟨_, rfl, d0', by omega⟩
    have f4 := f4.of_none nl2
    refine ⟨by show 3 ≤ sizeLine; decide, fun t nt => ?_⟩
    exact k _ t r (1 + d) y ⟨upd_same, by omega, by omega, y0, y1⟩ ((f1.trans (f2.trans (f3.trans f4))).trans (Fr.same (same_upd nt))) (m4.upd nt)
theorem Ways.fr {H H' : Hp} {a t : Addr} {r : Rl} {e y : Int} (w : Ways H t r e y) (m : Mil H a) (f : Fr a H H') : Ways H' t r e y := ⟨f _ _ (m.neT w.1) w.1, w.2⟩
/-- a line's numbers, told -/
def Told (H : Hp) (t : Addr) (sz wy : Int) (c d : Addr) : Prop := H t = some (.tup [.int sz, .int wy, .ref c, .ref d])
def sp_l_told : Sp := fun vs H Q _ => ∃ (a : Addr), vs = [.ref a] ∧ Mil H a ∧ ∀ H' t c d sz wy r0 e0 y0 r1 e1 y1, Told H' t sz wy c d → 1 ≤ sz → sz ≤ 40 → 1 ≤ wy → wy ≤ 200 → Ways H' c r0 e0 y0 → Ways H' d r1 e1 y1 → Fr a H H' → Mil H' a → Q (.ref t) H'
theorem ok_l_told (T : Txt K mg A) : FnOk P w K mg base CX0 4 A.f_l_told A.d_l_told ps_l_told sp_l_told := by
  refine T.l_told.ok sc_l_told (fun vs H Q E h => ?_) (fun cdv AR outer sh H vs Q EX hr h => ?_)
  · obtain ⟨a, rfl, _⟩ := h
    rfl
  · obtain ⟨a, rfl, hm, k⟩ := h
    refine ⟨_, (pss_cons (ps_set (i := 1) sc_l_told.nd rfl (Or.inl rfl) (pe_call (ok_l_pick T) (hr.mono (by decide)) rfl T.g_law_pick T.l_pick.kp T.b_l_pick .nil pass0 (pa_cons (pv 0) (pa_cons (pe_lst (pa_cons pe_int (pa_cons pe_int (pa_cons pe_int (pa_cons pe_int (pa_cons pe_int (pa_cons pe_int pa_nil))))))) pa_nil))))
      (pss_one (ps_ret (pe_tup (pa_cons (pv 1) (pa_cons (pe_call (ok_l_pick T) (hr.mono (by decide)) rfl T.g_law_pick T.l_pick.kp T.b_l_pick .nil pass0 (pa_cons (pv 0) (pa_cons (pe_lst (pa_cons pe_int (pa_cons pe_int (pa_cons pe_int (pa_cons (pe_op op_add pe_int (pe_call (ok_l_grain T) (hr.mono (by decide)) rfl T.g_law_grain T.l_grain.kp T.b_l_grain .nil pass0 (pa_cons (pv 0) (pa_cons pe_int pa_nil)))) pa_nil))))) pa_nil))) (pa_cons (pe_call (ok_l_ways T) (hr.mono (by decide)) rfl T.g_law_ways T.l_ways.kp T.b_l_ways .nil pass0 (pa_cons (pv 0) pa_nil)) (pa_cons (pe_call (ok_l_ways T) (hr.mono (by decide)) rfl T.g_law_ways T.l_ways.kp T.b_l_ways .nil pass0 (pa_cons (pv 0) pa_nil)) pa_nil)))))))), ?_⟩
    refine ⟨_, rfl, by show 6 ≤ sizeLine; decide, fun l nl => ⟨a, l, _, rfl, hm.upd nl, upd_same, hm.ne nl, by show 0 < 6; decide, by show 6 < 1000; decide, fun H1 v hv f1 m1 => ?_⟩⟩
    obtain ⟨sz, rfl, z0, z1⟩ : ∃ y : Int, v = .int y ∧ 1 ≤ y ∧ y ≤ 40 := by
      rcases List.mem_cons.mp hv with rfl | hv
      · exact ⟨_, rfl, by decide, by decide⟩
      rcases List.mem_cons.mp hv with rfl | hv
      · exact ⟨_, rfl, by decide, by decide⟩
      rcases List.mem_cons.mp hv with rfl | hv
      · exact ⟨_, rfl, by decide, by decide⟩
      rcases List.mem_cons.mp hv with rfl | hv
      · exact ⟨_, rfl, by decide, by decide⟩
      rcases List.mem_cons.mp hv with rfl | hv
      · exact ⟨_, rfl, by decide, by decide⟩
      rw [List.mem_singleton.mp hv]
      exact ⟨_, rfl, by decide, by decide⟩
    have f1 := f1.of_none nl
    refine ⟨_, rfl, _, rfl, _, rfl, a, 30, rfl, m1, by decide, by decide, fun H2 d d0 d1 f2 m2 => ⟨_, _, rfl, rfl, ?_⟩⟩
    refine ⟨by show 4 ≤ sizeLine; decide, fun l2 nl2 => ⟨a, l2, _, rfl, m2.upd nl2, upd_same, m2.ne nl2, by show 0 < 4; decide, by show 4 < 1000; decide, fun H3 v hv f3 m3 => ?_⟩⟩
    obtain ⟨wy, rfl, y0, y1⟩ : ∃ y : Int, v = .int y ∧ 1 ≤ y ∧ y ≤ 200 := by
      rcases List.mem_cons.mp hv with rfl | hv
      · exact ⟨_, rfl, by decide, by decide⟩
      rcases List.mem_cons.mp hv with rfl | hv
      · exact ⟨_, rfl, by decide, by decide⟩
      rcases List.mem_cons.mp hv with rfl | hv
      · exact ⟨_, rfl, by decide, by decide⟩
      rw [List.mem_singleton.mp hv]
      exact ⟨_, rfl, by omega, by omega⟩
    have f3 := f3.of_none nl2
    refine ⟨_, rfl, a, rfl, m3, fun H4 c r0 e0 q0 w4 f4 m4 => ⟨_, rfl, a, rfl, m4, fun H5 d r1 e1 q1 w5 f5 m5 => ⟨by show 4 ≤ sizeLine; decide, fun t nt => ?_⟩⟩⟩
    have st := Fr.same (a := a) (same_upd (o := .tup [.int sz, .int wy, .ref c, .ref d]) nt)
    exact k _ t c d sz wy r0 e0 q0 r1 e1 q1 upd_same z0 z1 y0 y1 ((w4.fr m4 f5).fr m5 st) (w5.fr m5 st) ((f1.trans (f2.trans (f3.trans (f4.trans f5)))).trans st) (m5.upd nt)
def sp_l_made (A : Ads) : Sp := fun vs H Q _ => ∃ (t c d : Addr) (sz wy : Int) (r0 : Rl) (e0 y0 : Int) (r1 : Rl) (e1 y1 : Int), vs = [.ref t] ∧ Told H t sz wy c d ∧ 1 ≤ sz ∧ sz ≤ 40 ∧ 1 ≤ wy ∧ wy ≤ 200 ∧ Ways H c r0 e0 y0 ∧ Ways H d r1 e1 y1 ∧
  ∀ H' line dl n0 n1 tl d0 d1 t0 t1, Ln A H' line dl n0 n1 tl d0 d1 t0 t1 sz wy r0 e0 y0 r1 e1 y1 → Same H H' → Q (.ref line) H'
theorem ok_l_made (T : Txt K mg A) : FnOk P w K mg base CX0 6 A.f_l_made A.d_l_made ps_l_made (sp_l_made A) := by
  refine T.l_made.ok sc_l_made (fun vs H Q E h => ?_) (fun cdv AR outer sh H vs Q EX hr h => ?_)
  · obtain ⟨t, c, d, sz, wy, r0, e0, y0, r1, e1, y1, rfl, _⟩ := h
    rfl
  · obtain ⟨t, c, d, sz, wy, r0, e0, y0, r1, e1, y1, rfl, ht, z0, z1, w0, w1, wc, wd, k⟩ := h
    refine ⟨_, (pss_cons (ps_asg (pv 0) (pg_tup (by rfl) (pgs_cons (pg_name (i := 1) sc_l_made.nd rfl (Or.inl rfl)) (pgs_cons (pg_name (i := 2) sc_l_made.nd rfl (Or.inl rfl)) (pgs_cons (pg_name (i := 3) sc_l_made.nd rfl (Or.inl rfl)) (pgs_cons (pg_name (i := 4) sc_l_made.nd rfl (Or.inl rfl)) pgs_nil))))))
      (pss_one (ps_ret (pe_make T.mk_L (ok_L_init T) (hr.mono (by decide)) rfl T.g_Line T.b_L_init .nil pass0 (pa_cons (pv 1) (pa_cons (pv 2) (pa_cons (pe_make T.mk_S (ok_S_init T) (hr.mono (by decide)) rfl T.g_Setting T.b_S_init .nil pass0 (pa_cons (pe_ix ix_tup (pv 3) pe_int (fun _ _ => rfl)) (pa_cons (pe_ix ix_tup (pv 3) pe_int (fun _ _ => rfl)) (pa_cons (pe_ix ix_tup (pv 3) pe_int (fun _ _ => rfl)) pa_nil)))) (pa_cons (pe_make T.mk_S (ok_S_init T) (hr.mono (by decide)) rfl T.g_Setting T.b_S_init .nil pass0 (pa_cons (pe_ix ix_tup (pv 4) pe_int (fun _ _ => rfl)) (pa_cons (pe_ix ix_tup (pv 4) pe_int (fun _ _ => rfl)) (pa_cons (pe_ix ix_tup (pv 4) pe_int (fun _ _ => rfl)) pa_nil)))) pa_nil)))))))), ?_⟩
    have hc := wc.1
    have hd := wd.1
    refine ⟨_, rfl, _, _, rfl, SqT.of ht, rfl, _, _, rfl, _, _, rfl, _, _, rfl, _, _, rfl, rfl, ?_⟩
    refine ⟨_, rfl, _, rfl, _, rfl, _, _, _, _, rfl, rfl, SqT.of hc, rfl, _, rfl, _, _, _, _, rfl, rfl, SqT.of hc, rfl, _, rfl, _, _, _, _, rfl, rfl, SqT.of hc, rfl, fun n0 d0 nn0 nd0 ne0 => ⟨n0, d0, r0, e0, y0, rfl, wc.2.1 |> fun h => ⟨h, wc.2.2.1⟩, ⟨wc.2.2.2.1, wc.2.2.2.2⟩, upd_same, fun H1 t0 f1 h1 => ⟨rfl, ?_⟩⟩⟩
    have s1 : Same H H1 := fun b o e => f1 b o (ne_of_none e nn0) (by rw [upd_ne (ne_of_none e nn0), upd_ne (ne_of_none e nd0)]; exact e)
    have hd1 := s1 _ _ hd
    refine ⟨_, rfl, _, _, _, _, rfl, rfl, SqT.of hd1, rfl, _, rfl, _, _, _, _, rfl, rfl, SqT.of hd1, rfl, _, rfl, _, _, _, _, rfl, rfl, SqT.of hd1, rfl, fun n1 d1 nn1 nd1 ne1 => ⟨n1, d1, r1, e1, y1, rfl, ⟨wd.2.1, wd.2.2.1⟩, ⟨wd.2.2.2.1, wd.2.2.2.2⟩, upd_same, fun H2 t1 f2 h2 => ⟨rfl, ?_⟩⟩⟩
    have s2 : Same H1 H2 := fun b o e => f2 b o (ne_of_none e nn1) (by rw [upd_ne (ne_of_none e nn1), upd_ne (ne_of_none e nd1)]; exact e)
    have h12 := s2 _ _ h1
    refine fun x dx nx ndx nex => ?_
    have sx : Same H2 (upd (upd H2 dx (.own x)) x (.ins A.CL dx [])) := fun b o e => by
      rw [upd_ne (ne_of_none e nx), upd_ne (ne_of_none e ndx)]
      exact e
    refine ⟨x, dx, n0, n1, d0, d1, t0, t1, sz, wy, r0, r1, e0, e1, y0, y1, rfl, ⟨z0, z1⟩, ⟨w0, w1⟩, sx _ _ h12, sx _ _ h2, upd_same, ne_of_none h12 nx, ne_of_none h2 nx, fun H3 t3 f3 h3 => ⟨rfl, ?_⟩⟩
    have s3 : Same H2 H3 := fun b o e => f3 b o (ne_of_none e nx) (sx _ _ e)
    exact k H3 x dx n0 n1 t3 d0 d1 t0 t1 ⟨h3, s3 _ _ h12, s3 _ _ h2⟩ (s1.trans (s2.trans s3))
def sp_l_amount : Sp := fun vs H Q _ => ∃ (a : Addr), vs = [.ref a, .bl true] ∧ Mil H a ∧ ∀ H' n, AmOk n → Fr a H H' → Mil H' a → Q (amV n) H'
theorem ok_l_amount (T : Txt K mg A) : FnOk P w K mg base CX0 3 A.f_l_amount A.d_l_amount ps_l_amount sp_l_amount := by
  refine T.l_amount.ok sc_l_amount (fun vs H Q E h => ?_) (fun cdv AR outer sh H vs Q EX hr h => ?_)
  · obtain ⟨a, rfl, _⟩ := h
    rfl
  · obtain ⟨a, rfl, hm, k⟩ := h
    refine ⟨_, (pss_cons (ps_if (PW.pt (pw_and (pt_val (pv 1)) (pw_and1 (pt_cmpR op_eq (pe_call (ok_l_grain T) (hr.mono (by decide)) rfl T.g_law_grain T.l_grain.kp T.b_l_grain .nil pass0 (pa_cons (pv 0) (pa_cons pe_int pa_nil))) pe_int (nomark _))))) (pss_one (ps_ret pe_str)) pss_nil)
      (pss_one (ps_ret (pe_op op_add pe_int (pe_call (ok_l_grain T) (hr.mono (by decide)) rfl T.g_law_grain T.l_grain.kp T.b_l_grain .nil pass0 (pa_cons (pv 0) (pa_cons (pe_call (ok_l_pick T) (hr.mono (by decide)) rfl T.g_law_pick T.l_pick.kp T.b_l_pick .nil pass0 (pa_cons (pv 0) (pa_cons (pe_lst (pa_cons pe_int (pa_cons pe_int (pa_cons pe_int pa_nil)))) pa_nil))) pa_nil))))))), ?_⟩
    refine ⟨_, rfl, true, rfl, iteT ⟨_, rfl, a, 3, rfl, hm, by decide, by decide, fun H1 d d0 d1 f1 m1 => ⟨rfl, _, rfl, ite2 (fun hc => ?_) (fun hc => ?_)⟩⟩⟩
    · exact k H1 none trivial f1 m1
    · refine ⟨_, rfl, _, rfl, by show 3 ≤ sizeLine; decide, fun l nl => ⟨a, l, _, rfl, m1.upd nl, upd_same, m1.ne nl, by show 0 < 3; decide, by show 3 < 1000; decide, fun H2 v hv f2 m2 => ?_⟩⟩
      have f2 := f2.of_none nl
      obtain ⟨n, rfl, n0, n1⟩ : ∃ y : Int, v = .int y ∧ 1 ≤ y ∧ y ≤ 14 := by
        rcases List.mem_cons.mp hv with rfl | hv
        · exact ⟨_, rfl, by decide, by decide⟩
        rcases List.mem_cons.mp hv with rfl | hv
        · exact ⟨_, rfl, by decide, by decide⟩
        rw [List.mem_singleton.mp hv]
        exact ⟨_, rfl, by decide, by decide⟩
      refine ⟨a, n, rfl, m2, by omega, by omega, fun H3 d2 e0 e1 f3 m3 => ⟨_, _, rfl, rfl, ?_⟩⟩
      exact k H3 (some (1 + d2)) ⟨by omega, by omega⟩ (f1.trans (f2.trans f3)) m3
end
end K10

namespace K10
open PySem L2 LamX
theorem catA_by {K : PySem.W.Frag} {H : Hp} {a b : Addr} {xs ys : List V} {Q : VK} (ha : H a = some (.tup xs)) (hb : H b = some (.tup ys)) (hz : xs.length + ys.length ≤ sizeLine) (k : ∀ c H', Same H H' → H' c = some (.tup (xs ++ ys)) → Q (.ref c) H') : rCatA K (.ref a) (.ref b) H Q := by
  refine ⟨a, b, xs, ys, rfl, rfl, SqT.of ha, SqT.of hb, hz, fun e => ?_, fun _ e => ?_, fun _ _ p np => k p _ (same_upd np) upd_same⟩
  · subst e
    exact k b H (.refl H) hb
  · subst e
    exact k a H (.refl H) (by rw [List.append_nil]; exact ha)
theorem slA_by {K : PySem.W.Frag} {H : Hp} {a : Addr} {xs : List V} {lo hi : Option Int} {Q : VK} (ha : H a = some (.tup xs)) (k : ∀ c H', Same H H' → H' c = some (.tup (cutV xs lo hi)) → Q (.ref c) H') : rSlA K (.ref a) lo hi H Q := by
  refine ⟨a, xs, rfl, SqT.of ha, fun e => k a H (.refl H) ?_, fun _ p np => k p _ (same_upd np) upd_same⟩
  have : cutV xs lo hi = xs := by
    unfold cutV
    rw [e.1, e.2]
    simp
  rw [this]
  exact ha
theorem cut_to (xs : List V) (n : Nat) : cutV xs none (some (n : Int)) = xs.take n := by
  unfold cutV
  rw [HT.sIx_none, HT.sIx_nat]
  show (xs.drop 0).take (min n xs.length - 0) = _
  rw [List.drop_zero, Nat.sub_zero]
  by_cases h : n ≤ xs.length
  · rw [Nat.min_eq_left h]
  · rw [Nat.min_eq_right (by omega), List.take_of_length_le (Nat.le_refl _), List.take_of_length_le (by omega)]
theorem cut_from (xs : List V) (n : Nat) : cutV xs (some (n : Int)) none = xs.drop n := by
  unfold cutV
  rw [HT.sIx_none, HT.sIx_nat]
  by_cases h : n ≤ xs.length
  · rw [Nat.min_eq_left h, List.take_of_length_le (by rw [List.length_drop]; omega)]
  · rw [Nat.min_eq_right (by omega), Nat.sub_self, List.take_zero, List.drop_eq_nil_of_le (by omega)]
section
variable {P : Program} {w : World} {K : PySem.W.Frag} {mg : Str → Option Value} {base : Heap} {A : Ads}
def sp_l_mill (K : PySem.W.Frag) : Sp := fun vs H Q _ => ∃ (a : Addr) (ns : List Int) (k : Nat), vs = [.ref a, .int (k : Int)] ∧ SqL K H a (ns.map .int) ∧ ∀ H' p, Same H H' → H p = none → Mil H' p → Q (.ref p) H'
theorem ok_l_mill (T : Txt K mg A) : FnOk P w K mg base CX0 1 A.f_l_mill A.d_l_mill ps_l_mill (sp_l_mill K) := by
  refine T.l_mill.ok sc_l_mill (fun vs H Q E h => ?_) (fun cdv AR outer sh H vs Q EX hr h => ?_)
  · obtain ⟨a, ns, k, rfl, _⟩ := h
    rfl
  · obtain ⟨a, ns, j, rfl, hs, k⟩ := h
    refine ⟨_, (Evl.pss_cut (ps_set (i := 2) sc_l_mill.nd rfl (Or.inl rfl) (pe_ifExp (pt_cmpR op_lt (pv 1) (pe_callB call_len_seq (by rfl) T.n_len (by decide +kernel) (pa_cons (pv 0) pa_nil)) (nomark _)) (pe_callTy call_int1 (by rfl) T.n_int (by decide +kernel) (pa_cons (pe_ix ix_list (pv 0) (pv 1) (fun _ _ => rfl)) pa_nil)) (pe_op op_add (pe_op op_mul pe_int (pv 1)) pe_int)))
      (pss_cons (ps_set (i := 3) sc_l_mill.nd rfl (Or.inl rfl) (pe_op op_add pe_int (pe_op op_mul pe_int (pv 1))))
      (pss_cons (ps_for PassesOwn.never rfl (pi_list (pe_slice sl_list (pv 0) po_none (po_some pe_int))) (pg_name (i := 4) sc_l_mill.nd rfl (Or.inl rfl)) (pss_one (ps_set (i := 3) sc_l_mill.nd rfl (Or.inl rfl) (pe_op op_mod (pe_callTy call_int1 (by rfl) T.n_int (by decide +kernel) (pa_cons (pe_op op_add (pe_op op_mul (pv 3) pe_int) (pe_op op_mod (pe_callTy call_int1 (by rfl) T.n_int (by decide +kernel) (pa_cons (pv 4) pa_nil)) pe_int)) pa_nil)) pe_int))))
      (pss_one (ps_ret (pe_lst (pa_cons (pe_op op_mod (pe_callTy call_int1 (by rfl) T.n_int (by decide +kernel) (pa_cons (pe_op op_add (pe_op op_mul (pv 3) pe_int) (pe_op op_mod (pv 2) pe_int)) pa_nil)) pe_int) (pa_cons pe_int (pa_cons (pe_ifExp (PW.pt (pw_or (pt_cmpR op_lt (pv 2) pe_int (nomark _)) (pw_or1 (pt_cmpR op_ge (pv 2) (pe_op op_pow pe_int pe_int) (nomark _))))) (pe_callB call_abs (by rfl) T.n_abs (by decide +kernel) (pa_cons (pv 2) pa_nil)) pe_int) pa_nil))))))))), ?_⟩
    refine ⟨fun σ' H' => H' = H ∧ ∃ own : Int, σ' = [some (.ref a), some (.int (j : Int)), some (.int own), none, none], ⟨_, rfl, _, rfl, _, _, rfl, .inl hs, _, _, rfl, rfl, _, rfl, ite2 (fun hc => ?_) (fun hc => ?_)⟩, ?_⟩
    · have hj : j < ns.length := by
        have := of_decide_eq_true hc
        rw [List.length_map] at this
        omega
      exact ⟨_, rfl, _, rfl, _, _, _, _, rfl, rfl, hs, atI_nat (by rw [List.getElem?_map, List.getElem?_eq_getElem hj]; rfl), .inl ⟨_, rfl, rfl, _, rfl⟩⟩
    · exact ⟨_, rfl, _, _, rfl, rfl, .inl (by decide), _, _, rfl, rfl, rfl, _, rfl⟩
    rintro σ' H' ⟨rfl, own, rfl⟩
    refine ⟨_, rfl, _, _, rfl, rfl, .inl (by decide), _, _, rfl, rfl, ?_⟩
    refine ⟨_, rfl, _, rfl, _, _, rfl, hs, fun l nl => ?_⟩
    have sl : Same H' (upd H' l (.lst (cutV (ns.map V.int) none (some 12)))) := same_upd nl
    have hl : upd H' l (.lst (cutV (ns.map V.int) none (some 12))) l = some (.lst (cutV (ns.map V.int) none (some 12))) := upd_same
    revert sl hl
    generalize upd H' l (.lst (cutV (ns.map V.int) none (some 12))) = H1
    intro sl hl
    refine ⟨_, rfl, ⟨_, SqL.of hl⟩, for_list (K := K) (a := l) (xs := cutV (ns.map V.int) none (some 12)) (fun i σ H2 => H2 = H1 ∧ ∃ (mx : Int) (v : Option V), σ = [some (.ref a), some (.int (j : Int)), some (.int own), some (.int mx), v])
      ⟨rfl, _, none, rfl⟩ (fun i σ H2 _ h => by rw [h.1]; exact SqL.of hl) ?_ ?_⟩
    · rintro i x σ H2 hi ⟨rfl, mx, v, rfl⟩
      have hx : ∃ e : Int, x = .int e := by
        have h1 : x ∈ cutV (ns.map V.int) none (some 12) := List.mem_of_getElem? hi
        unfold cutV at h1
        obtain ⟨e, _, rfl⟩ := List.mem_map.mp (List.mem_of_mem_drop (List.mem_of_mem_take h1))
        exact ⟨e, rfl⟩
      obtain ⟨e, rfl⟩ := hx
      exact ⟨_, rfl, _, _, rfl, rfl, .inr (by decide), _, rfl, .inl ⟨_, rfl, _, _, rfl, rfl, (show (0 : Int) < 1999999817 by decide), _, _, rfl, rfl, .inl ⟨_, rfl, _, _, rfl, rfl, (show (0 : Int) < 1999999817 by decide), rfl, _, _, rfl⟩⟩⟩
    · rintro σ H2 ⟨rfl, mx, v, rfl⟩
      have fin : ∀ m0 m2 : Int, [V.int m0, .int 1, .int m2].length ≤ sizeLine ∧ ∀ p, H2 p = none → Q (.ref p) (upd H2 p (.lst [.int m0, .int 1, .int m2])) := fun m0 m2 =>
        ⟨by show 3 ≤ sizeLine; decide, fun p np => k _ p (sl.trans (same_upd np)) (sl.free np) ⟨_, _, _, upd_same⟩⟩
      refine ⟨_, rfl, _, _, rfl, rfl, .inr (by decide), _, rfl, _, _, rfl, rfl, (show (0 : Int) < 1999999817 by decide), _, _, rfl, rfl, .inl ⟨_, rfl, _, _, rfl, rfl, (show (0 : Int) < 1999999817 by decide), _, rfl, _, _, rfl, rfl, _, rfl, ite2 (fun hc => ?_) (fun hc => ?_)⟩⟩
      · exact iteT ⟨_, rfl, _, rfl, fin _ _⟩
      · exact ⟨_, rfl, _, _, rfl, rfl, ⟨by decide, by decide, by decide⟩, _, _, rfl, rfl, _, rfl, ite2 (fun hc => ⟨_, rfl, _, rfl, fin _ _⟩) (fun hc => fin _ _)⟩
end
end K10

namespace K10
open PySem L2 LamX
theorem Paired.take {α β : Type} {R : α → β → Prop} : ∀ (n : Nat) {as : List α} {bs : List β}, Paired R as bs → Paired R (as.take n) (bs.take n)
  | 0, _, _, _ => .nil
  | _ + 1, _, _, .nil => .nil
  | n + 1, _, _, .cons r t => .cons r (Paired.take n t)
/-- the two programs that are being laid -/
structure Pln (H0 : Hp) (a : Addr) (H : Hp) (pl : Addr) (q : Bool → Addr) (as : Bool → List Addr) (ps : Bool → List Ps) (n : Nat) : Prop where
  fr : Fr a H0 H
  mil : Mil H a
  hpl : H pl = some (.lst (l2 fun b => .ref (q b)))
  hq : ∀ b, H (q b) = some (.lst ((as b).map .ref))
  t : ∀ b, Tups H (as b) ((ps b).map psV)
  ok : ∀ b, ∀ p ∈ ps b, PsOk p
  len : ∀ b, (ps b).length ≤ n
  ne : q false ≠ q true
  npl : ∀ b, q b ≠ pl
  nq : ∀ b, H0 (q b) = none
  qa : ∀ b, q b ≠ a
  pla : pl ≠ a
section
variable {H0 H H' : Hp} {a pl : Addr} {q : Bool → Addr} {as : Bool → List Addr} {ps : Bool → List Ps} {n : Nat}
theorem Pln.go (p : Pln H0 a H pl q as ps n) (f : Fr a H H') (m : Mil H' a) : Pln H0 a H' pl q as ps n :=
  ⟨p.fr.trans f, m, f _ _ p.pla p.hpl, fun b => f _ _ (p.qa b) (p.hq b), fun b => (p.t b).mono fun _ _ e => f _ _ (p.mil.neT e) e, p.ok, p.len, p.ne, p.npl, p.nq, p.qa, p.pla⟩
theorem Pln.up (p : Pln H0 a H pl q as ps n) {m : Nat} (h : n ≤ m) : Pln H0 a H pl q as ps m := { p with len := fun b => Nat.le_trans (p.len b) h }
theorem Pln.add (p : Pln H0 a H pl q as ps n) {t : Addr} (s : Bool) (x : Ps) (hx : PsOk x) (nt : H t = none) : Pln H0 a (upd (upd H t (.tup (psV x))) (q s) (.lst ((as s).map .ref ++ [.ref t]))) pl q (K10.up as s (as s ++ [t])) (K10.up ps s (ps s ++ [x])) (n + 1) := by
  have s1 : Same H (upd H t (.tup (psV x))) := same_upd nt
  have qt : ∀ b, q b ≠ t := fun b => ne_of_none (p.hq b) nt
  have k : ∀ b o, b ≠ q s → H b = some o → upd (upd H t (.tup (psV x))) (q s) (.lst ((as s).map .ref ++ [.ref t])) b = some o := fun b o hb e => by
    rw [upd_ne hb]
    exact s1 _ _ e
  have kt : ∀ b xs, H b = some (.tup xs) → upd (upd H t (.tup (psV x))) (q s) (.lst ((as s).map .ref ++ [.ref t])) b = some (.tup xs) := fun b xs e => k b _ (fun h => by rw [h, p.hq s] at e; cases e) e
  refine ⟨fun b o hb e => k b o (fun h => by rw [h, p.nq s] at e; cases e) (p.fr b o hb e), ?_, k _ _ (Ne.symm (p.npl s)) p.hpl, fun b => ?_, fun b => ?_, fun b => ?_, fun b => ?_, p.ne, p.npl, p.nq, p.qa, p.pla⟩
  · obtain ⟨m0, m1, m2, h⟩ := p.mil
    exact ⟨m0, m1, m2, k _ _ (Ne.symm (p.qa s)) h⟩
  · by_cases hb : b = s
    · subst hb
      rw [upd_same, K10.up_same, List.map_append]
      rfl
    · rw [K10.up_ne as _ hb]
      refine k _ _ (fun h => hb ?_) (p.hq b)
      cases b <;> cases s <;> first | rfl | exact absurd h p.ne | exact absurd h.symm p.ne
  · by_cases hb : b = s
    · subst hb
      rw [K10.up_same, K10.up_same, List.map_append]
      refine Paired.app ((p.t b).mono kt) (.cons ?_ .nil)
      show upd (upd H t (.tup (psV x))) (q b) _ t = _
      rw [upd_ne (Ne.symm (qt b)), upd_same]
    · rw [K10.up_ne as _ hb, K10.up_ne ps _ hb]
      exact (p.t b).mono kt
  · by_cases hb : b = s
    · subst hb
      rw [K10.up_same]
      intro y hy
      rcases List.mem_append.mp hy with h | h
      · exact p.ok b y h
      · rw [List.mem_singleton.mp h]
        exact hx
    · rw [K10.up_ne ps _ hb]
      exact p.ok b
  · by_cases hb : b = s
    · subst hb
      rw [K10.up_same, List.length_append]
      have := p.len b
      show _ + 1 ≤ n + 1
      omega
    · rw [K10.up_ne ps _ hb]
      exact Nat.le_succ_of_le (p.len b)
theorem Pln.alen (p : Pln H0 a H pl q as ps n) (b : Bool) : ((as b).map V.ref).length ≤ n := by
  have h := (p.t b).length
  rw [List.length_map] at h ⊢
  rw [h]
  exact p.len b
end
theorem sd_of {d : Int} (h0 : 0 ≤ d) (h1 : d < 2) : ∃ s, d = sdI s := by
  by_cases h : d = 0
  · exact ⟨false, h⟩
  · exact ⟨true, by show d = 1; omega⟩
theorem sdI_not (s : Bool) : 1 - sdI s = sdI (!s) := by cases s <;> rfl
section
variable {P : Program} {w : World} {K : PySem.W.Frag} {mg : Str → Option Value} {base : Heap} {A : Ads}
def sp_l_plans : Sp := fun vs H Q _ => ∃ (a : Addr), vs = [.ref a, .bl true] ∧ Mil H a ∧
  ∀ H' r p0 p1 ps qs, H' r = some (.tup [.ref p0, .ref p1]) → Prg H' p0 ps → Prg H' p1 qs → ps.length ≤ 6 → qs.length ≤ 6 → (∀ p ∈ ps, PsOk p) → (∀ p ∈ qs, PsOk p) → Fr a H H' → Mil H' a → Q (.ref r) H'
theorem ok_l_plans (T : Txt K mg A) : FnOk P w K mg base CX0 4 A.f_l_plans A.d_l_plans ps_l_plans sp_l_plans := by
  refine T.l_plans.ok sc_l_plans (fun vs H Q E h => ?_) (fun cdv AR outer sh H vs Q EX hr h => ?_)
  · obtain ⟨a, rfl, _⟩ := h
    rfl
  · obtain ⟨a, rfl, hm, k⟩ := h
    refine ⟨_, (pss_cons (ps_set (i := 2) sc_l_plans.nd rfl (Or.inl rfl) (pe_lst (pa_cons (pe_lst pa_nil) (pa_cons (pe_lst pa_nil) pa_nil))))
      (pss_cons (ps_for PassesOwn.never rfl (pi_range1 rfl T.n_range (pa_cons (pe_op op_add pe_int (pe_call (ok_l_grain T) (hr.mono (by decide)) rfl T.g_law_grain T.l_grain.kp T.b_l_grain .nil pass0 (pa_cons (pv 0) (pa_cons pe_int pa_nil)))) pa_nil)) (pg_name (i := 3) sc_l_plans.nd rfl (Or.inl rfl)) (pss_cons (ps_par (i := 4) (j := 5) rfl sc_l_plans.nd rfl rfl (by decide) rfl rfl (pa_cons (pe_call (ok_l_grain T) (hr.mono (by decide)) rfl T.g_law_grain T.l_grain.kp T.b_l_grain .nil pass0 (pa_cons (pv 0) (pa_cons pe_int pa_nil))) (pa_cons (pe_call (ok_l_amount T) (hr.mono (by decide)) rfl T.g_law_amount T.l_amount.kp T.b_l_amount .nil pass0 (pa_cons (pv 0) (pa_cons (pv 1) pa_nil))) pa_nil)) (by rfl))
      (pss_cons (ps_expr (pe_bm PySem.F.plainAttrs_list PySem.F.slot_list_append PySem.F.type_list_append mt_append (pe_ix ix_list (pv 2) (pv 4) (fun _ _ => rfl)) (pa_cons (pe_tup (pa_cons pe_str (pa_cons (pv 5) pa_nil))) pa_nil)))
      (pss_cons (ps_set (i := 6) sc_l_plans.nd rfl (Or.inl rfl) (pe_call (ok_l_grain T) (hr.mono (by decide)) rfl T.g_law_grain T.l_grain.kp T.b_l_grain .nil pass0 (pa_cons (pv 0) (pa_cons pe_int pa_nil))))
      (Evl.pss_cut (ps_if (pt_cmpR op_gt (pv 6) pe_int (nomark _)) (pss_one (ps_expr (pe_bm PySem.F.plainAttrs_list PySem.F.slot_list_append PySem.F.type_list_append mt_append (pe_ix ix_list (pv 2) (pe_op op_sub pe_int (pv 4)) (fun _ _ => rfl)) (pa_cons (pe_tup (pa_cons pe_str (pa_cons (pe_ifExp (pt_cmpR op_gt (pv 6) pe_int (nomark _)) (pv 5) (pe_call (ok_l_amount T) (hr.mono (by decide)) rfl T.g_law_amount T.l_amount.kp T.b_l_amount .nil pass0 (pa_cons (pv 0) (pa_cons (pv 1) pa_nil)))) pa_nil))) pa_nil)))) pss_nil)
      (pss_one (ps_if (pt_cmpR op_eq (pe_call (ok_l_grain T) (hr.mono (by decide)) rfl T.g_law_grain T.l_grain.kp T.b_l_grain .nil pass0 (pa_cons (pv 0) (pa_cons pe_int pa_nil))) pe_int (nomark _)) (pss_cons (ps_set (i := 7) sc_l_plans.nd rfl (Or.inl rfl) (pe_call (ok_l_grain T) (hr.mono (by decide)) rfl T.g_law_grain T.l_grain.kp T.b_l_grain .nil pass0 (pa_cons (pv 0) (pa_cons pe_int pa_nil))))
      (pss_one (ps_expr (pe_bm PySem.F.plainAttrs_list PySem.F.slot_list_append PySem.F.type_list_append mt_append (pe_ix ix_list (pv 2) (pe_call (ok_l_grain T) (hr.mono (by decide)) rfl T.g_law_grain T.l_grain.kp T.b_l_grain .nil pass0 (pa_cons (pv 0) (pa_cons pe_int pa_nil))) (fun _ _ => rfl)) (pa_cons (pe_tup (pa_cons pe_str (pa_cons (pv 7) (pa_cons (pe_op op_add (pv 7) (pe_call (ok_l_grain T) (hr.mono (by decide)) rfl T.g_law_grain T.l_grain.kp T.b_l_grain .nil pass0 (pa_cons (pv 0) (pa_cons pe_int pa_nil)))) pa_nil)))) pa_nil))))) pss_nil)))))))
      (pss_one (ps_ret (pe_tup (pa_cons (pe_callTy call_tuple_of (by rfl) T.n_tuple (by decide +kernel) (pa_cons (pe_slice sl_list (pe_ix ix_list (pv 2) pe_int (fun _ _ => rfl)) po_none (po_some pe_int)) pa_nil)) (pa_cons (pe_callTy call_tuple_of (by rfl) T.n_tuple (by decide +kernel) (pa_cons (pe_slice sl_list (pe_ix ix_list (pv 2) pe_int (fun _ _ => rfl)) po_none (po_some pe_int)) pa_nil)) pa_nil))))))), ?_⟩
    refine ⟨Nat.zero_le _, fun q0 nq0 => ⟨Nat.zero_le _, fun q1 nq1 => ⟨by show 2 ≤ sizeLine; decide, fun pl npl => ?_⟩⟩⟩
    have ne01 : q0 ≠ q1 := ne_of_none (H := upd H q0 _) upd_same nq1
    have h0 : upd (upd H q0 (.lst [])) q1 (.lst []) q0 = some (.lst []) := by rw [upd_ne ne01, upd_same]
    have nq1' : H q1 = none := by
      rw [upd_ne (Ne.symm ne01)] at nq1
      exact nq1
    have s3 : Same H (upd (upd (upd H q0 (.lst [])) q1 (.lst [])) pl (.lst [.ref q0, .ref q1])) := (same_upd nq0).trans ((same_upd nq1).trans (same_upd npl))
    have p0 : Pln H a (upd (upd (upd H q0 (.lst [])) q1 (.lst [])) pl (.lst [.ref q0, .ref q1])) pl (fun b => if b then q1 else q0) (fun _ => []) (fun _ => []) 0 := by
      refine ⟨Fr.same s3, hm.same s3, upd_same, fun b => ?_, fun b => .nil, fun b => nofun, fun b => Nat.le_refl _, ne01, fun b => ?_, fun b => ?_, fun b => ?_, ?_⟩
      · cases b
        · exact same_upd npl _ _ h0
        · exact same_upd npl _ _ upd_same
      · cases b
        · exact ne_of_none h0 npl
        · exact ne_of_none (H := upd (upd H q0 (.lst [])) q1 (.lst [])) upd_same npl
      · cases b
        · exact nq0
        · exact nq1'
      · cases b
        · exact hm.ne nq0
        · exact hm.ne nq1'
      · exact hm.ne (((same_upd nq0).trans (same_upd nq1)).free npl)
    revert p0
    generalize upd (upd (upd H q0 (.lst [])) q1 (.lst [])) pl (.lst [.ref q0, .ref q1]) = H3
    generalize (fun b : Bool => if b = true then q1 else q0) = q
    intro p0
    refine ⟨_, rfl, a, 4, rfl, p0.mil, by decide, by decide, fun H4 d d0 d1 f4 m4 => ⟨_, _, rfl, rfl, _, rfl, by omega, by omega, for_range (lo := 0) (n := (1 + d).toNat) (fun i σ H' => ∃ (as : Bool → List Addr) (ps : Bool → List Ps) (v1 v2 v3 v4 v5 : Option V), σ = [some (.ref a), some (.bl true), some (.ref pl), v1, v2, v3, v4, v5] ∧ Pln H a H' pl q as ps (3 * i))
      ⟨_, _, none, none, none, none, none, rfl, p0.go f4 m4⟩ ?_ ?_⟩⟩
    · rintro i σ H' hi ⟨as, ps, v1, v2, v3, v4, v5, rfl, p⟩
      have hi4 : i ≤ 4 := by omega
      have lenOk : ∀ {n : Nat}, n ≤ 3 * i + 3 → n < sizeLine := fun h => line_of (by omega)
      refine ⟨_, rfl, a, 2, rfl, p.mil, by decide, by decide, fun H5 e e0 e1 f5 m5 => ?_⟩
      obtain ⟨s, rfl⟩ := sd_of e0 e1
      have p5 := p.go f5 m5
      refine ⟨_, rfl, _, rfl, a, rfl, p5.mil, fun H6 am ham f6 m6 => ⟨_, _, rfl, ?_⟩⟩
      have p6 := p5.go f6 m6
      have hsq : atI (l2 fun b => V.ref (q b)) (sdI s) = some (.ref (q s)) := at_l2 _ s
      refine ⟨_, rfl, _, rfl, _, _, _, _, rfl, rfl, SqL.of p6.hpl, hsq, .inl ⟨rfl, _, SqL.of (p6.hq s)⟩, _, rfl, by show 2 ≤ sizeLine; decide, fun t nt => ⟨_, _, _, rfl, rfl, same_upd nt _ _ (p6.hq s), lenOk (Nat.le_trans (p6.alen s) (by omega)), ?_⟩⟩
      have p7 := p6.add s (.io false am) ham nt
      replace p7 : Pln H a (upd (upd H6 t (.tup [.str "write", amV am])) (q s) (.lst ((as s).map .ref ++ [.ref t]))) pl q _ _ _ := p7
      revert p7
      generalize upd (upd H6 t (.tup [.str "write", amV am])) (q s) (.lst ((as s).map .ref ++ [.ref t])) = H7
      generalize up as s (as s ++ [t]) = as7
      generalize up ps s (ps s ++ [.io false am]) = ps7
      intro p7
      refine ⟨_, rfl, a, 8, rfl, p7.mil, by decide, by decide, fun H8 wy w0 w1 f8 m8 => ?_⟩
      have p8 := p7.go f8 m8
      refine ⟨fun σ' H' => ∃ (as : Bool → List Addr) (ps : Bool → List Ps), σ' = [some (.ref a), some (.bl true), some (.ref pl), some (.int (0 + i)), some (.int (sdI s)), some (amV am), some (.int wy), v5] ∧ Pln H a H' pl q as ps (3 * i + 2), ⟨_, rfl, _, _, rfl, rfl, _, rfl, ite2 (fun hc => ?_) (fun hc => ⟨_, _, rfl, p8.up (Nat.le_succ _)⟩)⟩, ?_⟩
      · have hsq2 : atI (l2 fun b => V.ref (q b)) (1 - sdI s) = some (.ref (q (!s))) := by
          rw [sdI_not]
          exact at_l2 _ (!s)
        have fin : ∀ (H9 : Hp) (am' : Option Int), AmOk am' → Fr a H8 H9 → Mil H9 a → [V.str "read", amV am'].length ≤ sizeLine ∧ ∀ p, H9 p = none → rAppend (.ref (q (!s))) [.ref p] (upd H9 p (.tup [.str "read", amV am'])) fun _ H1 => ∃ (as : Bool → List Addr) (ps : Bool → List Ps), [some (V.ref a), some (.bl true), some (.ref pl), some (.int (0 + i)), some (.int (sdI s)), some (amV am), some (.int wy), v5] = [some (V.ref a), some (.bl true), some (.ref pl), some (.int (0 + i)), some (.int (sdI s)), some (amV am), some (.int wy), v5] ∧ Pln H a H1 pl q as ps (3 * i + 2) := fun H9 am' ha' f9 m9 => by
          have p9 := p8.go f9 m9
          refine ⟨by show 2 ≤ sizeLine; decide, fun t nt => ⟨_, _, _, rfl, rfl, same_upd nt _ _ (p9.hq (!s)), lenOk (Nat.le_trans (p9.alen (!s)) (by omega)), _, _, rfl, p9.add (!s) (.io true am') ha' nt⟩⟩
        refine ⟨_, rfl, _, rfl, _, _, rfl, rfl, _, _, _, _, rfl, rfl, SqL.of p8.hpl, hsq2, .inl ⟨rfl, _, SqL.of (p8.hq (!s))⟩, _, rfl, _, _, rfl, rfl, _, rfl, ite2 (fun hc2 => ⟨_, rfl, fin H8 am ham (Fr.refl a H8) p8.mil⟩) (fun hc2 => ⟨_, rfl, _, rfl, a, rfl, p8.mil, fun H9 am' ha' f9 m9 => fin H9 am' ha' f9 m9⟩)⟩
      rintro σ' H9 ⟨as9, ps9, rfl, p9⟩
      refine ⟨_, rfl, a, 5, rfl, p9.mil, by decide, by decide, fun H10 e e0 e1 f10 m10 => ⟨rfl, _, rfl, ?_⟩⟩
      have p10 := p9.go f10 m10
      refine ite2 (fun hc => ?_) (fun hc => ⟨_, _, _, _, _, _, _, rfl, p10.up (by omega)⟩)
      refine ⟨_, rfl, a, 6, rfl, p10.mil, by decide, by decide, fun H11 ls l0 l1 f11 m11 => ?_⟩
      have p11 := p10.go f11 m11
      refine ⟨_, rfl, _, rfl, a, 2, rfl, p11.mil, by decide, by decide, fun H12 e e0 e1 f12 m12 => ?_⟩
      obtain ⟨s2, rfl⟩ := sd_of e0 e1
      have p12 := p11.go f12 m12
      refine ⟨_, _, _, _, rfl, rfl, SqL.of p12.hpl, at_l2 _ s2, .inl ⟨rfl, _, SqL.of (p12.hq s2)⟩, _, rfl, _, rfl, _, rfl, a, 4, rfl, p12.mil, by decide, by decide, fun H13 g g0 g1 f13 m13 => ⟨_, _, rfl, rfl, by show 3 ≤ sizeLine; decide, fun t nt => ?_⟩⟩
      have p13 := p12.go f13 m13
      exact ⟨_, _, _, rfl, rfl, same_upd nt _ _ (p13.hq s2), lenOk (Nat.le_trans (p13.alen s2) (by omega)), _, _, _, _, _, _, _, rfl, p13.add s2 (.pa ls (ls + g)) ⟨l0, by omega, by omega⟩ nt⟩
    · rintro σ H' ⟨as, ps, v1, v2, v3, v4, v5, rfl, p⟩
      have six : ∀ b, ((as b).take 6).length = ((ps b).take 6).length := fun b => by
        have h := (p.t b).length
        rw [List.length_map] at h
        rw [List.length_take, List.length_take, h]
      refine ⟨_, rfl, _, _, _, _, rfl, rfl, SqL.of p.hpl, at_l2 _ false, _, rfl, _, _, rfl, SqL.of (p.hq false), fun c0 nc0 => ⟨_, _, rfl, .inl ⟨SqL.of upd_same, fun t0 nt0 => ?_⟩⟩⟩
      have e0 : cutV ((as false).map V.ref) none (some 6) = ((as false).take 6).map .ref := by rw [List.map_take]; exact cut_to _ 6
      have e1 : cutV ((as true).map V.ref) none (some 6) = ((as true).take 6).map .ref := by rw [List.map_take]; exact cut_to _ 6
      have s0 : Same H' (upd (upd H' c0 (.lst (cutV ((as false).map V.ref) none (some 6)))) t0 (.tup (cutV ((as false).map V.ref) none (some 6)))) := (same_upd nc0).trans (same_upd nt0)
      have hT0 : upd (upd H' c0 (.lst (cutV ((as false).map V.ref) none (some 6)))) t0 (.tup (cutV ((as false).map V.ref) none (some 6))) t0 = some (.tup (((as false).take 6).map .ref)) := by rw [upd_same, e0]
      revert s0 hT0
      generalize upd (upd H' c0 (.lst (cutV ((as false).map V.ref) none (some 6)))) t0 (.tup (cutV ((as false).map V.ref) none (some 6))) = G0
      intro s0 hT0
      refine ⟨_, rfl, _, _, _, _, rfl, rfl, SqL.of (s0 _ _ p.hpl), at_l2 _ true, _, rfl, _, _, rfl, SqL.of (s0 _ _ (p.hq true)), fun c1 nc1 => ⟨_, _, rfl, .inl ⟨SqL.of upd_same, fun t1 nt1 => ?_⟩⟩⟩
      have s1 : Same G0 (upd (upd G0 c1 (.lst (cutV ((as true).map V.ref) none (some 6)))) t1 (.tup (cutV ((as true).map V.ref) none (some 6)))) := (same_upd nc1).trans (same_upd nt1)
      have hT1 : upd (upd G0 c1 (.lst (cutV ((as true).map V.ref) none (some 6)))) t1 (.tup (cutV ((as true).map V.ref) none (some 6))) t1 = some (.tup (((as true).take 6).map .ref)) := by rw [upd_same, e1]
      revert s1 hT1
      generalize upd (upd G0 c1 (.lst (cutV ((as true).map V.ref) none (some 6)))) t1 (.tup (cutV ((as true).map V.ref) none (some 6))) = G1
      intro s1 hT1
      refine ⟨by show 2 ≤ sizeLine; decide, fun r nr => ?_⟩
      have sr := (s0.trans s1).trans (same_upd (o := .tup [.ref t0, .ref t1]) nr)
      have tk : ∀ b, Tups H' ((as b).take 6) (((ps b).take 6).map psV) := fun b => by
        rw [List.map_take]
        exact Paired.take 6 (p.t b)
      refine k _ r t0 t1 ((ps false).take 6) ((ps true).take 6) upd_same ⟨_, same_upd nr _ _ (s1 _ _ hT0), (tk false).mono fun _ _ e => sr _ _ e⟩ ⟨_, same_upd nr _ _ hT1, (tk true).mono fun _ _ e => sr _ _ e⟩ (by rw [List.length_take]; omega) (by rw [List.length_take]; omega) (fun x hx => p.ok _ x (List.mem_of_mem_take hx)) (fun x hx => p.ok _ x (List.mem_of_mem_take hx)) (p.fr.trans (Fr.same sr)) (p.mil.same sr)
def sp_l_choice : Sp := fun vs H Q _ => ∃ (a r p0 p1 : Addr) (ps qs : List Ps), vs = [.ref a, .ref r] ∧ Mil H a ∧ H r = some (.tup [.ref p0, .ref p1]) ∧ Prg H p0 ps ∧ Prg H p1 qs ∧ ps.length ≤ 6 ∧ qs.length ≤ 6 ∧ (∀ p ∈ ps, PsOk p) ∧ (∀ p ∈ qs, PsOk p) ∧
  ∀ H' tk u1 u2, H' tk = some (.tup ((u1 ++ u2).map .int)) → TkOk u1 (pas ps) → TkOk u2 (pas qs) → Fr a H H' → Mil H' a → Q (.ref tk) H'
theorem tk_split {ts : List Int} {x y : List Ps} (h : TkOk ts (x ++ y)) : ∃ u1 u2, ts = u1 ++ u2 ∧ TkOk u1 x ∧ TkOk u2 y := by
  induction x generalizing ts with
  | nil => exact ⟨[], ts, rfl, .nil, h⟩
  | cons p x ih =>
    cases h with
    | cons r t =>
      obtain ⟨u1, u2, rfl, h1, h2⟩ := ih t
      exact ⟨_ :: u1, u2, rfl, .cons r h1, h2⟩
theorem ok_l_choice (T : Txt K mg A) : FnOk P w K mg base CX0 2 A.f_l_choice A.d_l_choice ps_l_choice sp_l_choice := by
  refine T.l_choice.ok sc_l_choice (fun vs H Q E h => ?_) (fun cdv AR outer sh H vs Q EX hr h => ?_)
  · obtain ⟨a, r, p0, p1, ps, qs, rfl, _⟩ := h
    rfl
  · obtain ⟨a, r, p0, p1, ps, qs, rfl, hm, hr1, ⟨as, ha, hta⟩, ⟨bs, hb, htb⟩, hl, hl2, op, oq, k⟩ := h
    refine ⟨_, (pss_cons (ps_set (i := 2) sc_l_choice.nd rfl (Or.inl rfl) (pe_lst pa_nil))
      (pss_cons (ps_for PassesOwn.never rfl (pi_tup (pe_op op_catA (pe_ix ix_tup (pv 1) pe_int (fun _ _ => rfl)) (pe_ix ix_tup (pv 1) pe_int (fun _ _ => rfl)))) (pg_name (i := 3) sc_l_choice.nd rfl (Or.inl rfl)) (pss_one (ps_if (pt_cmpR op_eq (pe_ix ix_tup (pv 3) pe_int (fun _ _ => rfl)) pe_str (nomark _)) (pss_one (ps_expr (pe_bm PySem.F.plainAttrs_list PySem.F.slot_list_append PySem.F.type_list_append mt_append (pv 2) (pa_cons (pe_op op_add (pe_ix ix_tup (pv 3) pe_int (fun _ _ => rfl)) (pe_call (ok_l_grain T) (hr.mono (by decide)) rfl T.g_law_grain T.l_grain.kp T.b_l_grain .nil pass0 (pa_cons (pv 0) (pa_cons (pe_op op_add (pe_op op_sub (pe_ix ix_tup (pv 3) pe_int (fun _ _ => rfl)) (pe_ix ix_tup (pv 3) pe_int (fun _ _ => rfl))) pe_int) pa_nil)))) pa_nil)))) pss_nil)))
      (pss_one (ps_ret (pe_callTy call_tuple_of (by rfl) T.n_tuple (by decide +kernel) (pa_cons (pv 2) pa_nil)))))), ?_⟩
    have el := hta.length
    have el2 := htb.length
    rw [List.length_map] at el el2
    refine ⟨Nat.zero_le _, fun f nf => ?_⟩
    have sf : Same H (upd H f (.lst [])) := same_upd nf
    refine ⟨_, rfl, _, _, _, _, rfl, rfl, SqT.of (sf _ _ hr1), rfl, _, rfl, _, _, _, _, rfl, rfl, SqT.of (sf _ _ hr1), rfl, catA_by (sf _ _ ha) (sf _ _ hb) (by rw [List.length_map, List.length_map]; exact Nat.le_of_lt (line_of (by omega))) fun c H2 s2 hc => ⟨_, rfl, ⟨_, SqT.of hc⟩, ?_⟩⟩
    rw [← List.map_append] at hc
    have hf2 : H2 f = some (.lst (([] : List Int).map V.int)) := s2 _ _ upd_same
    have s02 := sf.trans s2
    have htt : Tups H2 (as ++ bs) ((ps ++ qs).map psV) := by
      rw [List.map_append]
      exact Paired.app (hta.mono fun _ _ e => s02 _ _ e) (htb.mono fun _ _ e => s02 _ _ e)
    have m2 := hm.same s02
    have nfa : f ≠ a := hm.ne nf
    have opq : ∀ p ∈ ps ++ qs, PsOk p := fun p hp => (List.mem_append.mp hp).elim (op p) (oq p)
    refine for_tup (K := K) (a := c) (xs := (as ++ bs).map .ref) (fun i σ H' => ∃ (v : Option V) (ts : List Int), σ = [some (.ref a), some (.ref r), some (.ref f), v] ∧ Fr a H H' ∧ (∀ b xs, H2 b = some (.tup xs) → H' b = some (.tup xs)) ∧ Mil H' a ∧ H' f = some (.lst (ts.map .int)) ∧ ts.length ≤ i ∧ TkOk ts (pas ((ps ++ qs).take i)))
      ⟨none, [], rfl, Fr.same s02, fun _ _ e => e, m2, hf2, Nat.le_refl _, .nil⟩ (fun i σ H' _ ⟨_, _, _, _, h, _⟩ => SqT.of (h _ _ hc)) ?_ ?_
    · rintro i x σ H' hi ⟨v, ts, rfl, fr, kt, m, hf, hts, ok⟩
      rw [List.getElem?_map] at hi
      cases ea : (as ++ bs)[i]? with
      | none => rw [ea] at hi; cases hi
      | some b =>
        rw [ea] at hi
        cases hi
        obtain ⟨q, hq, hp⟩ := Paired.get htt ea
        rw [List.getElem?_map] at hq
        cases ep : (ps ++ qs)[i]? with
        | none => rw [ep] at hq; cases hq
        | some p =>
          rw [ep] at hq
          cases hq
          have hi' := (List.getElem?_eq_some_iff.mp ep).1
          rw [List.length_append] at hi'
          have et : pas ((ps ++ qs).take (i + 1)) = pas ((ps ++ qs).take i) ++ pas [p] := by unfold pas; rw [List.take_add_one, ep, List.filter_append]; rfl
          have hpo := opq p (List.mem_of_getElem? ep)
          have hb' := kt _ _ hp
          cases p with
          | io rd n =>
            refine ⟨_, rfl, _, _, _, _, rfl, rfl, SqT.of hb', rfl, rfl, _, rfl, ?_⟩
            have e2 : decide (V.str (rdS rd) = V.str "pause") = false := by cases rd <;> decide +kernel
            show if decide (V.str (rdS rd) = V.str "pause") = true then _ else _
            rw [e2]
            refine iteF ⟨_, ts, rfl, fr, kt, m, hf, by omega, ?_⟩
            rw [et]
            show TkOk ts (_ ++ [])
            rw [List.append_nil]
            exact ok
          | pa a0 b0 =>
            obtain ⟨q0, q1, q2⟩ := hpo
            refine ⟨_, rfl, _, _, _, _, rfl, rfl, SqT.of hb', rfl, rfl, _, rfl, ?_⟩
            have e2 : decide (V.str "pause" = V.str "pause") = true := decide_eq_true rfl
            show if decide (V.str "pause" = V.str "pause") = true then _ else _
            rw [e2]
            refine iteT ⟨_, rfl, .inl ⟨rfl, _, SqL.of hf⟩, _, rfl, _, _, _, _, rfl, rfl, SqT.of hb', rfl, _, rfl, _, rfl, _, _, _, _, rfl, rfl, SqT.of hb', rfl, _, rfl, _, _, _, _, rfl, rfl, SqT.of hb', rfl, _, _, rfl, rfl, _, _, rfl, rfl, a, b0 - a0 + 1, rfl, m, by omega, by omega, fun H3 d d0 d1 f3 m3 => ⟨_, _, rfl, rfl, _, _, _, rfl, rfl, f3 _ _ nfa hf, ?_, ?_⟩⟩
            · rw [List.length_map]
              exact line_of (by omega)
            · have kt3 : ∀ b xs, H2 b = some (.tup xs) → upd H3 f (.lst (ts.map V.int ++ [.int (a0 + d)])) b = some (.tup xs) := fun b xs e => by
                rw [upd_ne (fun h => by rw [h, hf2] at e; cases e)]
                exact f3 _ _ (m.neT (kt b xs e)) (kt b xs e)
              refine ⟨_, ts ++ [a0 + d], rfl, fun b o hb e => ?_, kt3, ?_, by rw [upd_same, List.map_append]; rfl, ?_, ?_⟩
              · rw [upd_ne (ne_of_none e nf)]
                exact f3 b o hb (fr b o hb e)
              · obtain ⟨x0, x1, x2, h⟩ := m3
                exact ⟨x0, x1, x2, (upd_ne (Ne.symm nfa)).trans h⟩
              · rw [List.length_append]
                show ts.length + 1 ≤ i + 1
                omega
              · rw [et]
                exact Paired.app ok (.cons ⟨a0, b0, rfl, by omega, by omega⟩ .nil)
    · rintro σ H' ⟨v, ts, rfl, fr, kt, m, hf, hts, ok⟩
      rw [List.take_of_length_le (by rw [List.length_map, List.length_append, List.length_append]; omega)] at ok
      unfold pas at ok
      rw [List.filter_append] at ok
      obtain ⟨u1, u2, rfl, h1, h2⟩ := tk_split ok
      refine ⟨_, rfl, _, _, rfl, .inl ⟨SqL.of hf, fun tk ntk => ?_⟩⟩
      exact k _ tk u1 u2 upd_same h1 h2 (fr.trans (Fr.same (same_upd ntk))) (m.same (same_upd ntk))
end
end K10

namespace K10
open PySem L2 LamX
/-! ### data -/
def dO : Option Int → PyData
  | none => .none
  | some i => .int i
theorem dpO {K : PySem.W.Frag} {H : Hp} (o : Option Int) : Dp K H (oI o) (dO o) := by
  cases o with
  | none => exact .non
  | some i => exact .int i
theorem dp2 {K : PySem.W.Frag} {H : Hp} {p : Addr} {v0 v1 : V} {d0 d1 : PyData} (h : H p = some (.tup [v0, v1])) (a : Dp K H v0 d0) (b : Dp K H v1 d1) : Dp K H (.ref p) (.tuple [d0, d1]) := .tup (SqT.of h) (.cons a (.cons b .nil))
theorem ne_same {K : PySem.W.Frag} {H : Hp} {x y : V} {d : PyData} {Q : VK} (hx : Dp K H x d) (hy : Dp K H y d) (hs : SeqAt.shaped d = true) (q : Q (.bl false) H) : rNeD K x y H Q := by
  refine ⟨d, d, hx, hy, hs, hs, ?_⟩
  have h1 : d.canLay0 = true := by
    unfold SeqAt.shaped at hs
    exact (Bool.and_eq_true_iff.mp hs).1
  rw [SeqAt.eqv_refl d h1]
  exact q
theorem ints_lay : ∀ r : List Int, PyData.canLayAll0 (r.map .int) = true ∧ PyData.depthAll (r.map .int) = 0
  | [] => ⟨rfl, rfl⟩
  | i :: r => by
    obtain ⟨h1, h2⟩ := ints_lay r
    refine ⟨?_, ?_⟩
    · show (true && PyData.canLayAll0 (r.map .int)) = true
      rw [h1]
      rfl
    · show max 0 (PyData.depthAll (r.map .int)) = 0
      rw [h2]
      rfl
def rowsD (rs : List (List Int)) : List PyData := rs.map fun r => .tuple (r.map .int)
theorem rows_lay : ∀ rs : List (List Int), PyData.canLayAll0 (rowsD rs) = true ∧ PyData.depthAll (rowsD rs) ≤ 1
  | [] => ⟨rfl, Nat.zero_le _⟩
  | r :: rs => by
    obtain ⟨h1, h2⟩ := rows_lay rs
    obtain ⟨g1, g2⟩ := ints_lay r
    refine ⟨?_, ?_⟩
    · show (PyData.canLayAll0 (r.map .int) && PyData.canLayAll0 (rowsD rs)) = true
      rw [g1, h1]
      rfl
    · show max (PyData.depthAll (r.map .int) + 1) (PyData.depthAll (rowsD rs)) ≤ 1
      rw [g2]
      omega
theorem rows_shaped (rs : List (List Int)) : SeqAt.shaped (.list (rowsD rs)) = true := by
  obtain ⟨h1, h2⟩ := rows_lay rs
  unfold SeqAt.shaped
  rw [Bool.and_eq_true]
  refine ⟨h1, decide_eq_true ?_⟩
  show PyData.depthAll (rowsD rs) + 1 ≤ 64
  omega
theorem dp_ints {K : PySem.W.Frag} {H : Hp} : ∀ r : List Int, DpAll K H (r.map V.int) (r.map .int)
  | [] => .nil
  | i :: r => .cons (.int i) (dp_ints r)
theorem dp_rows {K : PySem.W.Frag} {H : Hp} : ∀ {as : List Addr} {rs : List (List Int)}, Tups H as (rs.map fun r => r.map V.int) → DpAll K H (as.map .ref) (rowsD rs)
  | [], [], _ => .nil
  | [], _ :: _, h => by cases h
  | _ :: _, [], h => by cases h
  | a :: as, r :: rs, .cons h t => .cons (.tup (SqT.of h) (dp_ints r)) (dp_rows t)
/-- a comprehension over a run's pieces -/
theorem lc_pcs {K : PySem.W.Frag} {c : Addr} {bs : List Addr} {ps : List Pc} {g : TG} {tt : TT} {te : TE} {vs : List Nat} {σ : L2.St} {H1 : Hp} {D : Addr} {Qd : Hp → Prop} (f : Pc → Bool) (r : Pc → List V) (hc : H1 c = some (.tup (bs.map .ref))) (ht : Tups H1 bs (ps.map pcV)) (nD : H1 D = none) (hlen : ps.length ≤ 800000)
    (step : ∀ (p : Pc) (b : Addr) (H : Hp) (Nx : Hp → Prop), Same H1 H → H b = some (.tup (pcV p)) → (f p = false → Nx H) → (f p = true → ∀ t H', Same H H' → H' t = some (.tup (r p)) → ∃ acc, H' D = some (.lst acc) ∧ acc.length < sizeLine ∧ Nx (upd H' D (.lst (acc ++ [.ref t])))) →
      g (.ref b) (wipe σ vs) H fun σ2 H2 => wipe σ2 vs = wipe σ vs ∧ tt σ2 H2 fun bb H3 => if bb = true then te σ2 H3 fun y H4 => ∃ acc, H4 D = some (.lst acc) ∧ acc.length < sizeLine ∧ Nx (upd H4 D (.lst (acc ++ [y]))) else Nx H3)
    (hd : ∀ H' cs, Same H1 H' → H' D = some (.lst (cs.map .ref)) → Tups H' cs ((ps.filter f).map r) → Qd H') :
    ∃ W : Nat → Nat → Hp → Prop, (∃ m, W 0 m (upd H1 D (.lst []))) ∧ ∀ i m H, W i m H →
      ((Itt K c).stop i H ∧ Qd H) ∨ ((Itt K c).go i H ∧ ∃ Nx : Hp → Prop, (∀ H', Nx H' → ∃ m', m' < m ∧ W (i + 1) m' H') ∧ ∀ x H', (Itt K c).yld i H x H' → g x (wipe σ vs) H' fun σ2 H2 => wipe σ2 vs = wipe σ vs ∧ tt σ2 H2 fun b H3 =>
        if b = true then te σ2 H3 fun y H4 => ∃ acc, H4 D = some (.lst acc) ∧ acc.length < sizeLine ∧ Nx (upd H4 D (.lst (acc ++ [y]))) else Nx H3) := by
  have el := ht.length
  rw [List.length_map] at el
  refine lc_tup (K := K) (a := c) (xs := bs.map .ref) (fun i H' => Same H1 H' ∧ ∃ cs : List Addr, cs.length ≤ i ∧ H' D = some (.lst (cs.map .ref)) ∧ Tups H' cs (((ps.take i).filter f).map r)) ⟨same_upd nD, [], Nat.le_refl _, upd_same, .nil⟩ (fun i H' _ h => SqT.of (h.1 _ _ hc)) ?_ ?_
  · rintro i x H' hi ⟨hs, cs, hcl, hD, hT⟩
    rw [List.getElem?_map] at hi
    cases ea : bs[i]? with
    | none => rw [ea] at hi; cases hi
    | some b =>
      rw [ea] at hi
      cases hi
      obtain ⟨q, hq, hp⟩ := Paired.get ht ea
      rw [List.getElem?_map] at hq
      cases ep : ps[i]? with
      | none => rw [ep] at hq; cases hq
      | some p =>
        rw [ep] at hq
        cases hq
        have hi' := (List.getElem?_eq_some_iff.mp ep).1
        have et : (ps.take (i + 1)).filter f = (ps.take i).filter f ++ [p].filter f := by rw [List.take_add_one, ep, List.filter_append]; rfl
        refine step p b H' _ hs (hs _ _ hp) (fun hf => ?_) (fun hf t H2 s2 h2 => ?_)
        · refine ⟨hs, cs, by omega, hD, ?_⟩
          rw [et, List.filter_cons_of_neg (by rw [hf]; decide)]
          simp only [List.filter_nil, List.append_nil]
          exact hT
        · have hD2 := s2 _ _ hD
          have kt : ∀ b xs, H2 b = some (.tup xs) → upd H2 D (.lst (cs.map .ref ++ [.ref t])) b = some (.tup xs) := fun b xs e => tup_upd hD2 nofun e
          refine ⟨_, hD2, ?_, fun b o e => (upd_ne (ne_of_none e nD)).trans (s2 _ _ (hs _ _ e)), cs ++ [t], ?_, by rw [upd_same, List.map_append]; rfl, ?_⟩
          · rw [List.length_map]
            exact line_of (by omega)
          · rw [List.length_append]
            show cs.length + 1 ≤ i + 1
            omega
          · rw [et, List.filter_cons_of_pos hf, List.map_append]
            exact Paired.app (hT.mono fun b xs e => kt _ _ (s2 _ _ e)) (.cons (kt _ _ h2) .nil)
  · rintro H' ⟨hs, cs, _, hD, hT⟩
    rw [List.take_of_length_le (by rw [List.length_map, el]; exact Nat.le_refl _)] at hT
    exact hd H' cs hs hD hT
/-- t[n:] + t[:n], t and n in the slots 8 and 9 -/
def rotT : TE := fun σ H Q => ∃ (tk : Addr) (xs : List V) (n : Nat), σ[8]? = some (some (.ref tk)) ∧ σ[9]? = some (some (.int (n : Int))) ∧ H tk = some (.tup xs) ∧ xs.length ≤ 1000 ∧ ∀ c H', Same H H' → H' c = some (.tup (xs.drop n ++ xs.take n)) → Q (.ref c) H'
theorem pe_rot {X : Cx} {e : Expr} (h : PE X e (tOp (rCatA X.K) (tSl (rSlA X.K) (tVar 8) (tPart (tVar 9)) tNoPart) (tSl (rSlA X.K) (tVar 8) tNoPart (tPart (tVar 9))))) : PE X e rotT := by
  refine ⟨fun pins s σ H Q I q => h.run pins s σ H Q I ?_⟩
  obtain ⟨tk, xs, n, h8, h9, hx, hl, k⟩ := q
  refine ⟨_, h8, _, h9, _, rfl, ?_⟩
  show rSlA X.K (.ref tk) (some (n : Int)) none H fun x H1 => tSl (rSlA X.K) (tVar 8) tNoPart (tPart (tVar 9)) σ H1 fun y H2 => rCatA X.K x y H2 Q
  refine slA_by hx fun c1 G1 g1 h1 => ⟨_, h8, _, h9, _, rfl, ?_⟩
  show rSlA X.K (.ref tk) none (some (n : Int)) G1 fun y H2 => rCatA X.K (.ref c1) y H2 Q
  refine slA_by (g1 _ _ hx) fun c2 G2 g2 h2 => ?_
  rw [cut_from] at h1
  rw [cut_to] at h2
  refine catA_by (g2 _ _ h1) h2 ?_ fun c H' g3 h3 => k c H' (g1.trans (g2.trans g3)) h3
  rw [List.length_drop, List.length_take]
  exact Nat.le_of_lt (line_of (by omega))
theorem Prg.fr {H H' : Hp} {a p : Addr} {ps : List Ps} (h : Prg H p ps) (m : Mil H a) (f : Fr a H H') : Prg H' p ps := by
  obtain ⟨as, h1, h2⟩ := h
  exact ⟨as, f _ _ (m.neT h1) h1, h2.mono fun _ _ e => f _ _ (m.neT e) e⟩
theorem Prg.ext {H H' : Hp} {p : Addr} {ps : List Ps} (h : Prg H p ps) (f : ExtN H H') : Prg H' p ps := by
  obtain ⟨as, h1, h2⟩ := h
  exact ⟨as, f _ _ h1 nofun, h2.mono fun _ _ e => f _ _ e nofun⟩
theorem Mil.ext {H H' : Hp} {a : Addr} (m : Mil H a) (f : ExtN H H') : Mil H' a := by
  obtain ⟨m0, m1, m2, h⟩ := m
  exact ⟨m0, m1, m2, f _ _ h nofun⟩
theorem TabS.fr {H H' : Hp} {P a : Addr} {q : Str} (t : TabS H P q) (m : Mil H a) (f : Fr a H H') : TabS H' P q := by
  obtain ⟨m0, m1, m2, h⟩ := m
  obtain ⟨ps, h1, h2, h3⟩ := t
  refine ⟨ps, f _ _ (fun e => by rw [e, h] at h1; cases h1) h1, h2, fun pos cv hc => ?_⟩
  obtain ⟨c, rfl, hcc⟩ := h3 pos cv hc
  exact ⟨c, rfl, f _ _ (fun e => by rw [e, h] at hcc; unfold CodeO at hcc; cases hcc) hcc⟩
section
variable {P : Program} {w : World} {K : PySem.W.Frag} {mg : Str → Option Value} {base : Heap} {A : Ads}
def sp_R_len (A : Ads) : Sp := fun vs H Q _ => ∃ (x dx en pc an he un al : Addr) (st : Bool) (qu : Int) (xs : List V), vs = [.ref x] ∧ H x = some (.ins A.CR dx (rFs en st pc an he un qu al)) ∧ H pc = some (.tup xs) ∧ Q (.int (xs.length : Nat)) H
theorem ok_R_len (T : Txt K mg A) : FnOk P w K mg base CX0 1 A.f_R_len A.d_R_len ps_R_len (sp_R_len A) := by
  refine T.R_len.ok sc_R_len (fun vs H Q E h => ?_) (fun cdv AR outer sh H vs Q EX hr h => ?_)
  · obtain ⟨x, dx, en, pc, an, he, un, al, st, qu, xs, rfl, _⟩ := h
    rfl
  · obtain ⟨x, dx, en, pc, an, he, un, al, st, qu, xs, rfl, hx, hp, k⟩ := h
    refine ⟨_, (pss_one (ps_ret (pe_callB call_len_seq (by rfl) T.n_len (by decide +kernel) (pa_cons (pe_fld (pv 0) rfl) pa_nil)))), ?_⟩
    exact ⟨_, rfl, _, _, _, _, _, rfl, hx, T.cR, T.nR_pieces, rfl, _, _, rfl, .inr (SqT.of hp), k⟩
def sp_l_right (A : Ads) : Sp := fun vs H Q _ => ∃ (a : Addr), vs = [.ref a] ∧ Mil H a ∧ TabS H A.p_R lamQ ∧ ∀ H', FrN a H H' → TabS H' A.p_R lamQ → Q (.bl true) H'
theorem ok_l_right (T : Txt K mg A) (TB : TabB base mg A.c_R A.p_R) : FnOk P w K mg base CX0 10 A.f_l_right A.d_l_right ps_l_right (sp_l_right A) := by
  refine T.l_right.ok sc_l_right (fun vs H Q E h => ?_) (fun cdv AR outer sh H vs Q EX hr h => ?_)
  · obtain ⟨a, rfl, _⟩ := h
    rfl
  · obtain ⟨a, rfl, hm, htb, k⟩ := h
    refine ⟨_, (pss_cons (ps_for PassesOwn.never rfl (pi_range1 rfl T.n_range (pa_cons pe_int pa_nil)) (pg_name (i := 1) sc_l_right.nd rfl (Or.inl rfl)) (pss_cons (ps_asg (pe_call (ok_l_told T) (hr.mono (by decide)) rfl T.g_law_told T.l_told.kp T.b_l_told .nil pass0 (pa_cons (pv 0) pa_nil)) (pg_tup (by rfl) (pgs_cons (pg_name (i := 2) sc_l_right.nd rfl (Or.inl rfl)) (pgs_cons (pg_name (i := 3) sc_l_right.nd rfl (Or.inl rfl)) (pgs_cons (pg_name (i := 4) sc_l_right.nd rfl (Or.inl rfl)) (pgs_cons (pg_name (i := 5) sc_l_right.nd rfl (Or.inl rfl)) pgs_nil))))))
      (pss_cons (ps_par (i := 6) (j := 7) rfl sc_l_right.nd rfl rfl (by decide) rfl rfl (pa_cons (pe_call (ok_l_plans T) (hr.mono (by decide)) rfl T.g_law_plans T.l_plans.kp T.b_l_plans .nil pass0 (pa_cons (pv 0) (pa_cons pe_bl pa_nil))) (pa_cons (pe_op op_add pe_int (pe_call (ok_l_grain T) (hr.mono (by decide)) rfl T.g_law_grain T.l_grain.kp T.b_l_grain .nil pass0 (pa_cons (pv 0) (pa_cons pe_int pa_nil)))) pa_nil)) (by rfl))
      (pss_cons (ps_set (i := 8) sc_l_right.nd rfl (Or.inl rfl) (pe_call (ok_l_choice T) (hr.mono (by decide)) rfl T.g_law_choice T.l_choice.kp T.b_l_choice .nil pass0 (pa_cons (pv 0) (pa_cons (pv 6) pa_nil))))
      (pss_cons (ps_set (i := 9) sc_l_right.nd rfl (Or.inl rfl) (pe_callB call_len_seq (by rfl) T.n_len (by decide +kernel) (pa_cons (pe_lc (own := [("_law_each", 15)]) (g := (gName 15))  rfl sc_l_right.nd (pi_tup (pe_ix ix_tup (pv 6) pe_int (fun _ _ => rfl))) (blkOk_by (N := ["_law_mill_here", "_law_again", "_law_a", "_law_b", "_law_c", "_law_d", "_law_plans_here", "_law_many", "_law_ticks", "_law_first", "_law_found", "_law_mate", "_law_turned", "_law_k", "_law_one_here", "_law_each", "_law_piece"]) (sc := defScope s_l_right) (by decide +kernel)) (fun _ _ _ _ _ => (pg_name (i := 15) sc_l_right.nd rfl (Or.inl rfl))) (fun _ _ _ _ _ => (pts_one (pt_cmpR op_eq (pe_ix (ix_tupK K rfl) (pv 15) pe_int (fun _ _ => rfl)) pe_str (nomark _)))) (fun _ _ _ _ _ => (pv 15))) pa_nil)))
      (pss_cons (ps_set (i := 10) sc_l_right.nd rfl (Or.inl rfl) (pe_callN (ok_run T TB) (hr.mono (by decide)) rfl T.g_run T.run.kp T.kb_run pass0 (pa_cons (pe_call (ok_l_made T) (hr.mono (by decide)) rfl T.g_law_made T.l_made.kp T.b_l_made .nil pass0 (pa_cons (pe_tup (pa_cons (pv 2) (pa_cons (pv 3) (pa_cons (pv 4) (pa_cons (pv 5) pa_nil))))) pa_nil)) (pa_cons (pe_ix ix_tup (pv 6) pe_int (fun _ _ => rfl)) (pa_cons (pe_ix ix_tup (pv 6) pe_int (fun _ _ => rfl)) pa_nil))) (pk_cons (pv 7) (pk_cons (pv 8) pk_nil))))
      (pss_cons (ps_set (i := 11) sc_l_right.nd rfl (Or.inl rfl) (pe_callN (ok_run T TB) (hr.mono (by decide)) rfl T.g_run T.run.kp T.kb_run pass0 (pa_cons (pe_call (ok_l_made T) (hr.mono (by decide)) rfl T.g_law_made T.l_made.kp T.b_l_made .nil pass0 (pa_cons (pe_tup (pa_cons (pv 2) (pa_cons (pv 3) (pa_cons (pv 5) (pa_cons (pv 4) pa_nil))))) pa_nil)) (pa_cons (pe_ix ix_tup (pv 6) pe_int (fun _ _ => rfl)) (pa_cons (pe_ix ix_tup (pv 6) pe_int (fun _ _ => rfl)) pa_nil))) (pk_cons (pv 7) (pk_cons (pe_rot (pe_op op_catA (pe_slice sl_tupA (pv 8) (po_some (pv 9)) po_none) (pe_slice sl_tupA (pv 8) po_none (po_some (pv 9))))) pk_nil))))
      (pss_cons (ps_if (pt_cmpR (op_neD hr.units) (pe_lst (pa_cons (pe_fld (pv 11) rfl) (pa_cons (pe_fld (pv 11) rfl) (pa_cons (pe_fld (pv 11) rfl) (pa_cons (pe_fld (pv 11) rfl) pa_nil))))) (pe_lst (pa_cons (pe_revT (pe_fld (pv 10) rfl)) (pa_cons (pe_revT (pe_fld (pv 10) rfl)) (pa_cons (pe_revT (pe_fld (pv 10) rfl)) (pa_cons (pe_revT (pe_fld (pv 10) rfl)) pa_nil))))) (nomark _)) (pss_one (ps_ret pe_bl)) pss_nil)
      (pss_cons (ps_set (i := 12) sc_l_right.nd rfl (Or.inl rfl) (pe_callB (cr_sortedRows hr.units) (by rfl) T.n_sorted (by decide +kernel) (pa_cons (pe_lc (own := [("_law_piece", 16)]) (g := (gName 16))  rfl sc_l_right.nd (pi_tup (pe_fld (pv 10) rfl)) (blkOk_by (N := ["_law_mill_here", "_law_again", "_law_a", "_law_b", "_law_c", "_law_d", "_law_plans_here", "_law_many", "_law_ticks", "_law_first", "_law_found", "_law_mate", "_law_turned", "_law_k", "_law_one_here", "_law_each", "_law_piece"]) (sc := defScope s_l_right) (by decide +kernel)) (fun _ _ _ _ _ => (pg_name (i := 16) sc_l_right.nd rfl (Or.inl rfl))) (fun _ _ _ _ _ => (pts_one (pt_cmpR op_eq (pe_ix (ix_tupK K rfl) (pv 16) pe_int (fun _ _ => rfl)) pe_int (nomark _)))) (fun _ _ _ _ _ => (pe_tup (pa_cons (pe_ix (ix_tupK K rfl) (pv 16) pe_int (fun _ _ => rfl)) (pa_cons (pe_op op_sub pe_int (pe_ix (ix_tupK K rfl) (pv 16) pe_int (fun _ _ => rfl))) (pa_cons (pe_ix (ix_tupK K rfl) (pv 16) pe_int (fun _ _ => rfl)) (pa_cons (pe_ix (ix_tupK K rfl) (pv 16) pe_int (fun _ _ => rfl)) pa_nil))))))) pa_nil)))
      (pss_cons (ps_if (pt_cmpR (op_neD hr.units) (pe_callB (cr_sortedRows hr.units) (by rfl) T.n_sorted (by decide +kernel) (pa_cons (pe_lc (own := [("_law_piece", 16)]) (g := (gName 16))  rfl sc_l_right.nd (pi_tup (pe_fld (pv 11) rfl)) (blkOk_by (N := ["_law_mill_here", "_law_again", "_law_a", "_law_b", "_law_c", "_law_d", "_law_plans_here", "_law_many", "_law_ticks", "_law_first", "_law_found", "_law_mate", "_law_turned", "_law_k", "_law_one_here", "_law_each", "_law_piece"]) (sc := defScope s_l_right) (by decide +kernel)) (fun _ _ _ _ _ => (pg_name (i := 16) sc_l_right.nd rfl (Or.inl rfl))) (fun _ _ _ _ _ => (pts_one (pt_cmpR op_eq (pe_ix (ix_tupK K rfl) (pv 16) pe_int (fun _ _ => rfl)) pe_int (nomark _)))) (fun _ _ _ _ _ => (pv 16))) pa_nil)) (pv 12) (nomark _)) (pss_one (ps_ret pe_bl)) pss_nil)
      (pss_cons (ps_for PassesOwn.never rfl (pi_list (pe_lst (pa_cons pe_int (pa_cons pe_int pa_nil)))) (pg_name (i := 13) sc_l_right.nd rfl (Or.inr rfl)) (pss_cons (ps_setLc (i := 14) (own := [("_law_piece", 16)]) (g := (gName 16))  rfl sc_l_right.nd rfl rfl (sw_true rfl rfl rfl (by decide +kernel)) (pi_tup (pe_fld (pv 10) rfl)) (blkOk_by (N := ["_law_mill_here", "_law_again", "_law_a", "_law_b", "_law_c", "_law_d", "_law_plans_here", "_law_many", "_law_ticks", "_law_first", "_law_found", "_law_mate", "_law_turned", "_law_k", "_law_one_here", "_law_each", "_law_piece"]) (sc := defScope s_l_right) (by decide +kernel)) (fun _ _ _ _ _ => (pg_name (i := 16) sc_l_right.nd rfl (Or.inl rfl))) (fun _ _ _ _ _ => (pts_one (pt_cmpR op_eq (pe_ix (ix_tupK K rfl) (pv 16) pe_int (fun _ _ => rfl)) (pv 13) (nomark _)))) (fun _ _ _ _ _ => (pe_tup (pa_cons (pe_ix (ix_tupK K rfl) (pv 16) pe_int (fun _ _ => rfl)) (pa_cons (pe_ix (ix_tupK K rfl) (pv 16) pe_int (fun _ _ => rfl)) (pa_cons (pe_ix (ix_tupK K rfl) (pv 16) pe_int (fun _ _ => rfl)) pa_nil))))))
      (pss_one (ps_if (pt_cmpR (op_neD hr.units) (pe_lc (own := [("_law_piece", 16)]) (g := (gName 16))  rfl sc_l_right.nd (pi_tup (pe_fld (pv 11) rfl)) (blkOk_by (N := ["_law_mill_here", "_law_again", "_law_a", "_law_b", "_law_c", "_law_d", "_law_plans_here", "_law_many", "_law_ticks", "_law_first", "_law_found", "_law_mate", "_law_turned", "_law_k", "_law_one_here", "_law_each", "_law_piece"]) (sc := defScope s_l_right) (by decide +kernel)) (fun _ _ _ _ _ => (pg_name (i := 16) sc_l_right.nd rfl (Or.inl rfl))) (fun _ _ _ _ _ => (pts_one (pt_cmpR op_eq (pe_ix (ix_tupK K rfl) (pv 16) pe_int (fun _ _ => rfl)) (pe_op op_sub pe_int (pv 13)) (nomark _)))) (fun _ _ _ _ _ => (pe_tup (pa_cons (pe_ix (ix_tupK K rfl) (pv 16) pe_int (fun _ _ => rfl)) (pa_cons (pe_ix (ix_tupK K rfl) (pv 16) pe_int (fun _ _ => rfl)) (pa_cons (pe_ix (ix_tupK K rfl) (pv 16) pe_int (fun _ _ => rfl)) pa_nil)))))) (pv 14) (nomark _)) (pss_one (ps_ret pe_bl)) pss_nil))))
      (pss_one (ps_if (PW.pt (pw_or (pt_cmpR op_ne (pe_fld (pv 11) rfl) (pe_fld (pv 10) rfl) (nomark _)) (pw_or (pt_cmpR op_ne (pe_fld (pv 11) rfl) (pe_fld (pv 10) rfl) (nomark _)) (pw_or1 (pt_cmpR op_ne (pe_callB (cr_lenOwn (CX := CX0) (ok_R_len T) (hr.mono (by decide)) T.lenR T.m_R_len.fn T.b_R_len pass0) (by rfl) T.n_len (by decide +kernel) (pa_cons (pv 11) pa_nil)) (pe_callB (cr_lenOwn (CX := CX0) (ok_R_len T) (hr.mono (by decide)) T.lenR T.m_R_len.fn T.b_R_len pass0) (by rfl) T.n_len (by decide +kernel) (pa_cons (pv 10) pa_nil)) (nomark _)))))) (pss_one (ps_ret pe_bl)) pss_nil)))))))))))))
      (pss_one (ps_ret pe_bl))), ?_⟩
    refine ⟨6, rfl, by decide, by decide, for_range (lo := 0) (n := (6 : Int).toNat) (fun i σ H' => ∃ v1 v2 v3 v4 v5 v6 v7 v8 v9 v10 v11 v12 v13 v14 v15 v16 : Option V, σ = [some (.ref a), v1, v2, v3, v4, v5, v6, v7, v8, v9, v10, v11, v12, v13, v14, v15, v16] ∧ FrN a H H' ∧ Mil H' a ∧ TabS H' A.p_R lamQ)
      ⟨_, _, _, _, _, _, _, _, _, _, _, _, _, _, _, _, rfl, .refl a H, hm, htb⟩ ?_ ?_⟩
    · rintro i σ H0 hi ⟨v1, v2, v3, v4, v5, v6, v7, v8, v9, v10, v11, v12, v13, v14, v15, v16, rfl, fr, m0, tb0⟩
      refine ⟨_, rfl, a, rfl, m0, fun H1 t c d sz wy r0 e0 y0 r1 e1 y1 ht z0 z1 w0 w1 wc wd f1 m1 => ⟨_, _, rfl, SqT.of ht, rfl, _, _, rfl, _, _, rfl, _, _, rfl, _, _, rfl, rfl, ?_⟩⟩
      refine ⟨_, rfl, a, rfl, m1, fun H2 r p0 p1 ps qs hr2 hp hq lp lq op oq f2 m2 => ⟨_, rfl, a, 60, rfl, m2, by decide, by decide, fun H3 x x0 x1 f3 m3 => ⟨_, _, rfl, rfl, _, _, rfl, ?_⟩⟩⟩
      have hr3 := f3 _ _ (m2.neT hr2) hr2
      have hp3 := hp.fr m2 f3
      have hq3 := hq.fr m2 f3
      refine ⟨_, rfl, _, rfl, a, r, p0, p1, ps, qs, rfl, m3, hr3, hp3, hq3, lp, lq, op, oq, fun H4 tk u1 u2 htk ok1 ok2 f4 m4 => ?_⟩
      have hr4 := f4 _ _ (m3.neT hr3) hr3
      have hp4 := hp3.fr m3 f4
      have hq4 := hq3.fr m3 f4
      have wc4 := ((wc.fr m1 f2).fr m2 f3).fr m3 f4
      have wd4 := ((wd.fr m1 f2).fr m2 f3).fr m3 f4
      have f04 := f1.trans (f2.trans (f3.trans f4))
      have tb4 := TabS.fr tb0 m0 f04
      -- how many pauses the first program has
      obtain ⟨pas_, hpa, hpt⟩ := hp4
      have pal := hpt.length
      rw [List.length_map] at pal
      refine ⟨_, rfl, _, _, _, _, rfl, rfl, SqT.of hr4, rfl, _, rfl, ⟨_, SqT.of hpa⟩, fun D nD => lc_tup (K := K) (a := p0) (xs := pas_.map .ref) (fun i H' => Same H4 H' ∧ ∃ cs : List V, H' D = some (.lst cs) ∧ cs.length = (pas (ps.take i)).length) ⟨same_upd nD, [], upd_same, rfl⟩ (fun i H' _ h => SqT.of (h.1 _ _ hpa)) ?_ ?_⟩
      · rintro i y H' hi ⟨hs, cs, hD, hcl⟩
        rw [List.getElem?_map] at hi
        cases ea : pas_[i]? with
        | none => rw [ea] at hi; cases hi
        | some b =>
          rw [ea] at hi
          cases hi
          obtain ⟨q, hq', hb⟩ := Paired.get hpt ea
          rw [List.getElem?_map] at hq'
          cases ep : ps[i]? with
          | none => rw [ep] at hq'; cases hq'
          | some p =>
            rw [ep] at hq'
            cases hq'
            have hi' := (List.getElem?_eq_some_iff.mp ep).1
            have et : pas (ps.take (i + 1)) = pas (ps.take i) ++ pas [p] := by unfold pas; rw [List.take_add_one, ep, List.filter_append]; rfl
            cases p with
            | io rd n =>
              refine ⟨rfl, _, rfl, _, _, _, _, rfl, rfl, SqT.of (hs _ _ hb), rfl, rfl, _, rfl, ?_⟩
              have e2 : decide (V.str (rdS rd) = V.str "pause") = false := by cases rd <;> decide +kernel
              show if decide (V.str (rdS rd) = V.str "pause") = true then _ else _
              rw [e2]
              refine iteF ⟨hs, cs, hD, ?_⟩
              rw [et, List.length_append, hcl]
              rfl
            | pa a0 b0 =>
              refine ⟨rfl, _, rfl, _, _, _, _, rfl, rfl, SqT.of (hs _ _ hb), rfl, rfl, _, rfl, ?_⟩
              have e2 : decide (V.str "pause" = V.str "pause") = true := decide_eq_true rfl
              show if decide (V.str "pause" = V.str "pause") = true then _ else _
              rw [e2]
              refine iteT ⟨_, rfl, _, hD, ?_, fun b o e => (upd_ne (ne_of_none e nD)).trans (hs _ _ e), _, upd_same, ?_⟩
              · rw [hcl]
                exact line_of (Nat.le_trans (List.length_filter_le _ _) (by rw [List.length_take]; omega))
              · rw [et, List.length_append, List.length_append, hcl]
                rfl
      rintro H5 ⟨s5, cs, hD5, hcl⟩
      rw [List.take_of_length_le (by rw [List.length_map, pal]; exact Nat.le_refl _)] at hcl
      rw [← ok1.length] at hcl
      refine ⟨_, _, rfl, .inl (SqL.of hD5), ?_⟩
      rw [hcl]
      have hr5 := s5 _ _ hr4
      have wc5 : Ways H5 c r0 e0 y0 := ⟨s5 _ _ wc4.1, wc4.2⟩
      have wd5 : Ways H5 d r1 e1 y1 := ⟨s5 _ _ wd4.1, wd4.2⟩
      have hp5 : Prg H5 p0 ps := Prg.same ⟨pas_, hpa, hpt⟩ s5
      have hq5 := hq4.same s5
      have htk5 := s5 _ _ htk
      have m5 := m4.same s5
      have tb5 := tb4.ext s5
      have f05 := f04.trans (Fr.same s5)
      -- the first run
      refine ⟨_, rfl, _, rfl, _, rfl, _, rfl, by show 4 ≤ sizeLine; decide, fun t1 nt1 => ⟨t1, c, d, sz, wy, r0, e0, y0, r1, e1, y1, rfl, upd_same, z0, z1, w0, w1, ⟨same_upd nt1 _ _ wc5.1, wc5.2⟩, ⟨same_upd nt1 _ _ wd5.1, wd5.2⟩, fun H6 line dl n0 n1 tl d0 d1 q0 q1 L s6' => ?_⟩⟩
      have s6 : Same H5 H6 := (same_upd nt1).trans s6'
      refine ⟨_, rfl, _, _, _, _, rfl, rfl, SqT.of (s6 _ _ hr5), rfl, _, rfl, _, _, _, _, rfl, rfl, SqT.of (s6 _ _ hr5), rfl, _, rfl, _, rfl, rfl, rfl, ?_⟩
      refine ⟨line, dl, n0, n1, tl, d0, d1, q0, q1, p0, p1, tk, sz, wy, r0, e0, y0, r1, e1, y1, ps, qs, 1 + x, u1, u2, rfl, L, z0, wc.2.1, wd.2.1, hp5.same s6, hq5.same s6, lp, lq, op, oq, by omega, by omega, s6 _ _ htk5, ok1, ok2, tb5.ext s6, fun H7 fx fdx en pc an he un al bs qu lp1 R1 x7 tb7 => ?_⟩
      have e57 : ExtN H5 H7 := (ExtN.of s6).trans x7
      have hr7 := e57 _ _ hr5 nofun
      have wc7 : Ways H7 c r0 e0 y0 := ⟨e57 _ _ wc5.1 nofun, wc5.2⟩
      have wd7 : Ways H7 d r1 e1 y1 := ⟨e57 _ _ wd5.1 nofun, wd5.2⟩
      have hp7 := hp5.ext e57
      have hq7 := hq5.ext e57
      have htk7 := e57 _ _ htk5 nofun
      have m7 := m5.ext e57
      -- the second run
      refine ⟨_, rfl, _, rfl, _, rfl, _, rfl, by show 4 ≤ sizeLine; decide, fun t2 nt2 => ⟨t2, d, c, sz, wy, r1, e1, y1, r0, e0, y0, rfl, upd_same, z0, z1, w0, w1, ⟨same_upd nt2 _ _ wd7.1, wd7.2⟩, ⟨same_upd nt2 _ _ wc7.1, wc7.2⟩, fun H8 line' dl' n0' n1' tl' d0' d1' q0' q1' L' s8' => ?_⟩⟩
      have s8 : Same H7 H8 := (same_upd nt2).trans s8'
      refine ⟨_, rfl, _, _, _, _, rfl, rfl, SqT.of (s8 _ _ hr7), rfl, _, rfl, _, _, _, _, rfl, rfl, SqT.of (s8 _ _ hr7), rfl, _, rfl, ?_⟩
      have lu1 : u1.length ≤ 6 := Nat.le_trans (by rw [ok1.length]; exact List.length_filter_le _ _) lp
      have lu2 : u2.length ≤ 6 := Nat.le_trans (by rw [ok2.length]; exact List.length_filter_le _ _) lq
      refine ⟨tk, (u1 ++ u2).map .int, u1.length, rfl, rfl, s8 _ _ htk7, by rw [List.length_map, List.length_append]; omega, fun k3 G3 s83 h3 => ?_⟩
      rw [List.map_append, List.drop_left' (by rw [List.length_map]), List.take_left' (by rw [List.length_map]), ← List.map_append] at h3
      have s73 : Same H7 G3 := s8.trans s83
      refine ⟨rfl, rfl, ?_⟩
      refine ⟨line', dl', n0', n1', tl', d0', d1', q0', q1', p1, p0, k3, sz, wy, r1, e1, y1, r0, e0, y0, qs, ps, 1 + x, u2, u1, rfl, L'.same (ExtN.of s83), z0, wd.2.1, wc.2.1, hq7.same s73, hp7.same s73, lq, lp, oq, op, by omega, by omega, h3, ok2, ok1, tb7.ext s73, fun H9 mx mdx en' pc' an' he' un' al' bs' qu' lp2 R2 x9 tb9 => ?_⟩
      have e79 : ExtN H7 H9 := (ExtN.of s73).trans x9
      have R1 := R1.ext e79
      have hfin : fin (cfR sz wy r1 e1 y1 r0 e0 y0 qs ps (1 + x) u2 u1) = (flip (fin (cfR sz wy r0 e0 y0 r1 e1 y1 ps qs (1 + x) u1 u2)).1, flip (fin (cfR sz wy r0 e0 y0 r1 e1 y1 ps qs (1 + x) u1 u2)).2) := by
        unfold cfR
        rw [← cfOf_flip, fin_flip]
      rw [hfin] at R2
      have m9 := m7.ext e79
      have F9 : FrN a H H9 := fun b o hb e n => e79 b o (e57 b o (f05 b o hb (fr b o hb e n)) n) n
      revert R1 R2
      generalize fin (cfR sz wy r0 e0 y0 r1 e1 y1 ps qs (1 + x) u1 u2) = Z
      obtain ⟨S, C⟩ := Z
      intro R2 R1
      have sw : Sw lp1 lp2 := fun b => (R2.plg b).trans (R1.plg (!b)).symm
      clear L L' hfin
      have tbx := tb9
      -- both runs' numbers
      refine ⟨_, rfl, _, _, _, _, _, rfl, R2.at_, T.cR, T.nR_ends, rfl, _, rfl, _, _, _, _, _, rfl, R2.at_, T.cR, T.nR_answers, rfl, _, rfl, _, _, _, _, _, rfl, R2.at_, T.cR, T.nR_held, rfl, _, rfl, _, _, _, _, _, rfl, R2.at_, T.cR, T.nR_unread, rfl, by show 4 ≤ sizeLine; decide, fun l1 nl1 => ?_⟩
      generalize hA : upd H9 l1 _ = HA
      have sA : Same H9 HA := by rw [← hA]; exact same_upd nl1
      have hl1 : HA l1 = some (.lst [.ref en', .ref an', .ref he', .ref un']) := by rw [← hA]; exact upd_same
      clear hA
      have A1 := R1.ext (ExtN.of sA)
      refine ⟨_, rfl, _, _, _, _, _, rfl, A1.at_, T.cR, T.nR_ends, rfl, _, _, _, rfl, SqT.of A1.hen, fun b1 nb1 => ?_⟩
      generalize hB : upd HA b1 _ = HB
      have sB : Same HA HB := by rw [← hB]; exact same_upd nb1
      have hb1 : HB b1 = some (.tup [oI (C true).ended, oI (C false).ended]) := by rw [← hB]; exact upd_same
      clear hB
      have A2 := A1.ext (ExtN.of sB)
      refine ⟨_, rfl, _, _, _, _, _, rfl, A2.at_, T.cR, T.nR_answers, rfl, _, _, _, rfl, SqT.of A2.han, fun b2 nb2 => ?_⟩
      generalize hB : upd HB b2 _ = HC
      have sC : Same HB HC := by rw [← hB]; exact same_upd nb2
      have hb2 : HC b2 = some (.tup [.int (ansR true lp1), .int (ansR false lp1)]) := by rw [← hB]; exact upd_same
      clear hB
      have A3 := A2.ext (ExtN.of sC)
      refine ⟨_, rfl, _, _, _, _, _, rfl, A3.at_, T.cR, T.nR_held, rfl, _, _, _, rfl, SqT.of A3.hhe, fun b3 nb3 => ?_⟩
      generalize hB : upd HC b3 _ = HD
      have sD : Same HC HD := by rw [← hB]; exact same_upd nb3
      have hb3 : HD b3 = some (.tup [.int (S true).long, .int (S false).long]) := by rw [← hB]; exact upd_same
      clear hB
      have A4 := A3.ext (ExtN.of sD)
      refine ⟨_, rfl, _, _, _, _, _, rfl, A4.at_, T.cR, T.nR_unread, rfl, _, _, _, rfl, SqT.of A4.hun, fun b4 nb4 => ?_⟩
      generalize hB : upd HD b4 _ = HE
      have sE : Same HD HE := by rw [← hB]; exact same_upd nb4
      have hb4 : HE b4 = some (.tup [.int ((S true).come - (S true).taken), .int ((S false).come - (S false).taken)]) := by rw [← hB]; exact upd_same
      clear hB
      refine ⟨by show 4 ≤ sizeLine; decide, fun l2' nl2' => ?_⟩
      generalize hB : upd HE l2' _ = HF
      have sF : Same HE HF := by rw [← hB]; exact same_upd nl2'
      have hl2 : HF l2' = some (.lst [.ref b1, .ref b2, .ref b3, .ref b4]) := by rw [← hB]; exact upd_same
      clear hB
      have sEF := sE.trans sF
      have sDF := sD.trans sEF
      have sCF := sC.trans sDF
      have sBF := sB.trans sCF
      have s9F := sA.trans sBF
      have B2 := R2.ext (ExtN.of s9F)
      have han2 : HF an' = some (.tup [.int (ansR true lp1), .int (ansR false lp1)]) := by
        have h := B2.han
        rw [show (l2 fun b => V.int (ansR b lp2)) = [.int (ansR true lp1), .int (ansR false lp1)] from by show [V.int (ansR false lp2), V.int (ansR true lp2)] = _; rw [sw.ans, sw.ans]; rfl] at h
        exact h
      show rNeD K (.ref l1) (.ref l2') HF _
      refine ne_same (d := .list [.tuple [dO (C true).ended, dO (C false).ended], .tuple [.int (ansR true lp1), .int (ansR false lp1)], .tuple [.int (S true).long, .int (S false).long], .tuple [.int ((S true).come - (S true).taken), .int ((S false).come - (S false).taken)]])
        (.lst (SqL.of (sBF _ _ hl1)) (.cons (dp2 B2.hen (dpO _) (dpO _)) (.cons (dp2 han2 (.int _) (.int _)) (.cons (dp2 B2.hhe (.int _) (.int _)) (.cons (dp2 B2.hun (.int _) (.int _)) .nil)))))
        (.lst (SqL.of hl2) (.cons (dp2 (sCF _ _ hb1) (dpO _) (dpO _)) (.cons (dp2 (sDF _ _ hb2) (.int _) (.int _)) (.cons (dp2 (sEF _ _ hb3) (.int _) (.int _)) (.cons (dp2 (sF _ _ hb4) (.int _) (.int _)) .nil))))) (by cases (C true).ended <;> cases (C false).ended <;> rfl) ⟨_, rfl, iteF ?_⟩
      have A5 := R1.ext (ExtN.of s9F)
      have M5 := m9.same s9F
      have F5 := F9.same s9F
      have tb5' := tb9.ext s9F
      have n1 : (lp1.mergeSort leP).length ≤ 800000 := by rw [List.length_mergeSort]; exact R1.hlen
      have n2 : (lp2.mergeSort leP).length ≤ 800000 := by rw [List.length_mergeSort]; exact R2.hlen
      clear sA sB sC sD sE sF sEF sDF sCF sBF hl1 hl2 hb1 hb2 hb3 hb4 A1 A2 A3 A4
      -- the pieces without bytes, sorted
      refine ⟨_, rfl, _, _, _, _, _, rfl, A5.at_, T.cR, T.nR_pieces, rfl, _, rfl, ⟨_, SqT.of A5.hpc⟩, fun D1 nD1 => lc_pcs (K := K) isAn (fun p => (rowT p).map V.int) A5.hpc A5.hbs nD1 n1 (fun p b Hx Nx ss hb no yes => ?_) (fun HG cs1 sG hDG hTG => ?_)⟩
      · refine ⟨rfl, _, rfl, _, _, _, _, rfl, rfl, SqT.of hb, rfl, rfl, _, rfl, ?_⟩
        show if decide (V.int p.2.2.1 = V.int 0) = true then _ else _
        rw [dInt]
        cases cc : decide (p.2.2.1 = 0) with
        | false => exact iteF (no cc)
        | true => exact iteT ⟨_, rfl, _, _, _, _, rfl, rfl, SqT.of hb, rfl, _, rfl, _, _, _, _, rfl, rfl, SqT.of hb, rfl, _, _, rfl, rfl, _, rfl, _, _, _, _, rfl, rfl, SqT.of hb, rfl, _, rfl, _, _, _, _, rfl, rfl, SqT.of hb, rfl, by show 4 ≤ sizeLine; decide, fun t nt => yes cc t _ (same_upd nt) upd_same⟩
      refine ⟨_, cs1, ((lp1.mergeSort leP).filter isAn).map rowT, rfl, SqL.of hDG, by rw [List.map_map]; exact hTG, fun r hr => ?_, fun tr bsT ntr hT => ?_⟩
      · obtain ⟨p, _, rfl⟩ := List.mem_map.mp hr
        exact ⟨_, _, rfl⟩
      generalize hB : upd HG tr _ = HI
      have sI : Same HG HI := by rw [← hB]; exact same_upd ntr
      have htr : HI tr = some (.lst (bsT.map .ref)) := by rw [← hB]; exact upd_same
      clear hB
      have hT := Tups.mono hT (H' := HI) fun a xs e => sI _ _ e
      have s5I := sG.trans sI
      have B5 := (R2.ext (ExtN.of s9F)).ext (ExtN.of s5I)
      refine ⟨_, rfl, _, _, _, _, _, rfl, B5.at_, T.cR, T.nR_pieces, rfl, _, rfl, ⟨_, SqT.of B5.hpc⟩, fun D1 nD1 => lc_pcs (K := K) isAn (fun p => (row p).map V.int) B5.hpc B5.hbs nD1 n2 (fun p b Hx Nx ss hb no yes => ?_) (fun HJ cs2 sJ hDJ hTJ => ?_)⟩
      · refine ⟨rfl, _, rfl, _, _, _, _, rfl, rfl, SqT.of hb, rfl, rfl, _, rfl, ?_⟩
        show if decide (V.int p.2.2.1 = V.int 0) = true then _ else _
        rw [dInt]
        cases cc : decide (p.2.2.1 = 0) with
        | false => exact iteF (no cc)
        | true => exact iteT ⟨_, rfl, yes cc b Hx (.refl Hx) hb⟩
      refine ⟨_, cs2, ((lp2.mergeSort leP).filter isAn).map row, rfl, SqL.of hDJ, by rw [List.map_map]; exact hTJ, fun r hr => ?_, fun tm bsM ntm hM => ?_⟩
      · obtain ⟨p, _, rfl⟩ := List.mem_map.mp hr
        exact ⟨_, _, rfl⟩
      generalize hB : upd HJ tm _ = HL
      have sL : Same HJ HL := by rw [← hB]; exact same_upd ntm
      have htm : HL tm = some (.lst (bsM.map .ref)) := by rw [← hB]; exact upd_same
      clear hB
      have hM := Tups.mono hM (H' := HL) fun a xs e => sL _ _ e
      have sIL := sJ.trans sL
      have hT2 := Tups.mono hT (H' := HL) fun a xs e => sIL _ _ e
      refine ⟨_, rfl, ?_⟩
      show rNeD K (.ref tm) (.ref tr) HL _
      rw [sw.rows] at hM
      refine ne_same (d := .list (rowsD ((((lp1.mergeSort leP).filter isAn).map rowT).mergeSort fun p q => decide (p ≤ q)))) (.lst (SqL.of htm) (dp_rows hM)) (.lst (SqL.of (sIL _ _ htr)) (dp_rows hT2)) (rows_shaped _) ⟨_, rfl, iteF ?_⟩
      have s5L := s5I.trans sIL
      have A6 := A5.ext (ExtN.of s5L)
      have B6 := B5.ext (ExtN.of sIL)
      have M6 := M5.same s5L
      have F6 := F5.same s5L
      have tb6 := tb5'.ext s5L
      clear sI sG sJ sL hT hM hT2 htr htm hDG hTG hDJ hTJ sIL s5I s5L
      -- each side's pieces
      refine ⟨by show 2 ≤ sizeLine; decide, fun lk nlk => ⟨_, rfl, ⟨_, SqL.of upd_same⟩, for_list (K := K) (a := lk) (xs := [.int 0, .int 1]) (fun i σ' H' => Same (upd HL lk (.lst [.int 0, .int 1])) H' ∧ ∃ v1 v2 v3 v4 v5 v6 v7 v8 v9 v12 v13 v14 v15 v16 : Option V, σ' = [some (.ref a), v1, v2, v3, v4, v5, v6, v7, v8, v9, some (.ref fx), some (.ref mx), v12, v13, v14, v15, v16]) ⟨.refl _, _, _, _, _, _, _, _, _, _, _, _, _, _, _, rfl⟩ (fun i σ' H' _ h => SqL.of (h.1 _ _ upd_same)) ?_ ?_⟩⟩
      · rintro j y σ' HM hj ⟨hs, w1, w2, w3, w4, w5, w6, w7, w8, w9, w12, w13, w14, w15, w16, rfl⟩
        obtain ⟨kk, rfl, rfl⟩ := l2_item (f := fun s => .int (sdI s)) hj
        have sM : Same HL HM := (same_upd nlk).trans hs
        have A7 := A6.ext (ExtN.of sM)
        have B7 := B6.ext (ExtN.of sM)
        refine ⟨_, rfl, _, _, _, _, _, rfl, A7.at_, T.cR, T.nR_pieces, rfl, _, rfl, ⟨_, SqT.of A7.hpc⟩, fun D1 nD1 => lc_pcs (K := K) (fun p => p.2.1 == kk) (fun p => [V.int p.1, .int p.2.2.1, .int p.2.2.2]) A7.hpc A7.hbs nD1 n1 (fun p b Hx Nx ss hb no yes => ?_) (fun HN cs1 sN hDN hTN => ?_)⟩
        · refine ⟨rfl, _, rfl, _, _, _, _, rfl, rfl, SqT.of hb, rfl, _, rfl, rfl, _, rfl, ?_⟩
          show if decide (V.int (sdI p.2.1) = V.int (sdI kk)) = true then _ else _
          rw [side_dec]
          cases cc : (p.2.1 == kk) with
          | false => exact iteF (no cc)
          | true => exact iteT ⟨_, rfl, _, _, _, _, rfl, rfl, SqT.of hb, rfl, _, rfl, _, _, _, _, rfl, rfl, SqT.of hb, rfl, _, rfl, _, _, _, _, rfl, rfl, SqT.of hb, rfl, by show 3 ≤ sizeLine; decide, fun t nt => yes cc t _ (same_upd nt) upd_same⟩
        have B8 := B7.ext (ExtN.of sN)
        refine ⟨_, rfl, _, _, _, _, _, rfl, B8.at_, T.cR, T.nR_pieces, rfl, _, rfl, ⟨_, SqT.of B8.hpc⟩, fun D2 nD2 => lc_pcs (K := K) (fun p => p.2.1 == !kk) (fun p => [V.int p.1, .int p.2.2.1, .int p.2.2.2]) B8.hpc B8.hbs nD2 n2 (fun p b Hx Nx ss hb no yes => ?_) (fun HO2 cs2 sO hDO hTO => ?_)⟩
        · refine ⟨rfl, _, rfl, _, _, _, _, rfl, rfl, SqT.of hb, rfl, _, rfl, _, _, rfl, rfl, rfl, _, rfl, ?_⟩
          show if decide (V.int (sdI p.2.1) = V.int (1 - sdI kk)) = true then _ else _
          rw [sdI_not, side_dec]
          cases cc : (p.2.1 == !kk) with
          | false => exact iteF (no cc)
          | true => exact iteT ⟨_, rfl, _, _, _, _, rfl, rfl, SqT.of hb, rfl, _, rfl, _, _, _, _, rfl, rfl, SqT.of hb, rfl, _, rfl, _, _, _, _, rfl, rfl, SqT.of hb, rfl, by show 3 ≤ sizeLine; decide, fun t nt => yes cc t _ (same_upd nt) upd_same⟩
        refine ⟨_, rfl, ?_⟩
        show rNeD K (.ref D2) (.ref D1) HO2 _
        have e3 : ∀ (s : Bool) (ps : List Pc), (ps.filter fun p => p.2.1 == s).map (fun p => [V.int p.1, .int p.2.2.1, .int p.2.2.2]) = ((proj s ps).map fun q => [q.1, q.2.1, q.2.2]).map fun r => r.map V.int := fun s ps => by
          unfold proj
          rw [List.map_map, List.map_map]
          rfl
        rw [e3] at hTN hTO
        rw [sw.side] at hTO
        refine ne_same (d := .list (rowsD ((proj kk (lp1.mergeSort leP)).map fun q => [q.1, q.2.1, q.2.2]))) (.lst (SqL.of hDO) (dp_rows hTO)) (.lst (SqL.of (sO _ _ hDN)) (dp_rows (Tups.mono hTN fun a xs e => sO _ _ e))) (rows_shaped _) ⟨_, rfl, iteF ?_⟩
        exact ⟨hs.trans (sN.trans sO), _, _, _, _, _, _, _, _, _, _, _, _, _, _, rfl⟩
      · rintro σ' HM ⟨hs, w1, w2, w3, w4, w5, w6, w7, w8, w9, w12, w13, w14, w15, w16, rfl⟩
        have sM : Same HL HM := (same_upd nlk).trans hs
        have A7 := A6.ext (ExtN.of sM)
        have B7 := B6.ext (ExtN.of sM)
        have hqu : qu' = qu := sw.qu A7.q1 A7.q2 B7.q1 B7.q2
        have hlen : bs'.length = bs.length := by
          have h1 := A7.hbs.length
          have h2 := B7.hbs.length
          rw [List.length_map, List.length_mergeSort] at h1 h2
          rw [h1, h2, sw.len]
        refine ⟨_, rfl, _, _, _, _, _, rfl, B7.at_, T.cR, T.nR_quiet, rfl, _, rfl, _, _, _, _, _, rfl, A7.at_, T.cR, T.nR_quiet, rfl, rfl, _, rfl, ?_⟩
        show if (!decide (V.int qu' = V.int qu)) = true then _ else _
        rw [hqu, decide_eq_true rfl]
        refine iteF ⟨_, rfl, _, _, _, _, _, rfl, B7.at_, T.cR, T.nR_stuck, rfl, _, rfl, _, _, _, _, _, rfl, A7.at_, T.cR, T.nR_stuck, rfl, rfl, _, rfl, ?_⟩
        show if (!decide (V.bl (inV .non (endsV (flip C))) = V.bl (inV .non (endsV C)))) = true then _ else _
        rw [stuck_flip, decide_eq_true rfl]
        refine iteF ⟨_, rfl, mx, mdx, _, rfl, B7.at_, mx, mdx, _, _, _, _, _, _, _, _, _, rfl, B7.at_, B7.hpc, _, rfl, ⟨by omega, ?_⟩, _, rfl, fx, fdx, _, rfl, A7.at_, fx, fdx, _, _, _, _, _, _, _, _, _, rfl, A7.at_, A7.hpc, _, rfl, ⟨by omega, ?_⟩, rfl, _, rfl, ?_⟩
        · have h2 := B7.hbs.length
          rw [List.length_map, List.length_mergeSort] at h2
          have h3 := R2.hlen
          rw [List.length_map]
          exact Int.lt_of_le_of_lt (show ((bs'.length : Nat) : Int) ≤ 800000 by omega) (by decide)
        · have h2 := A7.hbs.length
          rw [List.length_map, List.length_mergeSort] at h2
          have h3 := R1.hlen
          rw [List.length_map]
          exact Int.lt_of_le_of_lt (show ((bs.length : Nat) : Int) ≤ 800000 by omega) (by decide)
        · show if (!decide (V.int ((bs'.map V.ref).length : Nat) = V.int ((bs.map V.ref).length : Nat))) = true then _ else _
          rw [List.length_map, List.length_map, hlen, decide_eq_true rfl]
          exact iteF ⟨_, _, _, _, _, _, _, _, _, _, _, _, _, _, _, _, rfl, F6.same sM, M6.same sM, tb6.ext sM⟩
    · rintro σ H' ⟨v1, v2, v3, v4, v5, v6, v7, v8, v9, v10, v11, v12, v13, v14, v15, v16, rfl, fr, m, tb⟩
      exact k H' fr tb
end
end K10

namespace K10
open PySem L2 LamX
theorem SqL_extN {K : PySem.W.Frag} {H H' : Hp} {a : Addr} {xs : List V} (h : SqL K H a xs) (e : ExtN H H') : SqL K H' a xs := by
  rcases h with (z | ⟨o, z⟩) | z
  · exact .inl (.inl (e _ _ z nofun))
  · exact .inl (.inr ⟨o, e _ _ z nofun⟩)
  · exact .inr z
theorem all_true (n : Nat) : (List.replicate n true).all id = true := by
  induction n with
  | zero => rfl
  | succ n ih => exact ih
section
variable {P : Program} {w : World} {K : PySem.W.Frag} {mg : Str → Option Value} {base : Heap} {A : Ads}
def sp_law (K : PySem.W.Frag) (A : Ads) : Sp := fun vs H Q _ => ∃ (a : Addr) (ns : List Int), vs = [.ref a] ∧ SqL K H a (ns.map .int) ∧ ns.length ≤ 1000 ∧ TabS H A.p_R lamQ ∧ ∀ H', Q (.bl true) H'
theorem ok_law (T : Txt K mg A) (TB : TabB base mg A.c_R A.p_R) : FnOk P w K mg base CX0 11 A.f_law A.d_law ps_law (sp_law K A) := by
  refine T.law.ok sc_law (fun vs H Q E h => ?_) (fun cdv AR outer sh H vs Q EX hr h => ?_)
  · obtain ⟨a, ns, rfl, _⟩ := h
    rfl
  · obtain ⟨a, ns, rfl, hs, hl, tb, k⟩ := h
    refine ⟨_, (pss_one (ps_ret (pe_callB (cr_all rfl) (by rfl) T.n_all (by decide +kernel) (pa_cons (pe_lc (own := [("_law_k", 1)]) (g := (gName 1))  rfl sc_law.nd (pi_range1 rfl T.n_range (pa_cons (pe_callB (call_max2 rfl) (by rfl) T.n_max (by decide +kernel) (pa_cons pe_int (pa_cons (pe_callB (call_min2 rfl) (by rfl) T.n_min (by decide +kernel) (pa_cons (pe_callB call_len_seq (by rfl) T.n_len (by decide +kernel) (pa_cons (pv 0) pa_nil)) (pa_cons pe_int pa_nil))) pa_nil))) pa_nil)) (blkOk_by (N := ["_law_script", "_law_k"]) (sc := defScope s_law) (by decide +kernel)) (fun _ _ _ _ _ => (pg_name (i := 1) sc_law.nd rfl (Or.inl rfl))) (fun _ _ _ _ _ => pts_nil) (fun _ _ _ _ _ => (pe_call (ok_l_right T TB) (hr.mono (by decide)) rfl T.g_law_right T.l_right.kp T.b_l_right .nil pass0 (pa_cons (pe_call (ok_l_mill T) (hr.mono (by decide)) rfl T.g_law_mill T.l_mill.kp T.b_l_mill .nil pass0 (pa_cons (pv 0) (pa_cons (pv 1) pa_nil))) pa_nil)))) pa_nil)))), ?_⟩
    have hj : ∀ n : Int, 2 ≤ (if (if (5 : Int) < n then 5 else n) > 2 then (if (5 : Int) < n then 5 else n) else 2) ∧ (if (if (5 : Int) < n then 5 else n) > 2 then (if (5 : Int) < n then 5 else n) else 2) ≤ 5 := fun n => by
      split <;> split <;> omega
    refine ⟨_, rfl, _, _, rfl, .inl hs, _, _, rfl, _, _, rfl, _, rfl, ?_, ?_, fun D nD => lc_range (lo := 0) (fun i H' => ExtN H H' ∧ TabS H' A.p_R lamQ ∧ H' D = some (.lst ((List.replicate i true).map V.bl))) ⟨ExtN.of (same_upd nD), tb.ext (same_upd nD), upd_same⟩ ?_ ?_⟩
    · exact Int.le_trans (by decide) (hj _).1
    · exact Int.lt_of_le_of_lt (hj _).2 (by decide)
    · rintro i H' hi ⟨e, t, hD⟩
      refine ⟨rfl, _, rfl, _, rfl, a, ns, i, ?_, SqL_extN hs e, fun H2 p s2 np hm => ⟨p, rfl, hm, t.ext s2, fun H3 f3 t3 => ?_⟩⟩
      · show [V.ref a, V.int (0 + (i : Int))] = _
        rw [Int.zero_add]
      have eD : H3 D = some (.lst ((List.replicate i true).map V.bl)) := f3 _ _ (ne_of_none hD np) (s2 _ _ hD) nofun
      refine ⟨_, eD, ?_, fun b o h n => ?_, TabS.upd t3 eD nofun (by unfold CodeO; exact nofun), ?_⟩
      · rw [List.length_map, List.length_replicate]
        have h5 := (hj ((ns.map V.int).length : Nat)).2
        exact line_of (by omega)
      · rw [upd_ne (ne_of_none h nD)]
        have h' := e b o h n
        exact f3 b o (ne_of_none h' np) (s2 _ _ h') n
      · rw [upd_same, List.replicate_succ', List.map_append]
        rfl
    · rintro H' ⟨e, t, hD⟩
      refine ⟨_, _, rfl, SqL.of hD, ?_⟩
      rw [all_true]
      exact k H'
end
end K10

namespace K10
open PySem L2 LamX
theorem all_mk {K : PySem.W.Frag} {h : Heap} {mg : Str → Option Value} {pR : Addr} (X : K.In h) (G : h.Ns mainGlobals mg)
    {CF : Addr}
    {CC : Addr}
    {CS : Addr}
    {CL : Addr}
    {CR : Addr}
    {f_F_init : Addr}
    {od_F_init an_F_init : Option Addr}
    {sl_F_init : Array (Option Value)}
    {oc_F_init kV_F_init dc_F_init pm_F_init cd_F_init ct_F_init : Value}
    {f_F_kept : Addr}
    {od_F_kept an_F_kept : Option Addr}
    {sl_F_kept : Array (Option Value)}
    {oc_F_kept kV_F_kept dc_F_kept pm_F_kept cd_F_kept ct_F_kept : Value}
    {f_F_fresh : Addr}
    {od_F_fresh an_F_fresh : Option Addr}
    {sl_F_fresh : Array (Option Value)}
    {oc_F_fresh kV_F_fresh dc_F_fresh pm_F_fresh cd_F_fresh ct_F_fresh : Value}
    {f_F_take_out : Addr}
    {od_F_take_out an_F_take_out : Option Addr}
    {sl_F_take_out : Array (Option Value)}
    {oc_F_take_out kV_F_take_out dc_F_take_out pm_F_take_out cd_F_take_out ct_F_take_out : Value}
    {f_F_send : Addr}
    {od_F_send an_F_send : Option Addr}
    {sl_F_send : Array (Option Value)}
    {oc_F_send kV_F_send dc_F_send pm_F_send cd_F_send ct_F_send : Value}
    {f_F_lets : Addr}
    {od_F_lets an_F_lets : Option Addr}
    {sl_F_lets : Array (Option Value)}
    {oc_F_lets kV_F_lets dc_F_lets pm_F_lets cd_F_lets ct_F_lets : Value}
    {f_F_let_go : Addr}
    {od_F_let_go an_F_let_go : Option Addr}
    {sl_F_let_go : Array (Option Value)}
    {oc_F_let_go kV_F_let_go dc_F_let_go pm_F_let_go cd_F_let_go ct_F_let_go : Value}
    {f_F_put : Addr}
    {od_F_put an_F_put : Option Addr}
    {sl_F_put : Array (Option Value)}
    {oc_F_put kV_F_put dc_F_put pm_F_put cd_F_put ct_F_put : Value}
    {f_F_land : Addr}
    {od_F_land an_F_land : Option Addr}
    {sl_F_land : Array (Option Value)}
    {oc_F_land kV_F_land dc_F_land pm_F_land cd_F_land ct_F_land : Value}
    {f_F_begin : Addr}
    {od_F_begin an_F_begin : Option Addr}
    {sl_F_begin : Array (Option Value)}
    {oc_F_begin kV_F_begin dc_F_begin pm_F_begin cd_F_begin ct_F_begin : Value}
    {f_F_is_due : Addr}
    {od_F_is_due an_F_is_due : Option Addr}
    {sl_F_is_due : Array (Option Value)}
    {oc_F_is_due kV_F_is_due dc_F_is_due pm_F_is_due cd_F_is_due ct_F_is_due : Value}
    {f_F_leave : Addr}
    {od_F_leave an_F_leave : Option Addr}
    {sl_F_leave : Array (Option Value)}
    {oc_F_leave kV_F_leave dc_F_leave pm_F_leave cd_F_leave ct_F_leave : Value}
    {f_F_next_tick : Addr}
    {od_F_next_tick an_F_next_tick : Option Addr}
    {sl_F_next_tick : Array (Option Value)}
    {oc_F_next_tick kV_F_next_tick dc_F_next_tick pm_F_next_tick cd_F_next_tick ct_F_next_tick : Value}
    {f_C_init : Addr}
    {od_C_init an_C_init : Option Addr}
    {sl_C_init : Array (Option Value)}
    {oc_C_init kV_C_init dc_C_init pm_C_init cd_C_init ct_C_init : Value}
    {f_C_pass_step : Addr}
    {od_C_pass_step an_C_pass_step : Option Addr}
    {sl_C_pass_step : Array (Option Value)}
    {oc_C_pass_step kV_C_pass_step dc_C_pass_step pm_C_pass_step cd_C_pass_step ct_C_pass_step : Value}
    {f_C_rests : Addr}
    {od_C_rests an_C_rests : Option Addr}
    {sl_C_rests : Array (Option Value)}
    {oc_C_rests kV_C_rests dc_C_rests pm_C_rests cd_C_rests ct_C_rests : Value}
    {f_C_do_step : Addr}
    {od_C_do_step an_C_do_step : Option Addr}
    {sl_C_do_step : Array (Option Value)}
    {oc_C_do_step kV_C_do_step dc_C_do_step pm_C_do_step cd_C_do_step ct_C_do_step : Value}
    {f_C_go_on : Addr}
    {od_C_go_on an_C_go_on : Option Addr}
    {sl_C_go_on : Array (Option Value)}
    {oc_C_go_on kV_C_go_on dc_C_go_on pm_C_go_on cd_C_go_on ct_C_go_on : Value}
    {f_events : Addr}
    {od_events an_events : Option Addr}
    {sl_events : Array (Option Value)}
    {oc_events kV_events dc_events pm_events cd_events ct_events : Value}
    {f_do_tick : Addr}
    {od_do_tick an_do_tick : Option Addr}
    {sl_do_tick : Array (Option Value)}
    {oc_do_tick kV_do_tick dc_do_tick pm_do_tick cd_do_tick ct_do_tick : Value}
    {f_is_integer : Addr}
    {od_is_integer an_is_integer : Option Addr}
    {sl_is_integer : Array (Option Value)}
    {oc_is_integer kV_is_integer dc_is_integer pm_is_integer cd_is_integer ct_is_integer : Value}
    {f_is_between : Addr}
    {od_is_between an_is_between : Option Addr}
    {sl_is_between : Array (Option Value)}
    {oc_is_between kV_is_between dc_is_between pm_is_between cd_is_between ct_is_between : Value}
    {f_check_number : Addr}
    {od_check_number an_check_number : Option Addr}
    {sl_check_number : Array (Option Value)}
    {oc_check_number kV_check_number dc_check_number pm_check_number cd_check_number ct_check_number : Value}
    {f_S_init : Addr}
    {od_S_init an_S_init : Option Addr}
    {sl_S_init : Array (Option Value)}
    {oc_S_init kV_S_init dc_S_init pm_S_init cd_S_init ct_S_init : Value}
    {f_check_setting : Addr}
    {od_check_setting an_check_setting : Option Addr}
    {sl_check_setting : Array (Option Value)}
    {oc_check_setting kV_check_setting dc_check_setting pm_check_setting cd_check_setting ct_check_setting : Value}
    {f_L_init : Addr}
    {od_L_init an_L_init : Option Addr}
    {sl_L_init : Array (Option Value)}
    {oc_L_init kV_L_init dc_L_init pm_L_init cd_L_init ct_L_init : Value}
    {f_check_line : Addr}
    {od_check_line an_check_line : Option Addr}
    {sl_check_line : Array (Option Value)}
    {oc_check_line kV_check_line dc_check_line pm_check_line cd_check_line ct_check_line : Value}
    {f_is_amount : Addr}
    {od_is_amount an_is_amount : Option Addr}
    {sl_is_amount : Array (Option Value)}
    {oc_is_amount kV_is_amount dc_is_amount pm_is_amount cd_is_amount ct_is_amount : Value}
    {f_is_step : Addr}
    {od_is_step an_is_step : Option Addr}
    {sl_is_step : Array (Option Value)}
    {oc_is_step kV_is_step dc_is_step pm_is_step cd_is_step ct_is_step : Value}
    {f_check_program : Addr}
    {od_check_program an_check_program : Option Addr}
    {sl_check_program : Array (Option Value)}
    {oc_check_program kV_check_program dc_check_program pm_check_program cd_check_program ct_check_program : Value}
    {f_is_size : Addr}
    {od_is_size an_is_size : Option Addr}
    {sl_is_size : Array (Option Value)}
    {oc_is_size kV_is_size dc_is_size pm_is_size cd_is_size ct_is_size : Value}
    {f_check_size : Addr}
    {od_check_size an_check_size : Option Addr}
    {sl_check_size : Array (Option Value)}
    {oc_check_size kV_check_size dc_check_size pm_check_size cd_check_size ct_check_size : Value}
    {f_pause_steps : Addr}
    {od_pause_steps an_pause_steps : Option Addr}
    {sl_pause_steps : Array (Option Value)}
    {oc_pause_steps kV_pause_steps dc_pause_steps pm_pause_steps cd_pause_steps ct_pause_steps : Value}
    {f_check_pauses : Addr}
    {od_check_pauses an_check_pauses : Option Addr}
    {sl_check_pauses : Array (Option Value)}
    {oc_check_pauses kV_check_pauses dc_check_pauses pm_check_pauses cd_check_pauses ct_check_pauses : Value}
    {f_plain_steps : Addr}
    {od_plain_steps an_plain_steps : Option Addr}
    {sl_plain_steps : Array (Option Value)}
    {oc_plain_steps kV_plain_steps dc_plain_steps pm_plain_steps cd_plain_steps ct_plain_steps : Value}
    {f_R_init : Addr}
    {od_R_init an_R_init : Option Addr}
    {sl_R_init : Array (Option Value)}
    {oc_R_init kV_R_init dc_R_init pm_R_init ct_R_init : Value}
    {f_R_len : Addr}
    {od_R_len an_R_len : Option Addr}
    {sl_R_len : Array (Option Value)}
    {oc_R_len kV_R_len dc_R_len pm_R_len cd_R_len ct_R_len : Value}
    {f_run_of : Addr}
    {od_run_of an_run_of : Option Addr}
    {sl_run_of : Array (Option Value)}
    {oc_run_of kV_run_of dc_run_of pm_run_of cd_run_of ct_run_of : Value}
    {f_check_run : Addr}
    {od_check_run an_check_run : Option Addr}
    {sl_check_run : Array (Option Value)}
    {oc_check_run kV_check_run dc_check_run pm_check_run cd_check_run ct_check_run : Value}
    {f_run : Addr}
    {od_run an_run : Option Addr}
    {sl_run : Array (Option Value)}
    {oc_run kV_run dc_run pm_run cd_run ct_run : Value}
    {f_l_mill : Addr}
    {od_l_mill an_l_mill : Option Addr}
    {sl_l_mill : Array (Option Value)}
    {oc_l_mill kV_l_mill dc_l_mill pm_l_mill cd_l_mill ct_l_mill : Value}
    {f_l_grain : Addr}
    {od_l_grain an_l_grain : Option Addr}
    {sl_l_grain : Array (Option Value)}
    {oc_l_grain kV_l_grain dc_l_grain pm_l_grain cd_l_grain ct_l_grain : Value}
    {f_l_pick : Addr}
    {od_l_pick an_l_pick : Option Addr}
    {sl_l_pick : Array (Option Value)}
    {oc_l_pick kV_l_pick dc_l_pick pm_l_pick cd_l_pick ct_l_pick : Value}
    {f_l_ways : Addr}
    {od_l_ways an_l_ways : Option Addr}
    {sl_l_ways : Array (Option Value)}
    {oc_l_ways kV_l_ways dc_l_ways pm_l_ways cd_l_ways ct_l_ways : Value}
    {f_l_told : Addr}
    {od_l_told an_l_told : Option Addr}
    {sl_l_told : Array (Option Value)}
    {oc_l_told kV_l_told dc_l_told pm_l_told cd_l_told ct_l_told : Value}
    {f_l_made : Addr}
    {od_l_made an_l_made : Option Addr}
    {sl_l_made : Array (Option Value)}
    {oc_l_made kV_l_made dc_l_made pm_l_made cd_l_made ct_l_made : Value}
    {f_l_amount : Addr}
    {od_l_amount an_l_amount : Option Addr}
    {sl_l_amount : Array (Option Value)}
    {oc_l_amount kV_l_amount dc_l_amount pm_l_amount cd_l_amount ct_l_amount : Value}
    {f_l_plans : Addr}
    {od_l_plans an_l_plans : Option Addr}
    {sl_l_plans : Array (Option Value)}
    {oc_l_plans kV_l_plans dc_l_plans pm_l_plans cd_l_plans ct_l_plans : Value}
    {f_l_choice : Addr}
    {od_l_choice an_l_choice : Option Addr}
    {sl_l_choice : Array (Option Value)}
    {oc_l_choice kV_l_choice dc_l_choice pm_l_choice cd_l_choice ct_l_choice : Value}
    {f_l_right : Addr}
    {od_l_right an_l_right : Option Addr}
    {sl_l_right : Array (Option Value)}
    {oc_l_right kV_l_right dc_l_right pm_l_right cd_l_right ct_l_right : Value}
    {f_law : Addr}
    {od_law an_law : Option Addr}
    {sl_law : Array (Option Value)}
    {oc_law kV_law dc_law pm_law cd_law ct_law : Value}
    {c_R a_RULES : Addr}
    {t_MOST_SIZE : Tok}
    {t_MOST_WAY : Tok}
    {t_MOST_EVERY : Tok}
    {t_MOST_DELAY : Tok}
    {t_MOST_STEPS : Tok}
    {t_MOST_BYTES : Tok}
    {t_MOST_X : Tok}
    {t_LETTER : Tok}
    {ru_o : Option Addr}
    {ru_s : Array (Option Value)}
    {ru_n : Nat}
    {ru_1 ru_2 ru_3 : Tok}
    (CF_at : PySem.W.nsIn K mainGlobals "Flow" = some (some (.ref CF)))
    (CC_at : PySem.W.nsIn K mainGlobals "Course" = some (some (.ref CC)))
    (CS_at : PySem.W.nsIn K mainGlobals "Setting" = some (some (.ref CS)))
    (CL_at : PySem.W.nsIn K mainGlobals "Line" = some (some (.ref CL)))
    (CR_at : PySem.W.nsIn K mainGlobals "Run" = some (some (.ref CR)))
    (g_F_init : PySem.W.findIn K (.ref CF) "__init__" = some (some (.ref f_F_init)))
    (i_F_init : PySem.W.isFn K (.ref f_F_init) = true)
    (l_F_init : K.lookup f_F_init = some ⟨oc_F_init, od_F_init, .func (PySem.W.fnOf "__init__" "Flow.__init__" (defArgs s_F_init) (defBody s_F_init) (defScope s_F_init) .none kV_F_init dc_F_init pm_F_init an_F_init cd_F_init ct_F_init), sl_F_init⟩)
    (c_F_init : PySem.W.codeIn K cd_F_init "Flow.__init__" = true)
    (k_F_init : PySem.W.keepIn K (.ref f_F_init) = true)
    (g_F_kept : PySem.W.findIn K (.ref CF) "kept" = some (some (.ref f_F_kept)))
    (i_F_kept : PySem.W.isFn K (.ref f_F_kept) = true)
    (l_F_kept : K.lookup f_F_kept = some ⟨oc_F_kept, od_F_kept, .func (PySem.W.fnOf "kept" "Flow.kept" (defArgs s_F_kept) (defBody s_F_kept) (defScope s_F_kept) .none kV_F_kept dc_F_kept pm_F_kept an_F_kept cd_F_kept ct_F_kept), sl_F_kept⟩)
    (c_F_kept : PySem.W.codeIn K cd_F_kept "Flow.kept" = true)
    (k_F_kept : PySem.W.keepIn K (.ref f_F_kept) = true)
    (g_F_fresh : PySem.W.findIn K (.ref CF) "fresh" = some (some (.ref f_F_fresh)))
    (i_F_fresh : PySem.W.isFn K (.ref f_F_fresh) = true)
    (l_F_fresh : K.lookup f_F_fresh = some ⟨oc_F_fresh, od_F_fresh, .func (PySem.W.fnOf "fresh" "Flow.fresh" (defArgs s_F_fresh) (defBody s_F_fresh) (defScope s_F_fresh) .none kV_F_fresh dc_F_fresh pm_F_fresh an_F_fresh cd_F_fresh ct_F_fresh), sl_F_fresh⟩)
    (c_F_fresh : PySem.W.codeIn K cd_F_fresh "Flow.fresh" = true)
    (k_F_fresh : PySem.W.keepIn K (.ref f_F_fresh) = true)
    (g_F_take_out : PySem.W.findIn K (.ref CF) "take_out" = some (some (.ref f_F_take_out)))
    (i_F_take_out : PySem.W.isFn K (.ref f_F_take_out) = true)
    (l_F_take_out : K.lookup f_F_take_out = some ⟨oc_F_take_out, od_F_take_out, .func (PySem.W.fnOf "take_out" "Flow.take_out" (defArgs s_F_take_out) (defBody s_F_take_out) (defScope s_F_take_out) .none kV_F_take_out dc_F_take_out pm_F_take_out an_F_take_out cd_F_take_out ct_F_take_out), sl_F_take_out⟩)
    (c_F_take_out : PySem.W.codeIn K cd_F_take_out "Flow.take_out" = true)
    (k_F_take_out : PySem.W.keepIn K (.ref f_F_take_out) = true)
    (g_F_send : PySem.W.findIn K (.ref CF) "send" = some (some (.ref f_F_send)))
    (i_F_send : PySem.W.isFn K (.ref f_F_send) = true)
    (l_F_send : K.lookup f_F_send = some ⟨oc_F_send, od_F_send, .func (PySem.W.fnOf "send" "Flow.send" (defArgs s_F_send) (defBody s_F_send) (defScope s_F_send) .none kV_F_send dc_F_send pm_F_send an_F_send cd_F_send ct_F_send), sl_F_send⟩)
    (c_F_send : PySem.W.codeIn K cd_F_send "Flow.send" = true)
    (k_F_send : PySem.W.keepIn K (.ref f_F_send) = true)
    (g_F_lets : PySem.W.findIn K (.ref CF) "lets" = some (some (.ref f_F_lets)))
    (i_F_lets : PySem.W.isFn K (.ref f_F_lets) = true)
    (l_F_lets : K.lookup f_F_lets = some ⟨oc_F_lets, od_F_lets, .func (PySem.W.fnOf "lets" "Flow.lets" (defArgs s_F_lets) (defBody s_F_lets) (defScope s_F_lets) .none kV_F_lets dc_F_lets pm_F_lets an_F_lets cd_F_lets ct_F_lets), sl_F_lets⟩)
    (c_F_lets : PySem.W.codeIn K cd_F_lets "Flow.lets" = true)
    (k_F_lets : PySem.W.keepIn K (.ref f_F_lets) = true)
    (g_F_let_go : PySem.W.findIn K (.ref CF) "let_go" = some (some (.ref f_F_let_go)))
    (i_F_let_go : PySem.W.isFn K (.ref f_F_let_go) = true)
    (l_F_let_go : K.lookup f_F_let_go = some ⟨oc_F_let_go, od_F_let_go, .func (PySem.W.fnOf "let_go" "Flow.let_go" (defArgs s_F_let_go) (defBody s_F_let_go) (defScope s_F_let_go) .none kV_F_let_go dc_F_let_go pm_F_let_go an_F_let_go cd_F_let_go ct_F_let_go), sl_F_let_go⟩)
    (c_F_let_go : PySem.W.codeIn K cd_F_let_go "Flow.let_go" = true)
    (k_F_let_go : PySem.W.keepIn K (.ref f_F_let_go) = true)
    (g_F_put : PySem.W.findIn K (.ref CF) "put" = some (some (.ref f_F_put)))
    (i_F_put : PySem.W.isFn K (.ref f_F_put) = true)
    (l_F_put : K.lookup f_F_put = some ⟨oc_F_put, od_F_put, .func (PySem.W.fnOf "put" "Flow.put" (defArgs s_F_put) (defBody s_F_put) (defScope s_F_put) .none kV_F_put dc_F_put pm_F_put an_F_put cd_F_put ct_F_put), sl_F_put⟩)
    (c_F_put : PySem.W.codeIn K cd_F_put "Flow.put" = true)
    (k_F_put : PySem.W.keepIn K (.ref f_F_put) = true)
    (g_F_land : PySem.W.findIn K (.ref CF) "land" = some (some (.ref f_F_land)))
    (i_F_land : PySem.W.isFn K (.ref f_F_land) = true)
    (l_F_land : K.lookup f_F_land = some ⟨oc_F_land, od_F_land, .func (PySem.W.fnOf "land" "Flow.land" (defArgs s_F_land) (defBody s_F_land) (defScope s_F_land) .none kV_F_land dc_F_land pm_F_land an_F_land cd_F_land ct_F_land), sl_F_land⟩)
    (c_F_land : PySem.W.codeIn K cd_F_land "Flow.land" = true)
    (k_F_land : PySem.W.keepIn K (.ref f_F_land) = true)
    (g_F_begin : PySem.W.findIn K (.ref CF) "begin" = some (some (.ref f_F_begin)))
    (i_F_begin : PySem.W.isFn K (.ref f_F_begin) = true)
    (l_F_begin : K.lookup f_F_begin = some ⟨oc_F_begin, od_F_begin, .func (PySem.W.fnOf "begin" "Flow.begin" (defArgs s_F_begin) (defBody s_F_begin) (defScope s_F_begin) .none kV_F_begin dc_F_begin pm_F_begin an_F_begin cd_F_begin ct_F_begin), sl_F_begin⟩)
    (c_F_begin : PySem.W.codeIn K cd_F_begin "Flow.begin" = true)
    (k_F_begin : PySem.W.keepIn K (.ref f_F_begin) = true)
    (g_F_is_due : PySem.W.findIn K (.ref CF) "is_due" = some (some (.ref f_F_is_due)))
    (i_F_is_due : PySem.W.isFn K (.ref f_F_is_due) = true)
    (l_F_is_due : K.lookup f_F_is_due = some ⟨oc_F_is_due, od_F_is_due, .func (PySem.W.fnOf "is_due" "Flow.is_due" (defArgs s_F_is_due) (defBody s_F_is_due) (defScope s_F_is_due) .none kV_F_is_due dc_F_is_due pm_F_is_due an_F_is_due cd_F_is_due ct_F_is_due), sl_F_is_due⟩)
    (c_F_is_due : PySem.W.codeIn K cd_F_is_due "Flow.is_due" = true)
    (k_F_is_due : PySem.W.keepIn K (.ref f_F_is_due) = true)
    (g_F_leave : PySem.W.findIn K (.ref CF) "leave" = some (some (.ref f_F_leave)))
    (i_F_leave : PySem.W.isFn K (.ref f_F_leave) = true)
    (l_F_leave : K.lookup f_F_leave = some ⟨oc_F_leave, od_F_leave, .func (PySem.W.fnOf "leave" "Flow.leave" (defArgs s_F_leave) (defBody s_F_leave) (defScope s_F_leave) .none kV_F_leave dc_F_leave pm_F_leave an_F_leave cd_F_leave ct_F_leave), sl_F_leave⟩)
    (c_F_leave : PySem.W.codeIn K cd_F_leave "Flow.leave" = true)
    (k_F_leave : PySem.W.keepIn K (.ref f_F_leave) = true)
    (g_F_next_tick : PySem.W.findIn K (.ref CF) "next_tick" = some (some (.ref f_F_next_tick)))
    (i_F_next_tick : PySem.W.isFn K (.ref f_F_next_tick) = true)
    (l_F_next_tick : K.lookup f_F_next_tick = some ⟨oc_F_next_tick, od_F_next_tick, .func (PySem.W.fnOf "next_tick" "Flow.next_tick" (defArgs s_F_next_tick) (defBody s_F_next_tick) (defScope s_F_next_tick) .none kV_F_next_tick dc_F_next_tick pm_F_next_tick an_F_next_tick cd_F_next_tick ct_F_next_tick), sl_F_next_tick⟩)
    (c_F_next_tick : PySem.W.codeIn K cd_F_next_tick "Flow.next_tick" = true)
    (k_F_next_tick : PySem.W.keepIn K (.ref f_F_next_tick) = true)
    (g_C_init : PySem.W.findIn K (.ref CC) "__init__" = some (some (.ref f_C_init)))
    (i_C_init : PySem.W.isFn K (.ref f_C_init) = true)
    (l_C_init : K.lookup f_C_init = some ⟨oc_C_init, od_C_init, .func (PySem.W.fnOf "__init__" "Course.__init__" (defArgs s_C_init) (defBody s_C_init) (defScope s_C_init) .none kV_C_init dc_C_init pm_C_init an_C_init cd_C_init ct_C_init), sl_C_init⟩)
    (c_C_init : PySem.W.codeIn K cd_C_init "Course.__init__" = true)
    (k_C_init : PySem.W.keepIn K (.ref f_C_init) = true)
    (g_C_pass_step : PySem.W.findIn K (.ref CC) "pass_step" = some (some (.ref f_C_pass_step)))
    (i_C_pass_step : PySem.W.isFn K (.ref f_C_pass_step) = true)
    (l_C_pass_step : K.lookup f_C_pass_step = some ⟨oc_C_pass_step, od_C_pass_step, .func (PySem.W.fnOf "pass_step" "Course.pass_step" (defArgs s_C_pass_step) (defBody s_C_pass_step) (defScope s_C_pass_step) .none kV_C_pass_step dc_C_pass_step pm_C_pass_step an_C_pass_step cd_C_pass_step ct_C_pass_step), sl_C_pass_step⟩)
    (c_C_pass_step : PySem.W.codeIn K cd_C_pass_step "Course.pass_step" = true)
    (k_C_pass_step : PySem.W.keepIn K (.ref f_C_pass_step) = true)
    (g_C_rests : PySem.W.findIn K (.ref CC) "rests" = some (some (.ref f_C_rests)))
    (i_C_rests : PySem.W.isFn K (.ref f_C_rests) = true)
    (l_C_rests : K.lookup f_C_rests = some ⟨oc_C_rests, od_C_rests, .func (PySem.W.fnOf "rests" "Course.rests" (defArgs s_C_rests) (defBody s_C_rests) (defScope s_C_rests) .none kV_C_rests dc_C_rests pm_C_rests an_C_rests cd_C_rests ct_C_rests), sl_C_rests⟩)
    (c_C_rests : PySem.W.codeIn K cd_C_rests "Course.rests" = true)
    (k_C_rests : PySem.W.keepIn K (.ref f_C_rests) = true)
    (g_C_do_step : PySem.W.findIn K (.ref CC) "do_step" = some (some (.ref f_C_do_step)))
    (i_C_do_step : PySem.W.isFn K (.ref f_C_do_step) = true)
    (l_C_do_step : K.lookup f_C_do_step = some ⟨oc_C_do_step, od_C_do_step, .func (PySem.W.fnOf "do_step" "Course.do_step" (defArgs s_C_do_step) (defBody s_C_do_step) (defScope s_C_do_step) .none kV_C_do_step dc_C_do_step pm_C_do_step an_C_do_step cd_C_do_step ct_C_do_step), sl_C_do_step⟩)
    (c_C_do_step : PySem.W.codeIn K cd_C_do_step "Course.do_step" = true)
    (k_C_do_step : PySem.W.keepIn K (.ref f_C_do_step) = true)
    (g_C_go_on : PySem.W.findIn K (.ref CC) "go_on" = some (some (.ref f_C_go_on)))
    (i_C_go_on : PySem.W.isFn K (.ref f_C_go_on) = true)
    (l_C_go_on : K.lookup f_C_go_on = some ⟨oc_C_go_on, od_C_go_on, .func (PySem.W.fnOf "go_on" "Course.go_on" (defArgs s_C_go_on) (defBody s_C_go_on) (defScope s_C_go_on) .none kV_C_go_on dc_C_go_on pm_C_go_on an_C_go_on cd_C_go_on ct_C_go_on), sl_C_go_on⟩)
    (c_C_go_on : PySem.W.codeIn K cd_C_go_on "Course.go_on" = true)
    (k_C_go_on : PySem.W.keepIn K (.ref f_C_go_on) = true)
    (g_events : PySem.W.nsIn K mainGlobals "events" = some (some (.ref f_events)))
    (l_events : K.lookup f_events = some ⟨oc_events, od_events, .func (PySem.W.fnOf "events" "events" (defArgs s_events) (defBody s_events) (defScope s_events) .none kV_events dc_events pm_events an_events cd_events ct_events), sl_events⟩)
    (c_events : PySem.W.codeIn K cd_events "events" = true)
    (k_events : PySem.W.keepIn K (.ref f_events) = true)
    (g_do_tick : PySem.W.nsIn K mainGlobals "do_tick" = some (some (.ref f_do_tick)))
    (l_do_tick : K.lookup f_do_tick = some ⟨oc_do_tick, od_do_tick, .func (PySem.W.fnOf "do_tick" "do_tick" (defArgs s_do_tick) (defBody s_do_tick) (defScope s_do_tick) .none kV_do_tick dc_do_tick pm_do_tick an_do_tick cd_do_tick ct_do_tick), sl_do_tick⟩)
    (c_do_tick : PySem.W.codeIn K cd_do_tick "do_tick" = true)
    (k_do_tick : PySem.W.keepIn K (.ref f_do_tick) = true)
    (g_is_integer : PySem.W.nsIn K mainGlobals "is_integer" = some (some (.ref f_is_integer)))
    (l_is_integer : K.lookup f_is_integer = some ⟨oc_is_integer, od_is_integer, .func (PySem.W.fnOf "is_integer" "is_integer" (defArgs s_is_integer) (defBody s_is_integer) (defScope s_is_integer) .none kV_is_integer dc_is_integer pm_is_integer an_is_integer cd_is_integer ct_is_integer), sl_is_integer⟩)
    (c_is_integer : PySem.W.codeIn K cd_is_integer "is_integer" = true)
    (k_is_integer : PySem.W.keepIn K (.ref f_is_integer) = true)
    (g_is_between : PySem.W.nsIn K mainGlobals "is_between" = some (some (.ref f_is_between)))
    (l_is_between : K.lookup f_is_between = some ⟨oc_is_between, od_is_between, .func (PySem.W.fnOf "is_between" "is_between" (defArgs s_is_between) (defBody s_is_between) (defScope s_is_between) .none kV_is_between dc_is_between pm_is_between an_is_between cd_is_between ct_is_between), sl_is_between⟩)
    (c_is_between : PySem.W.codeIn K cd_is_between "is_between" = true)
    (k_is_between : PySem.W.keepIn K (.ref f_is_between) = true)
    (g_check_number : PySem.W.nsIn K mainGlobals "check_number" = some (some (.ref f_check_number)))
    (l_check_number : K.lookup f_check_number = some ⟨oc_check_number, od_check_number, .func (PySem.W.fnOf "check_number" "check_number" (defArgs s_check_number) (defBody s_check_number) (defScope s_check_number) .none kV_check_number dc_check_number pm_check_number an_check_number cd_check_number ct_check_number), sl_check_number⟩)
    (c_check_number : PySem.W.codeIn K cd_check_number "check_number" = true)
    (k_check_number : PySem.W.keepIn K (.ref f_check_number) = true)
    (g_S_init : PySem.W.findIn K (.ref CS) "__init__" = some (some (.ref f_S_init)))
    (i_S_init : PySem.W.isFn K (.ref f_S_init) = true)
    (l_S_init : K.lookup f_S_init = some ⟨oc_S_init, od_S_init, .func (PySem.W.fnOf "__init__" "Setting.__init__" (defArgs s_S_init) (defBody s_S_init) (defScope s_S_init) .none kV_S_init dc_S_init pm_S_init an_S_init cd_S_init ct_S_init), sl_S_init⟩)
    (c_S_init : PySem.W.codeIn K cd_S_init "Setting.__init__" = true)
    (k_S_init : PySem.W.keepIn K (.ref f_S_init) = true)
    (g_check_setting : PySem.W.nsIn K mainGlobals "check_setting" = some (some (.ref f_check_setting)))
    (l_check_setting : K.lookup f_check_setting = some ⟨oc_check_setting, od_check_setting, .func (PySem.W.fnOf "check_setting" "check_setting" (defArgs s_check_setting) (defBody s_check_setting) (defScope s_check_setting) .none kV_check_setting dc_check_setting pm_check_setting an_check_setting cd_check_setting ct_check_setting), sl_check_setting⟩)
    (c_check_setting : PySem.W.codeIn K cd_check_setting "check_setting" = true)
    (k_check_setting : PySem.W.keepIn K (.ref f_check_setting) = true)
    (g_L_init : PySem.W.findIn K (.ref CL) "__init__" = some (some (.ref f_L_init)))
    (i_L_init : PySem.W.isFn K (.ref f_L_init) = true)
    (l_L_init : K.lookup f_L_init = some ⟨oc_L_init, od_L_init, .func (PySem.W.fnOf "__init__" "Line.__init__" (defArgs s_L_init) (defBody s_L_init) (defScope s_L_init) .none kV_L_init dc_L_init pm_L_init an_L_init cd_L_init ct_L_init), sl_L_init⟩)
    (c_L_init : PySem.W.codeIn K cd_L_init "Line.__init__" = true)
    (k_L_init : PySem.W.keepIn K (.ref f_L_init) = true)
    (g_check_line : PySem.W.nsIn K mainGlobals "check_line" = some (some (.ref f_check_line)))
    (l_check_line : K.lookup f_check_line = some ⟨oc_check_line, od_check_line, .func (PySem.W.fnOf "check_line" "check_line" (defArgs s_check_line) (defBody s_check_line) (defScope s_check_line) .none kV_check_line dc_check_line pm_check_line an_check_line cd_check_line ct_check_line), sl_check_line⟩)
    (c_check_line : PySem.W.codeIn K cd_check_line "check_line" = true)
    (k_check_line : PySem.W.keepIn K (.ref f_check_line) = true)
    (g_is_amount : PySem.W.nsIn K mainGlobals "is_amount" = some (some (.ref f_is_amount)))
    (l_is_amount : K.lookup f_is_amount = some ⟨oc_is_amount, od_is_amount, .func (PySem.W.fnOf "is_amount" "is_amount" (defArgs s_is_amount) (defBody s_is_amount) (defScope s_is_amount) .none kV_is_amount dc_is_amount pm_is_amount an_is_amount cd_is_amount ct_is_amount), sl_is_amount⟩)
    (c_is_amount : PySem.W.codeIn K cd_is_amount "is_amount" = true)
    (k_is_amount : PySem.W.keepIn K (.ref f_is_amount) = true)
    (g_is_step : PySem.W.nsIn K mainGlobals "is_step" = some (some (.ref f_is_step)))
    (l_is_step : K.lookup f_is_step = some ⟨oc_is_step, od_is_step, .func (PySem.W.fnOf "is_step" "is_step" (defArgs s_is_step) (defBody s_is_step) (defScope s_is_step) .none kV_is_step dc_is_step pm_is_step an_is_step cd_is_step ct_is_step), sl_is_step⟩)
    (c_is_step : PySem.W.codeIn K cd_is_step "is_step" = true)
    (k_is_step : PySem.W.keepIn K (.ref f_is_step) = true)
    (g_check_program : PySem.W.nsIn K mainGlobals "check_program" = some (some (.ref f_check_program)))
    (l_check_program : K.lookup f_check_program = some ⟨oc_check_program, od_check_program, .func (PySem.W.fnOf "check_program" "check_program" (defArgs s_check_program) (defBody s_check_program) (defScope s_check_program) .none kV_check_program dc_check_program pm_check_program an_check_program cd_check_program ct_check_program), sl_check_program⟩)
    (c_check_program : PySem.W.codeIn K cd_check_program "check_program" = true)
    (k_check_program : PySem.W.keepIn K (.ref f_check_program) = true)
    (g_is_size : PySem.W.nsIn K mainGlobals "is_size" = some (some (.ref f_is_size)))
    (l_is_size : K.lookup f_is_size = some ⟨oc_is_size, od_is_size, .func (PySem.W.fnOf "is_size" "is_size" (defArgs s_is_size) (defBody s_is_size) (defScope s_is_size) .none kV_is_size dc_is_size pm_is_size an_is_size cd_is_size ct_is_size), sl_is_size⟩)
    (c_is_size : PySem.W.codeIn K cd_is_size "is_size" = true)
    (k_is_size : PySem.W.keepIn K (.ref f_is_size) = true)
    (g_check_size : PySem.W.nsIn K mainGlobals "check_size" = some (some (.ref f_check_size)))
    (l_check_size : K.lookup f_check_size = some ⟨oc_check_size, od_check_size, .func (PySem.W.fnOf "check_size" "check_size" (defArgs s_check_size) (defBody s_check_size) (defScope s_check_size) .none kV_check_size dc_check_size pm_check_size an_check_size cd_check_size ct_check_size), sl_check_size⟩)
    (c_check_size : PySem.W.codeIn K cd_check_size "check_size" = true)
    (k_check_size : PySem.W.keepIn K (.ref f_check_size) = true)
    (g_pause_steps : PySem.W.nsIn K mainGlobals "pause_steps" = some (some (.ref f_pause_steps)))
    (l_pause_steps : K.lookup f_pause_steps = some ⟨oc_pause_steps, od_pause_steps, .func (PySem.W.fnOf "pause_steps" "pause_steps" (defArgs s_pause_steps) (defBody s_pause_steps) (defScope s_pause_steps) .none kV_pause_steps dc_pause_steps pm_pause_steps an_pause_steps cd_pause_steps ct_pause_steps), sl_pause_steps⟩)
    (c_pause_steps : PySem.W.codeIn K cd_pause_steps "pause_steps" = true)
    (k_pause_steps : PySem.W.keepIn K (.ref f_pause_steps) = true)
    (g_check_pauses : PySem.W.nsIn K mainGlobals "check_pauses" = some (some (.ref f_check_pauses)))
    (l_check_pauses : K.lookup f_check_pauses = some ⟨oc_check_pauses, od_check_pauses, .func (PySem.W.fnOf "check_pauses" "check_pauses" (defArgs s_check_pauses) (defBody s_check_pauses) (defScope s_check_pauses) .none kV_check_pauses dc_check_pauses pm_check_pauses an_check_pauses cd_check_pauses ct_check_pauses), sl_check_pauses⟩)
    (c_check_pauses : PySem.W.codeIn K cd_check_pauses "check_pauses" = true)
    (k_check_pauses : PySem.W.keepIn K (.ref f_check_pauses) = true)
    (g_plain_steps : PySem.W.nsIn K mainGlobals "plain_steps" = some (some (.ref f_plain_steps)))
    (l_plain_steps : K.lookup f_plain_steps = some ⟨oc_plain_steps, od_plain_steps, .func (PySem.W.fnOf "plain_steps" "plain_steps" (defArgs s_plain_steps) (defBody s_plain_steps) (defScope s_plain_steps) .none kV_plain_steps dc_plain_steps pm_plain_steps an_plain_steps cd_plain_steps ct_plain_steps), sl_plain_steps⟩)
    (c_plain_steps : PySem.W.codeIn K cd_plain_steps "plain_steps" = true)
    (k_plain_steps : PySem.W.keepIn K (.ref f_plain_steps) = true)
    (g_R_init : PySem.W.findIn K (.ref CR) "__init__" = some (some (.ref f_R_init)))
    (i_R_init : PySem.W.isFn K (.ref f_R_init) = true)
    (l_R_init : K.lookup f_R_init = some ⟨oc_R_init, od_R_init, .func (PySem.W.fnOf "__init__" "Run.__init__" (defArgs s_R_init) (defBody s_R_init) (defScope s_R_init) .none kV_R_init dc_R_init pm_R_init an_R_init (.ref c_R) ct_R_init), sl_R_init⟩)
    (c_R_init : PySem.W.codeIn K (.ref c_R) "Run.__init__" = true)
    (k_R_init : PySem.W.keepIn K (.ref f_R_init) = true)
    (g_R_len : PySem.W.findIn K (.ref CR) "__len__" = some (some (.ref f_R_len)))
    (i_R_len : PySem.W.isFn K (.ref f_R_len) = true)
    (l_R_len : K.lookup f_R_len = some ⟨oc_R_len, od_R_len, .func (PySem.W.fnOf "__len__" "Run.__len__" (defArgs s_R_len) (defBody s_R_len) (defScope s_R_len) .none kV_R_len dc_R_len pm_R_len an_R_len cd_R_len ct_R_len), sl_R_len⟩)
    (c_R_len : PySem.W.codeIn K cd_R_len "Run.__len__" = true)
    (k_R_len : PySem.W.keepIn K (.ref f_R_len) = true)
    (g_run_of : PySem.W.nsIn K mainGlobals "run_of" = some (some (.ref f_run_of)))
    (l_run_of : K.lookup f_run_of = some ⟨oc_run_of, od_run_of, .func (PySem.W.fnOf "run_of" "run_of" (defArgs s_run_of) (defBody s_run_of) (defScope s_run_of) .none kV_run_of dc_run_of pm_run_of an_run_of cd_run_of ct_run_of), sl_run_of⟩)
    (c_run_of : PySem.W.codeIn K cd_run_of "run_of" = true)
    (k_run_of : PySem.W.keepIn K (.ref f_run_of) = true)
    (g_check_run : PySem.W.nsIn K mainGlobals "check_run" = some (some (.ref f_check_run)))
    (l_check_run : K.lookup f_check_run = some ⟨oc_check_run, od_check_run, .func (PySem.W.fnOf "check_run" "check_run" (defArgs s_check_run) (defBody s_check_run) (defScope s_check_run) .none kV_check_run dc_check_run pm_check_run an_check_run cd_check_run ct_check_run), sl_check_run⟩)
    (c_check_run : PySem.W.codeIn K cd_check_run "check_run" = true)
    (k_check_run : PySem.W.keepIn K (.ref f_check_run) = true)
    (g_run : PySem.W.nsIn K mainGlobals "run" = some (some (.ref f_run)))
    (l_run : K.lookup f_run = some ⟨oc_run, od_run, .func (PySem.W.fnOf "run" "run" (defArgs s_run) (defBody s_run) (defScope s_run) .none kV_run dc_run pm_run an_run cd_run ct_run), sl_run⟩)
    (c_run : PySem.W.codeIn K cd_run "run" = true)
    (k_run : PySem.W.keepIn K (.ref f_run) = true)
    (g_l_mill : PySem.W.nsIn K mainGlobals "_law_mill" = some (some (.ref f_l_mill)))
    (l_l_mill : K.lookup f_l_mill = some ⟨oc_l_mill, od_l_mill, .func (PySem.W.fnOf "_law_mill" "_law_mill" (defArgs s_l_mill) (defBody s_l_mill) (defScope s_l_mill) .none kV_l_mill dc_l_mill pm_l_mill an_l_mill cd_l_mill ct_l_mill), sl_l_mill⟩)
    (c_l_mill : PySem.W.codeIn K cd_l_mill "_law_mill" = true)
    (k_l_mill : PySem.W.keepIn K (.ref f_l_mill) = true)
    (g_l_grain : PySem.W.nsIn K mainGlobals "_law_grain" = some (some (.ref f_l_grain)))
    (l_l_grain : K.lookup f_l_grain = some ⟨oc_l_grain, od_l_grain, .func (PySem.W.fnOf "_law_grain" "_law_grain" (defArgs s_l_grain) (defBody s_l_grain) (defScope s_l_grain) .none kV_l_grain dc_l_grain pm_l_grain an_l_grain cd_l_grain ct_l_grain), sl_l_grain⟩)
    (c_l_grain : PySem.W.codeIn K cd_l_grain "_law_grain" = true)
    (k_l_grain : PySem.W.keepIn K (.ref f_l_grain) = true)
    (g_l_pick : PySem.W.nsIn K mainGlobals "_law_pick" = some (some (.ref f_l_pick)))
    (l_l_pick : K.lookup f_l_pick = some ⟨oc_l_pick, od_l_pick, .func (PySem.W.fnOf "_law_pick" "_law_pick" (defArgs s_l_pick) (defBody s_l_pick) (defScope s_l_pick) .none kV_l_pick dc_l_pick pm_l_pick an_l_pick cd_l_pick ct_l_pick), sl_l_pick⟩)
    (c_l_pick : PySem.W.codeIn K cd_l_pick "_law_pick" = true)
    (k_l_pick : PySem.W.keepIn K (.ref f_l_pick) = true)
    (g_l_ways : PySem.W.nsIn K mainGlobals "_law_ways" = some (some (.ref f_l_ways)))
    (l_l_ways : K.lookup f_l_ways = some ⟨oc_l_ways, od_l_ways, .func (PySem.W.fnOf "_law_ways" "_law_ways" (defArgs s_l_ways) (defBody s_l_ways) (defScope s_l_ways) .none kV_l_ways dc_l_ways pm_l_ways an_l_ways cd_l_ways ct_l_ways), sl_l_ways⟩)
    (c_l_ways : PySem.W.codeIn K cd_l_ways "_law_ways" = true)
    (k_l_ways : PySem.W.keepIn K (.ref f_l_ways) = true)
    (g_l_told : PySem.W.nsIn K mainGlobals "_law_told" = some (some (.ref f_l_told)))
    (l_l_told : K.lookup f_l_told = some ⟨oc_l_told, od_l_told, .func (PySem.W.fnOf "_law_told" "_law_told" (defArgs s_l_told) (defBody s_l_told) (defScope s_l_told) .none kV_l_told dc_l_told pm_l_told an_l_told cd_l_told ct_l_told), sl_l_told⟩)
    (c_l_told : PySem.W.codeIn K cd_l_told "_law_told" = true)
    (k_l_told : PySem.W.keepIn K (.ref f_l_told) = true)
    (g_l_made : PySem.W.nsIn K mainGlobals "_law_made" = some (some (.ref f_l_made)))
    (l_l_made : K.lookup f_l_made = some ⟨oc_l_made, od_l_made, .func (PySem.W.fnOf "_law_made" "_law_made" (defArgs s_l_made) (defBody s_l_made) (defScope s_l_made) .none kV_l_made dc_l_made pm_l_made an_l_made cd_l_made ct_l_made), sl_l_made⟩)
    (c_l_made : PySem.W.codeIn K cd_l_made "_law_made" = true)
    (k_l_made : PySem.W.keepIn K (.ref f_l_made) = true)
    (g_l_amount : PySem.W.nsIn K mainGlobals "_law_amount" = some (some (.ref f_l_amount)))
    (l_l_amount : K.lookup f_l_amount = some ⟨oc_l_amount, od_l_amount, .func (PySem.W.fnOf "_law_amount" "_law_amount" (defArgs s_l_amount) (defBody s_l_amount) (defScope s_l_amount) .none kV_l_amount dc_l_amount pm_l_amount an_l_amount cd_l_amount ct_l_amount), sl_l_amount⟩)
    (c_l_amount : PySem.W.codeIn K cd_l_amount "_law_amount" = true)
    (k_l_amount : PySem.W.keepIn K (.ref f_l_amount) = true)
    (g_l_plans : PySem.W.nsIn K mainGlobals "_law_plans" = some (some (.ref f_l_plans)))
    (l_l_plans : K.lookup f_l_plans = some ⟨oc_l_plans, od_l_plans, .func (PySem.W.fnOf "_law_plans" "_law_plans" (defArgs s_l_plans) (defBody s_l_plans) (defScope s_l_plans) .none kV_l_plans dc_l_plans pm_l_plans an_l_plans cd_l_plans ct_l_plans), sl_l_plans⟩)
    (c_l_plans : PySem.W.codeIn K cd_l_plans "_law_plans" = true)
    (k_l_plans : PySem.W.keepIn K (.ref f_l_plans) = true)
    (g_l_choice : PySem.W.nsIn K mainGlobals "_law_choice" = some (some (.ref f_l_choice)))
    (l_l_choice : K.lookup f_l_choice = some ⟨oc_l_choice, od_l_choice, .func (PySem.W.fnOf "_law_choice" "_law_choice" (defArgs s_l_choice) (defBody s_l_choice) (defScope s_l_choice) .none kV_l_choice dc_l_choice pm_l_choice an_l_choice cd_l_choice ct_l_choice), sl_l_choice⟩)
    (c_l_choice : PySem.W.codeIn K cd_l_choice "_law_choice" = true)
    (k_l_choice : PySem.W.keepIn K (.ref f_l_choice) = true)
    (g_l_right : PySem.W.nsIn K mainGlobals "_law_right" = some (some (.ref f_l_right)))
    (l_l_right : K.lookup f_l_right = some ⟨oc_l_right, od_l_right, .func (PySem.W.fnOf "_law_right" "_law_right" (defArgs s_l_right) (defBody s_l_right) (defScope s_l_right) .none kV_l_right dc_l_right pm_l_right an_l_right cd_l_right ct_l_right), sl_l_right⟩)
    (c_l_right : PySem.W.codeIn K cd_l_right "_law_right" = true)
    (k_l_right : PySem.W.keepIn K (.ref f_l_right) = true)
    (g_law : PySem.W.nsIn K mainGlobals "law" = some (some (.ref f_law)))
    (l_law : K.lookup f_law = some ⟨oc_law, od_law, .func (PySem.W.fnOf "law" "law" (defArgs s_law) (defBody s_law) (defScope s_law) .none kV_law dc_law pm_law an_law cd_law ct_law), sl_law⟩)
    (c_law : PySem.W.codeIn K cd_law "law" = true)
    (k_law : PySem.W.keepIn K (.ref f_law) = true)
    (pg_F : PySem.W.plainGet K CF Str.empty = true)
    (hd_F : PySem.W.hasDictIn K CF = true)
    (po_F : PySem.W.plainOver K CF = true)
    (sa_F : PySem.W.findIn K (.ref CF) "__setattr__" = some (some (.builtin "object.__setattr__")))
    (mk_F : PySem.W.makesIn K CF = true)
    (kc_F : PySem.W.keepIn K (.ref CF) = true)
    (nF_line : PySem.W.findIn K (.ref CF) "line" = some none)
    (nF_settings : PySem.W.findIn K (.ref CF) "settings" = some none)
    (nF_tick : PySem.W.findIn K (.ref CF) "tick" = some none)
    (nF_stock : PySem.W.findIn K (.ref CF) "stock" = some none)
    (nF_out : PySem.W.findIn K (.ref CF) "out" = some none)
    (nF_known : PySem.W.findIn K (.ref CF) "known" = some none)
    (nF_small : PySem.W.findIn K (.ref CF) "small" = some none)
    (nF_come : PySem.W.findIn K (.ref CF) "come" = some none)
    (nF_taken : PySem.W.findIn K (.ref CF) "taken" = some none)
    (nF_full : PySem.W.findIn K (.ref CF) "full" = some none)
    (nF_first : PySem.W.findIn K (.ref CF) "first" = some none)
    (nF_long : PySem.W.findIn K (.ref CF) "long" = some none)
    (nF_flight : PySem.W.findIn K (.ref CF) "flight" = some none)
    (nF_log : PySem.W.findIn K (.ref CF) "log" = some none)
    (pg_C : PySem.W.plainGet K CC Str.empty = true)
    (hd_C : PySem.W.hasDictIn K CC = true)
    (po_C : PySem.W.plainOver K CC = true)
    (sa_C : PySem.W.findIn K (.ref CC) "__setattr__" = some (some (.builtin "object.__setattr__")))
    (mk_C : PySem.W.makesIn K CC = true)
    (kc_C : PySem.W.keepIn K (.ref CC) = true)
    (nC_steps : PySem.W.findIn K (.ref CC) "steps" = some none)
    (nC_again : PySem.W.findIn K (.ref CC) "again" = some none)
    (nC_place : PySem.W.findIn K (.ref CC) "place" = some none)
    (nC_until : PySem.W.findIn K (.ref CC) "until" = some none)
    (nC_ended : PySem.W.findIn K (.ref CC) "ended" = some none)
    (nC_begun : PySem.W.findIn K (.ref CC) "begun" = some none)
    (pg_S : PySem.W.plainGet K CS Str.empty = true)
    (hd_S : PySem.W.hasDictIn K CS = true)
    (po_S : PySem.W.plainOver K CS = true)
    (sa_S : PySem.W.findIn K (.ref CS) "__setattr__" = some (some (.builtin "object.__setattr__")))
    (mk_S : PySem.W.makesIn K CS = true)
    (kc_S : PySem.W.keepIn K (.ref CS) = true)
    (nS_rule : PySem.W.findIn K (.ref CS) "rule" = some none)
    (nS_every : PySem.W.findIn K (.ref CS) "every" = some none)
    (nS_delay : PySem.W.findIn K (.ref CS) "delay" = some none)
    (nS_told : PySem.W.findIn K (.ref CS) "told" = some none)
    (pg_L : PySem.W.plainGet K CL Str.empty = true)
    (hd_L : PySem.W.hasDictIn K CL = true)
    (po_L : PySem.W.plainOver K CL = true)
    (sa_L : PySem.W.findIn K (.ref CL) "__setattr__" = some (some (.builtin "object.__setattr__")))
    (mk_L : PySem.W.makesIn K CL = true)
    (kc_L : PySem.W.keepIn K (.ref CL) = true)
    (nL_size : PySem.W.findIn K (.ref CL) "size" = some none)
    (nL_way : PySem.W.findIn K (.ref CL) "way" = some none)
    (nL_near : PySem.W.findIn K (.ref CL) "near" = some none)
    (nL_far : PySem.W.findIn K (.ref CL) "far" = some none)
    (nL_told : PySem.W.findIn K (.ref CL) "told" = some none)
    (pg_R : PySem.W.plainGet K CR Str.empty = true)
    (hd_R : PySem.W.hasDictIn K CR = true)
    (po_R : PySem.W.plainOver K CR = true)
    (sa_R : PySem.W.findIn K (.ref CR) "__setattr__" = some (some (.builtin "object.__setattr__")))
    (mk_R : PySem.W.makesIn K CR = true)
    (kc_R : PySem.W.keepIn K (.ref CR) = true)
    (nR_ends : PySem.W.findIn K (.ref CR) "ends" = some none)
    (nR_stuck : PySem.W.findIn K (.ref CR) "stuck" = some none)
    (nR_pieces : PySem.W.findIn K (.ref CR) "pieces" = some none)
    (nR_answers : PySem.W.findIn K (.ref CR) "answers" = some none)
    (nR_held : PySem.W.findIn K (.ref CR) "held" = some none)
    (nR_unread : PySem.W.findIn K (.ref CR) "unread" = some none)
    (nR_quiet : PySem.W.findIn K (.ref CR) "quiet" = some none)
    (nR_all : PySem.W.findIn K (.ref CR) "all" = some none)
    (v_MOST_SIZE : PySem.W.nsIn K mainGlobals "MOST_SIZE" = some (some (.int 40 t_MOST_SIZE)))
    (v_MOST_WAY : PySem.W.nsIn K mainGlobals "MOST_WAY" = some (some (.int 200 t_MOST_WAY)))
    (v_MOST_EVERY : PySem.W.nsIn K mainGlobals "MOST_EVERY" = some (some (.int 4 t_MOST_EVERY)))
    (v_MOST_DELAY : PySem.W.nsIn K mainGlobals "MOST_DELAY" = some (some (.int 200 t_MOST_DELAY)))
    (v_MOST_STEPS : PySem.W.nsIn K mainGlobals "MOST_STEPS" = some (some (.int 6 t_MOST_STEPS)))
    (v_MOST_BYTES : PySem.W.nsIn K mainGlobals "MOST_BYTES" = some (some (.int 60 t_MOST_BYTES)))
    (v_MOST_X : PySem.W.nsIn K mainGlobals "MOST_X" = some (some (.int 2000 t_MOST_X)))
    (v_LETTER : PySem.W.nsIn K mainGlobals "LETTER" = some (some (.str "x" t_LETTER)))
    (v_RULES : PySem.W.nsIn K mainGlobals "RULES" = some (some (.ref a_RULES)))
    (v_rules : K.lookup a_RULES = some ⟨.type "tuple", ru_o, .seq #[.str "plain" ru_1, .str "hold" ru_2, .str "few" ru_3] ru_n, ru_s⟩)
    (z_len : PySem.W.nsIn K mainGlobals "len" = some none)
    (z_sum : PySem.W.nsIn K mainGlobals "sum" = some none)
    (z_max : PySem.W.nsIn K mainGlobals "max" = some none)
    (z_min : PySem.W.nsIn K mainGlobals "min" = some none)
    (z_abs : PySem.W.nsIn K mainGlobals "abs" = some none)
    (z_divmod : PySem.W.nsIn K mainGlobals "divmod" = some none)
    (z_sorted : PySem.W.nsIn K mainGlobals "sorted" = some none)
    (z_all : PySem.W.nsIn K mainGlobals "all" = some none)
    (z_isinstance : PySem.W.nsIn K mainGlobals "isinstance" = some none)
    (z_int : PySem.W.nsIn K mainGlobals "int" = some none)
    (z_tuple : PySem.W.nsIn K mainGlobals "tuple" = some none)
    (z_list : PySem.W.nsIn K mainGlobals "list" = some none)
    (z_bool : PySem.W.nsIn K mainGlobals "bool" = some none)
    (z_str : PySem.W.nsIn K mainGlobals "str" = some none)
    (z_range : PySem.W.nsIn K mainGlobals "range" = some none)
    (z_enumerate : PySem.W.nsIn K mainGlobals "enumerate" = some none)
    (iS_ha : PySem.W.findIn K (.ref CS) "__class__" = some (some (.builtin "object.__class__")))
    (iS_hm : PySem.W.mroIn K CS (.type "object") = some true)
    (iL_ha : PySem.W.findIn K (.ref CL) "__class__" = some (some (.builtin "object.__class__")))
    (iL_hm : PySem.W.mroIn K CL (.type "object") = some true)
    (i_hn : PySem.W.specialIn K (.builtin "object.__class__") "__get__" = some (some (.builtin "getset_descriptor.__get__")))
    (i_htk : PySem.W.takesIn K (.builtin "object.__class__") = some true)
    (lenR : PySem.W.findIn K (.ref CR) "__len__" = some (some (.ref f_R_len)))
    : Txt K mg ⟨f_F_init, (PySem.W.fnOf "__init__" "Flow.__init__" (defArgs s_F_init) (defBody s_F_init) (defScope s_F_init) .none kV_F_init dc_F_init pm_F_init an_F_init cd_F_init ct_F_init), f_F_kept, (PySem.W.fnOf "kept" "Flow.kept" (defArgs s_F_kept) (defBody s_F_kept) (defScope s_F_kept) .none kV_F_kept dc_F_kept pm_F_kept an_F_kept cd_F_kept ct_F_kept), f_F_fresh, (PySem.W.fnOf "fresh" "Flow.fresh" (defArgs s_F_fresh) (defBody s_F_fresh) (defScope s_F_fresh) .none kV_F_fresh dc_F_fresh pm_F_fresh an_F_fresh cd_F_fresh ct_F_fresh), f_F_take_out, (PySem.W.fnOf "take_out" "Flow.take_out" (defArgs s_F_take_out) (defBody s_F_take_out) (defScope s_F_take_out) .none kV_F_take_out dc_F_take_out pm_F_take_out an_F_take_out cd_F_take_out ct_F_take_out), f_F_send, (PySem.W.fnOf "send" "Flow.send" (defArgs s_F_send) (defBody s_F_send) (defScope s_F_send) .none kV_F_send dc_F_send pm_F_send an_F_send cd_F_send ct_F_send), f_F_lets, (PySem.W.fnOf "lets" "Flow.lets" (defArgs s_F_lets) (defBody s_F_lets) (defScope s_F_lets) .none kV_F_lets dc_F_lets pm_F_lets an_F_lets cd_F_lets ct_F_lets), f_F_let_go, (PySem.W.fnOf "let_go" "Flow.let_go" (defArgs s_F_let_go) (defBody s_F_let_go) (defScope s_F_let_go) .none kV_F_let_go dc_F_let_go pm_F_let_go an_F_let_go cd_F_let_go ct_F_let_go), f_F_put, (PySem.W.fnOf "put" "Flow.put" (defArgs s_F_put) (defBody s_F_put) (defScope s_F_put) .none kV_F_put dc_F_put pm_F_put an_F_put cd_F_put ct_F_put), f_F_land, (PySem.W.fnOf "land" "Flow.land" (defArgs s_F_land) (defBody s_F_land) (defScope s_F_land) .none kV_F_land dc_F_land pm_F_land an_F_land cd_F_land ct_F_land), f_F_begin, (PySem.W.fnOf "begin" "Flow.begin" (defArgs s_F_begin) (defBody s_F_begin) (defScope s_F_begin) .none kV_F_begin dc_F_begin pm_F_begin an_F_begin cd_F_begin ct_F_begin), f_F_is_due, (PySem.W.fnOf "is_due" "Flow.is_due" (defArgs s_F_is_due) (defBody s_F_is_due) (defScope s_F_is_due) .none kV_F_is_due dc_F_is_due pm_F_is_due an_F_is_due cd_F_is_due ct_F_is_due), f_F_leave, (PySem.W.fnOf "leave" "Flow.leave" (defArgs s_F_leave) (defBody s_F_leave) (defScope s_F_leave) .none kV_F_leave dc_F_leave pm_F_leave an_F_leave cd_F_leave ct_F_leave), f_F_next_tick, (PySem.W.fnOf "next_tick" "Flow.next_tick" (defArgs s_F_next_tick) (defBody s_F_next_tick) (defScope s_F_next_tick) .none kV_F_next_tick dc_F_next_tick pm_F_next_tick an_F_next_tick cd_F_next_tick ct_F_next_tick), f_C_init, (PySem.W.fnOf "__init__" "Course.__init__" (defArgs s_C_init) (defBody s_C_init) (defScope s_C_init) .none kV_C_init dc_C_init pm_C_init an_C_init cd_C_init ct_C_init), f_C_pass_step, (PySem.W.fnOf "pass_step" "Course.pass_step" (defArgs s_C_pass_step) (defBody s_C_pass_step) (defScope s_C_pass_step) .none kV_C_pass_step dc_C_pass_step pm_C_pass_step an_C_pass_step cd_C_pass_step ct_C_pass_step), f_C_rests, (PySem.W.fnOf "rests" "Course.rests" (defArgs s_C_rests) (defBody s_C_rests) (defScope s_C_rests) .none kV_C_rests dc_C_rests pm_C_rests an_C_rests cd_C_rests ct_C_rests), f_C_do_step, (PySem.W.fnOf "do_step" "Course.do_step" (defArgs s_C_do_step) (defBody s_C_do_step) (defScope s_C_do_step) .none kV_C_do_step dc_C_do_step pm_C_do_step an_C_do_step cd_C_do_step ct_C_do_step), f_C_go_on, (PySem.W.fnOf "go_on" "Course.go_on" (defArgs s_C_go_on) (defBody s_C_go_on) (defScope s_C_go_on) .none kV_C_go_on dc_C_go_on pm_C_go_on an_C_go_on cd_C_go_on ct_C_go_on), f_events, (PySem.W.fnOf "events" "events" (defArgs s_events) (defBody s_events) (defScope s_events) .none kV_events dc_events pm_events an_events cd_events ct_events), f_do_tick, (PySem.W.fnOf "do_tick" "do_tick" (defArgs s_do_tick) (defBody s_do_tick) (defScope s_do_tick) .none kV_do_tick dc_do_tick pm_do_tick an_do_tick cd_do_tick ct_do_tick), f_is_integer, (PySem.W.fnOf "is_integer" "is_integer" (defArgs s_is_integer) (defBody s_is_integer) (defScope s_is_integer) .none kV_is_integer dc_is_integer pm_is_integer an_is_integer cd_is_integer ct_is_integer), f_is_between, (PySem.W.fnOf "is_between" "is_between" (defArgs s_is_between) (defBody s_is_between) (defScope s_is_between) .none kV_is_between dc_is_between pm_is_between an_is_between cd_is_between ct_is_between), f_check_number, (PySem.W.fnOf "check_number" "check_number" (defArgs s_check_number) (defBody s_check_number) (defScope s_check_number) .none kV_check_number dc_check_number pm_check_number an_check_number cd_check_number ct_check_number), f_S_init, (PySem.W.fnOf "__init__" "Setting.__init__" (defArgs s_S_init) (defBody s_S_init) (defScope s_S_init) .none kV_S_init dc_S_init pm_S_init an_S_init cd_S_init ct_S_init), f_check_setting, (PySem.W.fnOf "check_setting" "check_setting" (defArgs s_check_setting) (defBody s_check_setting) (defScope s_check_setting) .none kV_check_setting dc_check_setting pm_check_setting an_check_setting cd_check_setting ct_check_setting), f_L_init, (PySem.W.fnOf "__init__" "Line.__init__" (defArgs s_L_init) (defBody s_L_init) (defScope s_L_init) .none kV_L_init dc_L_init pm_L_init an_L_init cd_L_init ct_L_init), f_check_line, (PySem.W.fnOf "check_line" "check_line" (defArgs s_check_line) (defBody s_check_line) (defScope s_check_line) .none kV_check_line dc_check_line pm_check_line an_check_line cd_check_line ct_check_line), f_is_amount, (PySem.W.fnOf "is_amount" "is_amount" (defArgs s_is_amount) (defBody s_is_amount) (defScope s_is_amount) .none kV_is_amount dc_is_amount pm_is_amount an_is_amount cd_is_amount ct_is_amount), f_is_step, (PySem.W.fnOf "is_step" "is_step" (defArgs s_is_step) (defBody s_is_step) (defScope s_is_step) .none kV_is_step dc_is_step pm_is_step an_is_step cd_is_step ct_is_step), f_check_program, (PySem.W.fnOf "check_program" "check_program" (defArgs s_check_program) (defBody s_check_program) (defScope s_check_program) .none kV_check_program dc_check_program pm_check_program an_check_program cd_check_program ct_check_program), f_is_size, (PySem.W.fnOf "is_size" "is_size" (defArgs s_is_size) (defBody s_is_size) (defScope s_is_size) .none kV_is_size dc_is_size pm_is_size an_is_size cd_is_size ct_is_size), f_check_size, (PySem.W.fnOf "check_size" "check_size" (defArgs s_check_size) (defBody s_check_size) (defScope s_check_size) .none kV_check_size dc_check_size pm_check_size an_check_size cd_check_size ct_check_size), f_pause_steps, (PySem.W.fnOf "pause_steps" "pause_steps" (defArgs s_pause_steps) (defBody s_pause_steps) (defScope s_pause_steps) .none kV_pause_steps dc_pause_steps pm_pause_steps an_pause_steps cd_pause_steps ct_pause_steps), f_check_pauses, (PySem.W.fnOf "check_pauses" "check_pauses" (defArgs s_check_pauses) (defBody s_check_pauses) (defScope s_check_pauses) .none kV_check_pauses dc_check_pauses pm_check_pauses an_check_pauses cd_check_pauses ct_check_pauses), f_plain_steps, (PySem.W.fnOf "plain_steps" "plain_steps" (defArgs s_plain_steps) (defBody s_plain_steps) (defScope s_plain_steps) .none kV_plain_steps dc_plain_steps pm_plain_steps an_plain_steps cd_plain_steps ct_plain_steps), f_R_init, (PySem.W.fnOf "__init__" "Run.__init__" (defArgs s_R_init) (defBody s_R_init) (defScope s_R_init) .none kV_R_init dc_R_init pm_R_init an_R_init (.ref c_R) ct_R_init), f_R_len, (PySem.W.fnOf "__len__" "Run.__len__" (defArgs s_R_len) (defBody s_R_len) (defScope s_R_len) .none kV_R_len dc_R_len pm_R_len an_R_len cd_R_len ct_R_len), f_run_of, (PySem.W.fnOf "run_of" "run_of" (defArgs s_run_of) (defBody s_run_of) (defScope s_run_of) .none kV_run_of dc_run_of pm_run_of an_run_of cd_run_of ct_run_of), f_check_run, (PySem.W.fnOf "check_run" "check_run" (defArgs s_check_run) (defBody s_check_run) (defScope s_check_run) .none kV_check_run dc_check_run pm_check_run an_check_run cd_check_run ct_check_run), f_run, (PySem.W.fnOf "run" "run" (defArgs s_run) (defBody s_run) (defScope s_run) .none kV_run dc_run pm_run an_run cd_run ct_run), f_l_mill, (PySem.W.fnOf "_law_mill" "_law_mill" (defArgs s_l_mill) (defBody s_l_mill) (defScope s_l_mill) .none kV_l_mill dc_l_mill pm_l_mill an_l_mill cd_l_mill ct_l_mill), f_l_grain, (PySem.W.fnOf "_law_grain" "_law_grain" (defArgs s_l_grain) (defBody s_l_grain) (defScope s_l_grain) .none kV_l_grain dc_l_grain pm_l_grain an_l_grain cd_l_grain ct_l_grain), f_l_pick, (PySem.W.fnOf "_law_pick" "_law_pick" (defArgs s_l_pick) (defBody s_l_pick) (defScope s_l_pick) .none kV_l_pick dc_l_pick pm_l_pick an_l_pick cd_l_pick ct_l_pick), f_l_ways, (PySem.W.fnOf "_law_ways" "_law_ways" (defArgs s_l_ways) (defBody s_l_ways) (defScope s_l_ways) .none kV_l_ways dc_l_ways pm_l_ways an_l_ways cd_l_ways ct_l_ways), f_l_told, (PySem.W.fnOf "_law_told" "_law_told" (defArgs s_l_told) (defBody s_l_told) (defScope s_l_told) .none kV_l_told dc_l_told pm_l_told an_l_told cd_l_told ct_l_told), f_l_made, (PySem.W.fnOf "_law_made" "_law_made" (defArgs s_l_made) (defBody s_l_made) (defScope s_l_made) .none kV_l_made dc_l_made pm_l_made an_l_made cd_l_made ct_l_made), f_l_amount, (PySem.W.fnOf "_law_amount" "_law_amount" (defArgs s_l_amount) (defBody s_l_amount) (defScope s_l_amount) .none kV_l_amount dc_l_amount pm_l_amount an_l_amount cd_l_amount ct_l_amount), f_l_plans, (PySem.W.fnOf "_law_plans" "_law_plans" (defArgs s_l_plans) (defBody s_l_plans) (defScope s_l_plans) .none kV_l_plans dc_l_plans pm_l_plans an_l_plans cd_l_plans ct_l_plans), f_l_choice, (PySem.W.fnOf "_law_choice" "_law_choice" (defArgs s_l_choice) (defBody s_l_choice) (defScope s_l_choice) .none kV_l_choice dc_l_choice pm_l_choice an_l_choice cd_l_choice ct_l_choice), f_l_right, (PySem.W.fnOf "_law_right" "_law_right" (defArgs s_l_right) (defBody s_l_right) (defScope s_l_right) .none kV_l_right dc_l_right pm_l_right an_l_right cd_l_right ct_l_right), f_law, (PySem.W.fnOf "law" "law" (defArgs s_law) (defBody s_law) (defScope s_law) .none kV_law dc_law pm_law an_law cd_law ct_law), CF, CC, CS, CL, CR, t_MOST_SIZE, t_MOST_WAY, t_MOST_EVERY, t_MOST_DELAY, t_MOST_STEPS, t_MOST_BYTES, t_MOST_X, t_LETTER, a_RULES, c_R, pR⟩ := by
  have F_F_init := fun_mk (x := "__init__") (qual := "Flow.__init__") (st := s_F_init) l_F_init c_F_init k_F_init
  have F_F_kept := fun_mk (x := "kept") (qual := "Flow.kept") (st := s_F_kept) l_F_kept c_F_kept k_F_kept
  have F_F_fresh := fun_mk (x := "fresh") (qual := "Flow.fresh") (st := s_F_fresh) l_F_fresh c_F_fresh k_F_fresh
  have F_F_take_out := fun_mk (x := "take_out") (qual := "Flow.take_out") (st := s_F_take_out) l_F_take_out c_F_take_out k_F_take_out
  have F_F_send := fun_mk (x := "send") (qual := "Flow.send") (st := s_F_send) l_F_send c_F_send k_F_send
  have F_F_lets := fun_mk (x := "lets") (qual := "Flow.lets") (st := s_F_lets) l_F_lets c_F_lets k_F_lets
  have F_F_let_go := fun_mk (x := "let_go") (qual := "Flow.let_go") (st := s_F_let_go) l_F_let_go c_F_let_go k_F_let_go
  have F_F_put := fun_mk (x := "put") (qual := "Flow.put") (st := s_F_put) l_F_put c_F_put k_F_put
  have F_F_land := fun_mk (x := "land") (qual := "Flow.land") (st := s_F_land) l_F_land c_F_land k_F_land
  have F_F_begin := fun_mk (x := "begin") (qual := "Flow.begin") (st := s_F_begin) l_F_begin c_F_begin k_F_begin
  have F_F_is_due := fun_mk (x := "is_due") (qual := "Flow.is_due") (st := s_F_is_due) l_F_is_due c_F_is_due k_F_is_due
  have F_F_leave := fun_mk (x := "leave") (qual := "Flow.leave") (st := s_F_leave) l_F_leave c_F_leave k_F_leave
  have F_F_next_tick := fun_mk (x := "next_tick") (qual := "Flow.next_tick") (st := s_F_next_tick) l_F_next_tick c_F_next_tick k_F_next_tick
  have F_C_init := fun_mk (x := "__init__") (qual := "Course.__init__") (st := s_C_init) l_C_init c_C_init k_C_init
  have F_C_pass_step := fun_mk (x := "pass_step") (qual := "Course.pass_step") (st := s_C_pass_step) l_C_pass_step c_C_pass_step k_C_pass_step
  have F_C_rests := fun_mk (x := "rests") (qual := "Course.rests") (st := s_C_rests) l_C_rests c_C_rests k_C_rests
  have F_C_do_step := fun_mk (x := "do_step") (qual := "Course.do_step") (st := s_C_do_step) l_C_do_step c_C_do_step k_C_do_step
  have F_C_go_on := fun_mk (x := "go_on") (qual := "Course.go_on") (st := s_C_go_on) l_C_go_on c_C_go_on k_C_go_on
  have F_events := fun_mk (x := "events") (qual := "events") (st := s_events) l_events c_events k_events
  have F_do_tick := fun_mk (x := "do_tick") (qual := "do_tick") (st := s_do_tick) l_do_tick c_do_tick k_do_tick
  have F_is_integer := fun_mk (x := "is_integer") (qual := "is_integer") (st := s_is_integer) l_is_integer c_is_integer k_is_integer
  have F_is_between := fun_mk (x := "is_between") (qual := "is_between") (st := s_is_between) l_is_between c_is_between k_is_between
  have F_check_number := fun_mk (x := "check_number") (qual := "check_number") (st := s_check_number) l_check_number c_check_number k_check_number
  have F_S_init := fun_mk (x := "__init__") (qual := "Setting.__init__") (st := s_S_init) l_S_init c_S_init k_S_init
  have F_check_setting := fun_mk (x := "check_setting") (qual := "check_setting") (st := s_check_setting) l_check_setting c_check_setting k_check_setting
  have F_L_init := fun_mk (x := "__init__") (qual := "Line.__init__") (st := s_L_init) l_L_init c_L_init k_L_init
  have F_check_line := fun_mk (x := "check_line") (qual := "check_line") (st := s_check_line) l_check_line c_check_line k_check_line
  have F_is_amount := fun_mk (x := "is_amount") (qual := "is_amount") (st := s_is_amount) l_is_amount c_is_amount k_is_amount
  have F_is_step := fun_mk (x := "is_step") (qual := "is_step") (st := s_is_step) l_is_step c_is_step k_is_step
  have F_check_program := fun_mk (x := "check_program") (qual := "check_program") (st := s_check_program) l_check_program c_check_program k_check_program
  have F_is_size := fun_mk (x := "is_size") (qual := "is_size") (st := s_is_size) l_is_size c_is_size k_is_size
  have F_check_size := fun_mk (x := "check_size") (qual := "check_size") (st := s_check_size) l_check_size c_check_size k_check_size
  have F_pause_steps := fun_mk (x := "pause_steps") (qual := "pause_steps") (st := s_pause_steps) l_pause_steps c_pause_steps k_pause_steps
  have F_check_pauses := fun_mk (x := "check_pauses") (qual := "check_pauses") (st := s_check_pauses) l_check_pauses c_check_pauses k_check_pauses
  have F_plain_steps := fun_mk (x := "plain_steps") (qual := "plain_steps") (st := s_plain_steps) l_plain_steps c_plain_steps k_plain_steps
  have F_R_init := fun_mk (x := "__init__") (qual := "Run.__init__") (st := s_R_init) l_R_init c_R_init k_R_init
  have F_R_len := fun_mk (x := "__len__") (qual := "Run.__len__") (st := s_R_len) l_R_len c_R_len k_R_len
  have F_run_of := fun_mk (x := "run_of") (qual := "run_of") (st := s_run_of) l_run_of c_run_of k_run_of
  have F_check_run := fun_mk (x := "check_run") (qual := "check_run") (st := s_check_run) l_check_run c_check_run k_check_run
  have F_run : FunD K "run" "run" (defArgs s_run) (defBody s_run) (defScope s_run) [] [] f_run (PySem.W.fnOf "run" "run" (defArgs s_run) (defBody s_run) (defScope s_run) .none kV_run dc_run pm_run an_run cd_run ct_run) := ⟨⟨_, _, _, _, _, _, _, _, _, _, rfl, l_run, c_run, .inl ⟨rfl, rfl⟩, .inl rfl⟩, k_run⟩
  have F_l_mill := fun_mk (x := "_law_mill") (qual := "_law_mill") (st := s_l_mill) l_l_mill c_l_mill k_l_mill
  have F_l_grain := fun_mk (x := "_law_grain") (qual := "_law_grain") (st := s_l_grain) l_l_grain c_l_grain k_l_grain
  have F_l_pick := fun_mk (x := "_law_pick") (qual := "_law_pick") (st := s_l_pick) l_l_pick c_l_pick k_l_pick
  have F_l_ways := fun_mk (x := "_law_ways") (qual := "_law_ways") (st := s_l_ways) l_l_ways c_l_ways k_l_ways
  have F_l_told := fun_mk (x := "_law_told") (qual := "_law_told") (st := s_l_told) l_l_told c_l_told k_l_told
  have F_l_made := fun_mk (x := "_law_made") (qual := "_law_made") (st := s_l_made) l_l_made c_l_made k_l_made
  have F_l_amount := fun_mk (x := "_law_amount") (qual := "_law_amount") (st := s_l_amount) l_l_amount c_l_amount k_l_amount
  have F_l_plans := fun_mk (x := "_law_plans") (qual := "_law_plans") (st := s_l_plans) l_l_plans c_l_plans k_l_plans
  have F_l_choice := fun_mk (x := "_law_choice") (qual := "_law_choice") (st := s_l_choice) l_l_choice c_l_choice k_l_choice
  have F_l_right := fun_mk (x := "_law_right") (qual := "_law_right") (st := s_l_right) l_l_right c_l_right k_l_right
  have F_law := fun_mk (x := "law") (qual := "law") (st := s_law) l_law c_law k_law
  exact {
    b_F_init := F_F_init.binds (ps := ps_F_init) fun _ _ _ _ _ _ us hl => match us, hl with | [_, _], _ => rfl,
    F_init := F_F_init,
    b_F_kept := F_F_kept.binds (ps := ps_F_kept) fun _ _ _ _ _ _ us hl => match us, hl with | [_, _], _ => rfl,
    F_kept := F_F_kept,
    m_F_kept := ⟨g_F_kept, i_F_kept, k_F_kept⟩,
    b_F_fresh := F_F_fresh.binds (ps := ps_F_fresh) fun _ _ _ _ _ _ us hl => match us, hl with | [_, _], _ => rfl,
    F_fresh := F_F_fresh,
    m_F_fresh := ⟨g_F_fresh, i_F_fresh, k_F_fresh⟩,
    b_F_take_out := F_F_take_out.binds (ps := ps_F_take_out) fun _ _ _ _ _ _ us hl => match us, hl with | [_, _, _], _ => rfl,
    F_take_out := F_F_take_out,
    m_F_take_out := ⟨g_F_take_out, i_F_take_out, k_F_take_out⟩,
    b_F_send := F_F_send.binds (ps := ps_F_send) fun _ _ _ _ _ _ us hl => match us, hl with | [_, _, _], _ => rfl,
    F_send := F_F_send,
    m_F_send := ⟨g_F_send, i_F_send, k_F_send⟩,
    b_F_lets := F_F_lets.binds (ps := ps_F_lets) fun _ _ _ _ _ _ us hl => match us, hl with | [_, _], _ => rfl,
    F_lets := F_F_lets,
    m_F_lets := ⟨g_F_lets, i_F_lets, k_F_lets⟩,
    b_F_let_go := F_F_let_go.binds (ps := ps_F_let_go) fun _ _ _ _ _ _ us hl => match us, hl with | [_, _], _ => rfl,
    F_let_go := F_F_let_go,
    m_F_let_go := ⟨g_F_let_go, i_F_let_go, k_F_let_go⟩,
    b_F_put := F_F_put.binds (ps := ps_F_put) fun _ _ _ _ _ _ us hl => match us, hl with | [_, _, _], _ => rfl,
    F_put := F_F_put,
    m_F_put := ⟨g_F_put, i_F_put, k_F_put⟩,
    b_F_land := F_F_land.binds (ps := ps_F_land) fun _ _ _ _ _ _ us hl => match us, hl with | [_, _, _, _], _ => rfl,
    F_land := F_F_land,
    m_F_land := ⟨g_F_land, i_F_land, k_F_land⟩,
    b_F_begin := F_F_begin.binds (ps := ps_F_begin) fun _ _ _ _ _ _ us hl => match us, hl with | [_, _], _ => rfl,
    F_begin := F_F_begin,
    m_F_begin := ⟨g_F_begin, i_F_begin, k_F_begin⟩,
    b_F_is_due := F_F_is_due.binds (ps := ps_F_is_due) fun _ _ _ _ _ _ us hl => match us, hl with | [_, _], _ => rfl,
    F_is_due := F_F_is_due,
    m_F_is_due := ⟨g_F_is_due, i_F_is_due, k_F_is_due⟩,
    b_F_leave := F_F_leave.binds (ps := ps_F_leave) fun _ _ _ _ _ _ us hl => match us, hl with | [_], _ => rfl,
    F_leave := F_F_leave,
    m_F_leave := ⟨g_F_leave, i_F_leave, k_F_leave⟩,
    b_F_next_tick := F_F_next_tick.binds (ps := ps_F_next_tick) fun _ _ _ _ _ _ us hl => match us, hl with | [_], _ => rfl,
    F_next_tick := F_F_next_tick,
    m_F_next_tick := ⟨g_F_next_tick, i_F_next_tick, k_F_next_tick⟩,
    b_C_init := F_C_init.binds (ps := ps_C_init) fun _ _ _ _ _ _ us hl => match us, hl with | [_, _, _], _ => rfl,
    C_init := F_C_init,
    b_C_pass_step := F_C_pass_step.binds (ps := ps_C_pass_step) fun _ _ _ _ _ _ us hl => match us, hl with | [_, _], _ => rfl,
    C_pass_step := F_C_pass_step,
    m_C_pass_step := ⟨g_C_pass_step, i_C_pass_step, k_C_pass_step⟩,
    b_C_rests := F_C_rests.binds (ps := ps_C_rests) fun _ _ _ _ _ _ us hl => match us, hl with | [_, _, _], _ => rfl,
    C_rests := F_C_rests,
    m_C_rests := ⟨g_C_rests, i_C_rests, k_C_rests⟩,
    b_C_do_step := F_C_do_step.binds (ps := ps_C_do_step) fun _ _ _ _ _ _ us hl => match us, hl with | [_, _, _], _ => rfl,
    C_do_step := F_C_do_step,
    m_C_do_step := ⟨g_C_do_step, i_C_do_step, k_C_do_step⟩,
    b_C_go_on := F_C_go_on.binds (ps := ps_C_go_on) fun _ _ _ _ _ _ us hl => match us, hl with | [_, _, _], _ => rfl,
    C_go_on := F_C_go_on,
    m_C_go_on := ⟨g_C_go_on, i_C_go_on, k_C_go_on⟩,
    b_events := F_events.binds (ps := ps_events) fun _ _ _ _ _ _ us hl => match us, hl with | [_, _], _ => rfl,
    events := F_events,
    g_events := PySem.W.mg_of X G g_events,
    b_do_tick := F_do_tick.binds (ps := ps_do_tick) fun _ _ _ _ _ _ us hl => match us, hl with | [_, _, _], _ => rfl,
    do_tick := F_do_tick,
    g_do_tick := PySem.W.mg_of X G g_do_tick,
    b_is_integer := F_is_integer.binds (ps := ps_is_integer) fun _ _ _ _ _ _ us hl => match us, hl with | [_], _ => rfl,
    is_integer := F_is_integer,
    g_is_integer := PySem.W.mg_of X G g_is_integer,
    b_is_between := F_is_between.binds (ps := ps_is_between) fun _ _ _ _ _ _ us hl => match us, hl with | [_, _, _], _ => rfl,
    is_between := F_is_between,
    g_is_between := PySem.W.mg_of X G g_is_between,
    b_check_number := F_check_number.binds (ps := ps_check_number) fun _ _ _ _ _ _ us hl => match us, hl with | [_, _, _], _ => rfl,
    check_number := F_check_number,
    g_check_number := PySem.W.mg_of X G g_check_number,
    b_S_init := F_S_init.binds (ps := ps_S_init) fun _ _ _ _ _ _ us hl => match us, hl with | [_, _, _, _], _ => rfl,
    S_init := F_S_init,
    b_check_setting := F_check_setting.binds (ps := ps_check_setting) fun _ _ _ _ _ _ us hl => match us, hl with | [_], _ => rfl,
    check_setting := F_check_setting,
    g_check_setting := PySem.W.mg_of X G g_check_setting,
    b_L_init := F_L_init.binds (ps := ps_L_init) fun _ _ _ _ _ _ us hl => match us, hl with | [_, _, _, _, _], _ => rfl,
    L_init := F_L_init,
    b_check_line := F_check_line.binds (ps := ps_check_line) fun _ _ _ _ _ _ us hl => match us, hl with | [_], _ => rfl,
    check_line := F_check_line,
    g_check_line := PySem.W.mg_of X G g_check_line,
    b_is_amount := F_is_amount.binds (ps := ps_is_amount) fun _ _ _ _ _ _ us hl => match us, hl with | [_], _ => rfl,
    is_amount := F_is_amount,
    g_is_amount := PySem.W.mg_of X G g_is_amount,
    b_is_step := F_is_step.binds (ps := ps_is_step) fun _ _ _ _ _ _ us hl => match us, hl with | [_], _ => rfl,
    is_step := F_is_step,
    g_is_step := PySem.W.mg_of X G g_is_step,
    b_check_program := F_check_program.binds (ps := ps_check_program) fun _ _ _ _ _ _ us hl => match us, hl with | [_], _ => rfl,
    check_program := F_check_program,
    g_check_program := PySem.W.mg_of X G g_check_program,
    b_is_size := F_is_size.binds (ps := ps_is_size) fun _ _ _ _ _ _ us hl => match us, hl with | [_], _ => rfl,
    is_size := F_is_size,
    g_is_size := PySem.W.mg_of X G g_is_size,
    b_check_size := F_check_size.binds (ps := ps_check_size) fun _ _ _ _ _ _ us hl => match us, hl with | [_], _ => rfl,
    check_size := F_check_size,
    g_check_size := PySem.W.mg_of X G g_check_size,
    b_pause_steps := F_pause_steps.binds (ps := ps_pause_steps) fun _ _ _ _ _ _ us hl => match us, hl with | [_, _], _ => rfl,
    pause_steps := F_pause_steps,
    g_pause_steps := PySem.W.mg_of X G g_pause_steps,
    b_check_pauses := F_check_pauses.binds (ps := ps_check_pauses) fun _ _ _ _ _ _ us hl => match us, hl with | [_, _, _], _ => rfl,
    check_pauses := F_check_pauses,
    g_check_pauses := PySem.W.mg_of X G g_check_pauses,
    b_plain_steps := F_plain_steps.binds (ps := ps_plain_steps) fun _ _ _ _ _ _ us hl => match us, hl with | [_, _, _], _ => rfl,
    plain_steps := F_plain_steps,
    g_plain_steps := PySem.W.mg_of X G g_plain_steps,
    b_R_init := F_R_init.binds (ps := ps_R_init) fun _ _ _ _ _ _ us hl => match us, hl with | [_, _, _], _ => rfl,
    R_init := F_R_init,
    b_R_len := F_R_len.binds (ps := ps_R_len) fun _ _ _ _ _ _ us hl => match us, hl with | [_], _ => rfl,
    R_len := F_R_len,
    m_R_len := ⟨g_R_len, i_R_len, k_R_len⟩,
    b_run_of := F_run_of.binds (ps := ps_run_of) fun _ _ _ _ _ _ us hl => match us, hl with | [_, _, _, _, _], _ => rfl,
    run_of := F_run_of,
    g_run_of := PySem.W.mg_of X G g_run_of,
    b_check_run := F_check_run.binds (ps := ps_check_run) fun _ _ _ _ _ _ us hl => match us, hl with | [_, _, _], _ => rfl,
    check_run := F_check_run,
    g_check_run := PySem.W.mg_of X G g_check_run,
    kb_run := ⟨fun s us ws _ h1 h2 => match us, ws, h1, h2 with | [_, _, _], [_, _], _, _ => .of_eq rfl, fun r z => r.append z⟩,
    run := F_run,
    g_run := PySem.W.mg_of X G g_run,
    b_l_mill := F_l_mill.binds (ps := ps_l_mill) fun _ _ _ _ _ _ us hl => match us, hl with | [_, _], _ => rfl,
    l_mill := F_l_mill,
    g_law_mill := PySem.W.mg_of X G g_l_mill,
    b_l_grain := F_l_grain.binds (ps := ps_l_grain) fun _ _ _ _ _ _ us hl => match us, hl with | [_, _], _ => rfl,
    l_grain := F_l_grain,
    g_law_grain := PySem.W.mg_of X G g_l_grain,
    b_l_pick := F_l_pick.binds (ps := ps_l_pick) fun _ _ _ _ _ _ us hl => match us, hl with | [_, _], _ => rfl,
    l_pick := F_l_pick,
    g_law_pick := PySem.W.mg_of X G g_l_pick,
    b_l_ways := F_l_ways.binds (ps := ps_l_ways) fun _ _ _ _ _ _ us hl => match us, hl with | [_], _ => rfl,
    l_ways := F_l_ways,
    g_law_ways := PySem.W.mg_of X G g_l_ways,
    b_l_told := F_l_told.binds (ps := ps_l_told) fun _ _ _ _ _ _ us hl => match us, hl with | [_], _ => rfl,
    l_told := F_l_told,
    g_law_told := PySem.W.mg_of X G g_l_told,
    b_l_made := F_l_made.binds (ps := ps_l_made) fun _ _ _ _ _ _ us hl => match us, hl with | [_], _ => rfl,
    l_made := F_l_made,
    g_law_made := PySem.W.mg_of X G g_l_made,
    b_l_amount := F_l_amount.binds (ps := ps_l_amount) fun _ _ _ _ _ _ us hl => match us, hl with | [_, _], _ => rfl,
    l_amount := F_l_amount,
    g_law_amount := PySem.W.mg_of X G g_l_amount,
    b_l_plans := F_l_plans.binds (ps := ps_l_plans) fun _ _ _ _ _ _ us hl => match us, hl with | [_, _], _ => rfl,
    l_plans := F_l_plans,
    g_law_plans := PySem.W.mg_of X G g_l_plans,
    b_l_choice := F_l_choice.binds (ps := ps_l_choice) fun _ _ _ _ _ _ us hl => match us, hl with | [_, _], _ => rfl,
    l_choice := F_l_choice,
    g_law_choice := PySem.W.mg_of X G g_l_choice,
    b_l_right := F_l_right.binds (ps := ps_l_right) fun _ _ _ _ _ _ us hl => match us, hl with | [_], _ => rfl,
    l_right := F_l_right,
    g_law_right := PySem.W.mg_of X G g_l_right,
    law := F_law,
    g_law := PySem.W.mg_of X G g_law,
    R_at := ⟨⟨_, _, _, _, _, _, _, _, rfl, l_R_init, c_R_init⟩⟩,
    g_Flow := PySem.W.mg_of X G CF_at,
    cF := ⟨pg_F, hd_F, po_F, sa_F⟩,
    mk_F := ⟨mk_F, g_F_init, i_F_init, kc_F⟩,
    nF_line := nF_line,
    nF_settings := nF_settings,
    nF_tick := nF_tick,
    nF_stock := nF_stock,
    nF_out := nF_out,
    nF_known := nF_known,
    nF_small := nF_small,
    nF_come := nF_come,
    nF_taken := nF_taken,
    nF_full := nF_full,
    nF_first := nF_first,
    nF_long := nF_long,
    nF_flight := nF_flight,
    nF_log := nF_log,
    g_Course := PySem.W.mg_of X G CC_at,
    cC := ⟨pg_C, hd_C, po_C, sa_C⟩,
    mk_C := ⟨mk_C, g_C_init, i_C_init, kc_C⟩,
    nC_steps := nC_steps,
    nC_again := nC_again,
    nC_place := nC_place,
    nC_until := nC_until,
    nC_ended := nC_ended,
    nC_begun := nC_begun,
    g_Setting := PySem.W.mg_of X G CS_at,
    cS := ⟨pg_S, hd_S, po_S, sa_S⟩,
    mk_S := ⟨mk_S, g_S_init, i_S_init, kc_S⟩,
    nS_rule := nS_rule,
    nS_every := nS_every,
    nS_delay := nS_delay,
    nS_told := nS_told,
    g_Line := PySem.W.mg_of X G CL_at,
    cL := ⟨pg_L, hd_L, po_L, sa_L⟩,
    mk_L := ⟨mk_L, g_L_init, i_L_init, kc_L⟩,
    nL_size := nL_size,
    nL_way := nL_way,
    nL_near := nL_near,
    nL_far := nL_far,
    nL_told := nL_told,
    g_Run := PySem.W.mg_of X G CR_at,
    cR := ⟨pg_R, hd_R, po_R, sa_R⟩,
    mk_R := ⟨mk_R, g_R_init, i_R_init, kc_R⟩,
    nR_ends := nR_ends,
    nR_stuck := nR_stuck,
    nR_pieces := nR_pieces,
    nR_answers := nR_answers,
    nR_held := nR_held,
    nR_unread := nR_unread,
    nR_quiet := nR_quiet,
    nR_all := nR_all,
    g_MOST_SIZE := PySem.W.mg_of X G v_MOST_SIZE,
    g_MOST_WAY := PySem.W.mg_of X G v_MOST_WAY,
    g_MOST_EVERY := PySem.W.mg_of X G v_MOST_EVERY,
    g_MOST_DELAY := PySem.W.mg_of X G v_MOST_DELAY,
    g_MOST_STEPS := PySem.W.mg_of X G v_MOST_STEPS,
    g_MOST_BYTES := PySem.W.mg_of X G v_MOST_BYTES,
    g_MOST_X := PySem.W.mg_of X G v_MOST_X,
    g_LETTER := PySem.W.mg_of X G v_LETTER,
    g_RULES := PySem.W.mg_of X G v_RULES,
    rules := fun H => .inr ⟨_, _, _, v_rules, rfl, rfl, by show 3 ≤ sizeLine; decide, .cons ⟨_, rfl⟩ (.cons ⟨_, rfl⟩ (.cons ⟨_, rfl⟩ .nil))⟩,
    n_len := PySem.W.mg_none_of X G z_len,
    n_sum := PySem.W.mg_none_of X G z_sum,
    n_max := PySem.W.mg_none_of X G z_max,
    n_min := PySem.W.mg_none_of X G z_min,
    n_abs := PySem.W.mg_none_of X G z_abs,
    n_divmod := PySem.W.mg_none_of X G z_divmod,
    n_sorted := PySem.W.mg_none_of X G z_sorted,
    n_all := PySem.W.mg_none_of X G z_all,
    n_isinstance := PySem.W.mg_none_of X G z_isinstance,
    n_int := PySem.W.mg_none_of X G z_int,
    n_tuple := PySem.W.mg_none_of X G z_tuple,
    n_list := PySem.W.mg_none_of X G z_list,
    n_bool := PySem.W.mg_none_of X G z_bool,
    n_str := PySem.W.mg_none_of X G z_str,
    n_range := PySem.W.mg_none_of X G z_range,
    n_enumerate := PySem.W.mg_none_of X G z_enumerate,
    iS_ha := iS_ha,
    iS_hm := iS_hm,
    iL_ha := iL_ha,
    iL_hm := iL_hm,
    i_hn := i_hn,
    i_htk := i_htk,
    lenR := lenR }
end K10

namespace K10
open PySem L2 LamX
theorem law_at {l : PySem.W.OpenLaw} {w : World} {K : PySem.W.Frag} {mg : Str → Option Value} {fa : Addr} {h : Heap} {A : Ads} (T : Txt K mg A) (X : K.In h) (hfa : mg "law" = some (.ref fa)) (hT : h.get? A.p_R = some (PySem.W.tabObj #[])) (nT : K.lookup A.p_R = none) (hC : PySem.W.codeHdIn K A.c_R A.p_R = true) :
    LawAtS l w K CX0 11 63 "_law_script" mg fa h := by
  have e := hfa.symm.trans T.g_law
  cases e
  obtain ⟨oc, od, kV, doc, pm, an, cdv, ct, osl, ed, _⟩ := T.law.ex
  refine ⟨A.d_law, [(A.c_R, A.p_R)], sp_law K A, fun p hp => ?_, fun p hp => ?_, fun p hp => ?_, fun s u => ?_, fun H a ns hl _ hH hS => ⟨a, ns, rfl, hS, by omega, TabS.nil (hH (A.c_R, A.p_R) List.mem_cons_self), fun _ => rfl⟩, fun base _ _ TB => ok_law T (TB (A.c_R, A.p_R) List.mem_cons_self)⟩
  · rw [List.mem_singleton.mp hp]
    exact hT
  · rw [List.mem_singleton.mp hp]
    exact nT
  · rw [List.mem_singleton.mp hp]
    exact PySem.W.codeHd_of_K X hC
  · rw [ed]
    exact .of_eq rfl
end K10
open PySem PySem.W PyProof.Rows in
set_option maxHeartbeats 0 in
open_top head for PySem.Challenge.rw_smallheld_k10_whole_sides_changed
set_option maxHeartbeats 0 in
open PySem PySem.W PyProof.Rows L2 in
theorem PySem.Challenge.cw_smallheld_k10_whole_sides_changed_holds : PySem.Challenge.rw_smallheld_k10_whole_sides_changed.Holds := by
  refine head ?_
  k_fill
  refine LamX.walk_ofTs (l := PySem.Challenge.rw_smallheld_k10_whole_sides_changed) (n := 63) (k := 11) (x := "_law_script") (CX := fun _ => CX0) rfl (by decide) rfl ⟨rfl, by decide, by decide⟩ (fun w h Y => km_in_of Y) ?F (fun _ _ _ _ _ z => z)
  case F =>
    intro w mg fa h Y KX G hmg
    refine' K10.law_at (K10.all_mk (pR := 508) KX G ?CF_at ?CC_at ?CS_at ?CL_at ?CR_at ?g_F_init ?i_F_init ?l_F_init ?c_F_init ?k_F_init ?g_F_kept ?i_F_kept ?l_F_kept ?c_F_kept ?k_F_kept ?g_F_fresh ?i_F_fresh ?l_F_fresh ?c_F_fresh ?k_F_fresh ?g_F_take_out ?i_F_take_out ?l_F_take_out ?c_F_take_out ?k_F_take_out ?g_F_send ?i_F_send ?l_F_send ?c_F_send ?k_F_send ?g_F_lets ?i_F_lets ?l_F_lets ?c_F_lets ?k_F_lets ?g_F_let_go ?i_F_let_go ?l_F_let_go ?c_F_let_go ?k_F_let_go ?g_F_put ?i_F_put ?l_F_put ?c_F_put ?k_F_put ?g_F_land ?i_F_land ?l_F_land ?c_F_land ?k_F_land ?g_F_begin ?i_F_begin ?l_F_begin ?c_F_begin ?k_F_begin ?g_F_is_due ?i_F_is_due ?l_F_is_due ?c_F_is_due ?k_F_is_due ?g_F_leave ?i_F_leave ?l_F_leave ?c_F_leave ?k_F_leave ?g_F_next_tick ?i_F_next_tick ?l_F_next_tick ?c_F_next_tick ?k_F_next_tick ?g_C_init ?i_C_init ?l_C_init ?c_C_init ?k_C_init ?g_C_pass_step ?i_C_pass_step ?l_C_pass_step ?c_C_pass_step ?k_C_pass_step ?g_C_rests ?i_C_rests ?l_C_rests ?c_C_rests ?k_C_rests ?g_C_do_step ?i_C_do_step ?l_C_do_step ?c_C_do_step ?k_C_do_step ?g_C_go_on ?i_C_go_on ?l_C_go_on ?c_C_go_on ?k_C_go_on ?g_events ?l_events ?c_events ?k_events ?g_do_tick ?l_do_tick ?c_do_tick ?k_do_tick ?g_is_integer ?l_is_integer ?c_is_integer ?k_is_integer ?g_is_between ?l_is_between ?c_is_between ?k_is_between ?g_check_number ?l_check_number ?c_check_number ?k_check_number ?g_S_init ?i_S_init ?l_S_init ?c_S_init ?k_S_init ?g_check_setting ?l_check_setting ?c_check_setting ?k_check_setting ?g_L_init ?i_L_init ?l_L_init ?c_L_init ?k_L_init ?g_check_line ?l_check_line ?c_check_line ?k_check_line ?g_is_amount ?l_is_amount ?c_is_amount ?k_is_amount ?g_is_step ?l_is_step ?c_is_step ?k_is_step ?g_check_program ?l_check_program ?c_check_program ?k_check_program ?g_is_size ?l_is_size ?c_is_size ?k_is_size ?g_check_size ?l_check_size ?c_check_size ?k_check_size ?g_pause_steps ?l_pause_steps ?c_pause_steps ?k_pause_steps ?g_check_pauses ?l_check_pauses ?c_check_pauses ?k_check_pauses ?g_plain_steps ?l_plain_steps ?c_plain_steps ?k_plain_steps ?g_R_init ?i_R_init ?l_R_init ?c_R_init ?k_R_init ?g_R_len ?i_R_len ?l_R_len ?c_R_len ?k_R_len ?g_run_of ?l_run_of ?c_run_of ?k_run_of ?g_check_run ?l_check_run ?c_check_run ?k_check_run ?g_run ?l_run ?c_run ?k_run ?g_l_mill ?l_l_mill ?c_l_mill ?k_l_mill ?g_l_grain ?l_l_grain ?c_l_grain ?k_l_grain ?g_l_pick ?l_l_pick ?c_l_pick ?k_l_pick ?g_l_ways ?l_l_ways ?c_l_ways ?k_l_ways ?g_l_told ?l_l_told ?c_l_told ?k_l_told ?g_l_made ?l_l_made ?c_l_made ?k_l_made ?g_l_amount ?l_l_amount ?c_l_amount ?k_l_amount ?g_l_plans ?l_l_plans ?c_l_plans ?k_l_plans ?g_l_choice ?l_l_choice ?c_l_choice ?k_l_choice ?g_l_right ?l_l_right ?c_l_right ?k_l_right ?g_law ?l_law ?c_law ?k_law ?pg_F ?hd_F ?po_F ?sa_F ?mk_F ?kc_F ?nF_line ?nF_settings ?nF_tick ?nF_stock ?nF_out ?nF_known ?nF_small ?nF_come ?nF_taken ?nF_full ?nF_first ?nF_long ?nF_flight ?nF_log ?pg_C ?hd_C ?po_C ?sa_C ?mk_C ?kc_C ?nC_steps ?nC_again ?nC_place ?nC_until ?nC_ended ?nC_begun ?pg_S ?hd_S ?po_S ?sa_S ?mk_S ?kc_S ?nS_rule ?nS_every ?nS_delay ?nS_told ?pg_L ?hd_L ?po_L ?sa_L ?mk_L ?kc_L ?nL_size ?nL_way ?nL_near ?nL_far ?nL_told ?pg_R ?hd_R ?po_R ?sa_R ?mk_R ?kc_R ?nR_ends ?nR_stuck ?nR_pieces ?nR_answers ?nR_held ?nR_unread ?nR_quiet ?nR_all ?v_MOST_SIZE ?v_MOST_WAY ?v_MOST_EVERY ?v_MOST_DELAY ?v_MOST_STEPS ?v_MOST_BYTES ?v_MOST_X ?v_LETTER ?v_RULES ?v_rules ?z_len ?z_sum ?z_max ?z_min ?z_abs ?z_divmod ?z_sorted ?z_all ?z_isinstance ?z_int ?z_tuple ?z_list ?z_bool ?z_str ?z_range ?z_enumerate ?iS_ha ?iS_hm ?iL_ha ?iL_hm ?i_hn ?i_htk ?lenR) KX hmg (km_tabs_of Y 508 ?tabm) ?tabn ?tabc
    (case CF_at => k_is)
    (case CC_at => k_is)
    (case CS_at => k_is)
    (case CL_at => k_is)
    (case CR_at => k_is)
    (case g_F_init => k_is)
    (case i_F_init => k_is)
    (case l_F_init => k_is)
    (case c_F_init => k_is)
    (case k_F_init => k_is)
    (case g_F_kept => k_is)
    (case i_F_kept => k_is)
    (case l_F_kept => k_is)
    (case c_F_kept => k_is)
    (case k_F_kept => k_is)
    (case g_F_fresh => k_is)
    (case i_F_fresh => k_is)
    (case l_F_fresh => k_is)
    (case c_F_fresh => k_is)
    (case k_F_fresh => k_is)
    (case g_F_take_out => k_is)
    (case i_F_take_out => k_is)
    (case l_F_take_out => k_is)
    (case c_F_take_out => k_is)
    (case k_F_take_out => k_is)
    (case g_F_send => k_is)
    (case i_F_send => k_is)
    (case l_F_send => k_is)
    (case c_F_send => k_is)
    (case k_F_send => k_is)
    (case g_F_lets => k_is)
    (case i_F_lets => k_is)
    (case l_F_lets => k_is)
    (case c_F_lets => k_is)
    (case k_F_lets => k_is)
    (case g_F_let_go => k_is)
    (case i_F_let_go => k_is)
    (case l_F_let_go => k_is)
    (case c_F_let_go => k_is)
    (case k_F_let_go => k_is)
    (case g_F_put => k_is)
    (case i_F_put => k_is)
    (case l_F_put => k_is)
    (case c_F_put => k_is)
    (case k_F_put => k_is)
    (case g_F_land => k_is)
    (case i_F_land => k_is)
    (case l_F_land => k_is)
    (case c_F_land => k_is)
    (case k_F_land => k_is)
    (case g_F_begin => k_is)
    (case i_F_begin => k_is)
    (case l_F_begin => k_is)
    (case c_F_begin => k_is)
    (case k_F_begin => k_is)
    (case g_F_is_due => k_is)
    (case i_F_is_due => k_is)
    (case l_F_is_due => k_is)
    (case c_F_is_due => k_is)
    (case k_F_is_due => k_is)
    (case g_F_leave => k_is)
    (case i_F_leave => k_is)
    (case l_F_leave => k_is)
    (case c_F_leave => k_is)
    (case k_F_leave => k_is)
    (case g_F_next_tick => k_is)
    (case i_F_next_tick => k_is)
    (case l_F_next_tick => k_is)
    (case c_F_next_tick => k_is)
    (case k_F_next_tick => k_is)
    (case g_C_init => k_is)
    (case i_C_init => k_is)
    (case l_C_init => k_is)
    (case c_C_init => k_is)
    (case k_C_init => k_is)
    (case g_C_pass_step => k_is)
    (case i_C_pass_step => k_is)
    (case l_C_pass_step => k_is)
    (case c_C_pass_step => k_is)
    (case k_C_pass_step => k_is)
    (case g_C_rests => k_is)
    (case i_C_rests => k_is)
    (case l_C_rests => k_is)
    (case c_C_rests => k_is)
    (case k_C_rests => k_is)
    (case g_C_do_step => k_is)
    (case i_C_do_step => k_is)
    (case l_C_do_step => k_is)
    (case c_C_do_step => k_is)
    (case k_C_do_step => k_is)
    (case g_C_go_on => k_is)
    (case i_C_go_on => k_is)
    (case l_C_go_on => k_is)
    (case c_C_go_on => k_is)
    (case k_C_go_on => k_is)
    (case g_events => k_is)
    (case l_events => k_is)
    (case c_events => k_is)
    (case k_events => k_is)
    (case g_do_tick => k_is)
    (case l_do_tick => k_is)
    (case c_do_tick => k_is)
    (case k_do_tick => k_is)
    (case g_is_integer => k_is)
    (case l_is_integer => k_is)
    (case c_is_integer => k_is)
    (case k_is_integer => k_is)
    (case g_is_between => k_is)
    (case l_is_between => k_is)
    (case c_is_between => k_is)
    (case k_is_between => k_is)
    (case g_check_number => k_is)
    (case l_check_number => k_is)
    (case c_check_number => k_is)
    (case k_check_number => k_is)
    (case g_S_init => k_is)
    (case i_S_init => k_is)
    (case l_S_init => k_is)
    (case c_S_init => k_is)
    (case k_S_init => k_is)
    (case g_check_setting => k_is)
    (case l_check_setting => k_is)
    (case c_check_setting => k_is)
    (case k_check_setting => k_is)
    (case g_L_init => k_is)
    (case i_L_init => k_is)
    (case l_L_init => k_is)
    (case c_L_init => k_is)
    (case k_L_init => k_is)
    (case g_check_line => k_is)
    (case l_check_line => k_is)
    (case c_check_line => k_is)
    (case k_check_line => k_is)
    (case g_is_amount => k_is)
    (case l_is_amount => k_is)
    (case c_is_amount => k_is)
    (case k_is_amount => k_is)
    (case g_is_step => k_is)
    (case l_is_step => k_is)
    (case c_is_step => k_is)
    (case k_is_step => k_is)
    (case g_check_program => k_is)
    (case l_check_program => k_is)
    (case c_check_program => k_is)
    (case k_check_program => k_is)
    (case g_is_size => k_is)
    (case l_is_size => k_is)
    (case c_is_size => k_is)
    (case k_is_size => k_is)
    (case g_check_size => k_is)
    (case l_check_size => k_is)
    (case c_check_size => k_is)
    (case k_check_size => k_is)
    (case g_pause_steps => k_is)
    (case l_pause_steps => k_is)
    (case c_pause_steps => k_is)
    (case k_pause_steps => k_is)
    (case g_check_pauses => k_is)
    (case l_check_pauses => k_is)
    (case c_check_pauses => k_is)
    (case k_check_pauses => k_is)
    (case g_plain_steps => k_is)
    (case l_plain_steps => k_is)
    (case c_plain_steps => k_is)
    (case k_plain_steps => k_is)
    (case g_R_init => k_is)
    (case i_R_init => k_is)
    (case l_R_init => k_is)
    (case c_R_init => k_is)
    (case k_R_init => k_is)
    (case g_R_len => k_is)
    (case i_R_len => k_is)
    (case l_R_len => k_is)
    (case c_R_len => k_is)
    (case k_R_len => k_is)
    (case g_run_of => k_is)
    (case l_run_of => k_is)
    (case c_run_of => k_is)
    (case k_run_of => k_is)
    (case g_check_run => k_is)
    (case l_check_run => k_is)
    (case c_check_run => k_is)
    (case k_check_run => k_is)
    (case g_run => k_is)
    (case l_run => k_is)
    (case c_run => k_is)
    (case k_run => k_is)
    (case g_l_mill => k_is)
    (case l_l_mill => k_is)
    (case c_l_mill => k_is)
    (case k_l_mill => k_is)
    (case g_l_grain => k_is)
    (case l_l_grain => k_is)
    (case c_l_grain => k_is)
    (case k_l_grain => k_is)
    (case g_l_pick => k_is)
    (case l_l_pick => k_is)
    (case c_l_pick => k_is)
    (case k_l_pick => k_is)
    (case g_l_ways => k_is)
    (case l_l_ways => k_is)
    (case c_l_ways => k_is)
    (case k_l_ways => k_is)
    (case g_l_told => k_is)
    (case l_l_told => k_is)
    (case c_l_told => k_is)
    (case k_l_told => k_is)
    (case g_l_made => k_is)
    (case l_l_made => k_is)
    (case c_l_made => k_is)
    (case k_l_made => k_is)
    (case g_l_amount => k_is)
    (case l_l_amount => k_is)
    (case c_l_amount => k_is)
    (case k_l_amount => k_is)
    (case g_l_plans => k_is)
    (case l_l_plans => k_is)
    (case c_l_plans => k_is)
    (case k_l_plans => k_is)
    (case g_l_choice => k_is)
    (case l_l_choice => k_is)
    (case c_l_choice => k_is)
    (case k_l_choice => k_is)
    (case g_l_right => k_is)
    (case l_l_right => k_is)
    (case c_l_right => k_is)
    (case k_l_right => k_is)
    (case g_law => k_is)
    (case l_law => k_is)
    (case c_law => k_is)
    (case k_law => k_is)
    (case pg_F => k_is)
    (case hd_F => k_is)
    (case po_F => k_is)
    (case sa_F => k_is)
    (case mk_F => k_is)
    (case kc_F => k_is)
    (case nF_line => k_is)
    (case nF_settings => k_is)
    (case nF_tick => k_is)
    (case nF_stock => k_is)
    (case nF_out => k_is)
    (case nF_known => k_is)
    (case nF_small => k_is)
    (case nF_come => k_is)
    (case nF_taken => k_is)
    (case nF_full => k_is)
    (case nF_first => k_is)
    (case nF_long => k_is)
    (case nF_flight => k_is)
    (case nF_log => k_is)
    (case pg_C => k_is)
    (case hd_C => k_is)
    (case po_C => k_is)
    (case sa_C => k_is)
    (case mk_C => k_is)
    (case kc_C => k_is)
    (case nC_steps => k_is)
    (case nC_again => k_is)
    (case nC_place => k_is)
    (case nC_until => k_is)
    (case nC_ended => k_is)
    (case nC_begun => k_is)
    (case pg_S => k_is)
    (case hd_S => k_is)
    (case po_S => k_is)
    (case sa_S => k_is)
    (case mk_S => k_is)
    (case kc_S => k_is)
    (case nS_rule => k_is)
    (case nS_every => k_is)
    (case nS_delay => k_is)
    (case nS_told => k_is)
    (case pg_L => k_is)
    (case hd_L => k_is)
    (case po_L => k_is)
    (case sa_L => k_is)
    (case mk_L => k_is)
    (case kc_L => k_is)
    (case nL_size => k_is)
    (case nL_way => k_is)
    (case nL_near => k_is)
    (case nL_far => k_is)
    (case nL_told => k_is)
    (case pg_R => k_is)
    (case hd_R => k_is)
    (case po_R => k_is)
    (case sa_R => k_is)
    (case mk_R => k_is)
    (case kc_R => k_is)
    (case nR_ends => k_is)
    (case nR_stuck => k_is)
    (case nR_pieces => k_is)
    (case nR_answers => k_is)
    (case nR_held => k_is)
    (case nR_unread => k_is)
    (case nR_quiet => k_is)
    (case nR_all => k_is)
    (case v_MOST_SIZE => k_is)
    (case v_MOST_WAY => k_is)
    (case v_MOST_EVERY => k_is)
    (case v_MOST_DELAY => k_is)
    (case v_MOST_STEPS => k_is)
    (case v_MOST_BYTES => k_is)
    (case v_MOST_X => k_is)
    (case v_LETTER => k_is)
    (case v_RULES => k_is)
    (case v_rules => k_is)
    (case z_len => k_is)
    (case z_sum => k_is)
    (case z_max => k_is)
    (case z_min => k_is)
    (case z_abs => k_is)
    (case z_divmod => k_is)
    (case z_sorted => k_is)
    (case z_all => k_is)
    (case z_isinstance => k_is)
    (case z_int => k_is)
    (case z_tuple => k_is)
    (case z_list => k_is)
    (case z_bool => k_is)
    (case z_str => k_is)
    (case z_range => k_is)
    (case z_enumerate => k_is)
    (case iS_ha => k_is)
    (case iS_hm => k_is)
    (case iL_ha => k_is)
    (case iL_hm => k_is)
    (case i_hn => k_is)
    (case i_htk => k_is)
    (case lenR => k_is)
    (case tabm => exact List.mem_cons_self)
    (case tabn => kernel_rfl)
    (case tabc => kernel_rfl)
#print axioms PySem.Challenge.cw_smallheld_k10_whole_sides_changed_holds
