import PyProof.Rows.All
import Wide.All
import OpenK.AllK
import Wide.FinOn
import KE.KStateDown
import KE.GoesEnum
import KE.SortData
import KE.DatumIndex
import HandS.ForMost
import HandS.ForExc
import HandS.IsInst
import HandS.Property
import HandS.CallRecv
import HandS.Walk
import HandS.TupAny
import HandS.Star
import HandS.Defaults
import HandS.TryMany
import HandS.ExcInit
import HandS.ExcField
import HandS.Lambda
import HandS.More
import HandS.Flow
import HandS.Conv
import HandS.Wide
import HandS.ClsMeth
import HandS.RaiseMore
import HandS.CallLocal
import HandS.HeadHook4
import HandS.HeadWalk
import HandS.Head2
import KE.KRevSl
import KE.KTupSum
import KE.DatumOrd
import PyProof.TupleOfSeq
import KE.KDictPairs
import HandS.Codes
import HandS.SlotsOwn
import HandS.NamedTupGet
import PySem.Challenge.RW_nestletters_k37_whole_desks
set_option Elab.async false
set_option linter.all false
set_option maxRecDepth 100000
set_option maxHeartbeats 4000000

/-! R1: enumerate over a tuple -/
namespace NL
open PySem PySem.Spec PyProof.Rows L2
open Sem (wp)
theorem meets_enumB1 {v : Value} {o : Obj} {Z : Heap → Prop} (B : Begins v o Z) :
    Meets (Builtin.«enumerate.__new__» ⟨[.type "enumerate", v], []⟩) (fun _ R s => Z s.heap ∧
      R (.ok (.ret (.ref (s.heap.push o).objs.size))) { s with heap := (s.heap.push o).push { cls := .type "enumerate", data := .fields #[.none, .bool false, .ref s.heap.objs.size, rawInt 0, .none, .none] } }) :=
  .of_wp fun prog w A R s h => by
    obtain ⟨hp, g, d, tk, os⟩ := s
    obtain ⟨h1, h⟩ := h
    have hsub := sub_enumerate
    have q1 : ∀ {A' : Around} {E : Value → Shared → Prop} {Q : Value → Shared → Prop}, Q (.ref hp.objs.size) ⟨hp.push o, g, d, tk, os⟩ → wpAny (model prog w) A' (pyIter v) Q E ⟨hp, g, d, tk, os⟩ :=
      fun q => B.iter prog w _ _ ⟨hp, g, d, tk, os⟩ _ h1 q
    wp_walk using q1
    refine wpAny_stack_any fun st => wpAny_pure ?_
    split
    · rename_i c _ _ _ _ _
      cases (c == Value.type "enumerate")
      · wp_walk using q1
        exact ⟨_, rfl, h⟩
      · wp_walk using q1
        exact ⟨_, rfl, h⟩
    · wp_walk using q1
      exact ⟨_, rfl, h⟩
theorem enum_begins1 {prog : Program} {w : World} {A : Around} {E : Value → Shared → Prop} {s : Shared} {v : Value} {o : Obj} {Z : Heap → Prop} {Q : Value → Shared → Prop} (B : Begins v o Z) (h1 : Z s.heap)
    (h : ∀ h', IsEnum h' (s.heap.objs.size + 1) s.heap.objs.size 0 .none → h'.get? s.heap.objs.size = some o → h'.objs.size = s.heap.objs.size + 2 →
      (∀ b u, s.heap.get? b = some u → h'.get? b = some u) → Q (.ref (s.heap.objs.size + 1)) { s with heap := h' }) :
    wpAny (model prog w) A (call (.type "enumerate") [v]) Q E s := by
  refine callType_new F.called_enumerate (by decide) (F.typeCall_enumerate_1 _) (F.newCall_enumerate_1 _) (fun obj => F.args_object_init_2 obj _) F.entry_enumerate_new
    (meets_enumB1 B) ⟨h1, ?_⟩
  have hz : (s.heap.push o).objs.size = s.heap.objs.size + 1 := Heap.size_push ..
  show _ ∧ _
  rw [hz]
  have he : IsEnum ((s.heap.push o).push { cls := .type "enumerate", data := .fields #[.none, .bool false, .ref s.heap.objs.size, rawInt 0, .none, .none] }) (s.heap.objs.size + 1) s.heap.objs.size 0 .none := by
    have := Heap.get?_push_size (s.heap.push o) (o := { cls := .type "enumerate", data := .fields #[.none, .bool false, .ref s.heap.objs.size, rawInt 0, .none, .none] }) rfl
    rw [hz] at this
    exact this
  refine ⟨⟨_, he, rfl⟩, h _ he (Heap.get?_push_of_some _ (Heap.get?_push_size _ B.free)) (by rw [Heap.size_push, hz]) fun b o x => Heap.get?_push_of_some _ (Heap.get?_push_of_some _ x)⟩
/-- the tuple at a, each item in a new pair with its index -/
def Iet (K : PySem.W.Frag) (a : Addr) : It :=
  ⟨fun i H => ∃ (xs : List V) (x : V), SqT K H a xs ∧ xs[i]? = some x, fun i H v H' => ∃ T x, v = .ref T ∧ H T = none ∧ H' = upd H T (.tup [.int (i : Nat), x]) ∧ ∀ xs, SqT K H a xs → xs[i]? = some x, fun i H => ∃ xs : List V, SqT K H a xs ∧ xs.length ≤ i⟩
theorem turn_enumT {P : Program} {w : World} {K : PySem.W.Frag} {elts : List Expr} {kk : Nat} {tpos : Pos} (a e it : Addr) (hae : a ≠ e) (hai : a ≠ it) :
    Turn P w K (.Tuple elts kk tpos) (Iet K a) [e, it] e (fun i h => (∃ old, IsEnum h e it ((i : Nat) : Int) old) ∧ h.IsTupleIter it a i ∧ e ≠ it) where
  mem := by simp
  obj := fun i h st b hb => by
    obtain ⟨⟨old, he⟩, ⟨o, ho, hc, hd⟩, _⟩ := st
    have e' : b = e ∨ b = it := by simpa using hb
    rcases e' with z | z
    · rw [z]; exact ⟨_, he, fun v q => nomatch q⟩
    · rw [z]; exact ⟨o, ho, fun v q => by rw [hd] at q; cases q⟩
  keep := fun i h h' st k => let ⟨⟨old, he⟩, hi, hne⟩ := st; ⟨⟨old, k e (by simp) _ he⟩, hi.at fun o q => k it (by simp) o q, hne⟩
  item := by
    intro X hP hw hK hc i pins s σ H E I hf st hg
    subst hP hw hK
    obtain ⟨⟨old, he⟩, hit, hne⟩ := st
    obtain ⟨xs, x, hq, hx⟩ := hg
    obtain ⟨its, rv, p, hz⟩ := I.tuple hq
    obtain ⟨u, hu, ru⟩ := rv.get hx
    have hel : e < s.heap.objs.size := Heap.lt_size he
    have hil : it < s.heap.objs.size := by obtain ⟨_, q, _⟩ := hit; exact Heap.lt_size q
    have hlt : i < its.toArray.size := by
      rw [List.size_toArray]
      exact (List.getElem?_eq_some_iff.mp hu).1
    have D := Draws.tuple (prog := X.prog) (w := X.w) (A := X.A.in1) (I.ok.hd hc) it a hai its.toArray
    refine wpAny_pyNext_enum_itemD D he ⟨hit, p⟩ hlt hne (by
      intro z
      have z' : e = it ∨ e = a := by simpa using z
      rcases z' with q | q
      · exact hne q
      · exact hae q.symm) fun x2 h' tk hP2 ho hst' hT hsz hk => ?_
    have ex : x2 = u := by
      have h1 : its.toArray[i]? = some x2 := hP2
      have h2 : its.toArray[i]? = some u := by simpa using hu
      rw [h1] at h2
      exact Option.some.inj h2
    subst ex
    obtain ⟨hit', _⟩ := hst'
    refine ⟨_, rfl, wpAny_letOwnedTupleGo_enum (s := { s with heap := h', toks := tk + 1 }) ho fun h'' he' sb => ?_⟩
    have hT2 : h''.get? s.heap.objs.size = some { cls := .type "tuple", data := .seq #[.int i tk, x2] } := (sb.2 _ (Nat.ne_of_gt hel)).trans hT
    have new : ObjOk X.prog X.w (upd H s.heap.objs.size (.tup [.int (i : Nat), x])) h'' s.heap.objs.size (.tup [.int (i : Nat), x]) :=
      ⟨by show 2 ≤ sizeLine; decide, [.int i tk, x2], .cons ⟨_, rfl⟩ (.cons ru .nil), ⟨_, hT2, rfl, _, rfl⟩⟩
    have I1 : Inv X pins σ (upd H s.heap.objs.size (.tup [.int (i : Nat), x])) { s with heap := h'', toks := tk + 1 } :=
      I.turnedNew (ch := [e, it]) (fun b ob hb q => (sb.2 b (fun z => hb (by simp [z]))).trans (hk b ob (fun z => hb (by simp [z])) (fun z => hb (by simp [z])) q)) hf (Nat.le_refl _) new
    refine ⟨.ref s.heap.objs.size, _, I1, rfl, ⟨_, x, rfl, I.hok.fresh (Nat.le_refl _), rfl, fun ys hy => by rw [I.tuple_inj hy hq]; exact hx⟩, ⟨⟨x2, ?_⟩, hit'.at fun o q => (sb.2 it (Ne.symm hne)).trans q, hne⟩, fun b hb => ?_⟩
    · have e1 : ((i + 1 : Nat) : Int) = (i : Int) + 1 := by omega
      rw [e1]; exact he'
    · have hb' : b < s.heap.objs.size := by
        have e' : b = e ∨ b = it := by simpa using hb
        rcases e' with z | z
        · rw [z]; exact hel
        · rw [z]; exact hil
      rw [upd_ne (Nat.ne_of_lt hb')]
      exact (hf b hb).1
  done := by
    intro X hP hw hK hc i pins s σ H E I hf st hg
    subst hP hw hK
    obtain ⟨⟨old, he⟩, hit, hne⟩ := st
    obtain ⟨xs, hq, hx⟩ := hg
    obtain ⟨its, rv, p, hz⟩ := I.tuple hq
    obtain ⟨f0, f1, f2, f3, f4, f5⟩ := hf it (by simp)
    have hl := rv.length
    have hi : its.toArray[i]? = none := by
      rw [Array.getElem?_eq_none_iff, List.size_toArray]
      omega
    have hT : s.TypeIs (.ref e) "enumerate" := ⟨_, he, rfl⟩
    unfold pyNext
    refine wpAny_bind (wpAny_attempt (wpAny_callSpecial?_slot (name := Str.ofString "__next__") hT F.slot_enumerate_next
      (wpAny_call_entry F.slot_enumerate_next hT F.entry_enumerate_next ?_ (F.args_enumerate_next_1 _))))
    show wpAny _ _ (field (.ref e) 2 >>= _) _ _ _
    refine wpAny_bind (wpAny_field he rfl (x := .ref it) rfl ?_)
    refine wpAny_bind (wpAny_nextOf_tuple_end (I.ok.hd hc) hit p hi fun h' x he' hx' => ?_)
    obtain ⟨o, ho, hcl⟩ := hx'
    refine wpAny_bind (wpAny_isInstance (T := "StopIteration") (b := true) ⟨o, ho, hcl⟩ isSubtype_stop ?_)
    exact wpAny_pure ⟨rfl, I.turned (t' := s.toks) (fun b o hb q => he' b o hb q) f0 f1 f3 f4 f5⟩
  self := fun A i s Q E st h => let ⟨⟨_, he⟩, _⟩ := st; wpAny_pyIter_enum he h
def iEnumT (K : PySem.W.Frag) (ta : TA) : TI := fun σ H R => ta σ H fun vs H1 => ∃ a xs, vs = [.ref a] ∧ SqT K H1 a xs ∧ R (Iet K a) H1
theorem pi_enumT {X : Cx} {e : Expr} {ta : TA} {p pos tpos : Pos} {elts : List Expr} {kk : Nat} (hg : Gl X "enumerate") (hm : X.mg "enumerate" = none) (ha : PA X [e] ta) (hs : starEach [e] X.env = [(false, eval e X.env)] := by rfl) :
    PI X (.Tuple elts kk tpos) (.Call (.Name "enumerate" p) [e] [] pos) (iEnumT X.K ta) := by
  refine ⟨fun pins s σ H R I h => ?_⟩
  refine Call_ (ld_blt I hg hm boot_enumerate (PyProof.Rows.callWith_type1 (thn (ha.run pos pins s σ H _ I h) fun us s1 ⟨vs, H1, I1, r1, q1⟩ => ?_) hs rfl))
  obtain ⟨a, xs, rfl, hq, q⟩ := q1
  obtain ⟨u, rfl, ru⟩ := vals1 r1
  cases ru
  obtain ⟨its, rv, p', hz⟩ := I1.tuple hq
  have hal : a < s1.heap.objs.size := by
    obtain ⟨o, ho, _⟩ := id p'
    exact Heap.lt_size ho
  refine enum_begins1 (begins_tuple a its.toArray) p' fun h' he ho hsz hk => wpAny_pyIter_enum he ?_
  have I2 : Inv X pins σ H1 { s1 with heap := h' } := I1.kept (t' := s1.toks) hk
  have hit : h'.IsTupleIter s1.heap.objs.size a 0 := ⟨_, ho, rfl, rfl⟩
  refine ⟨s1.heap.objs.size + 1, [s1.heap.objs.size + 1, s1.heap.objs.size], _, _, H1, rfl, I2, turn_enumT a (s1.heap.objs.size + 1) s1.heap.objs.size (Nat.ne_of_lt (Nat.lt_succ_of_lt hal)) (Nat.ne_of_lt hal), ⟨⟨.none, he⟩, hit, Nat.succ_ne_self _⟩, fun b hb => ?_, q⟩
  have e' : b = s1.heap.objs.size + 1 ∨ b = s1.heap.objs.size := by simpa using hb
  have hge : s1.heap.objs.size ≤ b := by
    rcases e' with z | z
    · rw [z]; exact Nat.le_succ _
    · rw [z]; exact Nat.le_refl _
  obtain ⟨g0, g1, g2, g3, g4, g5⟩ := I1.fpOk (H' := H1) hge (I1.hok.fresh hge)
  exact ⟨g0, g1, g2, g3, g4, g5⟩
theorem walk_enumT {K : PySem.W.Frag} {a : Addr} {xs : List V} : Walk (Iet K a) xs.length (fun H => SqT K H a xs) (YPair (fun i => some (.int (i : Nat))) (fun i => xs[i]?)) := by
  refine ⟨fun i _ hi q => ⟨xs, xs[i], q, by simp [hi]⟩, fun _ q => ⟨xs, q, Nat.le_refl _⟩, fun i H v H' _ q y => ?_⟩
  obtain ⟨T, x, h1, h2, h3, h4⟩ := y
  exact ⟨T, .int (i : Nat), x, h1, h2, h3, rfl, h4 xs q⟩
end NL
/-! R2: the reversed slice of a tuple -/
namespace NL
open PySem PySem.Spec PyProof.Rows L2 HT
section
variable {prog : Program} {w : World} {A : Around} {E : Value → Shared → Prop} {s : Shared}
theorem fm_congr {α β : Type} {f g : α → Option β} : ∀ {l : List α}, (∀ x ∈ l, f x = g x) → l.filterMap f = l.filterMap g
  | [], _ => rfl
  | a :: r, h => by
    rw [List.filterMap_cons, List.filterMap_cons, h a (List.mem_cons_self ..), fm_congr fun x hx => h x (List.mem_cons_of_mem _ hx)]
theorem adj_rev (n : Nat) : Builtin.Slice.sliceAdjust none none (-1) (n : Int) = ((n : Int) - 1, -1) := by
  unfold Builtin.Slice.sliceAdjust
  have h : (-1 : Int) < 0 := by decide
  simp only [h, if_true]
theorem pl_rev (n : Nat) : Builtin.Slice.slicePlaces ((n : Int) - 1) (-1) (-1) = n := by
  unfold Builtin.Slice.slicePlaces
  have h1 : ¬ ((-1 : Int) > 0) := by decide
  have h2 : (- -1 : Int) = 1 := by decide
  simp only [h1, if_false, h2, Int.ediv_one]
  split <;> omega
theorem pk_rev (xs : Array Value) : ((List.range xs.size).filterMap fun (k : Nat) => xs[(((xs.size : Int) - 1) + (k : Int) * (-1)).toNat]?).toArray = xs.toList.reverse.toArray := by
  have e : (List.range xs.size).filterMap (fun (k : Nat) => xs[(((xs.size : Int) - 1) + (k : Int) * (-1)).toNat]?) = ((List.range xs.size).map fun k => xs.size - 1 - k).filterMap (xs[·]?) := by
    rw [List.filterMap_map]
    refine fm_congr fun k hk => ?_
    have := List.mem_range.mp hk
    have q : (((xs.size : Int) - 1) + (k : Int) * (-1)).toNat = xs.size - 1 - k := by omega
    rw [q]
    rfl
  rw [e, PySem.W.krv_range, List.filterMap_reverse, PySem.W.krv_all]
theorem getItem_tuple_rev {t sl : Addr} {items : Array Value} {vl vu vs : Value} {Q : Value → Shared → Prop} (ht : IsTup s.heap t items) (hs : s.heap.IsSliceOf sl vl vu vs) (pl : IsPart vl none) (pu : IsPart vu none) (ps : IsPart vs (some (-1)))
    (h : Q (.ref s.heap.objs.size) { s with heap := s.heap.push { cls := .type "tuple", data := .seq items.toList.reverse.toArray } })
    (hsz : items.size ≤ sizeLine) : wpAny (model prog w) A (getItem (.ref t) (.ref sl)) Q E s := by
  have htake : sizeOk (.seq items.toList.reverse.toArray) := by
    show items.toList.reverse.toArray.size ≤ sizeLine
    rw [List.size_toArray, List.length_reverse, Array.length_toList]
    exact hsz
  obtain ⟨os, hos, hcs, hds⟩ := id hs
  have hTs : s.TypeIs (.ref sl) "slice" := ⟨os, hos, hcs⟩
  unfold getItem
  try with_reducible refine wpAny_holding ?_
  first | refine wpAny_bind (wpAny_pure ?_) | skip
  refine wpAny_bind (wpAny_sequenceKey ht.typeIs (by decide) ?_)
  refine wpAny_bind (wpAny_callSpecial?_slot (name := Str.ofString "__getitem__") ht.typeIs PyProof.Rows.slot_tuple_getitem
    (wpAny_call_entry PyProof.Rows.slot_tuple_getitem ht.typeIs entry_tuple_getitem ?_ (args_tuple_getitem _ _)))
  show wpAny _ _ (Builtin.Tuple.tupleItemsOf (.ref t) >>= _) _ _ s
  refine wpAny_bind (tupleItemsOf_ ht ?_)
  refine wpAny_bind (wpAny_typeOf hTs ?_)
  rw [if_pos (by decide)]
  refine wpAny_bind ?_
  · unfold Builtin.Slice.sliceApplied Builtin.Slice.sliceFields
    refine wpAny_bind (wpAny_bind (wpAny_field hos hds (x := vl) rfl (wpAny_bind (wpAny_field hos hds (x := vu) rfl (wpAny_bind (wpAny_field hos hds (x := vs) rfl (wpAny_pure ?_)))))))
    refine wpAny_bind (slicePart_ ps ?_)
    show wpAny _ _ (if ((-1 : Int) == 0) = true then _ else _) _ _ s
    rw [if_neg (by decide)]
    refine wpAny_bind (slicePart_ pl (wpAny_bind (slicePart_ pu (wpAny_bind (wpAny_pure ?_)))))
    show wpAny _ _ (match Builtin.Slice.sliceAdjust none none (-1) (items.size : Int) with | (lo, hi) => pure (lo, (-1 : Int), Builtin.Slice.slicePlaces lo hi (-1))) _ _ s
    rw [adj_rev]
    show wpAny _ _ (pure (((items.size : Int) - 1), (-1 : Int), Builtin.Slice.slicePlaces ((items.size : Int) - 1) (-1) (-1))) _ _ s
    rw [pl_rev]
    refine wpAny_pure ?_
    have hno : ¬ ((((items.size : Int) - 1) == 0 && (-1 : Int) == 1 && items.size == items.size) = true) := by
      intro q
      rw [Bool.and_eq_true, Bool.and_eq_true] at q
      have q1 : (-1 : Int) = 1 := eq_of_beq q.1.2
      omega
    show wpAny _ _ (if (((items.size : Int) - 1) == 0 && (-1 : Int) == 1 && items.size == items.size) = true then _ else _) _ _ s
    rw [if_neg hno, pk_rev]
    first
      | exact wpAny_bind (m := Builtin.Tuple.tupleExact _) (wpAny_newObj_type (wpAny_pure ⟨_, rfl, wpAny_pure h⟩) htake)
      | exact wpAny_bind (m := Builtin.Tuple.tupleExact _) (wpAny_newObj_type (wpAny_bind (wpAny_pure (wpAny_pure ⟨_, rfl, wpAny_pure h⟩))) htake)
      | exact wpAny_bind (wpAny_bind (m := Builtin.Tuple.tupleExact _) (wpAny_newObj_type (wpAny_pure (wpAny_pure ⟨_, rfl, wpAny_pure h⟩)) htake))
      | exact wpAny_bind (wpAny_bind (m := Builtin.Tuple.tupleExact _) (wpAny_newObj_type (wpAny_pure ⟨_, rfl, wpAny_pure h⟩) htake))
end
def tRevT (K : PySem.W.Frag) (te : TE) : TE := fun σ H Q => te σ H fun x H1 => ∃ a xs, x = .ref a ∧ SqT K H1 a xs ∧ ∀ p, H1 p = none → Q (.ref p) (upd H1 p (.tup xs.reverse))
theorem vals_rev {xs : List V} {us : List Value} (r : Vals xs us) : Vals xs.reverse us.reverse := by
  induction r with
  | nil => exact .nil
  | cons r t ih =>
    rw [List.reverse_cons, List.reverse_cons]
    exact ih.append (.cons r .nil)
theorem pe_revT {X : Cx} {e : Expr} {te : TE} {k : Nat} {p1 p2 p3 pos : Pos} (he : PE X e te) : PE X (.Subscript e (.Slice none none (some (.UnaryOp .USub (.Constant (.int 1) k p1) p2)) p3) pos) (tRevT X.K te) := by
  refine ⟨fun pins s σ H Q I h => ?_⟩
  refine Subscript_ (thn (he.run pins s σ H _ I h) fun v s1 ⟨x, H1, I1, r1, q1⟩ => ?_)
  obtain ⟨a, xs, ex, hx, q⟩ := q1
  subst ex
  cases r1
  have hst : PO X (some (.UnaryOp .USub (.Constant (.int 1) k p1) p2)) (tPart (tUn (rU fun i => .int (-i)) (tC (.int 1)))) := po_some (pe_un un_neg pe_int)
  refine wpAny_Slice (thn (po_none.run pins s1 σ H1 (fun o H2 => o = none ∧ H2 = H1) I1 ⟨rfl, rfl⟩) fun vl s2 ⟨l, H2, I2, pl, el, e2⟩ => ?_)
  subst el e2
  refine thn (po_none.run pins s2 σ H2 (fun o H3 => o = none ∧ H3 = H2) I2 ⟨rfl, rfl⟩) fun vu s3 ⟨u, H3, I3, pu, eu, e3⟩ => ?_
  subst eu e3
  refine thn (hst.run pins s3 σ H3 (fun o H4 => o = some (-1) ∧ H4 = H3) I3 ⟨1, rfl, -1, rfl, rfl, rfl⟩) fun vs s4 ⟨o, H4, I4, ps, eo, e4⟩ => ?_
  subst eo e4
  have I5 : Inv X pins σ H4 { s4 with heap := s4.heap.push { cls := .type "slice", data := .fields #[vl, vu, vs] } } := I4.kept (t' := s4.toks) fun b ob q => Heap.get?_push_of_some _ q
  obtain ⟨its, r, ht, hz⟩ := I5.tuple hx
  have hlen := r.length
  show wpAny (model X.prog X.w) X.A (subscriptTail e (.Slice none none (some (.UnaryOp .USub (.Constant (.int 1) k p1) p2)) p3) (.ref a) (.ref s4.heap.objs.size)) (EP X pins σ Q) X.xe { s4 with heap := s4.heap.push { cls := .type "slice", data := .fields #[vl, vu, vs] } }
  refine tail_any (ops := [.ref a, .ref s4.heap.objs.size]) ht.typeIs (PyProof.Rows.slot_tuple_getitem.lookup) ?_ (by with_unfolding_all rfl)
  refine getItem_tuple_rev ht (Heap.IsSliceOf.new _ vl vu vs) pl pu ps ?_ (by rw [List.size_toArray]; omega)
  refine ⟨.ref _, _, I5.laid (t' := s4.toks) (o := .tup xs.reverse) (fun b ob q => Heap.get?_push_of_some _ q) (Nat.le_refl _) ?_, rfl, q _ (I5.hok.fresh (Nat.le_refl _))⟩
  exact ⟨by rw [List.length_reverse]; exact hz, _, vals_rev r, IsTup.new _ _⟩
end NL
/-! R3: sum and max of tuples of whole numbers; text times number -/
namespace NL
open PySem PySem.Spec PyProof.Rows L2
section
variable {X : Cx}
def rSumT (K : PySem.W.Frag) : List V → Hp → VK → Prop := fun vs H Q => ∃ (a : Addr) (ns : List Int), vs = [V.ref a] ∧ SqT K H a (ns.map V.int) ∧ Q (.int ns.sum) H
theorem cr_sumT (hc : X.calm = true) : CallR X (.builtin "sum") (rSumT X.K) := by
  intro pins s σ H vs us Q I r h
  obtain ⟨a, ns, rfl, hs, q⟩ := h
  obtain ⟨its, rv, hl, _⟩ := I.tuple hs
  rw [Vals.ref1 r]
  have hi : IntsAre its ns := rv.ints
  have hl' : s.heap.IsTuple a its.toArray := hl
  obtain ⟨xs, hx⟩ := hi.allInts.items
  have hn : numsOf its.toArray.toList = ns := by
    rw [show its.toArray.toList = its from rfl]
    exact hi.numsOf
  rw [hx] at hl' hn
  rw [nums_intItems] at hn
  refine PySem.W.ktm_sumG (I.ok.hd hc) hl' fun h' tk t' hk => ?_
  refine ⟨.int ns.sum, H, I.kept hk, ⟨t', ?_⟩, q⟩
  rw [preSum_eq, List.take_of_length_le (by simp), hn]
def rMaxT (K : PySem.W.Frag) : List V → Hp → VK → Prop := fun vs H Q => ∃ (a : Addr) (n : Int) (ns : List Int), vs = [V.ref a] ∧ SqT K H a ((n :: ns).map V.int) ∧ Q (.int (PySem.W.maxOf n ns)) H
theorem holdAll_ints {h : Heap} : ∀ {ns : List Int} {us : List Value}, Vals (ns.map V.int) us → PySem.W.HoldAll h us ns
  | [], us, r => by
    cases r
    exact PySem.W.HoldAll.nil
  | n :: ns, us, r => by
    rw [List.map_cons] at r
    cases r with
    | cons r t =>
      obtain ⟨tk, rfl⟩ := r
      exact PySem.W.HoldAll.cons (PySem.W.holds_int n tk) (holdAll_ints t)
theorem cr_maxT (hc : X.calm = true) (hu : X.A.units + 64 < cLine) : CallR X (.builtin "max") (rMaxT X.K) := by
  intro pins s σ H vs us Q I r h
  obtain ⟨a, n, ns, rfl, hs, q⟩ := h
  obtain ⟨its, rv, hl, _⟩ := I.tuple hs
  rw [Vals.ref1 r]
  refine PySem.W.max_tuple_datum (x := n) (xs := ns) (I.ok.hd hc) hl (holdAll_ints rv) (by show X.A.units + 1 + 0 < cLine; omega) fun i v h' tk hv hH hk => ?_
  obtain ⟨as, rd⟩ := hH
  have : ∃ t, v = Value.int (PySem.W.maxOf n ns) t := by
    cases rd
    exact ⟨_, rfl⟩
  obtain ⟨t, rfl⟩ := this
  exact ⟨.int _, H, I.kept hk, ⟨t, rfl⟩, q⟩
end
end NL
/-! R4: sorted of a list or tuple of pairs (number, tuple of numbers) -/
namespace NL
open PySem PySem.Spec PyProof.Rows L2
def encP (q : Int × List Int) : PyData := .tuple [.int q.1, .tuple (q.2.map .int)]
theorem alike_encP (p q : Int × List Int) : PySem.W.alike (encP p) (encP q) = true := by
  unfold encP
  simp only [PySem.W.alike, PySem.W.alikeAll, Bool.true_and, Bool.and_true]
  exact PySem.W.alike_ints _ _
theorem lt_encP {p q : Int × List Int} (h : p.1 < q.1) : PySem.W.dataLt (encP p) (encP q) = true := by
  unfold encP
  rw [PySem.W.dataLt_pair (by simp [PySem.W.alike]) (by simp only [PySem.W.alike]; exact PySem.W.alike_ints _ _), PySem.W.dataLt_int]
  have e : ¬ (PyData.eqv (.int p.1) (.int q.1) = true) := by
    simp only [PyData.eqv, beq_iff_eq]
    omega
  rw [if_neg e]
  exact decide_eq_true h
theorem each_of_vals {α : Type} {f : α → V} : ∀ {bs : List α} {us : List Value}, Vals (bs.map f) us → PySem.W.EachIs (fun v b => RelV (f b) v) us bs
  | [], us, r => by
    cases r
    exact .nil
  | b :: bs, us, r => by
    rw [List.map_cons] at r
    cases r with
    | cons r t => exact .cons r (each_of_vals t)
theorem vals_of_each {α : Type} {f : α → V} : ∀ {us : List Value} {bs : List α}, PySem.W.EachIs (fun v b => RelV (f b) v) us bs → Vals (bs.map f) us
  | _, _, .nil => .nil
  | _, _, .cons r t => .cons r (vals_of_each t)
theorem each_reads {X : Cx} {pins : List (Addr × Obj)} {σ : L2.St} {H : Hp} {s : Shared} (I : Inv X pins σ H s) {h : Heap} (k : ∀ b o, s.heap.get? b = some o → h.get? b = some o) {bs : List (V × Int × List Int)} {us : List Value} (hd : ∀ b ∈ bs, Dp X.K H b.1 (encP b.2)) (q : PySem.W.EachIs (fun v (b : V × Int × List Int) => RelV b.1 v) us bs) :
    PySem.W.EachIs (fun v (b : V × Int × List Int) => ∃ as, Reads h v (encP b.2) as) us bs := by
  induction q with
  | nil => exact .nil
  | cons r t ih =>
    refine .cons ?_ (ih fun c hc => hd c (List.mem_cons_of_mem _ hc))
    obtain ⟨as, q⟩ := Dp.reads I (encP _) _ _ (hd _ (List.mem_cons_self ..)) r
    exact ⟨as, PyProof.Rows.Reads.keeps k q⟩
def rSortedM (K : PySem.W.Frag) : List V → Hp → VK → Prop := fun vs H Q => ∃ (a : Addr) (bs : List (V × Int × List Int)), vs = [V.ref a] ∧ (SqL K H a (bs.map (·.1)) ∨ SqT K H a (bs.map (·.1))) ∧ (∀ b ∈ bs, Dp K H b.1 (encP b.2)) ∧ bs.length ≤ 1000 ∧
  ∀ (cs : List (V × Int × List Int)) (p : Addr), cs.Perm bs → cs.Pairwise (fun x y => x.2.1 ≤ y.2.1) → H p = none → Q (.ref p) (upd H p (.lst (cs.map (·.1))))
section
variable {X : Cx}
theorem cr_sortedM (hu : X.A.units + 64 < cLine) : CallR X (.builtin "sorted") (rSortedM X.K) := by
  intro pins s σ H vs us Q I r h
  obtain ⟨a, bs, rfl, hs, hd, hlen, q⟩ := h
  rw [Vals.ref1 r]
  have hseq : ∃ (its : List Value) (T : String) (o : Obj) (n : Nat), (T = "list" ∨ T = "tuple") ∧ s.heap.get? a = some o ∧ o.cls = .type T ∧ o.data = .seq its.toArray n ∧ Vals (bs.map (·.1)) its := by
    rcases hs with h1 | h1
    · obtain ⟨its, rv, hl, _⟩ := I.list h1
      obtain ⟨o, n, e1, e2, _, e3⟩ := id hl
      exact ⟨its, "list", o, n, .inl rfl, e1, e2, e3, rv⟩
    · obtain ⟨its, rv, hl, _⟩ := I.tuple h1
      obtain ⟨o, e1, e2, n, e3⟩ := id hl
      exact ⟨its, "tuple", o, n, .inr rfl, e1, e2, e3, rv⟩
  obtain ⟨its, T, o, n, hT, ho, hc, hdt, rv⟩ := hseq
  have hil : its.length = bs.length := by
    have e := rv.length
    rw [List.length_map] at e
    exact e.symm
  have h16 : its.length ≤ sizeLine := by rw [sizeLine_eq]; omega
  refine Calls.call_function_entry PyProof.Rows.kind_sorted PyProof.Rows.plain_sorted PyProof.Rows.entry_sorted (PyProof.Rows.args_sorted1 _) ?_
  unfold Builtin.«sorted»
  refine wpAny_bind (m := checkCount "sorted" 1 1 _) (wpAny_pure ?_)
  refine wpAny_bind (wpAny_collect_seq a hT ho hc hdt (fun h' hk => ?_) (by rw [List.size_toArray]; exact h16))
  have I1 : Inv X pins σ H { s with heap := h' } := I.kept (t' := s.toks) hk
  refine wpAny_bind (wpAny_newList ?_ (by exact h16))
  have hoL : (h'.push (seqObj "list" its.toArray 0)).get? h'.objs.size = some (seqObj "list" its.toArray 0) := Heap.get?_push_size _ rfl
  show wpAny _ _ _ _ _ { s with heap := h'.push (seqObj "list" its.toArray 0) }
  have kS : ∀ b o, s.heap.get? b = some o → (PySem.W.sortingHeap (h'.push (seqObj "list" its.toArray 0)) h'.objs.size its).get? b = some o := fun b o e =>
    PySem.W.sortingHeap_old (Nat.ne_of_lt (Heap.lt_size (hk b o e))) (Heap.get?_push_of_some _ (hk b o e))
  have e1 : PySem.W.EachIs (fun v (b : V × Int × List Int) => RelV b.1 v) its bs := each_of_vals rv
  have er := each_reads I kS hd e1
  have hal : PySem.W.AllAlike (bs.map fun b => encP b.2) := PySem.W.AllAlike.of fun b b' => alike_encP b.2 b'.2
  have hk2 : PySem.W.Sortable (bs.map fun b => encP b.2) := PySem.W.Sortable.tuples fun b => ⟨_, _, rfl⟩
  have hdep : ∀ b, b ∈ bs → X.A.units + 2 + (encP b.2).depth < cLine := fun b _ => by
    have : (encP b.2).depth ≤ 2 := by
      unfold encP
      simp only [PyData.depth, PyData.depthAll, PySem.W.depth_ints]
      decide
    omega
  refine wpAny_bind (wpAny_holding (wpAny_call_entry PyProof.Rows.slot_list_sort ⟨_, hoL, rfl⟩ PyProof.Rows.entry_list_sort
    (PySem.W.list_sort_vals (κ := PySem.W.dataKind (PySem.W.sortingHeap (h'.push (seqObj "list" its.toArray 0)) h'.objs.size its) (bs.map fun b => encP b.2)) (s := { s with heap := h'.push (seqObj "list" its.toArray 0) }) hoL
      (PySem.W.SortsAt.data (s := { s with heap := PySem.W.sortingHeap (h'.push (seqObj "list" its.toArray 0)) h'.objs.size its }) (PySem.W.each_map (R := fun v d => ∃ as, Reads (PySem.W.sortingHeap (h'.push (seqObj "list" its.toArray 0)) h'.objs.size its) v d as) (fun b : V × Int × List Int => encP b.2) er) hal hk2 (PySem.W.bound_map hdep)) h16 ⟨.none, rfl, ?_⟩)
    (PyProof.Rows.args_list_sort _)))
  obtain ⟨ep, he'⟩ := PyProof.Rows.sortedHeap_at (vs := its) (out := (PySem.W.sortVals (PySem.W.dataKind (PySem.W.sortingHeap (h'.push (seqObj "list" its.toArray 0)) h'.objs.size its) (bs.map fun b => encP b.2)) false its its).toArray) hoL
  have eo := PySem.W.sortVals_data (h' := PySem.W.sortingHeap (h'.push (seqObj "list" its.toArray 0)) h'.objs.size its) (enc := fun b : V × Int × List Int => encP b.2) false e1 er hal
  have rvo := vals_of_each (f := fun b : V × Int × List Int => b.1) eo
  have hperm : (bs.mergeSort (PySem.W.dataLe false fun b : V × Int × List Int => encP b.2)).Perm bs := List.mergeSort_perm ..
  have hclen : ((bs.mergeSort (PySem.W.dataLe false fun b : V × Int × List Int => encP b.2)).map (·.1)).length ≤ sizeLine := by
    rw [List.length_map, hperm.length_eq, ← hil]
    exact h16
  have hpw : (bs.mergeSort (PySem.W.dataLe false fun b : V × Int × List Int => encP b.2)).Pairwise (fun x y => x.2.1 ≤ y.2.1) := by
    refine (PySem.W.sort_pairwise (PySem.W.sortLe_total _ false _) bs).imp fun {x y} hxy => ?_
    replace hxy : PySem.W.dataLe false (fun b : V × Int × List Int => encP b.2) x y = true := hxy
    rw [PySem.W.dataLe_eq] at hxy
    refine Int.not_lt.mp fun hlt => ?_
    have z := lt_encP hlt
    replace hxy : (!PySem.W.dataLt (encP y.2) (encP x.2)) = true := hxy
    rw [z] at hxy
    cases hxy
  refine wpAny_pure ⟨_, rfl, .ref h'.objs.size, upd H h'.objs.size (.lst ((bs.mergeSort (PySem.W.dataLe false fun b : V × Int × List Int => encP b.2)).map (·.1))), I1.laid (t' := s.toks) (fun b u e => ?_) (Nat.le_refl _)
    (show ObjOk X.prog X.w _ _ _ (.lst ((bs.mergeSort (PySem.W.dataLe false fun b : V × Int × List Int => encP b.2)).map (·.1))) from ⟨hclen, _, ep, rvo, he'⟩), rfl, q _ _ hperm hpw (I1.hok.fresh (Nat.le_refl _))⟩
  have hb : b < h'.objs.size := Heap.lt_size e
  rw [PyProof.Rows.sortedHeap_old (Nat.ne_of_lt hb) (by rw [size_push']; exact Nat.lt_succ_of_lt hb)]
  exact Heap.get?_push_of_some _ e
end
end NL
/-! R5: exceptions: a base class's __init__ by an own name; own exceptions over RuntimeError -/
namespace NL
open PySem PySem.Spec PyProof.Rows L2
section
variable {X : Cx} {e : Expr} {es : List Expr} {ta : TA} {x : Str} {p1 p2 pos : Pos} {pl : Sem Bool}
/-- C0.__init__(self, ..), C0 an own class over ValueError without an own __init__ -/
theorem pe_ninit {C0 : Addr} (hm : X.mg x = some (.ref C0)) (gA : PySem.W.specialIn X.K (.ref C0) "__getattribute__" = some (some (.builtin "type.__getattribute__"))) (hrd : PySem.W.readsIn X.K C0 (.type "type") = true)
    (vV : PySem.W.findCls X.K (.ref C0) (.type "type") "__init__" = some (.val (.builtin "ValueError.__init__"))) (ha : PA X (e :: es) ta) (hg : Gl X x := by rfl) (hdb : (x == ("__debug__" : Str)) = false := by decide)
    (hc : eval (((Expr.Name x p1).Attribute "__init__" p2).Call (e :: es) [] pos) X.env = (do
      let ov ← eval (Expr.Name x p1) X.env
      standAt p2.atName
      match ← holding [ov] (getMethod ov "__init__" pl) with
      | (f, first) => callWith pos f first (backTo pos (starEach (e :: es) X.env)) (backToKw pos (keywordEach [] X.env))) := by rfl)
    (he : starEach (e :: es) X.env = (false, eval e X.env) :: starEach es X.env := by rfl) (hpl : (backTo pos (starEach es X.env)).any (·.1) = false := by rfl) :
    PE X (.Call (.Attribute (.Name x p1) "__init__" p2) (e :: es) [] pos) (tVeI X.K ta) := by
  refine ⟨fun pins s σ H Q I h => ?_⟩
  refine PySem.W.methodCall_KW (ld_glob I hg hm ?_ hdb) hc
  refine PySem.W.method_cls I.kIn gA (PySem.W.cls_value I.kIn hrd vV rfl ?_)
  refine callWith_method1 (thn (ha.run pos pins _ σ H _ (I.tok (s.toks + 1)) h) fun us s1 hh => ?_) he hpl
  obtain ⟨vs, H1, I1, r1, a, C, ws, ev, hl, T, ea, q⟩ := hh
  subst ev
  cases r1 with
  | cons ra rw' =>
    cases ra
    refine oinit_ok T I1 ea ?_ fun s' J => ⟨.non, H1, J, rfl, q⟩
    rw [← Vals.length rw', sizeLine_eq]
    omega
end
/-! own exceptions over RuntimeError -/
def reTail : List Value := [.type "RuntimeError", .type "Exception", .type "BaseException", .type "object"]
structure OexR (K : PySem.W.Frag) (C : Addr) : Prop where
  cls : ∃ nm q N bs sn sub ab col dd k0 k1 k2 k3 k5, K.lookup C = some (excClassObj nm q C N bs reTail true sn sub ab col dd k0 k1 k2 k3 k5 "RuntimeError.__new__")
  sa : PySem.W.findIn K (.ref C) "__setattr__" = some (some (.builtin "object.__setattr__"))
  exC : PySem.W.subIn K (.ref C) (.type "BaseException") = some true
  tyC : PySem.W.typeIn K (.ref C) = some (.type "type")
  kC : PySem.W.keepIn K (.ref C) = true
theorem re_pass (self : Value) (C : Addr) : refuseLoop self "__setattr__" (.ref C :: reTail) = pure () := by
  rw [refuseLoop_ref]
  rfl
section
variable {prog : Program} {w : World} {A : Around} {R : Result → Shared → Prop} {hp : Heap} {g : Array GenState} {d : Drawn} {t : Nat} {os : OsState} {K : PySem.W.Frag} {name : Str} {tk : Tok} {v : Value} {x C : Addr} {fv : Array Value}
theorem re_osa {nm qn : Str} {bs : List Value} {ns : Addr} {sn : List Str} {sb : List Value} {ab : Bool} {col : Option Bool} (X : K.In hp) (hx : hp.get? x = some { cls := .ref C, data := .fields fv })
    (hcd : PySem.W.clsIn K C = some { name := nm, bases := bs, mro := .ref C :: reTail, ns := ns, qualname := qn, hasDict := true, slotNames := sn, subclasses := sb, abstract := ab, collection := col, hasDel := false })
    (ha : PySem.W.findIn K (.ref C) name = some none)
    (hq : ∀ (h' : Heap) (tk' dx : Nat), (∀ (b : Addr) (o : Obj), b ≠ x → hp.get? b = some o → h'.get? b = some o) → hp.objs.size ≤ dx → dx ≠ x → h'.get? x = some { cls := .ref C, dict := some dx, data := .fields fv } →
      (h'.Ns1 dx fun y => if y = name then some v else none) → R (.ok (.ret .none)) { heap := h', gens := g, drawn := d, toks := tk', os := os }) :
    codeAny (model prog w) A (.call (.builtin "object.__setattr__") ⟨[.ref x, .str name tk, v], []⟩) R { heap := hp, gens := g, drawn := d, toks := t, os := os } := by
  have I : PySem.W.InstAt hp x { cls := .ref C, data := .fields fv } C none := ⟨hx, rfl, rfl, trivial⟩
  have SF := F.store_object
  have hxs : x ≠ hp.objs.size := Nat.ne_of_lt (Heap.lt_size hx)
  have sub : PySem.W.Looks (model prog w) hp (isInstance (.ref x) (.type "object")) true := by
    refine PySem.W.Looks.andThen I.type (PySem.W.looks_mroIn X ?_)
    show (PySem.W.clsIn K C).bind _ = _
    rw [hcd]
    rfl
  refine codeAny_call_builtin SF.slot.plain SF.entry ?_
  refine PySem.W.check_slot (M := model prog w) (i := "object.__setattr__") (owner := "object") (n := "__setattr__") (self := .ref x) (rest := [.str name tk, v]) (kw := []) SF.kind SF.split sub (SF.args (.ref x) (.str name tk) v) ?_
  show wpAny (model prog w) A.in1 (Builtin.«object.__setattr__» ⟨[.ref x, .str name tk, v], []⟩) _ _ { heap := hp, gens := g, drawn := d, toks := t, os := os }
  have hmr : PySem.W.Looks (model prog w) hp (mroOf (.ref C)) (.ref C :: reTail) := PySem.W.Looks.andThen (PySem.W.looks_clsIn X hcd) PySem.W.Looks.now
  have hcls := PySem.W.looks_clsIn (M := model prog w) X hcd
  rw [PySem.W.osa_eq, refuse_eq]
  refine wpAny_bind (wpAny_bind (PySem.W.Looks.at I.type (wpAny_bind (PySem.W.Looks.at hmr ?_))))
  rw [re_pass]
  refine wpAny_pure (wpAny_bind (PySem.W.Looks.at I.type (wpAny_bind (PySem.W.Looks.at (PySem.W.looks_findIn X ha) (wpAny_bind (PySem.W.Looks.at PySem.W.Looks.now ?_))))))
  show wpAny _ _ (Builtin.ObjectAttr.storeInOwnDict (.ref x) (.ref C) (.str name tk) name v false) _ _ _
  unfold Builtin.ObjectAttr.storeInOwnDict
  refine wpAny_bind (wpAny_pure (wpAny_ite_false rfl (wpAny_bind ?_)))
  refine wpAny_bind (wpAny_loadPart_at hx (wpAny_bind (PySem.W.Looks.at hcls (wpAny_ite_false rfl (wpAny_ite_false rfl ?_)))))
  refine wpAny_bind (wpAny_alloc' (wpAny_bind (wpAny_update' (Heap.get?_push_of_some _ hx) ?_)))
  refine wpAny_pure ?_
  refine HandSPX.store_in_new ⟨{ cls := .type "dict", data := .dict #[] }, #[], 0, (Heap.get?_update_ne _ _ _ _ (Ne.symm hxs)).trans (Heap.get?_push_at rfl rfl), rfl, fun e he => absurd he (by simp), fun _ => rfl⟩ fun h' tk' hn' hs => ?_
  refine hq h' tk' hp.objs.size (fun b o hb ho => ?_) (Nat.le_refl _) (Ne.symm hxs) ?_ hn'
  · exact (hs.right b (Nat.ne_of_lt (Heap.lt_size ho))).trans ((Heap.get?_update_ne _ _ _ _ hb).trans (Heap.get?_push_of_some _ ho))
  · exact (hs.right x hxs).trans (Heap.get?_update_self _ (Heap.get?_push_of_some _ hx) rfl)
end
section
variable {X : Cx} {pins : List (Addr × Obj)} {σ : L2.St} {H : Hp} {s : Shared} {a C : Addr} {f : Str} {y : V} {u : Value}
theorem OexR.clsD {K : PySem.W.Frag} (T : OexR K C) : ∃ nm q N bs sn sub ab col, PySem.W.clsIn K C = some { name := nm, bases := bs, mro := .ref C :: reTail, ns := N, qualname := q, hasDict := true, slotNames := sn, subclasses := sub, abstract := ab, collection := col, hasDel := false } := by
  obtain ⟨nm, q, N, bs, sn, sub, ab, col, dd, k0, k1, k2, k3, k5, hC⟩ := T.cls
  refine ⟨nm, q, N, bs, sn, sub, ab, col, ?_⟩
  unfold PySem.W.clsIn
  rw [hC]
theorem re_new {Q : Unit → Shared → Prop} {E : Value → Shared → Prop} {A : Around} (T : OexR X.K C) (I : Inv X pins σ H s) (e : H a = some (exo a C none)) (hno : PySem.W.findIn X.K (.ref C) f = some none) (ry : RelV y u)
    (h : ∀ (dx : Addr) (s' : Shared), H dx = none → dx ≠ a → Inv X pins σ (upd (upd H dx (exd dx [(f, y)])) a (exo a C (some dx))) s' → Q () s') :
    wpAny (model X.prog X.w) A (setAttr (.ref a) f u) Q E s := by
  obtain ⟨nm, q, N, bs, sn, sub, ab, col, hcl⟩ := T.clsD
  obtain ⟨t1, ho⟩ := exo_at I.hok e
  obtain ⟨hp, g, d, t, os⟩ := s
  refine PySem.W.set_plain I.kIn (show PySem.W.InstAt hp a _ C none from ⟨ho, rfl, rfl, trivial⟩) T.sa (re_osa I.kIn ho hcl hno fun h' tk' dx k dn dne hx hn => ?_)
  have hnd : H dx = none := I.hok.fresh dn
  have nd : ∀ {b : Addr} {o : Obj}, hp.get? b = some o → b ≠ dx := fun q => Nat.ne_of_lt (Nat.lt_of_lt_of_le (Heap.lt_size q) dn)
  have na : ∀ {b : Addr}, H b = none → b ≠ a := fun n z => by
    rw [z, e] at n
    cases n
  have U1 : Un X.fs [] H (upd (upd H dx (exd dx [(f, y)])) a (exo a C (some dx))) hp h' :=
    { keep := fun b o q n _ _ => k b o (na n) q
      slot := fun b o q n _ _ => ⟨o.slots, k b o (na n) q⟩
      free := fun b o q n _ => by rw [upd_ne (na n), upd_ne (nd q)]; exact n
      there := fun b o q _ => by
        by_cases hb : b = a
        · rw [hb]; exact ⟨_, hx⟩
        · exact ⟨o, k b o hb q⟩
      tups := fun b xs q => by rw [upd_ne (at_ne e q exo_tup), upd_ne (ne_of_none q hnd)]; exact q
      frzs := fun b o v q => by rw [upd_ne (at_ne e q exo_frz), upd_ne (ne_of_none q hnd)]; exact q
      tbls := fun b ps q => ⟨#[], by rw [upd_ne (at_ne e q exo_tbl), upd_ne (ne_of_none q hnd), q]; simp⟩ }
  refine h dx _ hnd dne (Inv.un (t' := tk') I U1 fun b o q => ?_)
  by_cases hb : b = a
  · subst hb
    rw [upd_same] at q
    cases q
    exact exo_ok hx
  · rw [upd_ne hb] at q
    by_cases hd : b = dx
    · subst hd
      rw [upd_same] at q
      cases q
      exact exd_ok hn (relO_put ry fun g => trivial)
    · rw [upd_ne hd] at q
      refine ObjOk.stay (I.hok b o q) (fun c v hc z => k c v (hc.elim (fun hc => by rw [hc]; exact hb) fun hc => at_ne e hc exo_own) z)
        (fun c hc => by rw [upd_ne (at_ne e hc exo_own), upd_ne (ne_of_none hc hnd)]; exact hc) (fun c xs hc => by rw [upd_ne (at_ne e hc exo_tup), upd_ne (ne_of_none hc hnd)]; exact hc)
theorem re_init {us : List Value} {Q : Value → Shared → Prop} {E : Value → Shared → Prop} {A : Around} (T : OexR X.K C) (I : Inv X pins σ H s) (e : H a = some (exo a C none)) (hl : us.length ≤ sizeLine)
    (h : ∀ s' : Shared, Inv X pins σ H s' → Q .none s') : wpAny (model X.prog X.w) A (call (.builtin "RuntimeError.__init__") (.ref a :: us)) Q E s := by
  obtain ⟨nm, q, N, bs, sn, sub, ab, col, dd, k0, k1, k2, k3, k5, hC⟩ := T.cls
  obtain ⟨t1, ho⟩ := exo_at I.hok e
  obtain ⟨hp, g, d, t, os⟩ := s
  have hC' : hp.get? C = some (excClassObj nm q C N bs reTail true sn sub ab col dd k0 k1 k2 k3 k5 "RuntimeError.__new__") := I.kIn C _ hC
  have fb := F.excBase_RuntimeError
  have hco : ∀ Y : String, reTail.contains (.type Y) = ([.type "RuntimeError", .type "Exception", .type "BaseException", .type "object"] : List Value).contains (.type Y) := fun Y => rfl
  refine wpAny_call ?_
  refine HandSPX.init_base fb hco hC' ho hl fun h' t2 k hx => ?_
  have J := Inv.write (t' := t) I (show Mut (H a) by rw [e]; trivial) (.inl rfl) k ⟨HandSPX.excO C t2, hx⟩ (exo_ok hx)
  have eu : upd H a (exo a C none) = H := by
    funext b
    by_cases hb : b = a
    · rw [hb, upd_same, e]
    · rw [upd_ne hb]
  rw [eu] at J
  exact h _ J
end
section
variable {X : Cx} {e o : Expr} {es : List Expr} {ta : TA} {to te : TE} {x f : Str} {p1 p2 p p' pos : Pos} {pl : Sem Bool} {C fI : Addr}
/-- RuntimeError.__init__(self, ..) -/
theorem typ_RE : typeOf (Value.type "RuntimeError") = pure (Value.type "type") := by rfl
def tReI (K : PySem.W.Frag) (ta : TA) : TE := fun σ H Q => ta σ H fun vs H1 => ∃ (a C : Addr) (ws : List V), vs = .ref a :: ws ∧ ws.length ≤ 1000 ∧ OexR K C ∧ H1 a = some (exo a C none) ∧ Q .non H1
theorem pe_reinit (hm : X.mg "RuntimeError" = none) (vV : PySem.W.findCls X.K (.type "RuntimeError") (.type "type") "__init__" = some (.val (.builtin "RuntimeError.__init__"))) (ha : PA X (e :: es) ta) (hg : Gl X "RuntimeError" := by rfl)
    (hc : eval (((Expr.Name "RuntimeError" p1).Attribute "__init__" p2).Call (e :: es) [] pos) X.env = (do
      let ov ← eval (Expr.Name "RuntimeError" p1) X.env
      standAt p2.atName
      match ← holding [ov] (getMethod ov "__init__" pl) with
      | (f, first) => callWith pos f first (backTo pos (starEach (e :: es) X.env)) (backToKw pos (keywordEach [] X.env))) := by rfl)
    (he : starEach (e :: es) X.env = (false, eval e X.env) :: starEach es X.env := by rfl) (hpl : (backTo pos (starEach es X.env)).any (·.1) = false := by rfl) :
    PE X (.Call (.Attribute (.Name "RuntimeError" p1) "__init__" p2) (e :: es) [] pos) (tReI X.K ta) := by
  refine ⟨fun pins s σ H Q I h => ?_⟩
  refine PySem.W.methodCall_KW (ld_blt I hg hm (u := .type "RuntimeError") (by decide +kernel) ?_) hc
  obtain ⟨m, fr⟩ := Inv.fr I
  have st : Manifest.isStub "RuntimeError" = false := by decide +kernel
  have hh : PySem.W.handedIn (.builtin "RuntimeError.__init__") = true := by decide +kernel
  refine PySem.W.method_type (T := "RuntimeError") (v := .builtin "RuntimeError.__init__") fr I.ok.mod.kin typ_RE st vV hh ?_
  refine callWith_method1 (thn (ha.run pos pins _ σ H _ (I.tok (s.toks + 1)) h) fun us s1 hh => ?_) he hpl
  obtain ⟨vs, H1, I1, r1, a, C, ws, ev, hl, T, ea, q⟩ := hh
  subst ev
  cases r1 with
  | cons ra rw' =>
    cases ra
    refine re_init T I1 ea ?_ fun s' J => ⟨.non, H1, J, rfl, q⟩
    rw [← Vals.length rw', sizeLine_eq]
    omega
/-- self.f = e, the first field of an own exception over RuntimeError -/
def tRst (K : PySem.W.Frag) (f : Str) (to te : TE) : TS := fun D σ H => te σ H fun y H1 => to σ H1 fun x H2 => ∃ a C : Addr, x = .ref a ∧ OexR K C ∧ PySem.W.findIn K (.ref C) f = some none ∧ H2 a = some (exo a C none) ∧
  ∀ dx, H2 dx = none → dx ≠ a → D.nx σ (upd (upd H2 dx (exd dx [(f, y)])) a (exo a C (some dx)))
theorem ps_rst (ho : PE X o to) (he : PE X e te) (hs : swapsWith e (some (o.Attribute f p')) pos.line X.env = pure false := by rfl) : PS X (.Assign [.Attribute o f p'] e pos) (tRst X.K f to te) := by
  refine ⟨fun pins s σ H D I h => ?_⟩
  refine plainObj_wpAny_Assign_Attribute (thn (he.run pins s σ H _ I h) fun v s1 hh => ?_) hs
  obtain ⟨y, H1, I1, r1, q1⟩ := hh
  refine thn (ho.run pins s1 σ H1 _ I1 q1) fun u s2 hh => ?_
  obtain ⟨x, H2, I2, r2, a, C, ex, T, hno, ea, q⟩ := hh
  subst ex
  cases r2
  exact re_new T I2 ea hno r1 fun dx s' n ne J => ⟨σ, _, J, q dx n ne⟩
theorem pmk_rex {CX : CXT} {k : Nat} {fd : FuncData} {ps : List Str} {sp : Sp} (T : OexR X.K C) (iC : PySem.W.findIn X.K (.ref C) "__init__" = some (some (.ref fI))) (tI : PySem.W.typeIn X.K (.ref fI) = some (.type "function"))
    (F1 : FnOk X.prog X.w X.K X.mg X.base CX k fI fd ps sp) (hr : Room (k + 1) X.A) (hb : Binds X.K fd ps []) (hx : Passes CX X fun _ _ _ => False) (hg : Gl X x) (hm : X.mg x = some (.ref C)) (ha : PA X (e :: es) ta)
    (hdb : (x == ("__debug__" : Str)) = false := by decide) (he : starEach (e :: es) X.env = (false, eval e X.env) :: starEach es X.env := by rfl) (hpl : (backTo pos (starEach es X.env)).any (·.1) = false := by rfl) :
    PMk X (.Call (.Name x p) (e :: es) [] pos) (tMkO C sp [] ta) := by
  intro pins s σ H Q I h
  obtain ⟨nm, q, N, bs, sn, sub, ab, col, dd, k0, k1, k2, k3, k5, hC⟩ := T.cls
  refine wpAny_Call_Name_kw (ld_glob I hg hm ?_ hdb)
  refine PySem.W.callWith_K (h₀ := X.base) I.ok.mod.kin T.kC (thn (ha.run pos pins s σ H _ I h) fun us s1 hh => ?_) he hpl
  obtain ⟨vs, H1, I1, r1, hz, q1⟩ := hh
  refine ⟨I1.kIn, ?_⟩
  show wpAny _ _ (call (.ref C) us) _ _ _
  obtain ⟨hp, g, dr, tk, os⟩ := s1
  have hsz := Nat.le_succ hp.objs.size
  have hq := q1 (hp.objs.size + 1) (I1.hok.fresh hsz)
  have kk : ∀ b o, hp.get? b = some o → ((hp.push (PySem.W.kdv_tup us)).push (HandSPX.excO C hp.objs.size)).get? b = some o := fun b o e => Heap.get?_push_of_some _ (Heap.get?_push_of_some _ e)
  have hget : ((hp.push (PySem.W.kdv_tup us)).push (HandSPX.excO C hp.objs.size)).get? (hp.objs.size + 1) = some (HandSPX.excO C hp.objs.size) := by heap_get
  have I2 := Inv.laid (t' := tk) I1 kk hsz (exo_ok hget)
  have r2 : Vals (V.ref (hp.objs.size + 1) :: (vs ++ [])) (Value.ref (hp.objs.size + 1) :: (us ++ [])) := .cons rfl (r1.append .nil)
  have hl : (Value.ref (hp.objs.size + 1) :: (us ++ [])).length = ps.length := by
    rw [← Vals.length r2]
    exact F1.len _ _ _ _ hq
  have hus : us.length ≤ sizeLine := by
    rw [← Vals.length r1, sizeLine_eq]
    omega
  have hC' : hp.get? C = some (excClassObj nm q C N bs reTail true sn sub ab col dd k0 k1 k2 k3 k5 "RuntimeError.__new__") := I1.kIn C _ hC
  have hco : ∀ Y : String, reTail.contains (.type Y) = ([.type "RuntimeError", .type "Exception", .type "BaseException", .type "object"] : List Value).contains (.type Y) := fun Y => rfl
  refine wpAny_call ?_
  refine HandSPX.call_own F.excBase_RuntimeError hco hC' (PySem.W.looks_findIn I1.kIn iC) (fun self => PySem.W.bind_fn I1.kIn self tI) hus ?_
  refine codeAny_mono (F1.run (X.A.under (.builtin "type.__call__" ⟨.ref C :: us, []⟩)) X.stack _ _ ⟨.ref (hp.objs.size + 1) :: us, []⟩ _ _ _ _ (Room.make hr C us []) (Env0.make I2.env0 C us []) (hb _ (.ref (hp.objs.size + 1) :: us) I2.kIn hl) r2 hq) fun r s' hq' => ?_
  cases r with
  | error er => exact hx pins σ _ _ er s' I2 hq'
  | ok fl =>
    cases fl with
    | ret u =>
      obtain ⟨h2, g2, d2, t2, os'⟩ := s'
      obtain ⟨v, H2, os2, bare2, un2, hok2, rv, ev, d, fs, ea, ed, hd1, q2⟩ := hq'
      subst ev
      exact ⟨rv, mk_end (raises_own T.exC T.tyC) I1 hsz kk un2 hok2 os2 bare2 ea ed hd1 q2⟩
    | _ => exact hq'.elim
end
end NL
/-! R6: tuple(list) as an object known; dict(tuple of pairs) -/
namespace NL
open PySem PySem.Spec PyProof.Rows L2
section
variable {X : Cx}
theorem call_tupleF : CallR X (.type "tuple") (fun xs H Q => ∃ p ys, xs = [V.ref p] ∧ SqL X.K H p ys ∧ ∀ (l : Addr) (o : Obj), H l = none → o.dict = none → Q (.ref l) (upd H l (.frz o (.tup ys)))) := by
  intro pins s σ H xs us Q I r h
  obtain ⟨p, ys, rfl, hq, q⟩ := h
  rw [Vals.ref1 r]
  obtain ⟨its, r', pl, hz⟩ := I.list hq
  have hlen := Vals.length r'
  refine call_tuple_list (PlainL.isList pl) (fun h' kp => ?_) (by rw [List.size_toArray, ← hlen]; exact hz)
  have I1 := I.kept (t' := s.toks) kp
  have hg : (h'.push { cls := .type "tuple", data := .seq its.toArray }).get? h'.objs.size = some { cls := .type "tuple", data := .seq its.toArray } := Heap.get?_push_size _ rfl
  have I2 := I1.laid (t' := s.toks) (h' := h'.push { cls := .type "tuple", data := .seq its.toArray }) (a := h'.objs.size) (o := .frz { cls := .type "tuple", data := .seq its.toArray } (.tup ys)) (fun b o e => Heap.get?_push_of_some _ e) (Nat.le_refl _)
    ⟨hg, hz, its, r', IsTup.new h' its.toArray⟩
  exact ⟨.ref h'.objs.size, _, I2, rfl, q _ _ (I1.hok.fresh (Nat.le_refl _)) rfl⟩
theorem call_dictPT (hcalm : X.calm = true) : CallR X (.type "dict") (fun xs H Q => ∃ (a : Addr) (o : Obj) (ps : List Addr) (kvs : List (Key × V)), xs = [V.ref a] ∧ H a = some (.frz o (.tup (ps.map V.ref))) ∧ o.dict = none ∧
    Paired (fun p kv => SqT X.K H p [kV kv.1, kv.2]) ps kvs ∧ ∀ p, H p = none → Q (.ref p) (upd H p (.dK (mergeK [] kvs)))) := by
  intro pins s σ H xs us Q I r h
  obtain ⟨a, o, ps, kvs, rfl, ha, hd, hp, q⟩ := h
  rw [Vals.ref1 r]
  have hob := I.hok a _ ha
  obtain ⟨hget, hz, its, rv, o', e1, e2, n, e3⟩ := hob
  have ho' : o' = o := Option.some.inj (e1.symm.trans hget)
  subst ho'
  have ei := refs_at rv
  subst ei
  obtain ⟨prs, rel, hl, hpr⟩ := pairs_of I hp
  have hch : ∀ j : Nat, ∃ u : Value, ∀ q' : Key × Value, prs[j]? = some q' → ∃ b, ps[j]? = some b ∧ IsTup s.heap b #[u, q'.2] ∧ keyIs q'.1 u = true := fun j => by
    cases e : prs[j]? with
    | none => exact ⟨.none, fun q' z => by cases z⟩
    | some q' =>
      obtain ⟨b, u, h1, h2, h3⟩ := hpr j q' e
      exact ⟨u, fun q'' z => by cases z; exact ⟨b, h1, h2, h3⟩⟩
  obtain ⟨f, hf⟩ : ∃ f : Nat → Value, ∀ (j : Nat) (q' : Key × Value), prs[j]? = some q' → ∃ b, ps[j]? = some b ∧ IsTup s.heap b #[f j, q'.2] ∧ keyIs q'.1 (f j) = true := ⟨fun j => (hch j).choose, fun j => (hch j).choose_spec⟩
  have hraw : ∀ (j : Nat) (k v : Value), (prs.mapIdx fun j q => (f j, q.2))[j]? = some (k, v) → ∃ q', prs[j]? = some q' ∧ k = f j ∧ v = q'.2 := fun j k v e => by
    rw [List.getElem?_mapIdx] at e
    cases e9 : prs[j]? with
    | none =>
      rw [e9] at e
      cases e
    | some q' =>
      rw [e9] at e
      cases e
      exact ⟨q', rfl, rfl, rfl⟩
  have hlen : prs.length = ps.length := hl
  have hkl : kvs.length = prs.length := KV.length rel
  refine PySem.call_dict_pairs (knd := mixKind X.prog X.w) (kvs := prs) (PairArg.tuple a (ps.map Value.ref).toArray (fun j => ps.getD j 0) (prs.mapIdx fun j q => (f j, q.2))) (I.ok.hd hcalm)
    ⟨⟨o', n, hget, e2, hd, e3⟩, by simp [hlen], fun j k v e => ?_⟩ ⟨by simp, fun j k v e => ?_⟩ (by simp [hlen]; simpa using hz) fun h' tk hd' kk => ?_
  · obtain ⟨q', h1, rfl, rfl⟩ := hraw j k v e
    obtain ⟨b, h2, h3, h4⟩ := hf j q' h1
    refine ⟨by simp [h2, List.getD_eq_getElem?_getD], .inl ?_⟩
    show s.heap.IsTuple (ps.getD j 0) _
    rw [List.getD_eq_getElem?_getD, h2]
    exact h3
  · obtain ⟨q', h1, rfl, rfl⟩ := hraw j k v e
    obtain ⟨b, h2, h3, h4⟩ := hf j q' h1
    exact ⟨q'.1, h1, h4⟩
  · have hm : (s.heap.objs.size == sysModules) = false := beq_eq_false_iff_ne.mpr (Nat.ne_of_gt (Inv.big I))
    have hlen2 : (mergeK [] kvs).length ≤ sizeLine := by
      refine Nat.le_trans (length_mergeK kvs []) ?_
      simp [hkl, hlen]
      simpa using hz
    exact ⟨.ref s.heap.objs.size, upd H s.heap.objs.size (.dK (mergeK [] kvs)), I.laid (fun b o e => kk b o (by simp) e) (Nat.le_refl _) ⟨hlen2, hm, merged [] prs, KV.merge rel .nil, hd'⟩, rfl, q _ (I.hok.fresh (Nat.le_refl _))⟩
end
end NL
/-! K0: heaps, what values stand for, loops -/
namespace NL
open PySem PySem.Spec PyProof.Rows L2
abbrev Frag := PySem.W.Frag
abbrev lit (x : String) : Str := Str.ofString x
/-- tuples stay -/
def TK (K : Frag) (H H' : Hp) : Prop := ∀ a xs, SqT K H a xs → SqT K H' a xs
theorem TK.refl {K : Frag} (H : Hp) : TK K H H := fun _ _ h => h
theorem TK.trans {K : Frag} {H H1 H2 : Hp} (a : TK K H H1) (b : TK K H1 H2) : TK K H H2 := fun _ _ h => b _ _ (a _ _ h)
theorem sameT {K : Frag} {H H' : Hp} (e : Same H H') : TK K H H' := fun a xs h => by
  rcases h with (h | ⟨o, h⟩) | h
  · exact .inl (.inl (e _ _ h))
  · exact .inl (.inr ⟨o, e _ _ h⟩)
  · exact .inr h
theorem sameL {K : Frag} {H H' : Hp} {a : Addr} {xs : List V} (e : Same H H') (h : SqL K H a xs) : SqL K H' a xs := e.seq h
theorem sameNew {H : Hp} {p : Addr} {o : HO} (h : H p = none) : Same H (upd H p o) := fun b u e => by
  rw [upd_ne (ne_of_none e h)]
  exact e
theorem sameAt {H0 H : Hp} {p : Addr} {o : HO} (s : Same H0 H) (h : H0 p = none) : Same H0 (upd H p o) := fun b u e => by
  rw [upd_ne (ne_of_none e h)]
  exact s _ _ e
/-- all but the addresses in S stay; tuples stay anywhere -/
def isTup : HO → Prop
  | .tup _ => True
  | .frz _ (.tup _) => True
  | _ => False
def Fr (S : List Addr) (H H' : Hp) : Prop := ∀ b o, H b = some o → (b ∈ S → isTup o) → H' b = some o
theorem Fr.refl (S : List Addr) (H : Hp) : Fr S H H := fun _ _ h _ => h
theorem Fr.trans {S : List Addr} {H H1 H2 : Hp} (a : Fr S H H1) (b : Fr S H1 H2) : Fr S H H2 := fun _ _ h q => b _ _ (a _ _ h q) q
theorem Fr.same {S : List Addr} {H H1 : Hp} (s : Same H H1) : Fr S H H1 := fun _ _ h _ => s _ _ h
theorem Fr.sub {S T : List Addr} {H H1 : Hp} (h : Fr S H H1) (hs : ∀ b ∈ S, b ∈ T) : Fr T H H1 := fun _ _ e q => h _ _ e fun m => q (hs _ m)
theorem Fr.at {S : List Addr} {H H1 : Hp} (h : Fr S H H1) {b : Addr} {o : HO} (e : H b = some o) (hb : b ∉ S) : H1 b = some o := h _ _ e fun m => absurd m hb
theorem Fr.tk {K : Frag} {S : List Addr} {H H1 : Hp} (h : Fr S H H1) : TK K H H1 := fun a xs q => by
  rcases q with (q | ⟨o, q⟩) | q
  · exact .inl (.inl (h _ _ q fun _ => trivial))
  · exact .inl (.inr ⟨o, h _ _ q fun _ => trivial⟩)
  · exact .inr q
theorem Fr.seq {K : Frag} {S : List Addr} {H H1 : Hp} (h : Fr S H H1) {a : Addr} {xs : List V} (ha : a ∉ S) (q : SqL K H a xs) : SqL K H1 a xs := by
  rcases q with (q | ⟨o, q⟩) | q
  · exact .inl (.inl (h.at q ha))
  · exact .inl (.inr ⟨o, h.at q ha⟩)
  · exact .inr q
theorem frUpd {S : List Addr} {H : Hp} {p : Addr} {o u : HO} (hp : p ∈ S) (h : H p = some u) (hu : ¬ isTup u) : Fr S H (upd H p o) := fun b v e q => by
  by_cases c : b = p
  · subst c
    rw [h] at e
    cases e
    exact absurd (q hp) hu
  · rw [upd_ne c]
    exact e
theorem Fr.new {S : List Addr} {H0 H : Hp} {p : Addr} {o : HO} (f : Fr S H0 H) (h : H0 p = none) : Fr S H0 (upd H p o) := fun b u e q => by
  rw [upd_ne (ne_of_none e h)]
  exact f _ _ e q
theorem Fr.free {S : List Addr} {H0 H : Hp} (f : Fr S H0 H) {p : Addr} (h : H p = none) (hp : p ∉ S) : H0 p = none := by
  cases e : H0 p with
  | none => rfl
  | some o =>
    have := f.at e hp
    rw [h] at this
    cases this
theorem tkLst {K : Frag} {H : Hp} {D : Addr} {xs : List V} {o : HO} (h : H D = some (.lst xs)) : TK K H (upd H D o) :=
  (frUpd (S := [D]) (List.mem_singleton.mpr rfl) h (fun z => z)).tk
/-- item by item -/
inductive All2 {α β : Type} (R : α → β → Prop) : List α → List β → Prop
  | nil : All2 R [] []
  | cons {a b as bs} : R a b → All2 R as bs → All2 R (a :: as) (b :: bs)
namespace All2
variable {α β : Type} {R R' : α → β → Prop}
theorem imp (f : ∀ a b, R a b → R' a b) {as : List α} {bs : List β} (h : All2 R as bs) : All2 R' as bs := by
  induction h with
  | nil => exact .nil
  | cons r _ ih => exact .cons (f _ _ r) ih
theorem len {as : List α} {bs : List β} (h : All2 R as bs) : as.length = bs.length := by
  induction h with
  | nil => rfl
  | cons _ _ ih => simp [ih]
theorem get {as : List α} {bs : List β} (h : All2 R as bs) : ∀ {i : Nat} {a : α} {b : β}, as[i]? = some a → bs[i]? = some b → R a b := by
  induction h with
  | nil =>
    intro i a b e _
    simp at e
  | cons r _ ih =>
    intro i a b e e'
    cases i with
    | zero =>
      simp at e e'
      subst e e'
      exact r
    | succ i => exact ih (by simpa using e) (by simpa using e')
theorem getR {as : List α} {bs : List β} (h : All2 R as bs) {i : Nat} {b : β} (hb : bs[i]? = some b) : ∃ a, as[i]? = some a ∧ R a b := by
  have hi : i < bs.length := (List.getElem?_eq_some_iff.mp hb).1
  have hi' : i < as.length := by rw [h.len]; exact hi
  exact ⟨as[i], List.getElem?_eq_getElem hi', h.get (List.getElem?_eq_getElem hi') hb⟩
theorem app {as as' : List α} {bs bs' : List β} (h : All2 R as bs) (h' : All2 R as' bs') : All2 R (as ++ as') (bs ++ bs') := by
  induction h with
  | nil => exact h'
  | cons r _ ih => exact .cons r ih
theorem one {a : α} {b : β} (r : R a b) : All2 R [a] [b] := .cons r .nil
theorem take {as : List α} {bs : List β} (h : All2 R as bs) : ∀ n, All2 R (as.take n) (bs.take n) := by
  induction h with
  | nil =>
    intro n
    simp only [List.take_nil]
    exact .nil
  | cons r _ ih =>
    intro n
    cases n with
    | zero => exact .nil
    | succ n => exact .cons r (ih n)
theorem drop {as : List α} {bs : List β} (h : All2 R as bs) : ∀ n, All2 R (as.drop n) (bs.drop n) := by
  induction h with
  | nil =>
    intro n
    simp only [List.drop_nil]
    exact .nil
  | cons r t ih =>
    intro n
    cases n with
    | zero => exact .cons r t
    | succ n => exact ih n
theorem ofMap {f : β → α} (h : ∀ b, R (f b) b) : ∀ bs : List β, All2 R (bs.map f) bs
  | [] => .nil
  | b :: bs => .cons (h b) (ofMap h bs)
theorem toMap {f : β → α} (h : ∀ a b, R a b → a = f b) {as : List α} {bs : List β} (q : All2 R as bs) : as = bs.map f := by
  induction q with
  | nil => rfl
  | cons r _ ih => rw [h _ _ r, ih]; rfl
end All2
/-- a pair of whole numbers -/
def PairI (K : Frag) (H : Hp) (v : V) (q : Int × Int) : Prop := ∃ b, v = .ref b ∧ SqT K H b [.int q.1, .int q.2]
/-- a letter: its number and its signs -/
def PairM (K : Frag) (H : Hp) (v : V) (q : Int × List Int) : Prop := ∃ b c, v = .ref b ∧ SqT K H b [.int q.1, .ref c] ∧ SqT K H c (q.2.map .int)
theorem PairI.mono {K : Frag} {H H' : Hp} (t : TK K H H') {v : V} {q : Int × Int} (h : PairI K H v q) : PairI K H' v q := let ⟨b, e, s⟩ := h; ⟨b, e, t _ _ s⟩
theorem PairM.mono {K : Frag} {H H' : Hp} (t : TK K H H') {v : V} {q : Int × List Int} (h : PairM K H v q) : PairM K H' v q := let ⟨b, c, e, s, u⟩ := h; ⟨b, c, e, t _ _ s, t _ _ u⟩
abbrev PtsI (K : Frag) (H : Hp) (vs : List V) (ps : List (Int × Int)) : Prop := All2 (PairI K H) vs ps
abbrev PtsM (K : Frag) (H : Hp) (vs : List V) (m : List (Int × List Int)) : Prop := All2 (PairM K H) vs m
theorem PtsI.mono {K : Frag} {H H' : Hp} (t : TK K H H') {vs : List V} {q : List (Int × Int)} (h : PtsI K H vs q) : PtsI K H' vs q := h.imp fun _ _ r => PairI.mono t r
theorem PtsM.mono {K : Frag} {H H' : Hp} (t : TK K H H') {vs : List V} {q : List (Int × List Int)} (h : PtsM K H vs q) : PtsM K H' vs q := h.imp fun _ _ r => PairM.mono t r
theorem le1000 {n : Nat} (h : n ≤ 1000) : n ≤ sizeLine := Nat.le_of_lt (small1000 h)
theorem ixN_nat {n j : Nat} (h : j < n) : ixN n (j : Int) = some j := by
  unfold ixN
  rw [if_pos (by omega), if_pos (by omega)]
  rfl
theorem at0 {α : Type} (x : α) (xs : List α) : atI (x :: xs) 0 = some x := atI_nat (j := 0) rfl
theorem getMid {β : Type} (d : List β) (b : β) (r : List β) : (d ++ b :: r)[d.length]? = some b := by simp
/-! loops by what is done and what is left -/
section
variable {β : Type} {J : It} {n : Nat} {G : Hp → Prop} {Y : Nat → Hp → V → Hp → Prop}
theorem for_suf (w : Walk J n G Y) (bs : List β) (hn : bs.length = n) {g : TG} {tb : TS} {D : Ends} {σ : L2.St} {H : Hp} (Pv : List β → List β → L2.St → Hp → Prop)
    (h0 : Pv [] bs σ H) (hG : ∀ d r σ H, Pv d r σ H → G H)
    (hs : ∀ (d : List β) (b : β) (r : List β) (x : V) (σ : L2.St) (H H' : Hp), bs = d ++ b :: r → Pv d (b :: r) σ H → Y d.length H x H' →
      g x σ H' fun σ2 H2 => tb { nx := Pv (d ++ [b]) r, rt := D.rt, bk := D.nx, ct := Pv (d ++ [b]) r } σ2 H2)
    (hd : ∀ σ H, Pv bs [] σ H → D.nx σ H) :
    ∃ W : Nat → Nat → L2.St → Hp → Prop, (∃ m, W 0 m σ H) ∧ ∀ (i m : Nat) (σ : L2.St) (H : Hp), W i m σ H →
      J.stop i H ∧ D.nx σ H ∨ J.go i H ∧ ∃ N : L2.St → Hp → Prop, (∀ σ' H', N σ' H' → ∃ m', m' < m ∧ W (i + 1) m' σ' H') ∧
        ∀ (x : V) (H' : Hp), J.yld i H x H' → g x σ H' fun σ2 H2 => tb { nx := N, rt := D.rt, bk := D.nx, ct := N } σ2 H2 := by
  refine for_it w (fun i σ H => Pv (bs.take i) (bs.drop i) σ H) h0 (fun i σ H _ p => hG _ _ _ _ p) (fun i x σ H H' hi p y => ?_) (fun σ H p => ?_)
  · have hl : i < bs.length := hn ▸ hi
    have e1 : bs.drop i = bs[i] :: bs.drop (i + 1) := List.drop_eq_getElem_cons hl
    have e2 : bs.take (i + 1) = bs.take i ++ [bs[i]] := by rw [List.take_append_getElem]
    have e3 : (bs.take i).length = i := by rw [List.length_take]; omega
    have p' : Pv (bs.take i) (bs[i] :: bs.drop (i + 1)) σ H := by rw [← e1]; exact p
    have q := hs (bs.take i) bs[i] (bs.drop (i + 1)) x σ H H' (by rw [← e1, List.take_append_drop]) p' (by rw [e3]; exact y)
    rw [← e2] at q
    exact q
  · refine hd σ H ?_
    have p' : Pv (bs.take n) (bs.drop n) σ H := p
    rw [← hn, List.take_length, List.drop_length] at p'
    exact p'
theorem lc_suf (w : Walk J n G Y) (bs : List β) (hn : bs.length = n) {g : TG} {tt : TT} {te : TE} {vs : List Nat} {σ : L2.St} {H1 : Hp} {D : Addr} {Qd : Hp → Prop} (Pv : List β → List β → Hp → Prop)
    (h0 : Pv [] bs (upd H1 D (.lst []))) (hG : ∀ d r H, Pv d r H → G H)
    (hs : ∀ (d : List β) (b : β) (r : List β) (x : V) (H H' : Hp), bs = d ++ b :: r → Pv d (b :: r) H → Y d.length H x H' →
      g x (wipe σ vs) H' fun σ2 H2 => wipe σ2 vs = wipe σ vs ∧ tt σ2 H2 fun k H3 => if k = true then te σ2 H3 fun y H4 => ∃ acc, H4 D = some (.lst acc) ∧ acc.length < sizeLine ∧ Pv (d ++ [b]) r (upd H4 D (.lst (acc ++ [y]))) else Pv (d ++ [b]) r H3)
    (hd : ∀ H, Pv bs [] H → Qd H) :
    ∃ W : Nat → Nat → Hp → Prop, (∃ m, W 0 m (upd H1 D (.lst []))) ∧ ∀ (i m : Nat) (H : Hp), W i m H →
      J.stop i H ∧ Qd H ∨ J.go i H ∧ ∃ Nx : Hp → Prop, (∀ H', Nx H' → ∃ m', m' < m ∧ W (i + 1) m' H') ∧
        ∀ (x : V) (H' : Hp), J.yld i H x H' → g x (wipe σ vs) H' fun σ2 H2 => wipe σ2 vs = wipe σ vs ∧ tt σ2 H2 fun b H3 =>
          if b = true then te σ2 H3 fun y H4 => ∃ acc, H4 D = some (.lst acc) ∧ acc.length < sizeLine ∧ Nx (upd H4 D (.lst (acc ++ [y]))) else Nx H3 := by
  refine lc_it w (fun i H => Pv (bs.take i) (bs.drop i) H) h0 (fun i H _ p => hG _ _ _ p) (fun i x H H' hi p y => ?_) (fun H p => ?_)
  · have hl : i < bs.length := hn ▸ hi
    have e1 : bs.drop i = bs[i] :: bs.drop (i + 1) := List.drop_eq_getElem_cons hl
    have e2 : bs.take (i + 1) = bs.take i ++ [bs[i]] := by rw [List.take_append_getElem]
    have e3 : (bs.take i).length = i := by rw [List.length_take]; omega
    have p' : Pv (bs.take i) (bs[i] :: bs.drop (i + 1)) H := by rw [← e1]; exact p
    have q := hs (bs.take i) bs[i] (bs.drop (i + 1)) x H H' (by rw [← e1, List.take_append_drop]) p' (by rw [e3]; exact y)
    rw [← e2] at q
    exact q
  · refine hd H ?_
    have p' : Pv (bs.take n) (bs.drop n) H := p
    rw [← hn, List.take_length, List.drop_length] at p'
    exact p'
/-- a comprehension: what D holds behind the done part -/
def Lc (H1 : Hp) (D : Addr) (A : List β → List V → Hp → Prop) (d : List β) (H : Hp) : Prop := ∃ acc, Same H1 H ∧ H D = some (.lst acc) ∧ acc.length ≤ d.length ∧ A d acc H
theorem Lc.put {H1 H4 : Hp} {D : Addr} {A : List β → List V → Hp → Prop} {d : List β} {b : β} {acc : List V} {y : V} (hD : H1 D = none) (s : Same H1 H4) (h : H4 D = some (.lst acc)) (hl : acc.length ≤ d.length) (hb : d.length < 1000)
    (a : A (d ++ [b]) (acc ++ [y]) (upd H4 D (.lst (acc ++ [y])))) : ∃ acc, H4 D = some (.lst acc) ∧ acc.length < sizeLine ∧ Lc H1 D A (d ++ [b]) (upd H4 D (.lst (acc ++ [y]))) :=
  ⟨acc, h, small1000 (by omega), acc ++ [y], sameAt s hD, upd_same, by simp; exact hl, a⟩
theorem Lc.skip {H1 H4 : Hp} {D : Addr} {A : List β → List V → Hp → Prop} {d : List β} {b : β} {acc : List V} (s : Same H1 H4) (h : H4 D = some (.lst acc)) (hl : acc.length ≤ d.length)
    (a : A (d ++ [b]) acc H4) : Lc H1 D A (d ++ [b]) H4 := ⟨acc, s, h, by simp; omega, a⟩
theorem lc_ac (w : Walk J n G Y) (bs : List β) (hn : bs.length = n) {g : TG} {tt : TT} {te : TE} {vs : List Nat} {σ : L2.St} {H1 : Hp} {D : Addr} {Qd : Hp → Prop} (hD : H1 D = none) (A : List β → List V → Hp → Prop)
    (h0 : A [] [] (upd H1 D (.lst []))) (hG : ∀ H, Same H1 H → G H)
    (hs : ∀ (d : List β) (b : β) (r : List β) (x : V) (acc : List V) (H H' : Hp), bs = d ++ b :: r → Same H1 H → H D = some (.lst acc) → acc.length ≤ d.length → A d acc H → Y d.length H x H' →
      g x (wipe σ vs) H' fun σ2 H2 => wipe σ2 vs = wipe σ vs ∧ tt σ2 H2 fun k H3 => if k = true then te σ2 H3 fun y H4 => ∃ acc, H4 D = some (.lst acc) ∧ acc.length < sizeLine ∧ Lc H1 D A (d ++ [b]) (upd H4 D (.lst (acc ++ [y]))) else Lc H1 D A (d ++ [b]) H3)
    (hd : ∀ acc H, Same H1 H → H D = some (.lst acc) → acc.length ≤ bs.length → A bs acc H → Qd H) :
    ∃ W : Nat → Nat → Hp → Prop, (∃ m, W 0 m (upd H1 D (.lst []))) ∧ ∀ (i m : Nat) (H : Hp), W i m H →
      J.stop i H ∧ Qd H ∨ J.go i H ∧ ∃ Nx : Hp → Prop, (∀ H', Nx H' → ∃ m', m' < m ∧ W (i + 1) m' H') ∧
        ∀ (x : V) (H' : Hp), J.yld i H x H' → g x (wipe σ vs) H' fun σ2 H2 => wipe σ2 vs = wipe σ vs ∧ tt σ2 H2 fun b H3 =>
          if b = true then te σ2 H3 fun y H4 => ∃ acc, H4 D = some (.lst acc) ∧ acc.length < sizeLine ∧ Nx (upd H4 D (.lst (acc ++ [y]))) else Nx H3 :=
  lc_suf w bs hn (fun d _ H => Lc H1 D A d H) ⟨[], sameNew hD, upd_same, Nat.le_refl _, h0⟩ (fun _ _ H p => let ⟨_, s, _⟩ := p; hG H s)
    (fun d b r x H H' e p y => let ⟨acc, s, h, l, a⟩ := p; hs d b r x acc H H' e s h l a y) (fun H p => let ⟨acc, s, h, l, a⟩ := p; hd acc H s h l a)
end
theorem iteTb {c : Bool} {A B : Prop} (h : c = true) (a : A) : if c = true then A else B := by
  rw [if_pos h]
  exact a
theorem iteFb {c : Bool} {A B : Prop} (h : c = false) (b : B) : if c = true then A else B := by
  rw [h, if_neg Bool.false_ne_true]
  exact b
/-- no if in the comprehension -/
theorem yesT {σ : L2.St} {H : Hp} {A B : Hp → Prop} (h : A H) : tYes σ H fun k H3 => if k = true then A H3 else B H3 := by
  show (if true = true then A H else B H)
  rw [if_pos rfl]
  exact h
theorem mapGet {β : Type} {f : β → V} {d : List β} {b : β} {r : List β} {x : V} (h : ((d ++ b :: r).map f)[d.length]? = some x) : x = f b := by
  rw [List.getElem?_map, getMid] at h
  exact (Option.some.inj h).symm
theorem mapAt {β : Type} {f : β → V} {ns : List β} {i : Nat} {x : V} {b : β} (h : ns[i]? = some b) (e : (ns.map f)[i]? = some x) : x = f b := by
  rw [List.getElem?_map, h] at e
  exact (Option.some.inj e).symm
theorem zipW {α β γ : Type} (f : α → β → γ) : ∀ (as : List α) (bs : List β), List.zipWith f as bs = (List.zip as bs).map fun q => f q.1 q.2
  | [], bs => by simp
  | a :: as, [] => by simp
  | a :: as, b :: bs => by
    rw [List.zipWith_cons_cons, List.zip_cons_cons, List.map_cons, zipW f as bs]
theorem cutTo (xs : List V) {n : Int} (h : 0 ≤ n) : cutV xs none (some n) = xs.take n.toNat := by
  unfold cutV HT.sIx
  simp only [if_neg (Int.not_lt.mpr h), List.drop_zero, Nat.sub_zero]
  rw [List.take_eq_take_iff]
  omega
theorem cutFrom (xs : List V) {n : Int} (h : 0 ≤ n) : cutV xs (some n) none = xs.drop n.toNat := by
  unfold cutV HT.sIx
  simp only [if_neg (Int.not_lt.mpr h)]
  rw [List.take_of_length_le (by simp)]
  by_cases c : n.toNat ≤ xs.length
  · rw [Nat.min_eq_left c]
  · rw [List.drop_eq_nil_of_le (by omega), List.drop_eq_nil_of_le (by omega)]
theorem yat {xs : List V} {i : Nat} {H H' : Hp} {x : V} (h : YAt xs i H x H') : H' = H ∧ xs[i]? = some x := h
end NL
/-! K1: what the top has left (Txt), calls by name -/
namespace NL
open PySem PySem.Spec PyProof.Rows L2
def top (i : Nat) : Stmt := PySem.Challenge.pw_nestletters_k37_whole_desks.main.body.getD i (.Pass ⟨0, 0, 0, 0⟩)
/-- a def, by its name, its qualified name, its statement, its address -/
abbrev FunT (K : Frag) (x q : Str) (st : Stmt) (f : Addr) : Prop := ∃ fd, FunD K x q (defArgs st) (defBody st) (defScope st) [] [] f fd
/-- a tuple of the written part -/
abbrev KTup (K : Frag) (mg : Str → Option Value) (x : Str) (xs : List V) : Prop := ∃ a, mg x = some (.ref a) ∧ ∀ H, SqT K H a xs
abbrev KInt (mg : Str → Option Value) (x : Str) (n : Int) : Prop := ∃ t, mg x = some (.int n t)
abbrev KStr (mg : Str → Option Value) (x : Str) (z : Str) : Prop := ∃ t, mg x = some (.str z t)
/-- a property of the class at C -/
abbrev KProp (K : Frag) (C : Addr) (f q : Str) (st : Stmt) : Prop := ∃ p g fd, PropOf K C f p g ∧ FunD K f q (defArgs st) (defBody st) (defScope st) [] [] g fd
structure Txt (K : Frag) (mg : Str → Option Value) : Prop where
  z_all : mg "all" = none
  z_bool : mg "bool" = none
  z_dict : mg "dict" = none
  z_enumerate : mg "enumerate" = none
  z_int : mg "int" = none
  z_isinstance : mg "isinstance" = none
  z_len : mg "len" = none
  z_list : mg "list" = none
  z_max : mg "max" = none
  z_min : mg "min" = none
  z_range : mg "range" = none
  z_sorted : mg "sorted" = none
  z_str : mg "str" = none
  z_sum : mg "sum" = none
  z_tuple : mg "tuple" = none
  z_zip : mg "zip" = none
  z_repr : mg "repr" = none
  c_MOST_FIGURES : KInt mg "MOST_FIGURES" 4
  c_MOST_LETTERS : KInt mg "MOST_LETTERS" 8
  c_MOST_ROOM : KInt mg "MOST_ROOM" 12
  c_MOST_SHARE : KInt mg "MOST_SHARE" 6
  c_BLANK : KStr mg "BLANK" " "
  c_COLON : KStr mg "COLON" ":"
  c_COME_desk : KStr mg "COME_desk" "come"
  c_COME_receiver : KStr mg "COME_receiver" "come"
  c_DONE : KStr mg "DONE" "done"
  c_DROP_desk : KStr mg "DROP_desk" "drop"
  c_DROP_receiver : KStr mg "DROP_receiver" "drop"
  c_FIGURES : KStr mg "FIGURES" "0123456789"
  c_LINE_END : KStr mg "LINE_END" "\n"
  c_NO : KStr mg "NO" "no"
  c_NONE : KStr mg "NONE" "none"
  c_NOTHING : KStr mg "NOTHING" "nothing"
  c_PRIMES : KTup K mg "PRIMES" [.int 11, .int 13, .int 17, .int 19, .int 23]
  c_ALONE : KTup K mg "ALONE" [.str "known", .str "more", .str "read", .str "mail", .str "suspects", .str "undo", .str "deeds"]
  g_NestError : mg "NestError" = some (.ref (He.ga K "NestError"))
  g_BadNumber : mg "BadNumber" = some (.ref (He.ga K "BadNumber"))
  g_BadPrime : mg "BadPrime" = some (.ref (He.ga K "BadPrime"))
  g_BadLaying : mg "BadLaying" = some (.ref (He.ga K "BadLaying"))
  g_Unsound : mg "Unsound" = some (.ref (He.ga K "Unsound"))
  g_BadLetter : mg "BadLetter" = some (.ref (He.ga K "BadLetter"))
  g_BadText : mg "BadText" = some (.ref (He.ga K "BadText"))
  g_NothingLeft : mg "NothingLeft" = some (.ref (He.ga K "NothingLeft"))
  g_Receiver : mg "Receiver" = some (.ref (He.ga K "Receiver"))
  g_Words : mg "Words" = some (.ref (He.ga K "Words"))
  g_Desk : mg "Desk" = some (.ref (He.ga K "Desk"))
  g_is_integer : mg "is_integer" = some (.ref (He.ga K "is_integer"))
  d_is_integer : FunT K "is_integer" "is_integer" (top 11) (He.ga K "is_integer")
  g_is_between : mg "is_between" = some (.ref (He.ga K "is_between"))
  d_is_between : FunT K "is_between" "is_between" (top 14) (He.ga K "is_between")
  g_need_prime : mg "need_prime" = some (.ref (He.ga K "need_prime"))
  d_need_prime : FunT K "need_prime" "need_prime" (top 15) (He.ga K "need_prime")
  g_is_sign : mg "is_sign" = some (.ref (He.ga K "is_sign"))
  d_is_sign : FunT K "is_sign" "is_sign" (top 16) (He.ga K "is_sign")
  g_are_signs : mg "are_signs" = some (.ref (He.ga K "are_signs"))
  d_are_signs : FunT K "are_signs" "are_signs" (top 17) (He.ga K "are_signs")
  g_rest_of : mg "rest_of" = some (.ref (He.ga K "rest_of"))
  d_rest_of : FunT K "rest_of" "rest_of" (top 18) (He.ga K "rest_of")
  g_value_in : mg "value_in" = some (.ref (He.ga K "value_in"))
  d_value_in : FunT K "value_in" "value_in" (top 19) (He.ga K "value_in")
  g_inverse_in : mg "inverse_in" = some (.ref (He.ga K "inverse_in"))
  d_inverse_in : FunT K "inverse_in" "inverse_in" (top 20) (He.ga K "inverse_in")
  g_times_root : mg "times_root" = some (.ref (He.ga K "times_root"))
  d_times_root : FunT K "times_root" "times_root" (top 21) (He.ga K "times_root")
  g_through_in : mg "through_in" = some (.ref (He.ga K "through_in"))
  d_through_in : FunT K "through_in" "through_in" (top 22) (He.ga K "through_in")
  g_is_laying : mg "is_laying" = some (.ref (He.ga K "is_laying"))
  d_is_laying : FunT K "is_laying" "is_laying" (top 27) (He.ga K "is_laying")
  g_need_laying : mg "need_laying" = some (.ref (He.ga K "need_laying"))
  d_need_laying : FunT K "need_laying" "need_laying" (top 28) (He.ga K "need_laying")
  g_profile_in : mg "profile_in" = some (.ref (He.ga K "profile_in"))
  d_profile_in : FunT K "profile_in" "profile_in" (top 29) (He.ga K "profile_in")
  g_needs_in : mg "needs_in" = some (.ref (He.ga K "needs_in"))
  d_needs_in : FunT K "needs_in" "needs_in" (top 30) (He.ga K "needs_in")
  g_points_at : mg "points_at" = some (.ref (He.ga K "points_at"))
  d_points_at : FunT K "points_at" "points_at" (top 32) (He.ga K "points_at")
  g_fits_at : mg "fits_at" = some (.ref (He.ga K "fits_at"))
  d_fits_at : FunT K "fits_at" "fits_at" (top 33) (He.ga K "fits_at")
  g_unfit_in : mg "unfit_in" = some (.ref (He.ga K "unfit_in"))
  d_unfit_in : FunT K "unfit_in" "unfit_in" (top 34) (He.ga K "unfit_in")
  g_read_in : mg "read_in" = some (.ref (He.ga K "read_in"))
  d_read_in : FunT K "read_in" "read_in" (top 35) (He.ga K "read_in")
  g_suspects_in : mg "suspects_in" = some (.ref (He.ga K "suspects_in"))
  d_suspects_in : FunT K "suspects_in" "suspects_in" (top 39) (He.ga K "suspects_in")
  g_numbers_text : mg "numbers_text" = some (.ref (He.ga K "numbers_text"))
  d_numbers_text : FunT K "numbers_text" "numbers_text" (top 48) (He.ga K "numbers_text")
  g_lines_in : mg "lines_in" = some (.ref (He.ga K "lines_in"))
  d_lines_in : FunT K "lines_in" "lines_in" (top 49) (He.ga K "lines_in")
  g_need_end : mg "need_end" = some (.ref (He.ga K "need_end"))
  d_need_end : FunT K "need_end" "need_end" (top 50) (He.ga K "need_end")
  g_letter_in : mg "letter_in" = some (.ref (He.ga K "letter_in"))
  d_letter_in : FunT K "letter_in" "letter_in" (top 52) (He.ga K "letter_in")
  g__law_mixed : mg "_law_mixed" = some (.ref (He.ga K "_law_mixed"))
  d__law_mixed : FunT K "_law_mixed" "_law_mixed" (top 62) (He.ga K "_law_mixed")
  g__law_begin : mg "_law_begin" = some (.ref (He.ga K "_law_begin"))
  d__law_begin : FunT K "_law_begin" "_law_begin" (top 63) (He.ga K "_law_begin")
  g__law_draw : mg "_law_draw" = some (.ref (He.ga K "_law_draw"))
  d__law_draw : FunT K "_law_draw" "_law_draw" (top 64) (He.ga K "_law_draw")
  g__law_of : mg "_law_of" = some (.ref (He.ga K "_law_of"))
  d__law_of : FunT K "_law_of" "_law_of" (top 65) (He.ga K "_law_of")
  g__law_back : mg "_law_back" = some (.ref (He.ga K "_law_back"))
  d__law_back : FunT K "_law_back" "_law_back" (top 66) (He.ga K "_law_back")
  g__law_value : mg "_law_value" = some (.ref (He.ga K "_law_value"))
  d__law_value : FunT K "_law_value" "_law_value" (top 67) (He.ga K "_law_value")
  g__law_between : mg "_law_between" = some (.ref (He.ga K "_law_between"))
  d__law_between : FunT K "_law_between" "_law_between" (top 68) (He.ga K "_law_between")
  g__law_needs : mg "_law_needs" = some (.ref (He.ga K "_law_needs"))
  d__law_needs : FunT K "_law_needs" "_law_needs" (top 69) (He.ga K "_law_needs")
  g__law_stair : mg "_law_stair" = some (.ref (He.ga K "_law_stair"))
  d__law_stair : FunT K "_law_stair" "_law_stair" (top 70) (He.ga K "_law_stair")
  g__law_letters : mg "_law_letters" = some (.ref (He.ga K "_law_letters"))
  d__law_letters : FunT K "_law_letters" "_law_letters" (top 71) (He.ga K "_law_letters")
  g__law_prime : mg "_law_prime" = some (.ref (He.ga K "_law_prime"))
  d__law_prime : FunT K "_law_prime" "_law_prime" (top 72) (He.ga K "_law_prime")
  g__law_shares : mg "_law_shares" = some (.ref (He.ga K "_law_shares"))
  d__law_shares : FunT K "_law_shares" "_law_shares" (top 73) (He.ga K "_law_shares")
  g__law_message : mg "_law_message" = some (.ref (He.ga K "_law_message"))
  d__law_message : FunT K "_law_message" "_law_message" (top 74) (He.ga K "_law_message")
  g__law_row_of : mg "_law_row_of" = some (.ref (He.ga K "_law_row_of"))
  d__law_row_of : FunT K "_law_row_of" "_law_row_of" (top 75) (He.ga K "_law_row_of")
  g__law_block : mg "_law_block" = some (.ref (He.ga K "_law_block"))
  d__law_block : FunT K "_law_block" "_law_block" (top 76) (He.ga K "_law_block")
  g__law_points : mg "_law_points" = some (.ref (He.ga K "_law_points"))
  d__law_points : FunT K "_law_points" "_law_points" (top 77) (He.ga K "_law_points")
  g__law_goes : mg "_law_goes" = some (.ref (He.ga K "_law_goes"))
  d__law_goes : FunT K "_law_goes" "_law_goes" (top 78) (He.ga K "_law_goes")
  g__law_unfit : mg "_law_unfit" = some (.ref (He.ga K "_law_unfit"))
  d__law_unfit : FunT K "_law_unfit" "_law_unfit" (top 79) (He.ga K "_law_unfit")
  g__law_reading : mg "_law_reading" = some (.ref (He.ga K "_law_reading"))
  d__law_reading : FunT K "_law_reading" "_law_reading" (top 80) (He.ga K "_law_reading")
  g__law_suspects : mg "_law_suspects" = some (.ref (He.ga K "_law_suspects"))
  d__law_suspects : FunT K "_law_suspects" "_law_suspects" (top 81) (He.ga K "_law_suspects")
  g__law_heard : mg "_law_heard" = some (.ref (He.ga K "_law_heard"))
  d__law_heard : FunT K "_law_heard" "_law_heard" (top 82) (He.ga K "_law_heard")
  g__law_now : mg "_law_now" = some (.ref (He.ga K "_law_now"))
  d__law_now : FunT K "_law_now" "_law_now" (top 83) (He.ga K "_law_now")
  g__law_reach_of : mg "_law_reach_of" = some (.ref (He.ga K "_law_reach_of"))
  d__law_reach_of : FunT K "_law_reach_of" "_law_reach_of" (top 84) (He.ga K "_law_reach_of")
  g__law_asked : mg "_law_asked" = some (.ref (He.ga K "_law_asked"))
  d__law_asked : FunT K "_law_asked" "_law_asked" (top 85) (He.ga K "_law_asked")
  g__law_deed : mg "_law_deed" = some (.ref (He.ga K "_law_deed"))
  d__law_deed : FunT K "_law_deed" "_law_deed" (top 86) (He.ga K "_law_deed")
  g__law_right : mg "_law_right" = some (.ref (He.ga K "_law_right"))
  d__law_right : FunT K "_law_right" "_law_right" (top 87) (He.ga K "_law_right")
  g__law_refused_right : mg "_law_refused_right" = some (.ref (He.ga K "_law_refused_right"))
  d__law_refused_right : FunT K "_law_refused_right" "_law_refused_right" (top 88) (He.ga K "_law_refused_right")
  g_law : mg "law" = some (.ref (He.ga K "law"))
  d_law : FunT K "law" "law" (top 89) (He.ga K "law")
  d_Receiver_init : FunT K "__init__" "Receiver.__init__" (inClass (top 40) 0) (He.ma K (He.ga K "Receiver") "__init__")
  mk_Receiver : Mk K (He.ga K "Receiver") (He.ma K (He.ga K "Receiver") "__init__")
  p_Receiver_prime : KProp K (He.ga K "Receiver") "prime" "Receiver.prime" (inClass (top 40) 1)
  p_Receiver_laying : KProp K (He.ga K "Receiver") "laying" "Receiver.laying" (inClass (top 40) 2)
  d_Receiver_mail : FunT K "mail" "Receiver.mail" (inClass (top 40) 3) (He.ma K (He.ga K "Receiver") "mail")
  m_Receiver_mail : Meth K (He.ga K "Receiver") "mail" (He.ma K (He.ga K "Receiver") "mail")
  d_Receiver_here : FunT K "here" "Receiver.here" (inClass (top 40) 4) (He.ma K (He.ga K "Receiver") "here")
  m_Receiver_here : Meth K (He.ga K "Receiver") "here" (He.ma K (He.ga K "Receiver") "here")
  d_Receiver_come : FunT K "come" "Receiver.come" (inClass (top 40) 5) (He.ma K (He.ga K "Receiver") "come")
  m_Receiver_come : Meth K (He.ga K "Receiver") "come" (He.ma K (He.ga K "Receiver") "come")
  d_Receiver_drop : FunT K "drop" "Receiver.drop" (inClass (top 40) 6) (He.ma K (He.ga K "Receiver") "drop")
  m_Receiver_drop : Meth K (He.ga K "Receiver") "drop" (He.ma K (He.ga K "Receiver") "drop")
  d_Receiver_known_by : FunT K "known_by" "Receiver.known_by" (inClass (top 40) 7) (He.ma K (He.ga K "Receiver") "known_by")
  m_Receiver_known_by : Meth K (He.ga K "Receiver") "known_by" (He.ma K (He.ga K "Receiver") "known_by")
  d_Receiver_known : FunT K "known" "Receiver.known" (inClass (top 40) 8) (He.ma K (He.ga K "Receiver") "known")
  m_Receiver_known : Meth K (He.ga K "Receiver") "known" (He.ma K (He.ga K "Receiver") "known")
  d_Receiver_more : FunT K "more" "Receiver.more" (inClass (top 40) 9) (He.ma K (He.ga K "Receiver") "more")
  m_Receiver_more : Meth K (He.ga K "Receiver") "more" (He.ma K (He.ga K "Receiver") "more")
  d_Receiver_read : FunT K "read" "Receiver.read" (inClass (top 40) 10) (He.ma K (He.ga K "Receiver") "read")
  m_Receiver_read : Meth K (He.ga K "Receiver") "read" (He.ma K (He.ga K "Receiver") "read")
  d_Receiver_suspects : FunT K "suspects" "Receiver.suspects" (inClass (top 40) 11) (He.ma K (He.ga K "Receiver") "suspects")
  m_Receiver_suspects : Meth K (He.ga K "Receiver") "suspects" (He.ma K (He.ga K "Receiver") "suspects")
  d_Receiver_undo : ∃ fd, FunD K "undo" "Receiver.undo" (defArgs (inClass (top 40) 12)) (defBody (inClass (top 40) 12)) (defScope (inClass (top 40) 12)) [.int 1] [] (He.ma K (He.ga K "Receiver") "undo") fd
  m_Receiver_undo : Meth K (He.ga K "Receiver") "undo" (He.ma K (He.ga K "Receiver") "undo")
  d_Receiver_len : FunT K "__len__" "Receiver.__len__" (inClass (top 40) 15) (He.ma K (He.ga K "Receiver") "__len__")
  m_Receiver_len : Meth K (He.ga K "Receiver") "__len__" (He.ma K (He.ga K "Receiver") "__len__")
  d_Words_init : FunT K "__init__" "Words.__init__" (inClass (top 51) 0) (He.ma K (He.ga K "Words") "__init__")
  mk_Words : Mk K (He.ga K "Words") (He.ma K (He.ga K "Words") "__init__")
  d_Words_is_over : FunT K "is_over" "Words.is_over" (inClass (top 51) 1) (He.ma K (He.ga K "Words") "is_over")
  m_Words_is_over : Meth K (He.ga K "Words") "is_over" (He.ma K (He.ga K "Words") "is_over")
  d_Words_refuse : FunT K "refuse" "Words.refuse" (inClass (top 51) 2) (He.ma K (He.ga K "Words") "refuse")
  m_Words_refuse : Meth K (He.ga K "Words") "refuse" (He.ma K (He.ga K "Words") "refuse")
  d_Words_next_word : FunT K "next_word" "Words.next_word" (inClass (top 51) 3) (He.ma K (He.ga K "Words") "next_word")
  m_Words_next_word : Meth K (He.ga K "Words") "next_word" (He.ma K (He.ga K "Words") "next_word")
  d_Words_read_word : FunT K "read_word" "Words.read_word" (inClass (top 51) 4) (He.ma K (He.ga K "Words") "read_word")
  m_Words_read_word : Meth K (He.ga K "Words") "read_word" (He.ma K (He.ga K "Words") "read_word")
  d_Words_read_number : FunT K "read_number" "Words.read_number" (inClass (top 51) 5) (He.ma K (He.ga K "Words") "read_number")
  m_Words_read_number : Meth K (He.ga K "Words") "read_number" (He.ma K (He.ga K "Words") "read_number")
  d_Words_read_numbers : FunT K "read_numbers" "Words.read_numbers" (inClass (top 51) 6) (He.ma K (He.ga K "Words") "read_numbers")
  m_Words_read_numbers : Meth K (He.ga K "Words") "read_numbers" (He.ma K (He.ga K "Words") "read_numbers")
  d_Words_read_some : FunT K "read_some" "Words.read_some" (inClass (top 51) 7) (He.ma K (He.ga K "Words") "read_some")
  m_Words_read_some : Meth K (He.ga K "Words") "read_some" (He.ma K (He.ga K "Words") "read_some")
  d_Words_need_over : FunT K "need_over" "Words.need_over" (inClass (top 51) 9) (He.ma K (He.ga K "Words") "need_over")
  m_Words_need_over : Meth K (He.ga K "Words") "need_over" (He.ma K (He.ga K "Words") "need_over")
  d_Desk_init : FunT K "__init__" "Desk.__init__" (inClass (top 60) 0) (He.ma K (He.ga K "Desk") "__init__")
  mk_Desk : Mk K (He.ga K "Desk") (He.ma K (He.ga K "Desk") "__init__")
  p_Desk_receiver : KProp K (He.ga K "Desk") "receiver" "Desk.receiver" (inClass (top 60) 1)
  d_Desk_say : FunT K "say" "Desk.say" (inClass (top 60) 2) (He.ma K (He.ga K "Desk") "say")
  m_Desk_say : Meth K (He.ga K "Desk") "say" (He.ma K (He.ga K "Desk") "say")
  d_Desk_answered : FunT K "answered" "Desk.answered" (inClass (top 60) 3) (He.ma K (He.ga K "Desk") "answered")
  m_Desk_answered : Meth K (He.ga K "Desk") "answered" (He.ma K (He.ga K "Desk") "answered")
  d_Desk_alone : FunT K "alone" "Desk.alone" (inClass (top 60) 4) (He.ma K (He.ga K "Desk") "alone")
  m_Desk_alone : Meth K (He.ga K "Desk") "alone" (He.ma K (He.ga K "Desk") "alone")
  d_Desk_undone : FunT K "undone" "Desk.undone" (inClass (top 60) 5) (He.ma K (He.ga K "Desk") "undone")
  m_Desk_undone : Meth K (He.ga K "Desk") "undone" (He.ma K (He.ga K "Desk") "undone")
  xt_Receiver_len : PySem.W.typeIn K (.ref (He.ma K (He.ga K "Receiver") "__len__")) = some (.type "function")
  cls_Receiver : Cls K (He.ga K "Receiver")
  na_own_prime : NoAttr K (He.ga K "Receiver") "own_prime"
  na_own_laying : NoAttr K (He.ga K "Receiver") "own_laying"
  na_own_past : NoAttr K (He.ga K "Receiver") "own_past"
  cls_Words : Cls K (He.ga K "Words")
  na_own_words : NoAttr K (He.ga K "Words") "own_words"
  na_own_line : NoAttr K (He.ga K "Words") "own_line"
  na_own_spot : NoAttr K (He.ga K "Words") "own_spot"
  cls_Desk : Cls K (He.ga K "Desk")
  na_own_receiver : NoAttr K (He.ga K "Desk") "own_receiver"
  x_BadNumber : OexC K (He.ga K "BadNumber")
  xi_BadNumber : PySem.W.findIn K (.ref (He.ga K "BadNumber")) "__init__" = some (some (.ref (He.ma K (He.ga K "BadNumber") "__init__")))
  xt_BadNumber : PySem.W.typeIn K (.ref (He.ma K (He.ga K "BadNumber") "__init__")) = some (.type "function")
  d_BadNumber_init : FunT K "__init__" "BadNumber.__init__" (inClass (top 3) 0) (He.ma K (He.ga K "BadNumber") "__init__")
  xn_BadNumber_given : PySem.W.findIn K (.ref (He.ga K "BadNumber")) "given" = some none
  xm_BadNumber : PySem.W.exmOne K (.ref (He.ga K "BadNumber")) (.ref (He.ga K "NestError")) = some true
  x_BadPrime : OexC K (He.ga K "BadPrime")
  xi_BadPrime : PySem.W.findIn K (.ref (He.ga K "BadPrime")) "__init__" = some (some (.ref (He.ma K (He.ga K "BadPrime") "__init__")))
  xt_BadPrime : PySem.W.typeIn K (.ref (He.ma K (He.ga K "BadPrime") "__init__")) = some (.type "function")
  d_BadPrime_init : FunT K "__init__" "BadPrime.__init__" (inClass (top 4) 0) (He.ma K (He.ga K "BadPrime") "__init__")
  xn_BadPrime_given : PySem.W.findIn K (.ref (He.ga K "BadPrime")) "given" = some none
  xm_BadPrime : PySem.W.exmOne K (.ref (He.ga K "BadPrime")) (.ref (He.ga K "NestError")) = some true
  x_BadLaying : OexC K (He.ga K "BadLaying")
  xi_BadLaying : PySem.W.findIn K (.ref (He.ga K "BadLaying")) "__init__" = some (some (.ref (He.ma K (He.ga K "BadLaying") "__init__")))
  xt_BadLaying : PySem.W.typeIn K (.ref (He.ma K (He.ga K "BadLaying") "__init__")) = some (.type "function")
  d_BadLaying_init : FunT K "__init__" "BadLaying.__init__" (inClass (top 5) 0) (He.ma K (He.ga K "BadLaying") "__init__")
  xn_BadLaying_given : PySem.W.findIn K (.ref (He.ga K "BadLaying")) "given" = some none
  xm_BadLaying : PySem.W.exmOne K (.ref (He.ga K "BadLaying")) (.ref (He.ga K "NestError")) = some true
  x_Unsound : OexC K (He.ga K "Unsound")
  xi_Unsound : PySem.W.findIn K (.ref (He.ga K "Unsound")) "__init__" = some (some (.ref (He.ma K (He.ga K "Unsound") "__init__")))
  xt_Unsound : PySem.W.typeIn K (.ref (He.ma K (He.ga K "Unsound") "__init__")) = some (.type "function")
  d_Unsound_init : FunT K "__init__" "Unsound.__init__" (inClass (top 6) 0) (He.ma K (He.ga K "Unsound") "__init__")
  xn_Unsound_need : PySem.W.findIn K (.ref (He.ga K "Unsound")) "need" = some none
  xm_Unsound : PySem.W.exmOne K (.ref (He.ga K "Unsound")) (.ref (He.ga K "NestError")) = some true
  x_BadLetter : OexC K (He.ga K "BadLetter")
  xi_BadLetter : PySem.W.findIn K (.ref (He.ga K "BadLetter")) "__init__" = some (some (.ref (He.ma K (He.ga K "BadLetter") "__init__")))
  xt_BadLetter : PySem.W.typeIn K (.ref (He.ma K (He.ga K "BadLetter") "__init__")) = some (.type "function")
  d_BadLetter_init : FunT K "__init__" "BadLetter.__init__" (inClass (top 7) 0) (He.ma K (He.ga K "BadLetter") "__init__")
  xn_BadLetter_given : PySem.W.findIn K (.ref (He.ga K "BadLetter")) "given" = some none
  xm_BadLetter : PySem.W.exmOne K (.ref (He.ga K "BadLetter")) (.ref (He.ga K "NestError")) = some true
  x_BadText : OexC K (He.ga K "BadText")
  xi_BadText : PySem.W.findIn K (.ref (He.ga K "BadText")) "__init__" = some (some (.ref (He.ma K (He.ga K "BadText") "__init__")))
  xt_BadText : PySem.W.typeIn K (.ref (He.ma K (He.ga K "BadText") "__init__")) = some (.type "function")
  d_BadText_init : FunT K "__init__" "BadText.__init__" (inClass (top 8) 0) (He.ma K (He.ga K "BadText") "__init__")
  xn_BadText_line : PySem.W.findIn K (.ref (He.ga K "BadText")) "line" = some none
  xn_BadText_word : PySem.W.findIn K (.ref (He.ga K "BadText")) "word" = some none
  xm_BadText : PySem.W.exmOne K (.ref (He.ga K "BadText")) (.ref (He.ga K "NestError")) = some true
  x_NothingLeft : OexR K (He.ga K "NothingLeft")
  xi_NothingLeft : PySem.W.findIn K (.ref (He.ga K "NothingLeft")) "__init__" = some (some (.ref (He.ma K (He.ga K "NothingLeft") "__init__")))
  xt_NothingLeft : PySem.W.typeIn K (.ref (He.ma K (He.ga K "NothingLeft") "__init__")) = some (.type "function")
  d_NothingLeft_init : FunT K "__init__" "NothingLeft.__init__" (inClass (top 9) 0) (He.ma K (He.ga K "NothingLeft") "__init__")
  xn_NothingLeft_many : PySem.W.findIn K (.ref (He.ga K "NothingLeft")) "many" = some none
  xm_left : PySem.W.exmOne K (.ref (He.ga K "NothingLeft")) (.ref (He.ga K "NothingLeft")) = some true
  xh_BadText_BadText : PySem.W.exmOne K (.ref (He.ga K "BadText")) (.ref (He.ga K "BadText")) = some true
  xh_BadPrime_BadText : PySem.W.exmOne K (.ref (He.ga K "BadPrime")) (.ref (He.ga K "BadText")) = some false
  xh_BadPrime_BadPrime : PySem.W.exmOne K (.ref (He.ga K "BadPrime")) (.ref (He.ga K "BadPrime")) = some true
  xh_BadLaying_BadText : PySem.W.exmOne K (.ref (He.ga K "BadLaying")) (.ref (He.ga K "BadText")) = some false
  xh_BadLaying_BadPrime : PySem.W.exmOne K (.ref (He.ga K "BadLaying")) (.ref (He.ga K "BadPrime")) = some false
  xh_BadLaying_BadLaying : PySem.W.exmOne K (.ref (He.ga K "BadLaying")) (.ref (He.ga K "BadLaying")) = some true
  xf_BadText : XfC K (He.ga K "BadText")
  xf_BadPrime : XfC K (He.ga K "BadPrime")
  xf_BadLaying : XfC K (He.ga K "BadLaying")
  ne_ga : PySem.W.specialIn K (.ref (He.ga K "NestError")) "__getattribute__" = some (some (.builtin "type.__getattribute__"))
  ne_rd : PySem.W.readsIn K (He.ga K "NestError") (.type "type") = true
  ne_fc : PySem.W.findCls K (.ref (He.ga K "NestError")) (.type "type") "__init__" = some (.val (.builtin "ValueError.__init__"))
  z_RuntimeError : mg "RuntimeError" = none
  re_fc : PySem.W.findCls K (.type "RuntimeError") (.type "type") "__init__" = some (.val (.builtin "RuntimeError.__init__"))
/-- a def of the module, by its name -/
structure Cal (P : Program) (w : World) (K : Frag) (mg : Str → Option Value) (base : Heap) (CX : CXT) (k : Nat) (x : Str) (sp : Sp) : Prop where
  ex : ∃ (f : Addr) (fd : FuncData) (ps : List Str), FnOk P w K mg base CX k f fd ps sp ∧ mg x = some (.ref f) ∧ PySem.W.keepIn K (.ref f) = true ∧ Binds K fd ps []
/-- a method of a class -/
structure CalM (P : Program) (w : World) (K : Frag) (mg : Str → Option Value) (base : Heap) (CX : CXT) (k : Nat) (C : Addr) (m : Str) (sp : Sp) : Prop where
  ex : ∃ (f : Addr) (fd : FuncData) (ps : List Str), FnOk P w K mg base CX k f fd ps sp ∧ Meth K C m f ∧ Binds K fd ps []
/-- a class by its __init__ -/
structure CalI (P : Program) (w : World) (K : Frag) (mg : Str → Option Value) (base : Heap) (CX : CXT) (k : Nat) (x : Str) (sp : Sp) : Prop where
  ex : ∃ (f : Addr) (fd : FuncData) (ps : List Str), FnOk P w K mg base CX k f fd ps sp ∧ Mk K (He.ga K x) f ∧ mg x = some (.ref (He.ga K x)) ∧ Binds K fd ps []
/-- a property of a class -/
structure CalP (P : Program) (w : World) (K : Frag) (mg : Str → Option Value) (base : Heap) (CX : CXT) (k : Nat) (C : Addr) (f : Str) (sp : Sp) : Prop where
  ex : ∃ (p g : Addr) (fd : FuncData) (ps : List Str), PropOf K C f p g ∧ FnOk P w K mg base CX k g fd ps sp ∧ Binds K fd ps []
section
variable {X : Cx} {CX : CXT} {k j : Nat} {x m : Str} {sp : Sp} {E : XK} {p pos apos : Pos} {e o : Expr} {es : List Expr} {ta : TE} {t : TA} {C : Addr}
theorem pe_cal (c : Cal X.prog X.w X.K X.mg X.base CX k x sp) (hr : Room j X.A) (hk : k ≤ j) (hx : Passes CX X E) (ha : PA X (e :: es) t) (hg : Gl X x := by rfl)
    (hdb : (x == ("__debug__" : Str)) = false := by decide) (he : starEach (e :: es) X.env = (false, eval e X.env) :: starEach es X.env := by rfl) (hpl : (backTo pos (starEach es X.env)).any (·.1) = false := by rfl) :
    PE X (.Call (.Name x p) (e :: es) [] pos) (tCall sp [] E t) := by
  obtain ⟨f, fd, ps, F, hm, kp, b⟩ := c.ex
  exact pe_call F (hr.mono hk) hg hm kp b .nil hx ha hdb he hpl
theorem pe_cal0 (c : Cal X.prog X.w X.K X.mg X.base CX k x sp) (hr : Room j X.A) (hk : k ≤ j) (hx : Passes CX X E) (hg : Gl X x := by rfl) (hdb : (x == ("__debug__" : Str)) = false := by decide) :
    PE X (.Call (.Name x p) [] [] pos) (tCall sp [] E tNil) := by
  obtain ⟨f, fd, ps, F, hm, kp, b⟩ := c.ex
  exact pe_call0 F (hr.mono hk) hg hm kp b .nil hx hdb
theorem pe_cam {pl : Sem Bool} (ho : PE X o ta) (hc : Cls X.K C) (c : CalM X.prog X.w X.K X.mg X.base CX k C m sp) (hr : Room j X.A) (hk : k ≤ j) (hx : Passes CX X E) (ha : PA X (e :: es) t)
    (he : starEach (e :: es) X.env = (false, eval e X.env) :: starEach es X.env := by rfl) (hpl : (backTo pos (starEach es X.env)).any (·.1) = false := by rfl)
    (hv : eval ((o.Attribute m apos).Call (e :: es) [] pos) X.env = (do
      let ov ← eval o X.env
      standAt apos.atName
      match ← holding [ov] (getMethod ov m pl) with
      | (f, first) => callWith pos f first (backTo pos (starEach (e :: es) X.env)) (backToKw pos (keywordEach [] X.env))) := by rfl) :
    PE X (.Call (.Attribute o m apos) (e :: es) [] pos) (tMeth C m sp [] E ta t) := by
  obtain ⟨f, fd, ps, F, M, b⟩ := c.ex
  exact pe_meth ho hc M F (hr.mono hk) b .nil hx ha he hpl hv
theorem pe_cam0 {pl : Sem Bool} (ho : PE X o ta) (hc : Cls X.K C) (c : CalM X.prog X.w X.K X.mg X.base CX k C m sp) (hr : Room j X.A) (hk : k ≤ j) (hx : Passes CX X E)
    (hv : eval ((o.Attribute m apos).Call [] [] pos) X.env = (do
      let ov ← eval o X.env
      standAt apos.atName
      match ← holding [ov] (getMethod ov m pl) with
      | (f, first) => callWith pos f first (backTo pos (starEach [] X.env)) (backToKw pos (keywordEach [] X.env))) := by rfl) :
    PE X (.Call (.Attribute o m apos) [] [] pos) (tMeth C m sp [] E ta tNil) := by
  obtain ⟨f, fd, ps, F, M, b⟩ := c.ex
  exact pe_meth0 ho hc M F (hr.mono hk) b .nil hx hv
theorem pe_new (c : CalI X.prog X.w X.K X.mg X.base CX k x sp) (hr : Room j X.A) (hk : k + 1 ≤ j) (hx : Passes CX X E) (ha : PA X (e :: es) t) (hg : Gl X x := by rfl)
    (hdb : (x == ("__debug__" : Str)) = false := by decide) (he : starEach (e :: es) X.env = (false, eval e X.env) :: starEach es X.env := by rfl) (hpl : (backTo pos (starEach es X.env)).any (·.1) = false := by rfl) :
    PE X (.Call (.Name x p) (e :: es) [] pos) (tMake (He.ga X.K x) sp [] E t) := by
  obtain ⟨f, fd, ps, F, M, hm, b⟩ := c.ex
  exact pe_make M F (hr.mono hk) hg hm b .nil hx ha hdb he hpl
theorem pe_pro (ho : PE X e ta) (hc : Cls X.K C) (c : CalP X.prog X.w X.K X.mg X.base CX k C m sp) (hr : Room j X.A) (hk : k + 1 ≤ j) (hx : Passes CX X.nox E) (hb : attributeBase e m X.env (eval e X.env) = eval e X.env := by rfl) :
    PE X (.Attribute e m pos) (tProp C sp [] E ta) := by
  obtain ⟨pa, g, fd, ps, M, F, b⟩ := c.ex
  exact pe_prop ho hc M F (hr.mono hk) b .nil hx hb
theorem pe_gi {n : Int} (h : KInt X.mg x n) (hg : Gl X x := by rfl) (hdb : (x == ("__debug__" : Str)) = false := by decide) : PE X (.Name x pos) (tC (.int n)) := by
  obtain ⟨t, h⟩ := h
  exact pe_glob hg h ⟨t, rfl⟩ (hd := hdb)
theorem pe_gs {z : Str} (h : KStr X.mg x z) (hg : Gl X x := by rfl) (hdb : (x == ("__debug__" : Str)) = false := by decide) : PE X (.Name x pos) (tC (.str z)) := by
  obtain ⟨t, h⟩ := h
  exact pe_glob hg h ⟨t, rfl⟩ (hd := hdb)
/-- a tuple of the module's top: at some address -/
def tGt (K : Frag) (xs : List V) : TE := fun _ H Q => ∀ a, (∀ H', SqT K H' a xs) → Q (.ref a) H
theorem pe_gt {xs : List V} (h : KTup X.K X.mg x xs) (hg : Gl X x := by rfl) (hdb : (x == ("__debug__" : Str)) = false := by decide) : PE X (.Name x pos) (tGt X.K xs) := by
  obtain ⟨a, hm, ha⟩ := h
  refine ⟨fun pins s σ H Q I q => ?_⟩
  exact (pe_glob (v := .ref a) hg hm rfl (hd := hdb)).run pins s σ H Q I (q a ha)
end
theorem hu64 {k : Nat} {A : Around} (hr : Room k A) : A.units + 64 < cLine := by
  have := hr.un
  omega
/-- what a def gives: a new list, a tuple of whole numbers -/
def RetL (ns : List Int) (H : Hp) (Q : VK) : Prop := ∀ H' p, Same H H' → H p = none → H' p = some (.lst (ns.map V.int)) → Q (.ref p) H'
def RetT (K : Frag) (ns : List Int) (H : Hp) (Q : VK) : Prop := ∀ H' p, Same H H' → SqT K H' p (ns.map V.int) → Q (.ref p) H'
end NL
/-! K2: values as data, for == -/
namespace NL
open PySem PySem.Spec PyProof.Rows L2
theorem can_ints : ∀ ns : List Int, PyData.canLayAll0 (ns.map PyData.int) = true
  | [] => by simp [PyData.canLayAll0]
  | n :: ns => by simp [PyData.canLayAll0, PyData.canLay0, can_ints ns]
theorem eqv_ints : ∀ ns ms : List Int, PyData.eqvAll (ns.map PyData.int) (ms.map PyData.int) = decide (ns = ms)
  | [], [] => by simp [PyData.eqvAll]
  | [], m :: ms => by simp [PyData.eqvAll]
  | n :: ns, [] => by simp [PyData.eqvAll]
  | n :: ns, m :: ms => by
    rw [List.map_cons, List.map_cons, PyData.eqvAll.eq_2, PyData.eqv.eq_5, eqv_ints ns ms, Bool.eq_iff_iff]
    simp
theorem sh_intsL (ns : List Int) : SeqAt.shaped (.list (ns.map .int)) = true := by
  simp [SeqAt.shaped, PyData.canLay0, can_ints, PyData.depth, PySem.W.depth_ints]
theorem sh_intsT (ns : List Int) : SeqAt.shaped (.tuple (ns.map .int)) = true := by
  simp [SeqAt.shaped, PyData.canLay0, can_ints, PyData.depth, PySem.W.depth_ints]
theorem dpAll_ints {K : Frag} {H : Hp} : ∀ ns : List Int, DpAll K H (ns.map V.int) (ns.map PyData.int)
  | [] => .nil
  | n :: ns => .cons (.int n) (dpAll_ints ns)
theorem dpL {K : Frag} {H : Hp} {a : Addr} {ns : List Int} (h : SqL K H a (ns.map V.int)) : Dp K H (.ref a) (.list (ns.map .int)) := .lst h (dpAll_ints ns)
theorem dpT {K : Frag} {H : Hp} {a : Addr} {ns : List Int} (h : SqT K H a (ns.map V.int)) : Dp K H (.ref a) (.tuple (ns.map .int)) := .tup h (dpAll_ints ns)
/-- two lists, two tuples of whole numbers -/
theorem eqL {K : Frag} {H : Hp} {a b : Addr} {ns ms : List Int} {Q : VK} (ha : SqL K H a (ns.map V.int)) (hb : SqL K H b (ms.map V.int)) (h : Q (.bl (decide (ns = ms))) H) : rEqD K (.ref a) (.ref b) H Q :=
  ⟨_, _, dpL ha, dpL hb, sh_intsL _, sh_intsL _, by rw [PyData.eqv.eq_7, eqv_ints]; exact h⟩
theorem neL {K : Frag} {H : Hp} {a b : Addr} {ns ms : List Int} {Q : VK} (ha : SqL K H a (ns.map V.int)) (hb : SqL K H b (ms.map V.int)) (h : Q (.bl (!decide (ns = ms))) H) : rNeD K (.ref a) (.ref b) H Q :=
  ⟨_, _, dpL ha, dpL hb, sh_intsL _, sh_intsL _, by rw [PyData.eqv.eq_7, eqv_ints]; exact h⟩
theorem neT {K : Frag} {H : Hp} {a b : Addr} {ns ms : List Int} {Q : VK} (ha : SqT K H a (ns.map V.int)) (hb : SqT K H b (ms.map V.int)) (h : Q (.bl (!decide (ns = ms))) H) : rNeD K (.ref a) (.ref b) H Q := by
  refine ⟨_, _, dpT ha, dpT hb, sh_intsT _, sh_intsT _, ?_⟩
  rw [PyData.eqv.eq_8, eqv_ints]
  exact h
def encM (q : Int × List Int) : PyData := .tuple [.int q.1, .tuple (q.2.map .int)]
theorem dpM {K : Frag} {H : Hp} {v : V} {q : Int × List Int} (h : PairM K H v q) : Dp K H v (encM q) := by
  obtain ⟨b, c, rfl, h1, h2⟩ := h
  exact .tup h1 (.cons (.int _) (.cons (dpT h2) .nil))
theorem dpMs {K : Frag} {H : Hp} {us : List V} {m : List (Int × List Int)} (h : PtsM K H us m) : DpAll K H us (m.map encM) := by
  induction h with
  | nil => exact .nil
  | cons r _ ih => exact .cons (dpM r) ih
theorem can_Ms : ∀ m : List (Int × List Int), PyData.canLayAll0 (m.map encM) = true
  | [] => by simp [PyData.canLayAll0]
  | q :: m => by simp [PyData.canLayAll0, PyData.canLay0, can_Ms m, encM, can_ints]
theorem dep_Ms : ∀ m : List (Int × List Int), PyData.depthAll (m.map encM) ≤ 2
  | [] => by simp [PyData.depthAll]
  | q :: m => by
    have := dep_Ms m
    simp [PyData.depthAll, PyData.depth, encM, PySem.W.depth_ints]
    omega
/-- a list of letters against [] -/
theorem neMnil {K : Frag} {H : Hp} {a b : Addr} {us : List V} {m : List (Int × List Int)} {Q : VK} (ha : SqL K H a us) (hm : PtsM K H us m) (hb : SqL K H b []) (h : Q (.bl (!decide (m = []))) H) : rNeD K (.ref a) (.ref b) H Q := by
  refine ⟨_, _, .lst ha (dpMs hm), .lst hb .nil, ?_, ?_, ?_⟩
  · have := dep_Ms m
    simp [SeqAt.shaped, PyData.canLay0, can_Ms, PyData.depth]
    omega
  · simp [SeqAt.shaped, PyData.canLay0, PyData.canLayAll0, PyData.depth, PyData.depthAll]
  · rw [PyData.eqv.eq_7]
    cases m with
    | nil => simpa [PyData.eqvAll] using h
    | cons q m => simpa [PyData.eqvAll] using h
theorem eqMnil {K : Frag} {H : Hp} {a b : Addr} {us : List V} {m : List (Int × List Int)} {Q : VK} (ha : SqL K H a us) (hm : PtsM K H us m) (hb : SqL K H b []) (h : Q (.bl (decide (m = []))) H) : rEqD K (.ref a) (.ref b) H Q := by
  refine ⟨_, _, .lst ha (dpMs hm), .lst hb .nil, ?_, ?_, ?_⟩
  · have := dep_Ms m
    simp [SeqAt.shaped, PyData.canLay0, can_Ms, PyData.depth]
    omega
  · simp [SeqAt.shaped, PyData.canLay0, PyData.canLayAll0, PyData.depth, PyData.depthAll]
  · rw [PyData.eqv.eq_7]
    cases m with
    | nil => simpa [PyData.eqvAll] using h
    | cons q m => simpa [PyData.eqvAll] using h
end NL
/-! K3: the program's exceptions -/
namespace NL
open PySem PySem.Spec PyProof.Rows L2
section
variable {P : Program} {w : World} {K : Frag} {mg : Str → Option Value} {base : Heap}
/-- an exception of the class x with these fields flies; what stood stands -/
def Fly (K : Frag) (x : Str) (fs : List (Str × V)) (S : List Addr) (H : Hp) (E : XK) : Prop := ∀ (H' : Hp) (d : Addr), Fr S H H' → H d = none → H' d = some (.xd fs) → E (.ref (He.ga K x)) (some d) H'
theorem same_xd {H1 : Hp} {a dx C : Addr} {o u : HO} {fs : List (Str × V)} (h : H1 a = none) (hd : (upd H1 a u) dx = none) (hn : dx ≠ a) : Same H1 (upd (del (upd (upd (upd H1 a u) dx (exd dx fs)) a o) a) dx (.xd fs)) := fun b v e => by
  have hba : b ≠ a := ne_of_none e h
  have hdx : H1 dx = none := by rw [upd_ne hn] at hd; exact hd
  have hbd : b ≠ dx := ne_of_none e hdx
  rw [upd_ne hbd]
  unfold del
  rw [if_neg hba, upd_ne hba, upd_ne hbd, upd_ne hba]
  exact e
/-- an __init__ that stores one field -/
def spI1 (f : Str) (C : Addr) : Sp := fun vs H Q _ => ∃ (a : Addr) (v : V), vs = [.ref a, v] ∧ H a = some (exo a C none) ∧ ∀ dx, H dx = none → dx ≠ a → Q .non (upd (upd H dx (exd dx [(f, v)])) a (exo a C (some dx)))
/-- making it: the fields' values, then the exception with them -/
def tMk1 (K : Frag) (x f : Str) (ta : TA) : L2.St → Hp → XK → Prop := fun σ H Q => ta σ H fun vs H1 => ∃ v, vs = [v] ∧ Fly K x [(f, v)] [] H1 Q
theorem mk1_of {K : Frag} {x f : Str} {ta : TA} {σ : L2.St} {H : Hp} {Q : XK} (mono : ∀ P P' : List V → Hp → Prop, (∀ vs H1, P vs H1 → P' vs H1) → ta σ H P → ta σ H P') (h : tMk1 K x f ta σ H Q) : tMkO (He.ga K x) (spI1 f (He.ga K x)) [] ta σ H Q := by
  refine mono _ _ (fun vs H1 hh => ?_) h
  obtain ⟨v, rfl, k⟩ := hh
  refine ⟨by simp, fun a ha => ⟨a, v, rfl, upd_same, fun dx hdx hn => ⟨rfl, dx, [(f, v)], upd_same, ?_, ?_, ?_⟩⟩⟩
  · rw [upd_ne hn, upd_same]
  · rw [upd_ne hn] at hdx
    exact hdx
  · refine k _ dx (Fr.same (same_xd (C := He.ga K x) ha hdx hn)) ?_ upd_same
    rw [upd_ne hn] at hdx
    exact hdx

abbrev tx_BadNumber : Stmt := inClass (top 3) 0
theorem scp_BadNumber : FnScope ["self", "given"] ["self", "given"] (defScope tx_BadNumber) := ⟨rfl, rfl, rfl, by decide +kernel, rfl, by decide +kernel, by decide +kernel⟩
theorem ok_BadNumber (T : Txt K mg) : ∃ fd, FnOk P w K mg base CX0 1 (He.ma K (He.ga K "BadNumber") "__init__") fd ["self", "given"] (spI1 "given" (He.ga K "BadNumber")) ∧ Binds K fd ["self", "given"] [] := by
  obtain ⟨fd, F⟩ := T.d_BadNumber_init
  refine ⟨fd, F.ok scp_BadNumber (fun vs H Q E h => ?_) (fun cdv A outer s H vs Q E hr h => ?_), F.bindsN fun _ _ _ _ _ _ us hl => match us, hl with | [_, _], _ => rfl⟩
  · obtain ⟨a, v, rfl, _⟩ := h
    rfl
  obtain ⟨a, v, rfl, ha, k⟩ := h
  refine ⟨_, PSs.nox (pss_cons (ps_expr (pe_ninit T.g_NestError T.ne_ga T.ne_rd T.ne_fc (pa_cons (pv 0) (pa_cons pe_str pa_nil)))) (pss_one (ps_ost (pv 0) (pv 1)))), ?_⟩
  refine ⟨_, rfl, a, _, _, rfl, by simp, T.x_BadNumber, ha, ?_⟩
  exact ⟨_, rfl, _, rfl, a, _, rfl, T.x_BadNumber, T.xn_BadNumber_given, .inl ⟨ha, fun dx h1 h2 => k dx h1 h2⟩⟩
abbrev tx_BadPrime : Stmt := inClass (top 4) 0
theorem scp_BadPrime : FnScope ["self", "given"] ["self", "given"] (defScope tx_BadPrime) := ⟨rfl, rfl, rfl, by decide +kernel, rfl, by decide +kernel, by decide +kernel⟩
theorem ok_BadPrime (T : Txt K mg) : ∃ fd, FnOk P w K mg base CX0 1 (He.ma K (He.ga K "BadPrime") "__init__") fd ["self", "given"] (spI1 "given" (He.ga K "BadPrime")) ∧ Binds K fd ["self", "given"] [] := by
  obtain ⟨fd, F⟩ := T.d_BadPrime_init
  refine ⟨fd, F.ok scp_BadPrime (fun vs H Q E h => ?_) (fun cdv A outer s H vs Q E hr h => ?_), F.bindsN fun _ _ _ _ _ _ us hl => match us, hl with | [_, _], _ => rfl⟩
  · obtain ⟨a, v, rfl, _⟩ := h
    rfl
  obtain ⟨a, v, rfl, ha, k⟩ := h
  refine ⟨_, PSs.nox (pss_cons (ps_expr (pe_ninit T.g_NestError T.ne_ga T.ne_rd T.ne_fc (pa_cons (pv 0) (pa_cons pe_str pa_nil)))) (pss_one (ps_ost (pv 0) (pv 1)))), ?_⟩
  refine ⟨_, rfl, a, _, _, rfl, by simp, T.x_BadPrime, ha, ?_⟩
  exact ⟨_, rfl, _, rfl, a, _, rfl, T.x_BadPrime, T.xn_BadPrime_given, .inl ⟨ha, fun dx h1 h2 => k dx h1 h2⟩⟩
abbrev tx_BadLaying : Stmt := inClass (top 5) 0
theorem scp_BadLaying : FnScope ["self", "given"] ["self", "given"] (defScope tx_BadLaying) := ⟨rfl, rfl, rfl, by decide +kernel, rfl, by decide +kernel, by decide +kernel⟩
theorem ok_BadLaying (T : Txt K mg) : ∃ fd, FnOk P w K mg base CX0 1 (He.ma K (He.ga K "BadLaying") "__init__") fd ["self", "given"] (spI1 "given" (He.ga K "BadLaying")) ∧ Binds K fd ["self", "given"] [] := by
  obtain ⟨fd, F⟩ := T.d_BadLaying_init
  refine ⟨fd, F.ok scp_BadLaying (fun vs H Q E h => ?_) (fun cdv A outer s H vs Q E hr h => ?_), F.bindsN fun _ _ _ _ _ _ us hl => match us, hl with | [_, _], _ => rfl⟩
  · obtain ⟨a, v, rfl, _⟩ := h
    rfl
  obtain ⟨a, v, rfl, ha, k⟩ := h
  refine ⟨_, PSs.nox (pss_cons (ps_expr (pe_ninit T.g_NestError T.ne_ga T.ne_rd T.ne_fc (pa_cons (pv 0) (pa_cons pe_str pa_nil)))) (pss_one (ps_ost (pv 0) (pv 1)))), ?_⟩
  refine ⟨_, rfl, a, _, _, rfl, by simp, T.x_BadLaying, ha, ?_⟩
  exact ⟨_, rfl, _, rfl, a, _, rfl, T.x_BadLaying, T.xn_BadLaying_given, .inl ⟨ha, fun dx h1 h2 => k dx h1 h2⟩⟩
abbrev tx_Unsound : Stmt := inClass (top 6) 0
theorem scp_Unsound : FnScope ["self", "need"] ["self", "need"] (defScope tx_Unsound) := ⟨rfl, rfl, rfl, by decide +kernel, rfl, by decide +kernel, by decide +kernel⟩
theorem ok_Unsound (T : Txt K mg) : ∃ fd, FnOk P w K mg base CX0 1 (He.ma K (He.ga K "Unsound") "__init__") fd ["self", "need"] (spI1 "need" (He.ga K "Unsound")) ∧ Binds K fd ["self", "need"] [] := by
  obtain ⟨fd, F⟩ := T.d_Unsound_init
  refine ⟨fd, F.ok scp_Unsound (fun vs H Q E h => ?_) (fun cdv A outer s H vs Q E hr h => ?_), F.bindsN fun _ _ _ _ _ _ us hl => match us, hl with | [_, _], _ => rfl⟩
  · obtain ⟨a, v, rfl, _⟩ := h
    rfl
  obtain ⟨a, v, rfl, ha, k⟩ := h
  refine ⟨_, PSs.nox (pss_cons (ps_expr (pe_ninit T.g_NestError T.ne_ga T.ne_rd T.ne_fc (pa_cons (pv 0) (pa_cons pe_str pa_nil)))) (pss_one (ps_ost (pv 0) (pv 1)))), ?_⟩
  refine ⟨_, rfl, a, _, _, rfl, by simp, T.x_Unsound, ha, ?_⟩
  exact ⟨_, rfl, _, rfl, a, _, rfl, T.x_Unsound, T.xn_Unsound_need, .inl ⟨ha, fun dx h1 h2 => k dx h1 h2⟩⟩
abbrev tx_BadLetter : Stmt := inClass (top 7) 0
theorem scp_BadLetter : FnScope ["self", "given"] ["self", "given"] (defScope tx_BadLetter) := ⟨rfl, rfl, rfl, by decide +kernel, rfl, by decide +kernel, by decide +kernel⟩
theorem ok_BadLetter (T : Txt K mg) : ∃ fd, FnOk P w K mg base CX0 1 (He.ma K (He.ga K "BadLetter") "__init__") fd ["self", "given"] (spI1 "given" (He.ga K "BadLetter")) ∧ Binds K fd ["self", "given"] [] := by
  obtain ⟨fd, F⟩ := T.d_BadLetter_init
  refine ⟨fd, F.ok scp_BadLetter (fun vs H Q E h => ?_) (fun cdv A outer s H vs Q E hr h => ?_), F.bindsN fun _ _ _ _ _ _ us hl => match us, hl with | [_, _], _ => rfl⟩
  · obtain ⟨a, v, rfl, _⟩ := h
    rfl
  obtain ⟨a, v, rfl, ha, k⟩ := h
  refine ⟨_, PSs.nox (pss_cons (ps_expr (pe_ninit T.g_NestError T.ne_ga T.ne_rd T.ne_fc (pa_cons (pv 0) (pa_cons pe_str pa_nil)))) (pss_one (ps_ost (pv 0) (pv 1)))), ?_⟩
  refine ⟨_, rfl, a, _, _, rfl, by simp, T.x_BadLetter, ha, ?_⟩
  exact ⟨_, rfl, _, rfl, a, _, rfl, T.x_BadLetter, T.xn_BadLetter_given, .inl ⟨ha, fun dx h1 h2 => k dx h1 h2⟩⟩
/-- BadText: two fields -/
def spI2 (f g : Str) (C : Addr) : Sp := fun vs H Q _ => ∃ (a : Addr) (u v : V), vs = [.ref a, u, v] ∧ H a = some (exo a C none) ∧ ∀ dx, H dx = none → dx ≠ a → Q .non (upd (upd (upd H dx (exd dx [(f, u)])) a (exo a C (some dx))) dx (exd dx [(g, v), (f, u)]))
abbrev tx_BadText : Stmt := inClass (top 8) 0
theorem scp_BadText : FnScope ["self", "line", "word"] ["self", "line", "word"] (defScope tx_BadText) := ⟨rfl, rfl, rfl, by decide +kernel, rfl, by decide +kernel, by decide +kernel⟩
theorem ok_BadText (T : Txt K mg) : ∃ fd, FnOk P w K mg base CX0 1 (He.ma K (He.ga K "BadText") "__init__") fd ["self", "line", "word"] (spI2 "line" "word" (He.ga K "BadText")) ∧ Binds K fd ["self", "line", "word"] [] := by
  obtain ⟨fd, F⟩ := T.d_BadText_init
  refine ⟨fd, F.ok scp_BadText (fun vs H Q E h => ?_) (fun cdv A outer s H vs Q E hr h => ?_), F.bindsN fun _ _ _ _ _ _ us hl => match us, hl with | [_, _, _], _ => rfl⟩
  · obtain ⟨a, u, v, rfl, _⟩ := h
    rfl
  obtain ⟨a, u, v, rfl, ha, k⟩ := h
  refine ⟨_, PSs.nox (pss_cons (ps_expr (pe_ninit T.g_NestError T.ne_ga T.ne_rd T.ne_fc (pa_cons (pv 0) (pa_cons pe_str pa_nil)))) (pss_cons (ps_ost (pv 0) (pv 1)) (pss_one (ps_ost (pv 0) (pv 2))))), ?_⟩
  refine ⟨_, rfl, a, _, _, rfl, by simp, T.x_BadText, ha, ?_⟩
  refine ⟨_, rfl, _, rfl, a, _, rfl, T.x_BadText, T.xn_BadText_line, .inl ⟨ha, fun dx h1 h2 => ?_⟩⟩
  refine ⟨_, rfl, _, rfl, a, _, rfl, T.x_BadText, T.xn_BadText_word, .inr ⟨dx, _, upd_same, ?_, by simp, k dx h1 h2⟩⟩
  rw [upd_ne h2, upd_same]
def tMk2 (K : Frag) (x f g : Str) (ta : TA) : L2.St → Hp → XK → Prop := fun σ H Q => ta σ H fun vs H1 => ∃ u v, vs = [u, v] ∧ Fly K x [(g, v), (f, u)] [] H1 Q
theorem mk2_of {K : Frag} {x f g : Str} {ta : TA} {σ : L2.St} {H : Hp} {Q : XK} (mono : ∀ P P' : List V → Hp → Prop, (∀ vs H1, P vs H1 → P' vs H1) → ta σ H P → ta σ H P') (h : tMk2 K x f g ta σ H Q) : tMkO (He.ga K x) (spI2 f g (He.ga K x)) [] ta σ H Q := by
  refine mono _ _ (fun vs H1 hh => ?_) h
  obtain ⟨u, v, rfl, k⟩ := hh
  refine ⟨by simp, fun a ha => ⟨a, u, v, rfl, upd_same, fun dx hdx hn => ⟨rfl, dx, [(g, v), (f, u)], ?_, upd_same, ?_, ?_⟩⟩⟩
  · rw [upd_ne hn.symm, upd_same]
  · rw [upd_ne hn] at hdx
    exact hdx
  · have hdx' : H1 dx = none := by rw [upd_ne hn] at hdx; exact hdx
    refine k _ dx (Fr.same fun b o e => ?_) hdx' upd_same
    have hba : b ≠ a := ne_of_none e ha
    have hbd : b ≠ dx := ne_of_none e hdx'
    rw [upd_ne hbd]
    unfold del
    rw [if_neg hba, upd_ne hbd, upd_ne hba, upd_ne hbd, upd_ne hba]
    exact e
/-- NothingLeft, over RuntimeError -/
abbrev tx_NothingLeft : Stmt := inClass (top 9) 0
theorem scp_NothingLeft : FnScope ["self", "many"] ["self", "many"] (defScope tx_NothingLeft) := ⟨rfl, rfl, rfl, by decide +kernel, rfl, by decide +kernel, by decide +kernel⟩
theorem ok_NothingLeft (T : Txt K mg) : ∃ fd, FnOk P w K mg base CX0 1 (He.ma K (He.ga K "NothingLeft") "__init__") fd ["self", "many"] (spI1 "many" (He.ga K "NothingLeft")) ∧ Binds K fd ["self", "many"] [] := by
  obtain ⟨fd, F⟩ := T.d_NothingLeft_init
  refine ⟨fd, F.ok scp_NothingLeft (fun vs H Q E h => ?_) (fun cdv A outer s H vs Q E hr h => ?_), F.bindsN fun _ _ _ _ _ _ us hl => match us, hl with | [_, _], _ => rfl⟩
  · obtain ⟨a, v, rfl, _⟩ := h
    rfl
  obtain ⟨a, v, rfl, ha, k⟩ := h
  refine ⟨_, PSs.nox (pss_cons (ps_expr (pe_reinit T.z_RuntimeError T.re_fc (pa_cons (pv 0) (pa_cons pe_str pa_nil)))) (pss_one (ps_rst (pv 0) (pv 1)))), ?_⟩
  refine ⟨_, rfl, a, _, _, rfl, by simp, T.x_NothingLeft, ha, ?_⟩
  exact ⟨_, rfl, _, rfl, a, _, rfl, T.x_NothingLeft, T.xn_NothingLeft_many, ha, fun dx h1 h2 => k dx h1 h2⟩
end
section
variable {X : Cx} {e e2 : Expr} {ta tb : TE} {p pos : Pos} {k : Nat}
/-- one argument, two -/
theorem mono1 {te : TE} (m : ∀ (σ : L2.St) (H : Hp) (Q Q' : VK), (∀ v H1, Q v H1 → Q' v H1) → te σ H Q → te σ H Q') (σ : L2.St) (H : Hp) : ∀ P P' : List V → Hp → Prop, (∀ vs H1, P vs H1 → P' vs H1) → tCons te tNil σ H P → tCons te tNil σ H P' :=
  fun _ _ h q => m σ H _ _ (fun _ _ q => h _ _ q) q
theorem monoV (i : Nat) (σ : L2.St) (H : Hp) (Q Q' : VK) (h : ∀ v H1, Q v H1 → Q' v H1) (q : tVar i σ H Q) : tVar i σ H Q' := let ⟨v, e, q⟩ := q; ⟨v, e, h _ _ q⟩
end
end NL
/-! K4: raising them -/
namespace NL
open PySem PySem.Spec PyProof.Rows L2
section
variable {X : Cx} {e : Expr} {es : List Expr} {ta : TA} {p pos : Pos} {j : Nat}
theorem mkk1 {K : Frag} {x f : Str} {v : V} {H1 : Hp} {Q : XK} (k : Fly K x [(f, v)] [] H1 Q) : ([v] : List V).length ≤ 1000 ∧ ∀ a : Addr, H1 a = none → spI1 f (He.ga K x) (V.ref a :: ([v] ++ [])) (upd H1 a (exo a (He.ga K x) none))
    (fun v H2 => v = .non ∧ ∃ d fs, H2 a = some (exo a (He.ga K x) (some d)) ∧ H2 d = some (exd d fs) ∧ H1 d = none ∧ Q (.ref (He.ga K x)) (some d) (upd (del H2 a) d (.xd fs))) (fun _ _ _ => False) :=
  mk1_of (ta := fun _ H P => P [v] H) (σ := []) (fun _ _ h q => h _ _ q) ⟨v, rfl, k⟩
theorem mkk2 {K : Frag} {x f g : Str} {u v : V} {H1 : Hp} {Q : XK} (k : Fly K x [(g, v), (f, u)] [] H1 Q) : ([u, v] : List V).length ≤ 1000 ∧ ∀ a : Addr, H1 a = none → spI2 f g (He.ga K x) (V.ref a :: ([u, v] ++ [])) (upd H1 a (exo a (He.ga K x) none))
    (fun v H2 => v = .non ∧ ∃ d fs, H2 a = some (exo a (He.ga K x) (some d)) ∧ H2 d = some (exd d fs) ∧ H1 d = none ∧ Q (.ref (He.ga K x)) (some d) (upd (del H2 a) d (.xd fs))) (fun _ _ _ => False) :=
  mk2_of (ta := fun _ H P => P [u, v] H) (σ := []) (fun _ _ h q => h _ _ q) ⟨u, v, rfl, k⟩
theorem pmk_BadNumber (T : Txt X.K X.mg) (hr : Room j X.A) (hk : 2 ≤ j) (ha : PA X (e :: es) ta) (hg : Gl X "BadNumber" := by rfl)
    (he : starEach (e :: es) X.env = (false, eval e X.env) :: starEach es X.env := by rfl) (hpl : (backTo pos (starEach es X.env)).any (·.1) = false := by rfl) :
    PMk X (.Call (.Name "BadNumber" p) (e :: es) [] pos) (tMkO (He.ga X.K "BadNumber") (spI1 "given" (He.ga X.K "BadNumber")) [] ta) := by
  obtain ⟨fd, F, b⟩ := ok_BadNumber (P := X.prog) (w := X.w) (base := X.base) T
  exact pmk_oex T.x_BadNumber T.xi_BadNumber T.xt_BadNumber F (hr.mono hk) b .nil pass0 hg T.g_BadNumber ha (by decide) he hpl
theorem pmk_BadPrime (T : Txt X.K X.mg) (hr : Room j X.A) (hk : 2 ≤ j) (ha : PA X (e :: es) ta) (hg : Gl X "BadPrime" := by rfl)
    (he : starEach (e :: es) X.env = (false, eval e X.env) :: starEach es X.env := by rfl) (hpl : (backTo pos (starEach es X.env)).any (·.1) = false := by rfl) :
    PMk X (.Call (.Name "BadPrime" p) (e :: es) [] pos) (tMkO (He.ga X.K "BadPrime") (spI1 "given" (He.ga X.K "BadPrime")) [] ta) := by
  obtain ⟨fd, F, b⟩ := ok_BadPrime (P := X.prog) (w := X.w) (base := X.base) T
  exact pmk_oex T.x_BadPrime T.xi_BadPrime T.xt_BadPrime F (hr.mono hk) b .nil pass0 hg T.g_BadPrime ha (by decide) he hpl
theorem pmk_BadLaying (T : Txt X.K X.mg) (hr : Room j X.A) (hk : 2 ≤ j) (ha : PA X (e :: es) ta) (hg : Gl X "BadLaying" := by rfl)
    (he : starEach (e :: es) X.env = (false, eval e X.env) :: starEach es X.env := by rfl) (hpl : (backTo pos (starEach es X.env)).any (·.1) = false := by rfl) :
    PMk X (.Call (.Name "BadLaying" p) (e :: es) [] pos) (tMkO (He.ga X.K "BadLaying") (spI1 "given" (He.ga X.K "BadLaying")) [] ta) := by
  obtain ⟨fd, F, b⟩ := ok_BadLaying (P := X.prog) (w := X.w) (base := X.base) T
  exact pmk_oex T.x_BadLaying T.xi_BadLaying T.xt_BadLaying F (hr.mono hk) b .nil pass0 hg T.g_BadLaying ha (by decide) he hpl
theorem pmk_Unsound (T : Txt X.K X.mg) (hr : Room j X.A) (hk : 2 ≤ j) (ha : PA X (e :: es) ta) (hg : Gl X "Unsound" := by rfl)
    (he : starEach (e :: es) X.env = (false, eval e X.env) :: starEach es X.env := by rfl) (hpl : (backTo pos (starEach es X.env)).any (·.1) = false := by rfl) :
    PMk X (.Call (.Name "Unsound" p) (e :: es) [] pos) (tMkO (He.ga X.K "Unsound") (spI1 "need" (He.ga X.K "Unsound")) [] ta) := by
  obtain ⟨fd, F, b⟩ := ok_Unsound (P := X.prog) (w := X.w) (base := X.base) T
  exact pmk_oex T.x_Unsound T.xi_Unsound T.xt_Unsound F (hr.mono hk) b .nil pass0 hg T.g_Unsound ha (by decide) he hpl
theorem pmk_BadLetter (T : Txt X.K X.mg) (hr : Room j X.A) (hk : 2 ≤ j) (ha : PA X (e :: es) ta) (hg : Gl X "BadLetter" := by rfl)
    (he : starEach (e :: es) X.env = (false, eval e X.env) :: starEach es X.env := by rfl) (hpl : (backTo pos (starEach es X.env)).any (·.1) = false := by rfl) :
    PMk X (.Call (.Name "BadLetter" p) (e :: es) [] pos) (tMkO (He.ga X.K "BadLetter") (spI1 "given" (He.ga X.K "BadLetter")) [] ta) := by
  obtain ⟨fd, F, b⟩ := ok_BadLetter (P := X.prog) (w := X.w) (base := X.base) T
  exact pmk_oex T.x_BadLetter T.xi_BadLetter T.xt_BadLetter F (hr.mono hk) b .nil pass0 hg T.g_BadLetter ha (by decide) he hpl
theorem pmk_BadText (T : Txt X.K X.mg) (hr : Room j X.A) (hk : 2 ≤ j) (ha : PA X (e :: es) ta) (hg : Gl X "BadText" := by rfl)
    (he : starEach (e :: es) X.env = (false, eval e X.env) :: starEach es X.env := by rfl) (hpl : (backTo pos (starEach es X.env)).any (·.1) = false := by rfl) :
    PMk X (.Call (.Name "BadText" p) (e :: es) [] pos) (tMkO (He.ga X.K "BadText") (spI2 "line" "word" (He.ga X.K "BadText")) [] ta) := by
  obtain ⟨fd, F, b⟩ := ok_BadText (P := X.prog) (w := X.w) (base := X.base) T
  exact pmk_oex T.x_BadText T.xi_BadText T.xt_BadText F (hr.mono hk) b .nil pass0 hg T.g_BadText ha (by decide) he hpl
theorem pmk_NothingLeft (T : Txt X.K X.mg) (hr : Room j X.A) (hk : 2 ≤ j) (ha : PA X (e :: es) ta) (hg : Gl X "NothingLeft" := by rfl)
    (he : starEach (e :: es) X.env = (false, eval e X.env) :: starEach es X.env := by rfl) (hpl : (backTo pos (starEach es X.env)).any (·.1) = false := by rfl) :
    PMk X (.Call (.Name "NothingLeft" p) (e :: es) [] pos) (tMkO (He.ga X.K "NothingLeft") (spI1 "many" (He.ga X.K "NothingLeft")) [] ta) := by
  obtain ⟨fd, F, b⟩ := ok_NothingLeft (P := X.prog) (w := X.w) (base := X.base) T
  exact pmk_rex T.x_NothingLeft T.xi_NothingLeft T.xt_NothingLeft F (hr.mono hk) b pass0 hg T.g_NothingLeft ha (by decide) he hpl
end
end NL
/-! M1: the mirrors of the block functions -/
namespace NL
def valM (p s : Int) (ns : List Int) : Int := ns.reverse.foldl (fun f o => (f * s + o) % p) 0
def invL (p s : Int) : List Int := ((List.range (p - 1).toNat).map fun (i : Nat) => (1 : Int) + i).filter fun o => decide (o * s % p = 1)
def invM (p s : Int) : Int := (invL p s).headD 0
def trD (p root : Int) : Int → List Int → List Int
  | _, [] => []
  | prev, b :: bs => ((prev - root * b) % p) :: trD p root b bs
def trE : Int → List Int → Int
  | prev, [] => prev
  | _, b :: bs => trE b bs
def tr (p root : Int) (bl : List Int) : List Int := trD p root 0 bl ++ [trE 0 bl]
theorem trD_len (p root : Int) : ∀ (prev : Int) (d : List Int), (trD p root prev d).length = d.length
  | _, [] => rfl
  | _, b :: bs => congrArg (· + 1) (trD_len p root b bs)
theorem trD_snoc (p root : Int) : ∀ (prev : Int) (d : List Int) (b : Int), trD p root prev (d ++ [b]) = trD p root prev d ++ [(trE prev d - root * b) % p]
  | _, [], _ => rfl
  | _, c :: d, b => congrArg (List.cons _) (trD_snoc p root c d b)
theorem trE_snoc : ∀ (prev : Int) (d : List Int) (b : Int), trE prev (d ++ [b]) = b
  | _, [], _ => rfl
  | _, c :: d, b => trE_snoc c d b
theorem tr_len (p root : Int) (bl : List Int) : (tr p root bl).length = bl.length + 1 := by
  unfold tr
  rw [List.length_append, trD_len]
  rfl
def blkStep (p one : Int) (s : List Int × Int) (q : Int × Int) : List Int × Int := if q.1 = one then s else (tr p q.1 s.1, s.2 * (one - q.1) % p)
def blkM (p : Int) (pts : List (Int × Int)) (one : Int) : List Int × Int := pts.foldl (blkStep p one) ([1], 1)
def thrStep (p : Int) (pts : List (Int × Int)) (found : List Int) (q : Int × Int) : List Int :=
  List.zipWith (fun near far => (near + (q.2 * invM p (blkM p pts q.1).2 % p) * far) % p) found (blkM p pts q.1).1
def thrM (p : Int) (pts : List (Int × Int)) : List Int := pts.foldl (thrStep p pts) (List.replicate pts.length 0)
/-- the inverse is there -/
def Inv1 (p s : Int) : Prop := ∃ r : Int, 1 ≤ r ∧ r < p ∧ r * s % p = 1
theorem inv_mem {p s r : Int} (h1 : 1 ≤ r) (h2 : r < p) (h3 : r * s % p = 1) : r ∈ invL p s := by
  unfold invL
  rw [List.mem_filter]
  refine ⟨?_, decide_eq_true h3⟩
  rw [List.mem_map]
  exact ⟨(r - 1).toNat, by rw [List.mem_range]; omega, by omega⟩
theorem inv_cons {p s : Int} (h : Inv1 p s) : ∃ t, invL p s = invM p s :: t := by
  obtain ⟨r, h1, h2, h3⟩ := h
  have := inv_mem h1 h2 h3
  unfold invM
  cases e : invL p s with
  | nil =>
    rw [e] at this
    cases this
  | cons a t => exact ⟨t, rfl⟩
theorem inv_bd {p s : Int} (h : Inv1 p s) : 1 ≤ invM p s ∧ invM p s < p ∧ invM p s * s % p = 1 := by
  obtain ⟨t, e⟩ := inv_cons h
  have : invM p s ∈ invL p s := by
    rw [e]
    exact List.mem_cons_self
  unfold invL at this
  rw [List.mem_filter, List.mem_map] at this
  obtain ⟨⟨i, hi, e1⟩, h3⟩ := this
  rw [List.mem_range] at hi
  exact ⟨by omega, by omega, of_decide_eq_true h3⟩
end NL
namespace NL
theorem rangeMid {n : Nat} {f : Nat → Int} {d : List Int} {b : Int} {r : List Int} (h : (List.range n).map f = d ++ b :: r) : b = f d.length ∧ d.length < n := by
  have h1 : ((List.range n).map f)[d.length]? = some b := by rw [h]; simp
  rw [List.getElem?_map] at h1
  by_cases c : d.length < n
  · rw [List.getElem?_range c] at h1
    exact ⟨(Option.some.inj h1).symm, c⟩
  · rw [List.getElem?_eq_none (by simp; omega)] at h1
    cases h1
end NL
namespace NL
theorem blk_len (p one : Int) : ∀ (d : List (Int × Int)) (s : List Int × Int), (d.foldl (blkStep p one) s).1.length ≤ s.1.length + d.length
  | [], s => Nat.le_refl _
  | q :: d, s => by
    rw [List.foldl_cons]
    refine Nat.le_trans (blk_len p one d _) ?_
    unfold blkStep
    split
    · simp
    · simp [tr_len]
      omega
/-- points that lie well for the prime: places within 100, the inverses there -/
structure PtsOk (p : Int) (ps : List (Int × Int)) : Prop where
  hp : 0 < p ∧ p ≤ 100
  len : ps.length ≤ 100
  bd : ∀ q ∈ ps, -100 ≤ q.1 ∧ q.1 ≤ 100
  inv : ∀ q ∈ ps, Inv1 p (blkM p ps q.1).2
end NL
/-! M2: the law's block functions, and that both sides agree -/
namespace NL
/-! congruence -/
def Cg (p a b : Int) : Prop := ∃ k, a = b + p * k
theorem Cg.refl {p : Int} (a : Int) : Cg p a a := ⟨0, by grind⟩
theorem Cg.symm {p a b : Int} (h : Cg p a b) : Cg p b a := let ⟨k, e⟩ := h; ⟨-k, by grind⟩
theorem Cg.trans {p a b c : Int} (h : Cg p a b) (h' : Cg p b c) : Cg p a c := let ⟨k, e⟩ := h; let ⟨l, f⟩ := h'; ⟨k + l, by grind⟩
theorem Cg.add {p a b c d : Int} (h : Cg p a b) (h' : Cg p c d) : Cg p (a + c) (b + d) := let ⟨k, e⟩ := h; let ⟨l, f⟩ := h'; ⟨k + l, by grind⟩
theorem Cg.sub {p a b c d : Int} (h : Cg p a b) (h' : Cg p c d) : Cg p (a - c) (b - d) := let ⟨k, e⟩ := h; let ⟨l, f⟩ := h'; ⟨k - l, by grind⟩
theorem Cg.mul {p a b c d : Int} (h : Cg p a b) (h' : Cg p c d) : Cg p (a * c) (b * d) := let ⟨k, e⟩ := h; let ⟨l, f⟩ := h'; ⟨k * d + b * l + p * k * l, by grind⟩
theorem Cg.mod {p : Int} (a : Int) : Cg p (a % p) a := ⟨-(a / p), by have := Int.emod_add_mul_ediv a p; grind⟩
theorem Cg.emod {p a b : Int} (h : Cg p a b) : a % p = b % p := by
  obtain ⟨k, rfl⟩ := h
  exact Int.add_mul_emod_self_left b p k
theorem Cg.of {p a b : Int} (h : a % p = b % p) : Cg p a b := (Cg.mod a).symm.trans (h ▸ Cg.mod b)
/-! the law's between and block -/
def btwStep (x one : Int) (t : Int × Int) (r : Int × Int) : Int × Int := if r.1 = one then t else (t.1 * (x - r.1), t.2 * (one - r.1))
def btwIn (ps : List (Int × Int)) (x : Int) (q : Int × Int) : Int × Int := ps.foldl (btwStep x q.1) (q.2, 1)
def btwOut (p : Int) (ps : List (Int × Int)) (x g : Int) (q : Int × Int) : Int := g + (btwIn ps x q).1 * invM p ((btwIn ps x q).2 % p)
def betM (p : Int) (ps : List (Int × Int)) (x : Int) : Int := ps.foldl (btwOut p ps x) 0 % p
def trL (far : Int) (row : List Int) : List Int := List.zipWith (fun up here => up - far * here) (0 :: row) (row ++ [0])
def lwStep (one : Int) (s : List Int × Int) (r : Int × Int) : List Int × Int := if r.1 = one then s else (trL r.1 s.1, s.2 * (one - r.1))
def lwBlk (pts : List (Int × Int)) (one : Int) : List Int × Int := pts.foldl (lwStep one) ([1], 1)
def lwOut (p : Int) (pts : List (Int × Int)) (got : List Int) (q : Int × Int) : List Int :=
  List.zipWith (fun here part => (here + (q.2 * invM p ((lwBlk pts q.1).2 % p)) * part) % p) got (lwBlk pts q.1).1
def lawBlk (p : Int) (pts : List (Int × Int)) : List Int := pts.foldl (lwOut p pts) (List.replicate pts.length 0)
/-! lists congruent item by item -/
inductive CgL (p : Int) : List Int → List Int → Prop
  | nil : CgL p [] []
  | cons {a b as bs} : Cg p a b → CgL p as bs → CgL p (a :: as) (b :: bs)
theorem CgL.refl {p : Int} : ∀ l, CgL p l l
  | [] => .nil
  | a :: l => .cons (Cg.refl a) (CgL.refl l)
theorem CgL.len {p : Int} {a b : List Int} (h : CgL p a b) : a.length = b.length := by
  induction h with
  | nil => rfl
  | cons _ _ ih => simp [ih]
theorem tr_cg {p : Int} (r : Int) : ∀ {a b : List Int}, CgL p a b → ∀ {x y : Int}, Cg p x y → CgL p (trD p r x a ++ [trE x a]) (List.zipWith (fun up here => up - r * here) (y :: b) (b ++ [0]))
  | _, _, .nil, x, y, h => by
    refine .cons ?_ .nil
    obtain ⟨k, e⟩ := h
    exact ⟨k, by simp [trE]; grind⟩
  | _, _, .cons (a := a) (b := b) (as := as) (bs := bs) h t, x, y, h' => by
    show CgL p (((x - r * a) % p) :: (trD p r a as ++ [trE a as])) ((y - r * b) :: List.zipWith (fun up here => up - r * here) (b :: bs) (bs ++ [0]))
    exact .cons ((Cg.mod _).trans (h'.sub ((Cg.refl r).mul h))) (tr_cg r t h)
theorem blk_cg {p : Int} (hp : 1 < p) (one : Int) : ∀ (ps : List (Int × Int)) (s t : List Int × Int), CgL p s.1 t.1 → s.2 = t.2 % p → CgL p (ps.foldl (blkStep p one) s).1 (ps.foldl (lwStep one) t).1 ∧ (ps.foldl (blkStep p one) s).2 = (ps.foldl (lwStep one) t).2 % p
  | [], s, t, h1, h2 => ⟨h1, h2⟩
  | q :: ps, s, t, h1, h2 => by
    rw [List.foldl_cons, List.foldl_cons]
    by_cases c : q.1 = one
    · have e1 : blkStep p one s q = s := if_pos c
      have e2 : lwStep one t q = t := if_pos c
      rw [e1, e2]
      exact blk_cg hp one ps s t h1 h2
    · have e1 : blkStep p one s q = (tr p q.1 s.1, s.2 * (one - q.1) % p) := if_neg c
      have e2 : lwStep one t q = (trL q.1 t.1, t.2 * (one - q.1)) := if_neg c
      rw [e1, e2]
      refine blk_cg hp one ps _ _ (tr_cg q.1 h1 (Cg.refl 0)) ?_
      show s.2 * (one - q.1) % p = t.2 * (one - q.1) % p
      rw [h2]
      exact ((Cg.mod _).mul (Cg.refl _)).emod
theorem blk_is {p : Int} (hp : 1 < p) (ps : List (Int × Int)) (one : Int) : CgL p (blkM p ps one).1 (lwBlk ps one).1 ∧ (blkM p ps one).2 = (lwBlk ps one).2 % p :=
  blk_cg hp one ps ([1], 1) ([1], 1) (CgL.refl _) (by show (1 : Int) = 1 % p; rw [Int.emod_eq_of_lt] <;> omega)
theorem zip_cg {p : Int} {c c' : Int} (hc : Cg p c c') : ∀ {a b : List Int}, CgL p a b → ∀ f : List Int, List.zipWith (fun near far => (near + c * far) % p) f a = List.zipWith (fun near far => (near + c' * far) % p) f b
  | _, _, .nil, f => by simp
  | _, _, .cons h t, [] => by simp
  | _, _, .cons h t, x :: f => by
    rw [List.zipWith_cons_cons, List.zipWith_cons_cons, zip_cg hc t f, ((Cg.refl x).add (hc.mul h)).emod]
theorem thr_step {p : Int} (hp : 1 < p) (ps : List (Int × Int)) (f : List Int) (q : Int × Int) : thrStep p ps f q = lwOut p ps f q := by
  obtain ⟨h1, h2⟩ := blk_is hp ps q.1
  unfold thrStep lwOut
  rw [h2]
  exact zip_cg (Cg.mod _) h1 f
theorem thr_law {p : Int} (hp : 1 < p) (ps : List (Int × Int)) : thrM p ps = lawBlk p ps := by
  unfold thrM lawBlk
  have : thrStep p ps = lwOut p ps := funext fun f => funext fun q => thr_step hp ps f q
  rw [this]
/-! values -/
def ev (x : Int) : List Int → Int
  | [] => 0
  | b :: bs => b + x * ev x bs
theorem val_ev (p x : Int) (ns : List Int) : valM p x ns = ev x ns % p := by
  unfold valM
  rw [List.foldl_reverse]
  induction ns with
  | nil => simp [ev]
  | cons b bs ih =>
    rw [List.foldr_cons, ih]
    show (ev x bs % p * x + b) % p = (b + x * ev x bs) % p
    refine Cg.emod ?_
    obtain ⟨k, e⟩ := Cg.mod (p := p) (ev x bs)
    exact ⟨k * x, by rw [e]; grind⟩
theorem ev_tr (p x r : Int) : ∀ (bl : List Int) (prev : Int), Cg p (ev x (trD p r prev bl ++ [trE prev bl])) (prev + (x - r) * ev x bl)
  | [], prev => ⟨0, by simp [trD, trE, ev]⟩
  | b :: bs, prev => by
    show Cg p ((prev - r * b) % p + x * ev x (trD p r b bs ++ [trE b bs])) _
    refine ((Cg.mod _).add ((Cg.refl x).mul (ev_tr p x r bs b))).trans ⟨0, ?_⟩
    simp only [ev]
    grind
theorem ev_zip (p x c : Int) : ∀ (f a : List Int), f.length = a.length → Cg p (ev x (List.zipWith (fun near far => (near + c * far) % p) f a)) (ev x f + c * ev x a)
  | [], [], _ => ⟨0, by simp [ev]⟩
  | b :: f, d :: a, h => by
    rw [List.zipWith_cons_cons]
    show Cg p ((b + c * d) % p + x * ev x _) _
    refine ((Cg.mod _).add ((Cg.refl x).mul (ev_zip p x c f a (by simpa using h)))).trans ⟨0, ?_⟩
    simp only [ev]
    grind
theorem btw_blk {p : Int} (x one : Int) : ∀ (ps : List (Int × Int)) (s : List Int × Int) (t : Int × Int) (c : Int), Cg p t.1 (c * ev x s.1) → Cg p t.2 s.2 →
    Cg p (ps.foldl (btwStep x one) t).1 (c * ev x (ps.foldl (blkStep p one) s).1) ∧ Cg p (ps.foldl (btwStep x one) t).2 (ps.foldl (blkStep p one) s).2
  | [], s, t, c, h1, h2 => ⟨h1, h2⟩
  | q :: ps, s, t, c, h1, h2 => by
    rw [List.foldl_cons, List.foldl_cons]
    by_cases k : q.1 = one
    · have e1 : blkStep p one s q = s := if_pos k
      have e2 : btwStep x one t q = t := if_pos k
      rw [e1, e2]
      exact btw_blk x one ps s t c h1 h2
    · have e1 : blkStep p one s q = (tr p q.1 s.1, s.2 * (one - q.1) % p) := if_neg k
      have e2 : btwStep x one t q = (t.1 * (x - q.1), t.2 * (one - q.1)) := if_neg k
      rw [e1, e2]
      refine btw_blk x one ps _ _ c ?_ ((h2.mul (Cg.refl _)).trans (Cg.mod _).symm)
      refine (h1.mul (Cg.refl _)).trans ?_
      refine Cg.trans ?_ ((Cg.refl c).mul (ev_tr p x q.1 s.1 0)).symm
      exact ⟨0, by grind⟩
theorem btw_is {p : Int} (ps : List (Int × Int)) (x : Int) (q : Int × Int) : Cg p (btwIn ps x q).1 (q.2 * ev x (blkM p ps q.1).1) ∧ Cg p (btwIn ps x q).2 (blkM p ps q.1).2 :=
  btw_blk x q.1 ps ([1], 1) (q.2, 1) q.2 ⟨0, by simp [ev]⟩ (Cg.refl _)
/-- places that differ: each block has as many signs as there are points -/
theorem blk_count (p one : Int) : ∀ (ps : List (Int × Int)) (s : List Int × Int), (ps.foldl (blkStep p one) s).1.length = s.1.length + (ps.filter fun q => decide (q.1 ≠ one)).length
  | [], s => rfl
  | q :: ps, s => by
    rw [List.foldl_cons, blk_count p one ps]
    by_cases k : q.1 = one
    · have e1 : blkStep p one s q = s := if_pos k
      rw [e1, List.filter_cons_of_neg (by simpa using k)]
    · have e1 : blkStep p one s q = (tr p q.1 s.1, s.2 * (one - q.1) % p) := if_neg k
      rw [e1, List.filter_cons_of_pos (by simpa using k)]
      simp [tr_len]
      omega
theorem filt_nd {ps : List (Int × Int)} (nd : (ps.map (·.1)).Nodup) {q : Int × Int} (hq : q ∈ ps) : (ps.filter fun r => decide (r.1 ≠ q.1)).length + 1 = ps.length := by
  induction ps with
  | nil => cases hq
  | cons a ps ih =>
    rw [List.map_cons, List.nodup_cons] at nd
    rcases List.mem_cons.mp hq with rfl | hq'
    · rw [List.filter_cons_of_neg (by simp), List.filter_eq_self.mpr]
      · rfl
      · intro r hr
        refine decide_eq_true fun e => nd.1 ?_
        rw [← e]
        exact List.mem_map_of_mem hr
    · have : a.1 ≠ q.1 := fun e => nd.1 (by rw [e]; exact List.mem_map_of_mem hq')
      rw [List.filter_cons_of_pos (by simpa using this)]
      have := ih nd.2 hq'
      simp at this ⊢
      omega
theorem blk_n {p : Int} {ps : List (Int × Int)} (nd : (ps.map (·.1)).Nodup) {q : Int × Int} (hq : q ∈ ps) : (blkM p ps q.1).1.length = ps.length := by
  unfold blkM
  rw [blk_count, ← filt_nd nd hq]
  simp
  omega
theorem thr_fold_len (p : Int) {ps : List (Int × Int)} (nd : (ps.map (·.1)).Nodup) : ∀ (d : List (Int × Int)) (f : List Int), (∀ q ∈ d, q ∈ ps) → f.length = ps.length → (d.foldl (thrStep p ps) f).length = ps.length
  | [], f, _, h => h
  | q :: d, f, hd, h => by
    rw [List.foldl_cons]
    refine thr_fold_len p nd d _ (fun r hr => hd r (List.mem_cons_of_mem _ hr)) ?_
    unfold thrStep
    rw [List.length_zipWith, h, blk_n nd (hd q List.mem_cons_self)]
    omega
theorem thr_len (p : Int) {ps : List (Int × Int)} (nd : (ps.map (·.1)).Nodup) : (thrM p ps).length = ps.length :=
  thr_fold_len p nd ps _ (fun _ h => h) (by simp)
theorem ev_repl (x : Int) : ∀ n, ev x (List.replicate n 0) = 0
  | 0 => rfl
  | n + 1 => by
    rw [List.replicate_succ]
    show 0 + x * ev x _ = 0
    rw [ev_repl x n]
    simp
theorem thr_ev {p : Int} (hp : 1 < p) {ps : List (Int × Int)} (nd : (ps.map (·.1)).Nodup) (x : Int) : ∀ (d : List (Int × Int)) (f : List Int) (g : Int), (∀ q ∈ d, q ∈ ps) → f.length = ps.length → Cg p (ev x f) g → Cg p (ev x (d.foldl (thrStep p ps) f)) (d.foldl (btwOut p ps x) g)
  | [], f, g, _, _, h => h
  | q :: d, f, g, hd, hl, h => by
    rw [List.foldl_cons, List.foldl_cons]
    have hq := hd q List.mem_cons_self
    obtain ⟨b1, b2⟩ := btw_is (p := p) ps x q
    have hb : (blkM p ps q.1).1.length = ps.length := blk_n nd hq
    refine thr_ev hp nd x d _ _ (fun r hr => hd r (List.mem_cons_of_mem _ hr)) ?_ ?_
    · unfold thrStep
      rw [List.length_zipWith, hl, hb]
      omega
    · refine (ev_zip p x _ f _ (hl.trans hb.symm)).trans ?_
      unfold btwOut
      refine h.add ?_
      have e2 : (btwIn ps x q).2 % p = (blkM p ps q.1).2 % p := b2.emod
      have e3 : (blkM p ps q.1).2 % p = (blkM p ps q.1).2 := by
        rw [(blk_is hp ps q.1).2, Int.emod_emod_of_dvd _ (Int.dvd_refl p)]
      rw [e2, e3]
      refine ((Cg.mod _).mul (Cg.refl _)).trans ?_
      refine Cg.trans ?_ (b1.mul (Cg.refl (invM p (blkM p ps q.1).2))).symm
      exact ⟨0, by grind⟩
theorem val_thr {p : Int} (hp : 1 < p) {ps : List (Int × Int)} (nd : (ps.map (·.1)).Nodup) (x : Int) : valM p x (thrM p ps) = betM p ps x := by
  rw [val_ev]
  exact (thr_ev hp nd x ps _ 0 (fun _ h => h) (by simp) (by rw [ev_repl]; exact Cg.refl 0)).emod
/-! inverses -/
theorem Inv1.mul {p s t : Int} (hp : 1 < p) (h : Inv1 p s) (h' : Inv1 p t) : Inv1 p (s * t % p) := by
  obtain ⟨r, r1, r2, r3⟩ := h
  obtain ⟨u, u1, u2, u3⟩ := h'
  have e : (r * u % p) * (s * t % p) % p = 1 := by
    have q : Cg p ((r * u % p) * (s * t % p)) ((r * s) * (u * t)) := ((Cg.mod _).mul (Cg.mod _)).trans ⟨0, by grind⟩
    have q2 : Cg p ((r * s) * (u * t)) (1 * 1) := by
      refine Cg.mul ((Cg.mod _).symm.trans ?_) ((Cg.mod _).symm.trans ?_)
      · rw [r3]; exact Cg.refl 1
      · rw [u3]; exact Cg.refl 1
    rw [(q.trans q2).emod, Int.emod_eq_of_lt] <;> omega
  refine ⟨r * u % p, ?_, Int.emod_lt_of_pos _ (by omega), e⟩
  have h0 : 0 ≤ r * u % p := Int.emod_nonneg _ (by omega)
  rcases Int.lt_or_eq_of_le h0 with h1 | h1
  · omega
  · rw [← h1] at e
    simp at e
theorem Inv1.one {p : Int} (hp : 1 < p) : Inv1 p 1 := ⟨1, by omega, by omega, by rw [Int.emod_eq_of_lt] <;> omega⟩
def Prm (p : Int) : Prop := p = 11 ∨ p = 13 ∨ p = 17 ∨ p = 19 ∨ p = 23
theorem Prm.bd {p : Int} (h : Prm p) : 11 ≤ p ∧ p ≤ 23 := by
  rcases h with h | h | h | h | h <;> omega
def invTab : List (Int × Int × Int) := [11, 13, 17, 19, 23].flatMap fun p => [-7, -6, -5, -4, -3, -2, -1, 1, 2, 3, 4, 5, 6, 7].map fun d => (p, d, invM p d)
theorem invTab_ok : invTab.all (fun t => decide (1 ≤ t.2.2 ∧ t.2.2 < t.1 ∧ t.2.2 * t.2.1 % t.1 = 1)) = true := by decide +kernel
theorem Inv1.small {p d : Int} (hp : Prm p) (h1 : -7 ≤ d) (h2 : d ≤ 7) (h0 : d ≠ 0) : Inv1 p d := by
  have m : (p, d, invM p d) ∈ invTab := by
    unfold invTab
    rw [List.mem_flatMap]
    refine ⟨p, ?_, ?_⟩
    · rcases hp with rfl | rfl | rfl | rfl | rfl <;> simp
    · rw [List.mem_map]
      refine ⟨d, ?_, rfl⟩
      simp
      omega
  have := List.all_eq_true.mp invTab_ok _ m
  have := of_decide_eq_true this
  exact ⟨_, this.1, this.2.1, this.2.2⟩
theorem blk_inv {p one : Int} (hp : Prm p) (h1 : 1 ≤ one ∧ one ≤ 8) : ∀ (ps : List (Int × Int)) (s : List Int × Int), (∀ q ∈ ps, 1 ≤ q.1 ∧ q.1 ≤ 8) → Inv1 p s.2 → Inv1 p (ps.foldl (blkStep p one) s).2
  | [], s, _, h => h
  | q :: ps, s, hq, h => by
    rw [List.foldl_cons]
    refine blk_inv hp h1 ps _ (fun r hr => hq r (List.mem_cons_of_mem _ hr)) ?_
    obtain ⟨q1, q2⟩ := hq q List.mem_cons_self
    by_cases k : q.1 = one
    · rw [show blkStep p one s q = s from if_pos k]
      exact h
    · rw [show blkStep p one s q = (tr p q.1 s.1, s.2 * (one - q.1) % p) from if_neg k]
      exact h.mul (by have := hp.bd; omega) (Inv1.small hp (by omega) (by omega) (by omega))
/-- places 1 to 8 -/
def PtsB (ps : List (Int × Int)) : Prop := ps.length ≤ 100 ∧ ∀ q ∈ ps, 1 ≤ q.1 ∧ q.1 ≤ 8
theorem PtsB.ok {p : Int} (hp : Prm p) {ps : List (Int × Int)} (h : PtsB ps) : PtsOk p ps where
  hp := by have := hp.bd; omega
  len := h.1
  bd := fun q hq => by have := h.2 q hq; omega
  inv := fun q hq => blk_inv hp (h.2 q hq) ps _ h.2 (Inv1.one (by have := hp.bd; omega))
theorem PtsB.take {ps : List (Int × Int)} (h : PtsB ps) (n : Nat) : PtsB (ps.take n) := ⟨by have := h.1; simp; omega, fun q hq => h.2 q (List.mem_of_mem_take hq)⟩
/-! layings, letters, mail -/
structure ShOk (sh : List Int) : Prop where
  len : 1 ≤ sh.length ∧ sh.length ≤ 8
  bd : ∀ s ∈ sh, 0 ≤ s ∧ s ≤ 6
  sum : sh.sum ≤ 12
structure MailOk (p : Int) (sh : List Int) (m : List (Int × List Int)) : Prop where
  num : ∀ q ∈ m, 0 ≤ q.1 ∧ q.1 < sh.length
  nd : (m.map (·.1)).Nodup
  len : ∀ q ∈ m, (q.2.length : Int) = sh.sum
  sg : ∀ q ∈ m, ∀ i ∈ q.2, 0 ≤ i ∧ i < p
def stairS (d : List Int) : List Int × Int := d.foldl (fun s x => (s.1 ++ [s.2 + ((s.1.length : Int) + 1) * x], s.2 + ((s.1.length : Int) + 1) * x)) ([], 0)
def stairM (sh : List Int) : List Int := (stairS sh).1
def needS (d : List Int) : List Int × Nat := d.foldl (fun s x => (s.1 ++ List.replicate x.toNat ((s.2 : Int) + 1), s.2 + 1)) ([], 0)
def needM (sh : List Int) : List Int := (needS sh).1
theorem stairS_snoc (d : List Int) (x : Int) : stairS (d ++ [x]) = ((stairS d).1 ++ [(stairS d).2 + (((stairS d).1.length : Int) + 1) * x], (stairS d).2 + (((stairS d).1.length : Int) + 1) * x) := by
  unfold stairS
  rw [List.foldl_append]
  rfl
theorem needS_snoc (d : List Int) (x : Int) : needS (d ++ [x]) = ((needS d).1 ++ List.replicate x.toNat (((needS d).2 : Int) + 1), (needS d).2 + 1) := by
  unfold needS
  rw [List.foldl_append]
  rfl
end NL
/-! M3: layings, mail, readings in plain terms -/
namespace NL
theorem snocInd {α : Type} {P : List α → Prop} (h0 : P []) (hs : ∀ d x, P d → P (d ++ [x])) (l : List α) : P l := by
  have : ∀ r : List α, P r.reverse := by
    intro r
    induction r with
    | nil => exact h0
    | cons a r ih =>
      rw [List.reverse_cons]
      exact hs _ _ ih
  rw [← List.reverse_reverse l]
  exact this _
theorem stairS_len (d : List Int) : (stairS d).1.length = d.length :=
  snocInd (P := fun d => (stairS d).1.length = d.length) rfl (fun d x h => by rw [stairS_snoc]; simp [h]) d
theorem needS_ix (d : List Int) : (needS d).2 = d.length :=
  snocInd (P := fun d => (needS d).2 = d.length) rfl (fun d x h => by rw [needS_snoc]; simp [h]) d
theorem needM_len (d : List Int) : (∀ s ∈ d, 0 ≤ s ∧ s ≤ 6) → ((needM d).length : Int) = d.sum :=
  snocInd (P := fun d => (∀ s ∈ d, 0 ≤ s ∧ s ≤ 6) → ((needM d).length : Int) = d.sum) (fun _ => rfl) (fun d x h hb => by
    have h1 := h fun s hs => hb s (List.mem_append_left _ hs)
    have h2 := hb x (by simp)
    unfold needM at *
    rw [needS_snoc]
    simp
    omega) d
theorem needM_bd (d : List Int) : ∀ n ∈ needM d, 1 ≤ n ∧ n ≤ d.length :=
  snocInd (P := fun d => ∀ n ∈ needM d, 1 ≤ n ∧ n ≤ d.length) (fun n h => by cases h) (fun d x h n hn => by
    unfold needM at *
    rw [needS_snoc, needS_ix] at hn
    simp at hn ⊢
    rcases hn with hn | hn
    · have := h n hn
      omega
    · omega) d
theorem stairS_bd (d : List Int) : (∀ s ∈ d, 0 ≤ s ∧ s ≤ 6) → d.length ≤ 8 → (∀ y ∈ (stairS d).1, 0 ≤ y ∧ y ≤ 48 * d.length) ∧ 0 ≤ (stairS d).2 ∧ (stairS d).2 ≤ 48 * d.length :=
  snocInd (P := fun d => (∀ s ∈ d, 0 ≤ s ∧ s ≤ 6) → d.length ≤ 8 → (∀ y ∈ (stairS d).1, 0 ≤ y ∧ y ≤ 48 * d.length) ∧ 0 ≤ (stairS d).2 ∧ (stairS d).2 ≤ 48 * d.length) (fun _ _ => ⟨fun y h => (by cases h), by decide, by decide⟩) (fun d x h hb hl => by
    simp at hl
    obtain ⟨h1, h2, h3⟩ := h (fun s hs => hb s (List.mem_append_left _ hs)) (by omega)
    have h4 := hb x (by simp)
    rw [stairS_snoc, stairS_len]
    have k1 : 0 ≤ ((d.length : Int) + 1) * x := Int.mul_nonneg (by omega) h4.1
    have k2 : ((d.length : Int) + 1) * x ≤ 8 * 6 := Int.mul_le_mul (by omega) h4.2 h4.1 (by omega)
    refine ⟨fun y hy => ?_, by show 0 ≤ _ + _; omega, by show _ + _ ≤ 48 * (((d ++ [x]).length : Nat) : Int); simp; omega⟩
    simp at hy ⊢
    rcases hy with hy | hy
    · have := h1 y hy
      omega
    · omega) d
/-- what is reached with n letters -/
def reachM (sh : List Int) (n : Nat) : Int := (0 :: stairM sh).getD n 0
theorem reachM_bd {sh : List Int} (h : ShOk sh) (n : Nat) : 0 ≤ reachM sh n ∧ reachM sh n ≤ 400 := by
  unfold reachM
  rw [List.getD_eq_getElem?_getD]
  cases e : (0 :: stairM sh)[n]? with
  | none => simp
  | some y =>
    have hy := List.mem_of_getElem? e
    have hb := (stairS_bd sh h.bd h.len.2).1
    have := h.len.2
    rcases List.mem_cons.mp hy with rfl | hy
    · simp
    · have := hb y hy
      simp
      omega
def allIx (f : Nat → Int → Bool) : Nat → List Int → Bool
  | _, [] => true
  | i, n :: r => f i n && allIx f (i + 1) r
theorem allIx_snoc (f : Nat → Int → Bool) : ∀ (i : Nat) (d : List Int) (n : Int), allIx f i (d ++ [n]) = (allIx f i d && f (i + d.length) n)
  | i, [], n => by simp [allIx]
  | i, m :: d, n => by
    show (f i m && allIx f (i + 1) (d ++ [n])) = _
    rw [allIx_snoc f (i + 1) d n]
    simp only [allIx, Bool.and_assoc, List.length_cons]
    rw [show i + 1 + d.length = i + (d.length + 1) by omega]
theorem allIx_congr {f g : Nat → Int → Bool} : ∀ (l : List Int) (i : Nat), (∀ j, i ≤ j → ∀ n ∈ l, f j n = g j n) → allIx f i l = allIx g i l
  | [], _, _ => rfl
  | n :: r, i, h => by
    show (f i n && _) = (g i n && _)
    rw [h i (Nat.le_refl _) n List.mem_cons_self, allIx_congr r (i + 1) fun j hj m hm => h j (by omega) m (List.mem_cons_of_mem _ hm)]
abbrev Mail := List (Int × List Int)
def ptsM (pl : Nat) (m : Mail) : List (Int × Int) := m.map fun q => (q.1 + 1, q.2.getD pl 0)
def fitsM (p : Int) (m : Mail) (pl : Nat) (nd : Int) : Bool := if (m.length : Int) ≤ nd then true else ((ptsM pl m).drop nd.toNat).all fun q => decide (valM p q.1 (thrM p ((ptsM pl m).take nd.toNat)) = q.2)
def goesM (p : Int) (ps : List (Int × Int)) (nd : Int) : Bool := (ps.drop nd.toNat).all fun q => decide (betM p (ps.take nd.toNat) q.1 = q.2)
def okM (p : Int) (sh : List Int) (m : Mail) : Bool := allIx (fitsM p m) 0 (needM sh)
theorem ptsM_len (pl : Nat) (m : Mail) : (ptsM pl m).length = m.length := by simp [ptsM]
theorem ptsM_b {p : Int} {sh : List Int} (hs : ShOk sh) {m : Mail} (h : MailOk p sh m) (pl : Nat) (hm : m.length ≤ 100) : PtsB (ptsM pl m) := by
  refine ⟨by rw [ptsM_len]; exact hm, fun q hq => ?_⟩
  unfold ptsM at hq
  rw [List.mem_map] at hq
  obtain ⟨r, hr, rfl⟩ := hq
  have := h.num r hr
  have := hs.len
  simp
  omega
theorem ptsM_nd {p : Int} {sh : List Int} {m : Mail} (h : MailOk p sh m) (pl : Nat) (n : Nat) : (((ptsM pl m).take n).map (·.1)).Nodup := by
  have e : ((ptsM pl m).take n).map (·.1) = ((m.map (·.1)).map (· + 1)).take n := by
    unfold ptsM
    rw [List.map_take, List.map_map, List.map_map]
    rfl
  rw [e]
  refine List.Nodup.sublist (List.take_sublist ..) ?_
  refine List.Pairwise.map _ (fun a b (hab : a ≠ b) => ?_) h.nd
  omega
theorem fits_goes {p : Int} (hp : 1 < p) {sh : List Int} {m : Mail} (h : MailOk p sh m) (pl : Nat) (nd : Int) : fitsM p m pl nd = goesM p (ptsM pl m) nd := by
  unfold fitsM goesM
  split
  · rename_i c
    rw [List.drop_eq_nil_of_le (by rw [ptsM_len]; omega)]
    rfl
  · refine congrArg _ (funext fun q => ?_)
    rw [val_thr hp (ptsM_nd h pl _)]
theorem MailOk.filter {p : Int} {sh : List Int} {m : Mail} (h : MailOk p sh m) (f : Int × List Int → Bool) : MailOk p sh (m.filter f) where
  num := fun q hq => h.num q (List.mem_filter.mp hq).1
  nd := h.nd.sublist (List.Sublist.map _ List.filter_sublist)
  len := fun q hq => h.len q (List.mem_filter.mp hq).1
  sg := fun q hq => h.sg q (List.mem_filter.mp hq).1
/-- the law's own look -/
def okL (p : Int) (sh : List Int) (m : Mail) : Bool := allIx (fun pl nd => goesM p (ptsM pl m) nd) 0 (needM sh)
theorem ok_law {p : Int} (hp : 1 < p) {sh : List Int} {m : Mail} (h : MailOk p sh m) : okL p sh m = okM p sh m :=
  allIx_congr _ 0 fun j _ n _ => (fits_goes hp h j n).symm
def rdStep (p : Int) (m : Mail) (s : List Int × Nat) (nd : Int) : List Int × Nat := (if nd ≤ m.length then s.1 ++ thrM p ((ptsM s.2 m).take nd.toNat) else s.1, s.2 + 1)
def rdS (p : Int) (m : Mail) (d : List Int) : List Int × Nat := d.foldl (rdStep p m) ([], 0)
def readM (p : Int) (sh : List Int) (m : Mail) : List Int := (rdS p m (needM sh)).1
theorem rdS_snoc (p : Int) (m : Mail) (d : List Int) (x : Int) : rdS p m (d ++ [x]) = rdStep p m (rdS p m d) x := by
  unfold rdS
  rw [List.foldl_append]
  rfl
theorem rdS_ix (p : Int) (m : Mail) (d : List Int) : (rdS p m d).2 = d.length :=
  snocInd (P := fun d => (rdS p m d).2 = d.length) rfl (fun d x h => by rw [rdS_snoc]; simp [rdStep, h]) d
def susM (p : Int) (sh : List Int) (m : Mail) : List Int := if okM p sh m then [] else (m.filter fun q => okM p sh (m.filter fun r => decide (r.1 ≠ q.1))).map (·.1)
/-! sizes -/
theorem thr_bd {p : Int} (hp : 0 < p) : ∀ (ps d : List (Int × Int)) (f : List Int), d ≠ [] → ∀ y ∈ d.foldl (thrStep p ps) f, 0 ≤ y ∧ y < p
  | ps, d, f, hd, y, hy => by
    obtain ⟨d', q, rfl⟩ : ∃ d' q, d = d' ++ [q] := ⟨d.dropLast, d.getLast hd, (List.dropLast_concat_getLast hd).symm⟩
    rw [List.foldl_append] at hy
    have hy : y ∈ thrStep p ps (d'.foldl (thrStep p ps) f) q := hy
    unfold thrStep at hy
    obtain ⟨a, b, rfl⟩ : ∃ a b, y = (a + (q.2 * invM p (blkM p ps q.1).2 % p) * b) % p := by
      have : ∀ (f g : List Int) (c : Int), y ∈ List.zipWith (fun near far => (near + c * far) % p) f g → ∃ a b, y = (a + c * b) % p := by
        intro f
        induction f with
        | nil =>
          intro g c h
          simp at h
        | cons x f ih =>
          intro g c h
          cases g with
          | nil => simp at h
          | cons z g =>
            rw [List.zipWith_cons_cons] at h
            rcases List.mem_cons.mp h with h | h
            · exact ⟨_, _, h⟩
            · exact ih g c h
      exact this _ _ _ hy
    exact ⟨Int.emod_nonneg _ (by omega), Int.emod_lt_of_pos _ hp⟩
theorem thrM_bd {p : Int} (hp : 0 < p) (ps : List (Int × Int)) : ∀ y ∈ thrM p ps, 0 ≤ y ∧ y < p := by
  intro y hy
  cases ps with
  | nil => simp [thrM] at hy
  | cons q ps => exact thr_bd hp _ _ _ (by simp) y hy
theorem rdS_bd {p : Int} (hp : 0 < p) (m : Mail) (d : List Int) : ∀ y ∈ (rdS p m d).1, 0 ≤ y ∧ y < p :=
  snocInd (P := fun d => ∀ y ∈ (rdS p m d).1, 0 ≤ y ∧ y < p) (fun y h => by simp [rdS] at h) (fun d x h y hy => by
    rw [rdS_snoc] at hy
    unfold rdStep at hy
    split at hy
    · rcases List.mem_append.mp hy with hy | hy
      · exact h y hy
      · exact thrM_bd hp _ y hy
    · exact h y hy) d
theorem rdS_len {p : Int} {sh : List Int} {m : Mail} (h : MailOk p sh m) (hm : m.length ≤ 100) (d : List Int) : (rdS p m d).1.length ≤ 100 * d.length :=
  snocInd (P := fun d => (rdS p m d).1.length ≤ 100 * d.length) (by simp [rdS]) (fun d x ih => by
    rw [rdS_snoc]
    unfold rdStep
    have := thr_len p (ptsM_nd h (rdS p m d).2 x.toNat)
    simp only [List.length_append, List.length_cons, List.length_nil]
    split
    · rw [List.length_append, this, List.length_take, ptsM_len]
      omega
    · omega) d
end NL
/-! M5: what a receiver holds, in plain terms -/
namespace NL
def srtM (m : Mail) : Mail := m.mergeSort fun a b => decide (a.1 ≤ b.1)
theorem strict_eq : ∀ (l m : Mail), l.Perm m → l.Pairwise (fun a b => a.1 < b.1) → m.Pairwise (fun a b => a.1 < b.1) → l = m
  | [], m, h, _, _ => (List.nil_perm.mp h).symm
  | a :: l, [], h, _, _ => absurd (List.Perm.length_eq h) (by simp)
  | a :: l, b :: m, h, h1, h2 => by
    rw [List.pairwise_cons] at h1 h2
    have e : a = b := by
      rcases List.mem_cons.mp (h.subset List.mem_cons_self) with e | ha
      · exact e
      rcases List.mem_cons.mp (h.symm.subset List.mem_cons_self) with e | hb
      · exact e.symm
      have := h1.1 b hb
      have := h2.1 a ha
      omega
    subst e
    rw [strict_eq l m (List.Perm.cons_inv h) h1.2 h2.2]
theorem strict_of {l : Mail} (nd : (l.map (·.1)).Nodup) (h : l.Pairwise (fun a b => a.1 ≤ b.1)) : l.Pairwise (fun a b => a.1 < b.1) := by
  have nd' : l.Pairwise (fun a b => a.1 ≠ b.1) := List.pairwise_map.mp nd
  exact (h.and nd').imp fun ⟨a, b⟩ => by omega
theorem srt_perm (m : Mail) : (srtM m).Perm m := List.mergeSort_perm ..
theorem srt_le (m : Mail) : (srtM m).Pairwise (fun a b => a.1 ≤ b.1) := by
  have := List.pairwise_mergeSort (le := fun a b : Int × List Int => decide (a.1 ≤ b.1)) (fun a b c h1 h2 => by simp at *; omega) (fun a b => by simp; omega) m
  exact this.imp fun h => of_decide_eq_true h
theorem srt_unique {l m : Mail} (hp : l.Perm m) (nd : (m.map (·.1)).Nodup) (hs : l.Pairwise (fun a b => a.1 ≤ b.1)) : l = srtM m :=
  strict_eq l (srtM m) (hp.trans (srt_perm m).symm) (strict_of ((hp.map _).nodup_iff.mpr nd) hs) (strict_of (((srt_perm m).map _).nodup_iff.mpr nd) (srt_le m))
structure CurOk (p : Int) (sh : List Int) (m : Mail) : Prop where
  ok : MailOk p sh m
  srt : m.Pairwise (fun a b => a.1 < b.1)
theorem inc_len : ∀ (m : Mail) (a b : Int), m.Pairwise (fun a b => a.1 < b.1) → (∀ q ∈ m, a ≤ q.1 ∧ q.1 < b) → m.length ≤ (b - a).toNat
  | [], _, _, _, _ => by simp
  | q :: m, a, b, h, hb => by
    rw [List.pairwise_cons] at h
    have h1 := hb q List.mem_cons_self
    have ih := inc_len m (q.1 + 1) b h.2 fun r hr => ⟨by have := h.1 r hr; omega, (hb r (List.mem_cons_of_mem _ hr)).2⟩
    simp
    omega
theorem CurOk.len {p : Int} {sh : List Int} {m : Mail} (h : CurOk p sh m) : m.length ≤ sh.length := by
  have := inc_len m 0 sh.length h.srt h.ok.num
  omega
theorem MailOk.nil (p : Int) (sh : List Int) : MailOk p sh [] := ⟨fun _ h => (by cases h), by simp, fun _ h => (by cases h), fun _ h => (by cases h)⟩
theorem CurOk.nil (p : Int) (sh : List Int) : CurOk p sh [] := ⟨MailOk.nil p sh, .nil⟩
theorem MailOk.perm {p : Int} {sh : List Int} {m m' : Mail} (h : MailOk p sh m) (hp : m'.Perm m) : MailOk p sh m' :=
  ⟨fun q hq => h.num q (hp.subset hq), (hp.map _).nodup_iff.mpr h.nd, fun q hq => h.len q (hp.subset hq), fun q hq => h.sg q (hp.subset hq)⟩
theorem MailOk.snoc {p : Int} {sh : List Int} {m : Mail} (h : MailOk p sh m) {n : Int} {ns : List Int} (h1 : 0 ≤ n ∧ n < sh.length) (h2 : ¬ n ∈ m.map (·.1)) (h3 : (ns.length : Int) = sh.sum) (h4 : ∀ i ∈ ns, 0 ≤ i ∧ i < p) : MailOk p sh (m ++ [(n, ns)]) := by
  refine ⟨fun q hq => ?_, ?_, fun q hq => ?_, fun q hq => ?_⟩
  · rcases List.mem_append.mp hq with hq | hq
    · exact h.num q hq
    · rw [List.mem_singleton.mp hq]
      exact h1
  · rw [List.map_append, List.nodup_append]
    refine ⟨h.nd, by simp, fun a ha b hb => ?_⟩
    simp at hb
    rw [hb]
    exact fun e => h2 (e ▸ ha)
  · rcases List.mem_append.mp hq with hq | hq
    · exact h.len q hq
    · rw [List.mem_singleton.mp hq]
      exact h3
  · rcases List.mem_append.mp hq with hq | hq
    · exact h.sg q hq
    · rw [List.mem_singleton.mp hq]
      exact h4
theorem CurOk.add {p : Int} {sh : List Int} {m : Mail} (h : CurOk p sh m) {n : Int} {ns : List Int} (h1 : 0 ≤ n ∧ n < sh.length) (h2 : ¬ n ∈ m.map (·.1)) (h3 : (ns.length : Int) = sh.sum) (h4 : ∀ i ∈ ns, 0 ≤ i ∧ i < p) : CurOk p sh (srtM (m ++ [(n, ns)])) :=
  have hk := (h.ok.snoc h1 h2 h3 h4).perm (srt_perm _)
  ⟨hk, strict_of hk.nd (srt_le _)⟩
theorem CurOk.filter {p : Int} {sh : List Int} {m : Mail} (h : CurOk p sh m) (f : Int × List Int → Bool) : CurOk p sh (m.filter f) := ⟨h.ok.filter f, h.srt.filter f⟩
/-- the states behind one another, the first empty -/
structure PastOk (p : Int) (sh : List Int) (past : List Mail) : Prop where
  ne : past ≠ []
  all : ∀ m ∈ past, CurOk p sh m
def cur (past : List Mail) : Mail := past.getLastD []
theorem cur_app (pre : List Mail) (m : Mail) : cur (pre ++ [m]) = m := by simp [cur]
theorem PastOk.split {p : Int} {sh : List Int} {past : List Mail} (h : PastOk p sh past) : past = past.dropLast ++ [cur past] := by
  unfold cur
  rw [← List.dropLast_concat_getLast h.ne]
  simp
theorem PastOk.cur {p : Int} {sh : List Int} {past : List Mail} (h : PastOk p sh past) : CurOk p sh (cur past) := h.all _ (by rw [h.split]; simp [cur_app])
theorem PastOk.add {p : Int} {sh : List Int} {past : List Mail} (h : PastOk p sh past) {m : Mail} (hm : CurOk p sh m) : PastOk p sh (past ++ [m]) :=
  ⟨by simp, fun q hq => by rcases List.mem_append.mp hq with hq | hq; exact h.all q hq; rw [List.mem_singleton.mp hq]; exact hm⟩
theorem PastOk.take {p : Int} {sh : List Int} {past : List Mail} (h : PastOk p sh past) {n : Nat} (hn : 1 ≤ n) : PastOk p sh (past.take n) :=
  ⟨fun e => by
    have e1 := congrArg List.length e
    have e2 := List.length_pos_iff.mpr h.ne
    rw [List.length_take] at e1
    simp only [List.length_nil] at e1
    omega, fun q hq => h.all q (List.mem_of_mem_take hq)⟩
def moreM (sh : List Int) (n : Nat) : Int := if n < sh.length then reachM sh (n + 1) - reachM sh n else 0
/-- what can be told -/
def TellOk (ns : List Int) : Prop := ns.length ≤ 900 ∧ ∀ n ∈ ns, 0 ≤ n ∧ n < 500
theorem rdS_len8 {p : Int} {sh : List Int} {m : Mail} (h : MailOk p sh m) (hm : m.length ≤ 8) (d : List Int) : (rdS p m d).1.length ≤ 8 * d.length :=
  snocInd (P := fun d => (rdS p m d).1.length ≤ 8 * d.length) (by simp [rdS]) (fun d x ih => by
    rw [rdS_snoc]
    unfold rdStep
    have := thr_len p (ptsM_nd h (rdS p m d).2 x.toNat)
    simp only [List.length_append, List.length_cons, List.length_nil]
    split
    · rw [List.length_append, this, List.length_take, ptsM_len]
      omega
    · omega) d
theorem read_ok {p : Int} (hp : Prm p) {sh : List Int} (hs : ShOk sh) {m : Mail} (h : CurOk p sh m) : TellOk (readM p sh m) := by
  have h1 := h.len
  have h2 := hs.len.2
  have h3 := rdS_len8 h.ok (by omega) (needM sh)
  have h4 := needM_len sh hs.bd
  have h5 := hs.sum
  have h6 := hp.bd
  refine ⟨?_, fun n hn => ?_⟩
  · unfold readM
    omega
  · have := rdS_bd (by omega : 0 < p) m (needM sh) n hn
    omega
theorem nums_ok {p : Int} {sh : List Int} (hs : ShOk sh) {m : Mail} (h : CurOk p sh m) : TellOk (m.map (·.1)) := by
  have h1 := h.len
  have h2 := hs.len.2
  refine ⟨by rw [List.length_map]; omega, fun n hn => ?_⟩
  obtain ⟨q, hq, rfl⟩ := List.mem_map.mp hn
  have := h.ok.num q hq
  omega
theorem sus_ok {p : Int} {sh : List Int} (hs : ShOk sh) {m : Mail} (h : CurOk p sh m) : TellOk (susM p sh m) := by
  unfold susM
  split
  · exact ⟨by simp, fun n hn => by cases hn⟩
  · have h1 := nums_ok hs h
    have h0 := List.length_filter_le (fun q => okM p sh (m.filter fun r => decide (r.1 ≠ q.1))) m
    refine ⟨by rw [List.length_map]; have := h1.1; rw [List.length_map] at this; omega, fun n hn => ?_⟩
    obtain ⟨q, hq, rfl⟩ := List.mem_map.mp hn
    exact h1.2 _ (List.mem_map_of_mem (List.mem_filter.mp hq).1)
theorem let_ok {p : Int} (hp : Prm p) {sh : List Int} (hs : ShOk sh) {m : Mail} (h : CurOk p sh m) {q : Int × List Int} (hq : q ∈ m) : TellOk q.2 := by
  have h1 := h.ok.len q hq
  have h2 := hs.sum
  have h6 := hp.bd
  exact ⟨by omega, fun n hn => by have := h.ok.sg q hq n hn; omega⟩
theorem more_bd {sh : List Int} (hs : ShOk sh) (n : Nat) : -400 ≤ moreM sh n ∧ moreM sh n ≤ 400 := by
  unfold moreM
  have h1 := reachM_bd hs n
  have h2 := reachM_bd hs (n + 1)
  split <;> omega
theorem log_bd {n : Int} (h1 : -1000 ≤ n) (h2 : n ≤ 1000) : n.natAbs.log2 < 1920 := by
  by_cases c : n.natAbs = 0
  · rw [c]
    decide
  · rw [Nat.log2_lt c]
    exact Nat.lt_of_lt_of_le (by omega : n.natAbs < 2 ^ 10) (Nat.pow_le_pow_right (by decide) (by decide))
end NL
/-! M4: words of a line, in plain terms -/
namespace NL
open PySem
def figs : List Nat := [48, 49, 50, 51, 52, 53, 54, 55, 56, 57]
/-- a word that is a number -/
def numB (w : Str) : Bool := decide (1 ≤ w.length ∧ w.length ≤ 4) && (w.cps.toList.all fun c => decide (c ∈ figs)) && !(decide (1 < w.length) && decide (w.cps.toList.head? = some 48))
def numM (w : Str) : Option Int := if numB w then PySem.intText? w else none
def Tame (w : Str) : Prop := numB w = true → ∃ n, PySem.intText? w = some n
/-- numbers: at most so many, then the end -/
def rdN : Nat → List Str → Except Nat (List Int)
  | _, [] => .ok []
  | 0, _ :: _ => .error 0
  | m + 1, w :: r => match numM w with
    | none => .error 0
    | some n => match rdN m r with
      | .ok l => .ok (n :: l)
      | .error k => .error (k + 1)
def readNs (most : Nat) (r : List Str) : Except Nat (List Int) := match r with
  | [] => .error 0
  | w :: r => rdN most (w :: r)
def wNone : Str := "none"
def wCome : Str := "come"
def wDrop : Str := "drop"
def wColon : Str := ":"
def readSome (most : Nat) (r : List Str) : Except Nat (List Int) := match r with
  | [] => .error 0
  | w :: r => if w = wNone then (match r with | [] => .ok [] | _ :: _ => .error 1) else rdN most (w :: r)
def aloneL : List Str := ["known", "more", "read", "mail", "suspects", "undo", "deeds"]
inductive Cmd
  | come (n : Int) (ns : List Int)
  | drop (n : Int)
  | alone (w : Str)
/-- a line's words as a command -/
def parseM (ws : List Str) : Option Cmd := match ws with
  | [] => none
  | w :: r =>
    if w = wCome then (match r with
      | n :: c :: r2 => match numM n with
        | none => none
        | some n => if c = wColon then (match readSome 12 r2 with | .ok ns => some (.come n ns) | .error _ => none) else none
      | _ => none)
    else if w = wDrop then (match readNs 1 r with | .ok [n] => some (.drop n) | _ => none)
    else if w ∈ aloneL then (match r with | [] => some (.alone w) | _ :: _ => none)
    else none
theorem rdN_app : ∀ (most : Nat) (d : List Str) (ns : List Int) (r : List Str), d.map numM = ns.map some → d.length ≤ most →
    rdN most (d ++ r) = match rdN (most - d.length) r with | .ok l => .ok (ns ++ l) | .error k => .error (k + d.length)
  | most, [], [], r, _, _ => by
    simp
    cases rdN most r <;> rfl
  | most, [], _ :: _, r, h, _ => by simp at h
  | most, w :: d, [], r, h, _ => by simp at h
  | 0, w :: d, n :: ns, r, _, hl => by simp at hl
  | most + 1, w :: d, n :: ns, r, h, hl => by
    simp at h hl
    obtain ⟨h1, h2⟩ := h
    have ih := rdN_app most d ns r h2 hl
    rw [List.cons_append]
    have e : rdN (most + 1) (w :: (d ++ r)) = match rdN most (d ++ r) with | .ok l => .ok (n :: l) | .error k => .error (k + 1) := by
      simp [rdN, h1]
    rw [e, ih, List.length_cons, show most + 1 - (d.length + 1) = most - d.length by omega]
    cases rdN (most - d.length) r <;> simp [Nat.add_assoc]
/-- texts as lists of signs -/
theorem str_S (w : Str) : w = SX.S w.cps.toList := by
  cases w
  simp
end NL
namespace NL
open PySem
def istr (n : Int) : Str := Str.ofString (toString n)
def rowM (ns : List Int) : Str := if ns = [] then "none" else Txt.join " " (ns.map istr)
def smallN (f : Int → Bool) : Bool := (List.range 500).all fun k => f (k : Nat)
theorem smallN_ok {f : Int → Bool} (h : smallN f = true) {n : Int} (h0 : 0 ≤ n) (h1 : n < 500) : f n = true := by
  have := List.all_eq_true.mp h n.toNat (by rw [List.mem_range]; omega)
  rw [show ((n.toNat : Nat) : Int) = n by omega] at this
  exact this
theorem istr_tab : smallN (fun n => decide ((istr n).length ≤ 3) && decide (n.natAbs.log2 < 1920) && (istr n).cps.toList.all (fun c => decide (c ∈ figs)) && decide ((istr n).length ≠ 0) && decide (numM (istr n) = some n)) = true := by decide +kernel
theorem istr_ok {n : Int} (h0 : 0 ≤ n) (h1 : n < 500) : (istr n).length ≤ 3 ∧ n.natAbs.log2 < 1920 ∧ (∀ c ∈ (istr n).cps.toList, c ∈ figs) ∧ (istr n).length ≠ 0 ∧ numM (istr n) = some n := by
  have := smallN_ok istr_tab h0 h1
  simp only [Bool.and_eq_true, decide_eq_true_eq, List.all_eq_true] at this
  exact ⟨this.1.1.1.1, this.1.1.1.2, this.1.1.2, this.1.2, this.2⟩
end NL
namespace NL
open PySem
theorem rdN_len : ∀ (most : Nat) (r : List Str) (ns : List Int), rdN most r = .ok ns → ns.length ≤ most
  | _, [], ns, h => by
    simp [rdN] at h
    subst h
    simp
  | 0, _ :: _, ns, h => by simp [rdN] at h
  | m + 1, w :: r, ns, h => by
    unfold rdN at h
    split at h
    · cases h
    · split at h
      · rename_i l e
        cases h
        have := rdN_len m r l e
        simp
        omega
      · cases h
theorem readNs_len {most : Nat} {r : List Str} {ns : List Int} (h : readNs most r = .ok ns) : ns.length ≤ most := by
  cases r with
  | nil => cases h
  | cons w r => exact rdN_len _ _ _ h
theorem readSome_len {most : Nat} {r : List Str} {ns : List Int} (h : readSome most r = .ok ns) : ns.length ≤ most := by
  cases r with
  | nil => cases h
  | cons w r =>
    unfold readSome at h
    simp only at h
    split at h
    · split at h
      · cases h
        simp
      · cases h
    · exact rdN_len _ _ _ h
end NL
/-! R7: len(o), o an own instance with its own __len__ -/
namespace NL
open PySem PySem.Spec PyProof.Rows L2
theorem cspecF {A : Around} {E : Value → Shared → Prop} {s : Shared} {M : Model} {self : Value} {name : Str} {g : Addr} {Q : Option Value → Shared → Prop} (sp : PySem.W.Looks M s.heap (specialOf self name) (some (.ref g)))
    (bd : PySem.W.Looks M s.heap (bindSpecial (.ref g) self) (.ref g, [self])) (h : wpAny M A (call (.ref g) [self]) (fun v => Q (some v)) E s) : wpAny M A (callSpecial? self name) Q E s := by
  unfold callSpecial?
  refine wpAny_bind (PySem.W.Looks.at sp ?_)
  refine wpAny_holding ?_
  refine wpAny_bind (PySem.W.Looks.at bd ?_)
  refine wpAny_bind (wpAny_mono h (fun v s' q => wpAny_pure q) fun _ _ q => q)
section
variable {X : Cx} {CX : CXT} {k : Nat} {C g : Addr} {fd : FuncData} {ps : List Str} {sp : Sp} {E : XK}
theorem call_lenO (hs : PySem.W.findIn X.K (.ref C) "__len__" = some (some (.ref g))) (hf : PySem.W.typeIn X.K (.ref g) = some (.type "function")) (F : FnOk X.prog X.w X.K X.mg X.base CX k g fd ps sp) (hb : Binds X.K fd ps []) (hr : Room (k + 1) X.A) (hx : Passes CX X E) :
    CallR X (.builtin "len") (fun xs H Q => ∃ a dx fs, xs = [V.ref a] ∧ H a = some (.ins C dx fs) ∧ sp [.ref a] H (fun v H' => ∃ n : Int, v = .int n ∧ 0 ≤ n ∧ n < 2 ^ 62 ∧ Q (.int n) H') E) := by
  intro pins s σ H xs us Q I r h
  obtain ⟨a, dx, fs, rfl, ha, q⟩ := h
  rw [Vals.ref1 r]
  obtain ⟨_, _, _, hget, _⟩ := I.hok a _ ha
  have R1 : FnR X.prog X.w X.K X.mg X.base CX k g sp := fun A outer s H us vs Q E hr he hv h =>
    F.run A outer s H ⟨us, []⟩ us vs Q E hr he (by
      have e := hb s us (he.mod.kin.keeps fun b o e => (he.bs b o e).1) (by rw [List.append_nil, ← Vals.length hv]; exact F.len _ _ _ _ h)
      rw [List.append_nil] at e
      exact e) hv h
  have sp1 : PySem.W.Looks (model X.prog X.w) s.heap (specialOf (.ref a) "__len__") (some (.ref g)) := PySem.W.Looks.andThen (NwA.type_at hget rfl) (PySem.W.looks_findIn I.kIn hs)
  refine Calls.call_function_entry kind_len plain_len entry_len (args_len1 _) ?_
  unfold Builtin.«len»
  refine wpAny_bind (m := oneArg "len" _) (wpAny_pure ?_)
  refine wpAny_bind (cspecF sp1 (PySem.W.bind_fn I.kIn _ hf) ?_)
  refine wpAny_mono (wpAny_call (SlX.run_at (us := [.ref a]) (ws := [.ref a]) R1 (Room.in1 hr) (Env0.in1 I.env0) hx I (.cons rfl .nil) q)) (fun v s' z => ?_) (fun _ _ q => q)
  obtain ⟨v', H', I', rv, n, rfl, h0, h1, qq⟩ := z
  obtain ⟨t, rfl⟩ := rv
  refine wpAny_bind (wpAny_holding ?_)
  show wpAny _ _ (asIndex (.int n t)) _ _ _
  unfold asIndex
  refine wpAny_bind (wpAny_pure ?_)
  refine wpAny_pure ?_
  refine wpAny_bind (wpAny_letGo ?_)
  rw [if_neg (by omega)]
  show wpAny _ _ (if n ≥ 2 ^ 63 then _ else _) _ _ _
  rw [if_neg (by omega)]
  refine wpAny_bind (wpAny_mkInt (wpAny_pure ⟨_, rfl, .int n, H', I'.tok _, ⟨_, rfl⟩, qq⟩))
end
end NL
/-! D1: the defs on numbers and blocks -/
namespace NL
open PySem PySem.Spec PyProof.Rows L2
section
variable {P : Program} {w : World} {K : Frag} {mg : Str → Option Value} {base : Heap}
theorem tyTup {H : Hp} {a : Addr} {xs : List V} (h : SqT K H a xs) : TyX K H (.ref a) (.type "tuple") := by
  rcases h with (h | ⟨o, h⟩) | ⟨o, its, n, h, hc, _⟩
  · exact .base (.tup h)
  · exact .fTuple h
  · exact .kTuple h hc
def sp_is_integer (_ : Frag) : Sp := fun vs H Q _ => ∃ i : Int, vs = [.int i] ∧ Q (.bl true) H
abbrev tx_is_integer : Stmt := top 11
abbrev NN_is_integer : List Str := ["thing"]
theorem scp_is_integer : FnScope NN_is_integer ["thing"] (defScope tx_is_integer) := ⟨rfl, rfl, rfl, by decide +kernel, rfl, by decide +kernel, by decide +kernel⟩
theorem cal_is_integer (T : Txt K mg) : Cal P w K mg base CX0 1 "is_integer" (sp_is_integer K) := by
  obtain ⟨fd, F⟩ := T.d_is_integer
  refine ⟨_, fd, ["thing"], F.ok scp_is_integer (fun vs H Q E h => ?_) (fun cdv A outer s H vs Q E hr h => ?_), T.g_is_integer, F.kp, F.bindsN fun _ _ _ _ _ _ us hl => match us, hl with | [_], _ => rfl⟩
  · obtain ⟨i, rfl, _⟩ := h
    rfl
  obtain ⟨i, rfl, k⟩ := h
  refine ⟨_, PSs.nox (pss_one (ps_ret (pe_and (pe_callB call_isi (by rfl) T.z_isinstance (by decide +kernel) (pa_cons (pv 0) (pa_cons (pe_bltn (v := .ty "int") (by rfl) T.z_int (by decide +kernel) rfl) pa_nil))) (pe_one (pe_not (pe_callB call_isi (by rfl) T.z_isinstance (by decide +kernel) (pa_cons (pv 0) (pa_cons (pe_bltn (v := .ty "bool") (by rfl) T.z_bool (by decide +kernel) rfl) pa_nil)))))))), ?_⟩
  refine ⟨_, rfl, _, _, _, _, _, rfl, .ty "int", .base (.int _), kit_ty (by decide +kernel), true, rfl, iteT ?_⟩
  exact ⟨_, rfl, _, _, _, _, _, rfl, .ty "bool", .base (.int _), kit_ty (by decide +kernel), false, rfl, k⟩
def sp_is_between (_ : Frag) : Sp := fun vs H Q _ => ∃ i l m : Int, vs = [.int i, .int l, .int m] ∧ Q (.bl (decide (l ≤ i ∧ i ≤ m))) H
abbrev tx_is_between : Stmt := top 14
abbrev NN_is_between : List Str := ["thing", "least", "most"]
theorem scp_is_between : FnScope NN_is_between ["thing", "least", "most"] (defScope tx_is_between) := ⟨rfl, rfl, rfl, by decide +kernel, rfl, by decide +kernel, by decide +kernel⟩
theorem cal_is_between (T : Txt K mg) : Cal P w K mg base CX0 2 "is_between" (sp_is_between K) := by
  obtain ⟨fd, F⟩ := T.d_is_between
  refine ⟨_, fd, ["thing", "least", "most"], F.ok scp_is_between (fun vs H Q E h => ?_) (fun cdv A outer s H vs Q E hr h => ?_), T.g_is_between, F.kp, F.bindsN fun _ _ _ _ _ _ us hl => match us, hl with | [_, _, _], _ => rfl⟩
  · obtain ⟨i, l, m, rfl, _⟩ := h
    rfl
  obtain ⟨i, l, m, rfl, k⟩ := h
  refine ⟨_, PSs.nox (pss_one (ps_ret (pe_and (pe_cal (cal_is_integer T) hr (by decide) pass0 (pa_cons (pv 0) pa_nil)) (pe_one (pe_chain op_le op_le (pv 1) (pv 0) (pv 2)))))), ?_⟩
  refine ⟨_, rfl, i, rfl, true, rfl, iteT ?_⟩
  refine ⟨_, rfl, _, rfl, _, _, rfl, rfl, _, rfl, ?_⟩
  by_cases c : l ≤ i
  · rw [decide_eq_true c]
    refine iteT ⟨_, rfl, _, _, rfl, rfl, ?_⟩
    show Q (.bl (decide (i ≤ m))) H
    rw [show decide (i ≤ m) = decide (l ≤ i ∧ i ≤ m) by simp [c]]
    exact k
  · rw [decide_eq_false c]
    refine iteF ?_
    rw [show decide (l ≤ i ∧ i ≤ m) = false by simp [c]] at k
    exact k
def sp_is_sign (_ : Frag) : Sp := fun vs H Q _ => ∃ p i : Int, vs = [.int p, .int i] ∧ Q (.bl (decide (0 ≤ i ∧ i ≤ p - 1))) H
abbrev tx_is_sign : Stmt := top 16
abbrev NN_is_sign : List Str := ["prime", "thing"]
theorem scp_is_sign : FnScope NN_is_sign ["prime", "thing"] (defScope tx_is_sign) := ⟨rfl, rfl, rfl, by decide +kernel, rfl, by decide +kernel, by decide +kernel⟩
theorem cal_is_sign (T : Txt K mg) : Cal P w K mg base CX0 3 "is_sign" (sp_is_sign K) := by
  obtain ⟨fd, F⟩ := T.d_is_sign
  refine ⟨_, fd, ["prime", "thing"], F.ok scp_is_sign (fun vs H Q E h => ?_) (fun cdv A outer s H vs Q E hr h => ?_), T.g_is_sign, F.kp, F.bindsN fun _ _ _ _ _ _ us hl => match us, hl with | [_, _], _ => rfl⟩
  · obtain ⟨p, i, rfl, _⟩ := h
    rfl
  obtain ⟨p, i, rfl, k⟩ := h
  refine ⟨_, PSs.nox (pss_one (ps_ret (pe_cal (cal_is_between T) hr (by decide) pass0 (pa_cons (pv 1) (pa_cons pe_int (pa_cons (pe_op op_sub (pv 0) pe_int) pa_nil)))))), ?_⟩
  exact ⟨_, rfl, _, rfl, _, _, rfl, rfl, _, _, _, rfl, k⟩
/-- all signs of the prime p -/
def signsB (p : Int) (ns : List Int) : Bool := ns.all fun i => decide (0 ≤ i ∧ i ≤ p - 1)
def sp_are_signs (K : Frag) : Sp := fun vs H Q _ => ∃ (p : Int) (a : Addr) (ns : List Int), vs = [.int p, .ref a] ∧ SqT K H a (ns.map .int) ∧ ns.length ≤ 1000 ∧ ∀ H', Same H H' → Q (.bl (signsB p ns)) H'
abbrev tx_are_signs : Stmt := top 17
abbrev NN_are_signs : List Str := ["prime", "thing", "one"]
theorem scp_are_signs : FnScope NN_are_signs ["prime", "thing"] (defScope tx_are_signs) := ⟨rfl, rfl, rfl, by decide +kernel, rfl, by decide +kernel, by decide +kernel⟩
theorem cal_are_signs (T : Txt K mg) : Cal P w K mg base CX0 4 "are_signs" (sp_are_signs K) := by
  obtain ⟨fd, F⟩ := T.d_are_signs
  refine ⟨_, fd, ["prime", "thing"], F.ok scp_are_signs (fun vs H Q E h => ?_) (fun cdv A outer s H vs Q E hr h => ?_), T.g_are_signs, F.kp, F.bindsN fun _ _ _ _ _ _ us hl => match us, hl with | [_, _], _ => rfl⟩
  · obtain ⟨p, a, ns, rfl, _⟩ := h
    rfl
  obtain ⟨p, a, ns, rfl, hs, hl, k⟩ := h
  refine ⟨_, PSs.nox (pss_one (ps_ret (pe_and (pe_callB call_isi (by rfl) T.z_isinstance (by decide +kernel) (pa_cons (pv 1) (pa_cons (pe_bltn (v := .ty "tuple") (by rfl) T.z_tuple (by decide +kernel) rfl) pa_nil))) (pe_one (pe_callB (cr_all rfl) (by rfl) T.z_all (by decide +kernel) (pa_cons (pe_lc (own := [("one", 2)]) (g := gName 2) (tt := tYes) rfl scp_are_signs.nd (pi_tup (pv 1)) (blkOk_by (N := NN_are_signs) (sc := defScope tx_are_signs) (by decide +kernel)) (fun _ _ _ _ _ => (pg_name (i := 2) scp_are_signs.nd rfl (.inl rfl))) (fun _ _ _ _ _ => pts_nil) (fun _ _ _ _ _ => (pe_cal (cal_is_sign T) hr (by decide) pass0 (pa_cons (pv 0) (pa_cons (pv 2) pa_nil))))) pa_nil)))))), ?_⟩
  refine ⟨_, rfl, _, _, _, _, _, rfl, .ty "tuple", tyTup hs, kit_ty (by decide +kernel), true, rfl, iteT ?_⟩
  refine ⟨_, rfl, a, rfl, ⟨_, hs⟩, fun D hD => ?_⟩
  refine lc_ac (walk_tup (xs := ns.map .int)) ns (by simp) hD (fun d acc _ => acc = d.map fun i => V.bl (decide (0 ≤ i ∧ i ≤ p - 1))) rfl (fun H1 s => sameT s _ _ hs) ?_ ?_
  · rintro d b r x acc H1 H2 e s hD1 hl1 rfl ⟨rfl, hx⟩
    rw [e] at hx
    cases mapGet hx
    refine ⟨rfl, yesT ⟨_, rfl, _, rfl, p, b, rfl, ?_⟩⟩
    refine Lc.put hD s hD1 hl1 (by rw [e] at hl; simp at hl; omega) ?_
    simp
  · rintro acc H1 s hD1 hl1 rfl
    refine ⟨_, ns.map fun i => decide (0 ≤ i ∧ i ≤ p - 1), rfl, ?_, ?_⟩
    · rw [List.map_map]
      exact .of hD1
    · have := k H1 (fun b o e => s _ _ e)
      rw [show signsB p ns = (ns.map fun i => decide (0 ≤ i ∧ i ≤ p - 1)).all id by unfold signsB; rw [List.all_map]; rfl] at this
      exact this
def sp_rest_of (_ : Frag) : Sp := fun vs H Q _ => ∃ p n : Int, vs = [.int p, .int n] ∧ 0 < p ∧ Q (.int (n % p)) H
abbrev tx_rest_of : Stmt := top 18
abbrev NN_rest_of : List Str := ["prime", "number"]
theorem scp_rest_of : FnScope NN_rest_of ["prime", "number"] (defScope tx_rest_of) := ⟨rfl, rfl, rfl, by decide +kernel, rfl, by decide +kernel, by decide +kernel⟩
theorem cal_rest_of (T : Txt K mg) : Cal P w K mg base CX0 1 "rest_of" (sp_rest_of K) := by
  obtain ⟨fd, F⟩ := T.d_rest_of
  refine ⟨_, fd, ["prime", "number"], F.ok scp_rest_of (fun vs H Q E h => ?_) (fun cdv A outer s H vs Q E hr h => ?_), T.g_rest_of, F.kp, F.bindsN fun _ _ _ _ _ _ us hl => match us, hl with | [_, _], _ => rfl⟩
  · obtain ⟨p, n, rfl, _⟩ := h
    rfl
  obtain ⟨p, n, rfl, hp, k⟩ := h
  refine ⟨_, PSs.nox (pss_one (ps_ret (pe_op op_mod (pe_callTy call_int1 (by rfl) T.z_int (by decide +kernel) (pa_cons (pv 1) pa_nil)) (pv 0)))), ?_⟩
  exact ⟨_, rfl, .inl ⟨_, rfl, _, rfl, _, _, rfl, rfl, hp, k⟩⟩
def sp_value_in (K : Frag) : Sp := fun vs H Q _ => ∃ (p s : Int) (a : Addr) (ns : List Int), vs = [.int p, .ref a, .int s] ∧ SqT K H a (ns.map .int) ∧ 0 < p ∧ -1000 < s ∧ s < 1000 ∧ ∀ H', Same H H' → Q (.int (valM p s ns)) H'
abbrev tx_value_in : Stmt := top 19
abbrev NN_value_in : List Str := ["prime", "block", "sign", "found", "one"]
theorem scp_value_in : FnScope NN_value_in ["prime", "block", "sign"] (defScope tx_value_in) := ⟨rfl, rfl, rfl, by decide +kernel, rfl, by decide +kernel, by decide +kernel⟩
theorem cal_value_in (T : Txt K mg) : Cal P w K mg base CX0 2 "value_in" (sp_value_in K) := by
  obtain ⟨fd, F⟩ := T.d_value_in
  refine ⟨_, fd, ["prime", "block", "sign"], F.ok scp_value_in (fun vs H Q E h => ?_) (fun cdv A outer s H vs Q E hr h => ?_), T.g_value_in, F.kp, F.bindsN fun _ _ _ _ _ _ us hl => match us, hl with | [_, _, _], _ => rfl⟩
  · obtain ⟨p, s, a, ns, rfl, _⟩ := h
    rfl
  obtain ⟨p, s, a, ns, rfl, hs, hp, h1, h2, k⟩ := h
  refine ⟨_, PSs.nox (pss_cons (ps_set (i := 3) scp_value_in.nd rfl (.inl rfl) pe_int)
      (pss_cons (ps_for PassesOwn.never rfl (pi_tup (pe_revT (pv 1))) (pg_name (i := 4) scp_value_in.nd rfl (.inl rfl))
      (pss_one (ps_set (i := 3) scp_value_in.nd rfl (.inl rfl) (pe_cal (cal_rest_of T) hr (by decide) pass0 (pa_cons (pv 0) (pa_cons (pe_op op_add (pe_op op_mul (pv 3) (pv 2)) (pv 4)) pa_nil))))))
      (pss_one (ps_ret (pv 3))))), ?_⟩
  refine ⟨_, rfl, _, _, rfl, hs, fun q hq => ?_⟩
  refine ⟨q, rfl, ⟨_, .of upd_same⟩, ?_⟩
  rw [← List.map_reverse]
  refine for_suf (walk_tup (xs := ns.reverse.map .int)) ns.reverse (by simp) (fun d _ σ H' => ∃ v, σ = [some (.int p), some (.ref a), some (.int s), some (.int (d.foldl (fun f o => (f * s + o) % p) 0)), v] ∧ Same (upd H q (.tup (ns.reverse.map .int))) H') ⟨_, rfl, fun _ _ e => e⟩ ?_ ?_ ?_
  · rintro d r σ H1 ⟨v, rfl, s1⟩
    exact sameT s1 _ _ (.of upd_same)
  · rintro d b r x σ H1 H2 e ⟨v, rfl, s1⟩ ⟨rfl, hx⟩
    rw [e] at hx
    cases mapGet hx
    refine ⟨_, rfl, _, rfl, _, rfl, _, _, rfl, rfl, .inr ⟨by omega, by omega⟩, _, rfl, _, _, rfl, rfl, p, _, rfl, hp, ?_⟩
    exact ⟨_, by rw [List.foldl_append]; rfl, s1⟩
  · rintro σ H1 ⟨v, rfl, s1⟩
    exact ⟨_, rfl, k H1 (fun b o e => s1 _ _ (sameNew hq _ _ e))⟩
end
end NL
/-! D2: inverse, root, through -/
namespace NL
open PySem PySem.Spec PyProof.Rows L2
section
variable {P : Program} {w : World} {K : Frag} {mg : Str → Option Value} {base : Heap}
def sp_inverse_in (_ : Frag) : Sp := fun vs H Q _ => ∃ p s : Int, vs = [.int p, .int s] ∧ p ≤ 100 ∧ Inv1 p s ∧ ∀ H', Same H H' → Q (.int (invM p s)) H'
abbrev tx_inverse_in : Stmt := top 20
abbrev NN_inverse_in : List Str := ["prime", "sign", "one"]
theorem scp_inverse_in : FnScope NN_inverse_in ["prime", "sign"] (defScope tx_inverse_in) := ⟨rfl, rfl, rfl, by decide +kernel, rfl, by decide +kernel, by decide +kernel⟩
theorem cal_inverse_in (T : Txt K mg) : Cal P w K mg base CX0 2 "inverse_in" (sp_inverse_in K) := by
  obtain ⟨fd, F⟩ := T.d_inverse_in
  refine ⟨_, fd, ["prime", "sign"], F.ok scp_inverse_in (fun vs H Q E h => ?_) (fun cdv A outer s H vs Q E hr h => ?_), T.g_inverse_in, F.kp, F.bindsN fun _ _ _ _ _ _ us hl => match us, hl with | [_, _], _ => rfl⟩
  · obtain ⟨p, s, rfl, _⟩ := h
    rfl
  obtain ⟨p, s, rfl, hp, hi, k⟩ := h
  refine ⟨_, PSs.nox (pss_one (ps_ret (pe_ix ix_list (pe_lc (own := [("one", 2)]) (g := gName 2) rfl scp_inverse_in.nd (pi_range2 (by rfl) T.z_range (pa_cons pe_int (pa_cons (pv 0) pa_nil))) (blkOk_by (N := NN_inverse_in) (sc := defScope tx_inverse_in) (by decide +kernel)) (fun _ _ _ _ _ => (pg_name (i := 2) scp_inverse_in.nd rfl (.inl rfl))) (fun _ _ _ _ _ => (pts_one (pt_cmpR op_eq (pe_cal (cal_rest_of T) hr (by decide) pass0 (pa_cons (pv 0) (pa_cons (pe_op op_mul (pv 2) (pv 1)) pa_nil))) pe_int (nomark _)))) (fun _ _ _ _ _ => (pv 2))) pe_int (fun _ _ => rfl)))), ?_⟩
  have hp1 : 1 ≤ p := by
    obtain ⟨r, h1, h2, _⟩ := hi
    omega
  refine ⟨_, rfl, 1, p, rfl, ⟨by decide, by decide, by omega, by omega⟩, fun D hD => ?_⟩
  refine lc_ac walk_range ((List.range (p - 1).toNat).map fun (i : Nat) => (1 : Int) + i) (by simp) hD (fun d acc _ => acc = (d.filter fun o => decide (o * s % p = 1)).map .int) rfl (fun _ _ => trivial) ?_ ?_
  · rintro d b r x acc H1 H2 e s1 hD1 hl1 rfl ⟨rfl, rfl⟩
    obtain ⟨rfl, hlt⟩ := rangeMid e
    refine ⟨rfl, ?_⟩
    refine ⟨_, rfl, _, rfl, _, rfl, _, _, rfl, rfl, .inl ⟨by omega, by omega⟩, p, _, rfl, by omega, rfl, _, rfl, ?_⟩
    refine ite2 (fun c => ?_) (fun c => ?_)
    · have c' : (1 + (d.length : Int)) * s % p = 1 := V.int.inj (of_decide_eq_true c)
      refine ⟨_, rfl, Lc.put hD s1 hD1 hl1 (by omega) ?_⟩
      rw [List.filter_append, List.filter_cons_of_pos (by simpa using c')]
      simp
    · have c' : ¬ (1 + (d.length : Int)) * s % p = 1 := fun z => c (by rw [z]; rfl)
      refine Lc.skip s1 hD1 hl1 ?_
      rw [List.filter_append, List.filter_cons_of_neg (by simpa using c')]
      simp
  · rintro acc H1 s1 hD1 hl1 rfl
    obtain ⟨t, e⟩ := inv_cons hi
    refine ⟨_, _, _, _, rfl, rfl, .of hD1, ?_, k H1 s1⟩
    have e' : (((List.range (p - 1).toNat).map fun (i : Nat) => (1 : Int) + i).filter fun o => decide (o * s % p = 1)) = invM p s :: t := e
    rw [e']
    exact atI_nat (j := 0) rfl
def sp_times_root (K : Frag) : Sp := fun vs H Q _ => ∃ (p r : Int) (a : Addr) (bl : List Int), vs = [.int p, .ref a, .int r] ∧ SqL K H a (bl.map .int) ∧ 0 < p ∧ -1000 < r ∧ r < 1000 ∧ bl.length ≤ 900 ∧ RetL (tr p r bl) H Q
abbrev tx_times_root : Stmt := top 21
abbrev NN_times_root : List Str := ["prime", "block", "root", "found", "spot", "one"]
theorem scp_times_root : FnScope NN_times_root ["prime", "block", "root"] (defScope tx_times_root) := ⟨rfl, rfl, rfl, by decide +kernel, rfl, by decide +kernel, by decide +kernel⟩
theorem cal_times_root (T : Txt K mg) : Cal P w K mg base CX0 2 "times_root" (sp_times_root K) := by
  obtain ⟨fd, F⟩ := T.d_times_root
  refine ⟨_, fd, ["prime", "block", "root"], F.ok scp_times_root (fun vs H Q E h => ?_) (fun cdv A outer s H vs Q E hr h => ?_), T.g_times_root, F.kp, F.bindsN fun _ _ _ _ _ _ us hl => match us, hl with | [_, _, _], _ => rfl⟩
  · obtain ⟨p, r, a, bl, rfl, _⟩ := h
    rfl
  obtain ⟨p, r, a, bl, rfl, hL, hp, h1, h2, hl, k⟩ := h
  refine ⟨_, PSs.nox (pss_cons (ps_set (i := 3) scp_times_root.nd rfl (.inl rfl) (pe_lst (pa_cons pe_int (StX.pa_star (pv 1) pa_nil))))
      (pss_cons (ps_for PassesOwn.never rfl (pi_enum (by rfl) T.z_enumerate (pa_cons (pv 1) pa_nil)) (pg_tup rfl (pgs_cons (pg_name (i := 4) scp_times_root.nd rfl (.inl rfl)) (pgs_cons (pg_name (i := 5) scp_times_root.nd rfl (.inl rfl)) pgs_nil)))
      (pss_one (ps_asg (pe_cal (cal_rest_of T) hr (by decide) pass0 (pa_cons (pv 0) (pa_cons (pe_op op_sub (pe_ix ix_list (pv 3) (pv 4) (fun _ _ => rfl)) (pe_op op_mul (pv 2) (pv 5))) pa_nil))) (pg_sub (pv 3) (pv 4) set_list))))
      (pss_one (ps_ret (pv 3))))), ?_⟩
  refine ⟨_, rfl, a, bl.map .int, rfl, .inr hL, le1000 (by show (V.int 0 :: (bl.map V.int ++ [])).length ≤ 1000; simp; omega), fun l hl0 => ?_⟩
  have hal : H l = none := hl0
  refine ⟨_, rfl, a, bl.map .int, rfl, sameL (sameNew hl0) hL, ?_⟩
  refine for_suf (walk_enum (xs := bl.map .int)) bl (by simp) (fun d q σ H' => ∃ v v', σ = [some (.int p), some (.ref a), some (.int r), some (.ref l), v, v'] ∧ Same H H' ∧ H' l = some (.lst ((trD p r 0 d ++ trE 0 d :: q).map .int))) ?_ ?_ ?_ ?_
  · exact ⟨_, _, rfl, sameNew hl0, by rw [upd_same]; simp [trD, trE]⟩
  · rintro d q σ H1 ⟨v, v', rfl, s1, _⟩
    exact sameL s1 hL
  · rintro d b q x σ H1 H2 e ⟨v, v', rfl, s1, hf⟩ ⟨T, x1, y1, rfl, hT, rfl, e1, e2⟩
    cases e1
    rw [e] at e2
    cases mapGet e2
    have hTl : T ≠ l := (ne_of_none hf hT).symm
    have hix : atI ((trD p r 0 d ++ trE 0 d :: b :: q).map V.int) (d.length : Int) = some (.int (trE 0 d)) := by
      refine atI_nat ?_
      rw [List.getElem?_map, List.getElem?_append_right (by rw [trD_len]; exact Nat.le_refl _), trD_len]
      simp
    refine ⟨T, _, rfl, .of upd_same, rfl, _, _, rfl, _, _, rfl, rfl, ?_⟩
    refine ⟨_, rfl, _, rfl, _, rfl, _, _, _, _, rfl, rfl, .of (by rw [upd_ne hTl.symm]; exact hf), hix, _, rfl, _, rfl, _, _, rfl, rfl, .inl ⟨by omega, by omega⟩, _, _, rfl, rfl, p, _, rfl, hp, ?_⟩
    refine ⟨_, rfl, _, rfl, l, _, _, d.length, rfl, rfl, (by rw [upd_ne hTl.symm]; exact hf), ixN_nat (by simp [trD_len]), ?_⟩
    · refine ⟨_, _, rfl, ?_, ?_⟩
      · exact sameAt (sameAt s1 (s1.free hT)) hal
      · rw [upd_same, trD_snoc, trE_snoc, ← trD_len p r 0 d]
        simp [List.set_append_right]
  · rintro σ H1 ⟨v, v', rfl, s1, hf⟩
    refine ⟨_, rfl, k H1 l s1 hal ?_⟩
    rw [hf]
    rfl
end
end NL
/-! D3: through_in -/
namespace NL
open PySem PySem.Spec PyProof.Rows L2
section
variable {P : Program} {w : World} {K : Frag} {mg : Str → Option Value} {base : Heap}
theorem repl0 (n : Nat) : (List.replicate n [V.int 0]).flatten = (List.replicate n (0 : Int)).map V.int := by
  induction n with
  | zero => rfl
  | succ n ih => rw [List.replicate_succ, List.flatten_cons, ih]; rfl
def sp_through_in (K : Frag) : Sp := fun vs H Q _ => ∃ (p : Int) (a : Addr) (us : List V) (ps : List (Int × Int)), vs = [.int p, .ref a] ∧ SqT K H a us ∧ PtsI K H us ps ∧ PtsOk p ps ∧ RetT K (thrM p ps) H Q
abbrev tx_through_in : Stmt := top 22
abbrev NN_through_in : List Str := ["prime", "points", "found", "one", "value", "block", "bottom", "other", "rest", "factor", "near", "far"]
theorem scp_through_in : FnScope NN_through_in ["prime", "points"] (defScope tx_through_in) := ⟨rfl, rfl, rfl, by decide +kernel, rfl, by decide +kernel, by decide +kernel⟩
theorem cal_through_in (T : Txt K mg) : Cal P w K mg base CX0 3 "through_in" (sp_through_in K) := by
  obtain ⟨fd, F⟩ := T.d_through_in
  refine ⟨_, fd, ["prime", "points"], F.ok scp_through_in (fun vs H Q E h => ?_) (fun cdv A outer s H vs Q E hr h => ?_), T.g_through_in, F.kp, F.bindsN fun _ _ _ _ _ _ us hl => match us, hl with | [_, _], _ => rfl⟩
  · obtain ⟨p, a, us, ps, rfl, _⟩ := h
    rfl
  obtain ⟨p, a, us, ps, rfl, hT, hP, ok, k⟩ := h
  refine ⟨_, PSs.nox (pss_cons (ps_set (i := 2) scp_through_in.nd rfl (.inl rfl) (pe_op op_rep (pe_lst (pa_cons pe_int pa_nil)) (pe_callB call_len_seq (by rfl) T.z_len PySem.boot_len (pa_cons (pv 1) pa_nil))))
      (pss_cons (ps_for PassesOwn.never rfl (pi_tup (pv 1)) (pg_tup rfl (pgs_cons (pg_name (i := 3) scp_through_in.nd rfl (.inl rfl)) (pgs_cons (pg_name (i := 4) scp_through_in.nd rfl (.inl rfl)) pgs_nil)))
      (pss_cons (ps_par (i := 5) (j := 6) (by rfl) scp_through_in.nd rfl rfl (by decide) rfl rfl (pa_cons (pe_lst (pa_cons pe_int pa_nil)) (pa_cons pe_int pa_nil)) (by rfl))
      (pss_cons (ps_for PassesOwn.never rfl (pi_tup (pv 1)) (pg_tup rfl (pgs_cons (pg_name (i := 7) scp_through_in.nd rfl (.inl rfl)) (pgs_cons (pg_name (i := 8) scp_through_in.nd rfl (.inl rfl)) pgs_nil)))
      (pss_one (ps_if (pt_cmpR op_ne (pv 7) (pv 3) (nomark _)) (pss_one (ps_par (i := 5) (j := 6) (by rfl) scp_through_in.nd rfl rfl (by decide) rfl rfl (pa_cons (pe_cal (cal_times_root T) hr (by decide) pass0 (pa_cons (pv 0) (pa_cons (pv 5) (pa_cons (pv 7) pa_nil)))) (pa_cons (pe_cal (cal_rest_of T) hr (by decide) pass0 (pa_cons (pv 0) (pa_cons (pe_op op_mul (pv 6) (pe_op op_sub (pv 3) (pv 7))) pa_nil))) pa_nil)) (by rfl))) pss_nil)))
      (pss_cons (ps_set (i := 9) scp_through_in.nd rfl (.inr rfl) (pe_cal (cal_rest_of T) hr (by decide) pass0 (pa_cons (pv 0) (pa_cons (pe_op op_mul (pv 4) (pe_cal (cal_inverse_in T) hr (by decide) pass0 (pa_cons (pv 0) (pa_cons (pv 6) pa_nil)))) pa_nil))))
      (pss_one (ps_setLc (own := [("near", 10), ("far", 11)]) (g := gTup K 2 (gCons (gName 10) (gCons (gName 11) gNil))) (tt := tYes) (i := 2) rfl scp_through_in.nd rfl rfl (sw_true rfl rfl rfl (by decide +kernel)) (pi_zip (by rfl) T.z_zip (pa_cons (pv 2) (pa_cons (pv 5) pa_nil))) (blkOk_by (N := NN_through_in) (sc := defScope tx_through_in) (by decide +kernel)) (fun _ _ _ _ _ => (pg_tup rfl (pgs_cons (pg_name (i := 10) scp_through_in.nd rfl (.inl rfl)) (pgs_cons (pg_name (i := 11) scp_through_in.nd rfl (.inl rfl)) pgs_nil)))) (fun _ _ _ _ _ => pts_nil) (fun _ _ _ _ _ => (pe_cal (cal_rest_of T) hr (by decide) pass0 (pa_cons (pv 0) (pa_cons (pe_op op_add (pv 10) (pe_op op_mul (pv 9) (pv 11))) pa_nil))))))))))
      (pss_one (ps_ret (pe_callTy call_tuple_of (by rfl) T.z_tuple (by decide +kernel) (pa_cons (pv 2) pa_nil)))))), ?_⟩
  obtain ⟨hp, hl, hb, hi⟩ := ok
  have hul : us.length = ps.length := hP.len
  refine ⟨by decide, fun l0 h0 => ?_⟩
  refine ⟨_, rfl, a, us, rfl, .inr (sameT (sameNew h0) _ _ hT), ?_⟩
  refine ⟨l0, _, _, rfl, rfl, upd_same, by omega, by omega, by simp; rw [sizeLine_eq]; omega, fun f hf => ?_⟩
  have hff : upd H l0 (.lst [.int 0]) f = none := hf
  have s0 : Same H (upd (upd H l0 (.lst [.int 0])) f (.lst ((List.replicate us.length (0 : Int)).map .int))) := fun b o e => sameNew hf _ _ (sameNew h0 _ _ e)
  rw [Int.toNat_natCast, repl0]
  refine ⟨_, rfl, a, rfl, ⟨us, sameT s0 _ _ hT⟩, ?_⟩
  refine for_suf (walk_tup (xs := us)) ps hul.symm (fun d _ σ H' => ∃ f v3 v4 v5 v6 v7 v8 v9 v10 v11, σ = [some (.int p), some (.ref a), some (.ref f), v3, v4, v5, v6, v7, v8, v9, v10, v11] ∧ Same H H' ∧ H' f = some (.lst ((d.foldl (thrStep p ps) (List.replicate ps.length 0)).map .int))) ?_ ?_ ?_ ?_
  · exact ⟨f, _, _, _, _, _, _, _, _, _, rfl, s0, by rw [upd_same, hul]; rfl⟩
  · rintro d r σ H1 ⟨f, v3, v4, v5, v6, v7, v8, v9, v10, v11, rfl, s1, _⟩
    exact sameT s1 _ _ hT
  · rintro d q r x σ H1 H2 e ⟨f, v3, v4, v5, v6, v7, v8, v9, v10, v11, rfl, s1, hf1⟩ ⟨rfl, hx⟩
    obtain ⟨b, rfl, hq⟩ := (PtsI.mono (sameT s1) hP).get hx (by rw [e]; exact getMid d q r)
    have hqm : q ∈ ps := by rw [e]; simp
    obtain ⟨one, value⟩ := q
    refine ⟨b, _, rfl, hq, rfl, _, _, rfl, _, _, rfl, rfl, ?_⟩
    refine ⟨by decide, fun l1 h1 => ?_⟩
    refine ⟨_, _, rfl, ?_⟩
    have s2 : Same H2 (upd H2 l1 (.lst [.int 1])) := sameNew h1
    refine ⟨_, rfl, a, rfl, ⟨us, sameT s2 _ _ (sameT s1 _ _ hT)⟩, ?_⟩
    refine for_suf (walk_tup (xs := us)) ps hul.symm (fun d' _ σ H' => ∃ bb v7 v8, σ = [some (.int p), some (.ref a), some (.ref f), some (.int one), some (.int value), some (.ref bb), some (.int (d'.foldl (blkStep p one) ([1], 1)).2), v7, v8, v9, v10, v11] ∧ Same H2 H' ∧ H' bb = some (.lst ((d'.foldl (blkStep p one) ([1], 1)).1.map .int))) ?_ ?_ ?_ ?_
    · exact ⟨l1, _, _, rfl, s2, upd_same⟩
    · rintro d' r' σ H3 ⟨bb, v7, v8, rfl, s3, _⟩
      exact sameT s3 _ _ (sameT s1 _ _ hT)
    · rintro d' q' r' x σ H3 H4 e' ⟨bb, v7, v8, rfl, s3, hbb⟩ ⟨rfl, hx⟩
      obtain ⟨b', rfl, hq'⟩ := (PtsI.mono (sameT s3) (PtsI.mono (sameT s1) hP)).get hx (by rw [e']; exact getMid d' q' r')
      have hqm' : q' ∈ ps := by rw [e']; simp
      obtain ⟨other, rest⟩ := q'
      obtain ⟨g1, g2⟩ : -100 ≤ one ∧ one ≤ 100 := hb _ hqm
      obtain ⟨g3, g4⟩ : -100 ≤ other ∧ other ≤ 100 := hb _ hqm'
      have hdl : d'.length ≤ 100 := by rw [e'] at hl; simp at hl; omega
      refine ⟨b', _, rfl, hq', rfl, _, _, rfl, _, _, rfl, rfl, ?_⟩
      refine ⟨_, rfl, _, rfl, rfl, _, rfl, ?_⟩
      by_cases c : other = one
      · subst c
        refine iteNS rfl ?_
        have st : (d' ++ [(other, rest)]).foldl (blkStep p other) ([1], 1) = d'.foldl (blkStep p other) ([1], 1) := by
          rw [List.foldl_append]
          simp [blkStep]
        exact ⟨bb, some (.int other), some (.int rest), by rw [st]; rfl, s3, by rw [st]; exact hbb⟩
      · have c' : ¬ (V.int other = V.int one) := fun z => c (V.int.inj z)
        rw [decide_eq_false c']
        refine iteT ?_
        refine ⟨_, rfl, _, rfl, _, rfl, p, other, bb, _, rfl, .of hbb, hp.1, by omega, by omega, ?_, fun H5 t s5 ht0 ht => ?_⟩
        · have := blk_len p one d' ([1], 1)
          simp at this
          omega
        refine ⟨_, rfl, _, rfl, _, rfl, _, rfl, _, _, rfl, rfl, _, _, rfl, rfl, .inr ⟨by omega, by omega⟩, p, _, rfl, hp.1, ?_⟩
        refine ⟨_, _, rfl, ?_⟩
        have st : (d' ++ [(other, rest)]).foldl (blkStep p one) ([1], 1) = (tr p other (d'.foldl (blkStep p one) ([1], 1)).1, (d'.foldl (blkStep p one) ([1], 1)).2 * (one - other) % p) := by
          rw [List.foldl_append]
          simp [blkStep, c]
        exact ⟨t, some (.int other), some (.int rest), by rw [st]; rfl, fun b o e => s5 _ _ (s3 _ _ e), by rw [st]; exact ht⟩
    · rintro σ H3 ⟨bb, v7, v8, rfl, s3, hbb⟩
      have hbk : ps.foldl (blkStep p one) ([1], 1) = blkM p ps one := rfl
      rw [hbk] at hbb ⊢
      have hin : Inv1 p (blkM p ps one).2 := hi _ hqm
      have hbd := inv_bd hin
      refine ⟨_, rfl, _, rfl, _, rfl, _, rfl, p, _, rfl, hp.2, hin, fun H4 s4 => ?_⟩
      refine ⟨_, _, rfl, rfl, .inr ⟨by omega, by omega⟩, p, _, rfl, hp.1, ?_⟩
      have hm : 0 ≤ value * invM p (blkM p ps one).2 % p ∧ value * invM p (blkM p ps one).2 % p < p := ⟨Int.emod_nonneg _ (by omega), Int.emod_lt_of_pos _ hp.1⟩
      have hf4 : H4 f = some (.lst ((d.foldl (thrStep p ps) (List.replicate ps.length 0)).map .int)) := s4 _ _ (s3 _ _ hf1)
      have hb4 := s4 _ _ hbb
      refine ⟨_, rfl, _, rfl, f, bb, _, _, rfl, .of hf4, .of hb4, fun D hD => ?_⟩
      refine lc_ac (walk_zip rfl) (List.zip (d.foldl (thrStep p ps) (List.replicate ps.length 0)) (blkM p ps one).1) (by simp) hD
        (fun d acc _ => acc = d.map fun q => V.int ((q.1 + (value * invM p (blkM p ps one).2 % p) * q.2) % p)) rfl (fun H5 s5 => ⟨sameL s5 (.of hf4), sameL s5 (.of hb4)⟩) ?_ ?_
      · rintro d5 q5 r5 x acc H5 H6 e5 s5 hD5 hl5 rfl ⟨T, x1, y1, rfl, hT5, rfl, e1, e2⟩
        have hz := getMid d5 q5 r5
        rw [← e5, List.getElem?_zip_eq_some] at hz
        obtain ⟨z1, z2⟩ := hz
        obtain rfl := mapAt z1 e1
        obtain rfl := mapAt z2 e2
        refine ⟨T, _, rfl, .of upd_same, rfl, _, _, rfl, _, _, rfl, rfl, rfl, yesT ?_⟩
        refine ⟨_, rfl, _, rfl, _, rfl, _, rfl, _, _, rfl, rfl, .inl ⟨by omega, by omega⟩, _, _, rfl, rfl, p, _, rfl, hp.1, ?_⟩
        have h900 : d5.length < 1000 := by
          have e6 := congrArg List.length e5
          have := List.length_zip (l₁ := d.foldl (thrStep p ps) (List.replicate ps.length 0)) (l₂ := (blkM p ps one).1)
          have h7 := blk_len p one ps ([1], 1)
          rw [hbk] at h7
          simp at h7
          rw [this] at e6
          simp at e6
          omega
        have hTD : D ≠ T := ne_of_none hD5 hT5
        refine Lc.put hD (sameAt s5 (s5.free hT5)) ?_ hl5 h900 ?_
        · rw [upd_ne hTD]
          exact hD5
        · simp
      · rintro acc H5 s5 hD5 hl5 rfl
        have st : (d ++ [(one, value)]).foldl (thrStep p ps) (List.replicate ps.length 0) = thrStep p ps (d.foldl (thrStep p ps) (List.replicate ps.length 0)) (one, value) := by
          rw [List.foldl_append]
          rfl
        refine ⟨D, _, _, _, _, _, _, _, _, _, rfl, fun b o e => s5 _ _ (s4 _ _ (s3 _ _ (s1 _ _ e))), ?_⟩
        rw [hD5, st]
        unfold thrStep
        rw [zipW, List.map_map]
        rfl
  · rintro σ H1 ⟨f, v3, v4, v5, v6, v7, v8, v9, v10, v11, rfl, s1, hf1⟩
    refine ⟨_, rfl, f, _, rfl, .inl ⟨.of hf1, fun t ht => ?_⟩⟩
    exact k _ t (fun b o e => sameNew ht _ _ (s1 _ _ e)) (.of upd_same)
end
end NL
/-! D4: layings -/
namespace NL
open PySem PySem.Spec PyProof.Rows L2
section
variable {P : Program} {w : World} {K : Frag} {mg : Str → Option Value} {base : Heap}
/-- a laying -/
def layB (ns : List Int) : Bool := decide (1 ≤ (ns.length : Int) ∧ (ns.length : Int) ≤ 8) && (ns.all (fun i => decide (0 ≤ i ∧ i ≤ 6)) && decide (ns.sum ≤ 12))
def sp_is_laying (K : Frag) : Sp := fun vs H Q _ => ∃ (a : Addr) (ns : List Int), vs = [.ref a] ∧ SqT K H a (ns.map .int) ∧ ns.length ≤ 900 ∧ ∀ H', Same H H' → Q (.bl (layB ns)) H'
abbrev tx_is_laying : Stmt := top 27
abbrev NN_is_laying : List Str := ["thing", "share"]
theorem scp_is_laying : FnScope NN_is_laying ["thing"] (defScope tx_is_laying) := ⟨rfl, rfl, rfl, by decide +kernel, rfl, by decide +kernel, by decide +kernel⟩
theorem cal_is_laying (T : Txt K mg) : Cal P w K mg base CX0 3 "is_laying" (sp_is_laying K) := by
  obtain ⟨fd, F⟩ := T.d_is_laying
  refine ⟨_, fd, ["thing"], F.ok scp_is_laying (fun vs H Q E h => ?_) (fun cdv A outer s H vs Q E hr h => ?_), T.g_is_laying, F.kp, F.bindsN fun _ _ _ _ _ _ us hl => match us, hl with | [_], _ => rfl⟩
  · obtain ⟨a, ns, rfl, _⟩ := h
    rfl
  obtain ⟨a, ns, rfl, hs, hl, k⟩ := h
  refine ⟨_, PSs.nox (pss_cons (ps_if (PW.pt (pw_or (pt_not (pt_val (pe_callB call_isi (by rfl) T.z_isinstance (by decide +kernel) (pa_cons (pv 0) (pa_cons (pe_bltn (v := .ty "tuple") (by rfl) T.z_tuple (by decide +kernel) rfl) pa_nil))))) (pw_or1 (pt_not (pt_chain op_le op_le pe_int (pe_callB call_len_seq (by rfl) T.z_len PySem.boot_len (pa_cons (pv 0) pa_nil)) (pe_gi T.c_MOST_LETTERS)))))) (pss_one (ps_ret pe_bl)) pss_nil)
      (pss_one (ps_ret (pe_and (pe_callB (cr_all rfl) (by rfl) T.z_all (by decide +kernel) (pa_cons (pe_lc (own := [("share", 1)]) (g := gName 1) (tt := tYes) rfl scp_is_laying.nd (pi_tup (pv 0)) (blkOk_by (N := NN_is_laying) (sc := defScope tx_is_laying) (by decide +kernel)) (fun _ _ _ _ _ => (pg_name (i := 1) scp_is_laying.nd rfl (.inl rfl))) (fun _ _ _ _ _ => pts_nil) (fun _ _ _ _ _ => (pe_cal (cal_is_between T) hr (by decide) pass0 (pa_cons (pv 1) (pa_cons pe_int (pa_cons (pe_gi T.c_MOST_SHARE) pa_nil)))))) pa_nil)) (pe_one (pe_cmpR op_le (pe_callB (cr_sumT rfl) (by rfl) T.z_sum (by decide +kernel) (pa_cons (pv 0) pa_nil)) (pe_gi T.c_MOST_ROOM) (nomark _))))))), ?_⟩
  refine ⟨_, rfl, _, _, _, _, _, rfl, .ty "tuple", tyTup hs, kit_ty (by decide +kernel), true, rfl, iteF ?_⟩
  refine ⟨_, rfl, a, _, rfl, .inr hs, _, _, rfl, rfl, _, rfl, ?_⟩
  rw [List.length_map]
  have tail : ∀ c : Bool, c = decide (1 ≤ (ns.length : Int) ∧ (ns.length : Int) ≤ 8) → (∀ H', Same H H' → Q (.bl (layB ns)) H') := fun _ _ => k
  by_cases c1 : 1 ≤ (ns.length : Int)
  · rw [decide_eq_true c1]
    refine iteT ⟨_, _, rfl, rfl, _, rfl, ?_⟩
    by_cases c2 : (ns.length : Int) ≤ 8
    · rw [decide_eq_true c2]
      refine iteF ?_
      refine ⟨_, rfl, a, rfl, ⟨_, hs⟩, fun D hD => ?_⟩
      refine lc_ac (walk_tup (xs := ns.map .int)) ns (by simp) hD (fun d acc _ => acc = d.map fun i => V.bl (decide (0 ≤ i ∧ i ≤ 6))) rfl (fun H1 s => sameT s _ _ hs) ?_ ?_
      · rintro d b r x acc H1 H2 e s hD1 hl1 rfl ⟨rfl, hx⟩
        rw [e] at hx
        cases mapGet hx
        refine ⟨rfl, yesT ⟨_, rfl, b, 0, 6, rfl, ?_⟩⟩
        refine Lc.put hD s hD1 hl1 (by rw [e] at hl; simp at hl; omega) ?_
        simp
      · rintro acc H1 s hD1 hl1 rfl
        refine ⟨_, ns.map fun i => decide (0 ≤ i ∧ i ≤ 6), rfl, by rw [List.map_map]; exact .of hD1, _, rfl, ?_⟩
        have k' := k H1 s
        unfold layB at k'
        rw [decide_eq_true (⟨c1, c2⟩ : _ ∧ _), Bool.true_and] at k'
        have e : (ns.map fun i => decide (0 ≤ i ∧ i ≤ 6)).all id = ns.all (fun i => decide (0 ≤ i ∧ i ≤ 6)) := by rw [List.all_map]; rfl
        rw [e]
        cases c3 : ns.all (fun i => decide (0 ≤ i ∧ i ≤ 6))
        · rw [c3, Bool.false_and] at k'
          exact iteF k'
        · rw [c3, Bool.true_and] at k'
          exact iteT ⟨_, rfl, a, ns, rfl, sameT s _ _ hs, _, _, rfl, rfl, k'⟩
    · rw [decide_eq_false c2]
      refine iteT ?_
      have k' := k H fun _ _ e => e
      unfold layB at k'
      rw [decide_eq_false (fun z => c2 z.2)] at k'
      exact k'
  · rw [decide_eq_false c1]
    refine iteF ⟨_, rfl, iteT ?_⟩
    have k' := k H fun _ _ e => e
    unfold layB at k'
    rw [decide_eq_false (fun z => c1 z.1)] at k'
    exact k'
def sp_profile_in (K : Frag) : Sp := fun vs H Q _ => ∃ (a : Addr) (ns : List Int), vs = [.ref a] ∧ SqT K H a (ns.map .int) ∧ ns.length ≤ 900 ∧ RetL (stairM ns) H Q
abbrev tx_profile_in : Stmt := top 29
abbrev NN_profile_in : List Str := ["laying", "found", "last", "spot", "share"]
theorem scp_profile_in : FnScope NN_profile_in ["laying"] (defScope tx_profile_in) := ⟨rfl, rfl, rfl, by decide +kernel, rfl, by decide +kernel, by decide +kernel⟩
theorem cal_profile_in (T : Txt K mg) : Cal P w K mg base CX0 1 "profile_in" (sp_profile_in K) := by
  obtain ⟨fd, F⟩ := T.d_profile_in
  refine ⟨_, fd, ["laying"], F.ok scp_profile_in (fun vs H Q E h => ?_) (fun cdv A outer s H vs Q E hr h => ?_), T.g_profile_in, F.kp, F.bindsN fun _ _ _ _ _ _ us hl => match us, hl with | [_], _ => rfl⟩
  · obtain ⟨a, ns, rfl, _⟩ := h
    rfl
  obtain ⟨a, ns, rfl, hs, hl, k⟩ := h
  refine ⟨_, PSs.nox (pss_cons (ps_par (i := 1) (j := 2) (by rfl) scp_profile_in.nd rfl rfl (by decide) rfl rfl (pa_cons (pe_lst pa_nil) (pa_cons pe_int pa_nil)) (by rfl))
      (pss_cons (ps_for PassesOwn.never rfl (pi_enumT (by rfl) T.z_enumerate (pa_cons (pv 0) pa_nil)) (pg_tup rfl (pgs_cons (pg_name (i := 3) scp_profile_in.nd rfl (.inl rfl)) (pgs_cons (pg_name (i := 4) scp_profile_in.nd rfl (.inl rfl)) pgs_nil)))
      (pss_cons (ps_set (i := 2) scp_profile_in.nd rfl (.inl rfl) (pe_op op_add (pv 2) (pe_op op_mul (pe_op op_add (pv 3) pe_int) (pv 4))))
      (pss_one (ps_expr (pe_bm PySem.F.plainAttrs_list PySem.F.slot_list_append PySem.F.type_list_append mt_append (pv 1) (pa_cons (pv 2) pa_nil))))))
      (pss_one (ps_ret (pv 1))))), ?_⟩
  refine ⟨by decide, fun f hf => ?_⟩
  refine ⟨_, _, rfl, ?_⟩
  refine ⟨_, rfl, a, _, rfl, sameT (sameNew hf) _ _ hs, ?_⟩
  refine for_suf (walk_enumT (xs := ns.map .int)) ns (by simp) (fun d _ σ H' => ∃ v3 v4, σ = [some (.ref a), some (.ref f), some (.int (stairS d).2), v3, v4] ∧ Same H H' ∧ H' f = some (.lst ((stairS d).1.map .int))) ?_ ?_ ?_ ?_
  · exact ⟨_, _, rfl, sameNew hf, upd_same⟩
  · rintro d r σ H1 ⟨v3, v4, rfl, s1, _⟩
    exact sameT s1 _ _ hs
  · rintro d b r x σ H1 H2 e ⟨v3, v4, rfl, s1, hf1⟩ ⟨T, x1, y1, rfl, hT, rfl, e1, e2⟩
    cases e1
    rw [e] at e2
    cases mapGet e2
    have hdl : d.length ≤ 900 := by rw [e] at hl; simp at hl; omega
    have hfT : f ≠ T := ne_of_none hf1 hT
    refine ⟨T, _, rfl, .of upd_same, rfl, _, _, rfl, _, _, rfl, rfl, ?_⟩
    refine ⟨_, rfl, _, rfl, _, _, rfl, rfl, _, rfl, _, _, rfl, rfl, .inl ⟨by omega, by omega⟩, _, _, rfl, rfl, ?_⟩
    have hf2 : (upd H1 T (.tup [.int (d.length : Int), .int b])) f = some (.lst ((stairS d).1.map .int)) := by rw [upd_ne hfT]; exact hf1
    refine ⟨_, rfl, .inl ⟨rfl, _, .of hf2⟩, _, rfl, f, _, _, rfl, rfl, hf2, small1000 (by simp [stairS_len]; omega), ?_⟩
    refine ⟨some (.int d.length), some (.int b), ?_, sameAt (sameAt s1 (s1.free hT)) hf, ?_⟩
    · rw [stairS_snoc, stairS_len]
      rfl
    · rw [upd_same, stairS_snoc, stairS_len]
      simp
  · rintro σ H1 ⟨v3, v4, rfl, s1, hf1⟩
    exact ⟨_, rfl, k H1 f s1 hf hf1⟩
theorem replI (n : Nat) (x : Int) : (List.replicate n [V.int x]).flatten = (List.replicate n x).map V.int := by
  induction n with
  | zero => rfl
  | succ n ih => rw [List.replicate_succ, List.flatten_cons, ih]; rfl
def sp_needs_in (K : Frag) : Sp := fun vs H Q _ => ∃ (a : Addr) (ns : List Int), vs = [.ref a] ∧ SqT K H a (ns.map .int) ∧ ns.length ≤ 8 ∧ (∀ s ∈ ns, 0 ≤ s ∧ s ≤ 6) ∧ RetL (needM ns) H Q
theorem needS_small (d : List Int) : d.length ≤ 8 → (∀ s ∈ d, 0 ≤ s ∧ s ≤ 6) → (needS d).1.length ≤ 6 * d.length :=
  snocInd (P := fun d => d.length ≤ 8 → (∀ s ∈ d, 0 ≤ s ∧ s ≤ 6) → (needS d).1.length ≤ 6 * d.length) (fun _ _ => by simp [needS]) (fun d x h hl hb => by
    simp at hl
    have h1 := h (by omega) fun s hs => hb s (List.mem_append_left _ hs)
    have h2 := hb x (by simp)
    rw [needS_snoc]
    simp
    omega) d
abbrev tx_needs_in : Stmt := top 30
abbrev NN_needs_in : List Str := ["laying", "found", "spot", "share"]
theorem scp_needs_in : FnScope NN_needs_in ["laying"] (defScope tx_needs_in) := ⟨rfl, rfl, rfl, by decide +kernel, rfl, by decide +kernel, by decide +kernel⟩
theorem cal_needs_in (T : Txt K mg) : Cal P w K mg base CX0 1 "needs_in" (sp_needs_in K) := by
  obtain ⟨fd, F⟩ := T.d_needs_in
  refine ⟨_, fd, ["laying"], F.ok scp_needs_in (fun vs H Q E h => ?_) (fun cdv A outer s H vs Q E hr h => ?_), T.g_needs_in, F.kp, F.bindsN fun _ _ _ _ _ _ us hl => match us, hl with | [_], _ => rfl⟩
  · obtain ⟨a, ns, rfl, _⟩ := h
    rfl
  obtain ⟨a, ns, rfl, hs, hl, hb, k⟩ := h
  refine ⟨_, PSs.nox (pss_cons (ps_set (i := 1) scp_needs_in.nd rfl (.inl rfl) (pe_lst pa_nil))
      (pss_cons (ps_for PassesOwn.never rfl (pi_enumT (by rfl) T.z_enumerate (pa_cons (pv 0) pa_nil)) (pg_tup rfl (pgs_cons (pg_name (i := 2) scp_needs_in.nd rfl (.inl rfl)) (pgs_cons (pg_name (i := 3) scp_needs_in.nd rfl (.inl rfl)) pgs_nil)))
      (pss_one (ps_set (i := 1) scp_needs_in.nd rfl (.inl rfl) (pe_op op_cat (pv 1) (pe_op op_rep (pe_lst (pa_cons (pe_op op_add (pv 2) pe_int) pa_nil)) (pe_callTy call_int1 (by rfl) T.z_int (by decide +kernel) (pa_cons (pv 3) pa_nil)))))))
      (pss_one (ps_ret (pv 1))))), ?_⟩
  refine ⟨by decide, fun f hf => ?_⟩
  refine ⟨_, rfl, a, _, rfl, sameT (sameNew hf) _ _ hs, ?_⟩
  refine for_suf (walk_enumT (xs := ns.map .int)) ns (by simp) (fun d _ σ H' => ∃ f v3 v4, σ = [some (.ref a), some (.ref f), v3, v4] ∧ Same H H' ∧ H f = none ∧ H' f = some (.lst ((needS d).1.map .int))) ?_ ?_ ?_ ?_
  · exact ⟨f, _, _, rfl, sameNew hf, hf, upd_same⟩
  · rintro d r σ H1 ⟨f, v3, v4, rfl, s1, _⟩
    exact sameT s1 _ _ hs
  · rintro d b r x σ H1 H2 e ⟨f, v3, v4, rfl, s1, hf0, hf1⟩ ⟨T, x1, y1, rfl, hT, rfl, e1, e2⟩
    cases e1
    rw [e] at e2
    cases mapGet e2
    have hb1 := hb b (by rw [e]; simp)
    have hdl : d.length ≤ 8 := by rw [e] at hl; simp at hl; omega
    have hsm := needS_small d hdl fun s hs => hb s (by rw [e]; exact List.mem_append_left _ hs)
    have hfT : f ≠ T := ne_of_none hf1 hT
    refine ⟨T, _, rfl, .of upd_same, rfl, _, _, rfl, _, _, rfl, rfl, ?_⟩
    refine ⟨_, rfl, _, rfl, _, _, rfl, rfl, le1000 (by simp), fun l1 h1 => ?_⟩
    refine ⟨_, rfl, .inl ⟨_, rfl, ?_⟩⟩
    refine ⟨l1, _, _, rfl, rfl, upd_same, by omega, by omega, le1000 (by simp; omega), fun l2 h2 => ?_⟩
    have hf2 : (upd H1 T (.tup [.int (d.length : Int), .int b])) f = some (.lst ((needS d).1.map .int)) := by rw [upd_ne hfT]; exact hf1
    have s2 := sameNew (o := .lst [.int ((d.length : Int) + 1)]) h1
    have s3 := sameNew (o := .lst (List.replicate b.toNat [V.int ((d.length : Int) + 1)]).flatten) h2
    refine ⟨f, l2, _, _, rfl, rfl, s3 _ _ (s2 _ _ hf2), upd_same, le1000 ?_, fun l3 h3 => ?_⟩
    · rw [replI]
      simp
      omega
    · have s4 := ((s1.trans (sameNew (o := .tup [.int (d.length : Int), .int b]) hT)).trans s2).trans s3
      refine ⟨l3, some (.int d.length), some (.int b), rfl, s4.trans (sameNew h3), s4.free h3, ?_⟩
      · rw [upd_same, needS_snoc, needS_ix, replI]
        simp
  · rintro σ H1 ⟨f, v3, v4, rfl, s1, hf0, hf1⟩
    exact ⟨_, rfl, k H1 f s1 hf0 hf1⟩
end
end NL
/-! D5: points, fits -/
namespace NL
open PySem PySem.Spec PyProof.Rows L2
section
variable {P : Program} {w : World} {K : Frag} {mg : Str → Option Value} {base : Heap}
def RetP (K : Frag) (ps : List (Int × Int)) (H : Hp) (Q : VK) : Prop := ∀ H' p ws, Same H H' → H p = none → H' p = some (.lst ws) → PtsI K H' ws ps → Q (.ref p) H'
def sp_points_at (K : Frag) : Sp := fun vs H Q _ => ∃ (a : Addr) (pl : Nat) (us : List V) (m : Mail), vs = [.ref a, .int (pl : Nat)] ∧ SqT K H a us ∧ PtsM K H us m ∧ (∀ q ∈ m, pl < q.2.length) ∧ m.length ≤ 900 ∧ RetP K (ptsM pl m) H Q
theorem at_letter {ns : List Int} {pl : Nat} (h : pl < ns.length) : atI (ns.map V.int) (pl : Int) = some (.int (ns.getD pl 0)) := by
  refine atI_nat ?_
  rw [List.getElem?_map, List.getD_eq_getElem?_getD, List.getElem?_eq_getElem h]
  rfl
abbrev tx_points_at : Stmt := top 32
abbrev NN_points_at : List Str := ["mail", "place", "number", "letter"]
theorem scp_points_at : FnScope NN_points_at ["mail", "place"] (defScope tx_points_at) := ⟨rfl, rfl, rfl, by decide +kernel, rfl, by decide +kernel, by decide +kernel⟩
theorem cal_points_at (T : Txt K mg) : Cal P w K mg base CX0 1 "points_at" (sp_points_at K) := by
  obtain ⟨fd, F⟩ := T.d_points_at
  refine ⟨_, fd, ["mail", "place"], F.ok scp_points_at (fun vs H Q E h => ?_) (fun cdv A outer s H vs Q E hr h => ?_), T.g_points_at, F.kp, F.bindsN fun _ _ _ _ _ _ us hl => match us, hl with | [_, _], _ => rfl⟩
  · obtain ⟨a, pl, us, m, rfl, _⟩ := h
    rfl
  obtain ⟨a, pl, us, m, rfl, hT, hP, hpl, hl, k⟩ := h
  refine ⟨_, PSs.nox (pss_one (ps_ret (pe_lc (own := [("number", 2), ("letter", 3)]) (g := gTup K 2 (gCons (gName 2) (gCons (gName 3) gNil))) (tt := tYes) rfl scp_points_at.nd (pi_tup (pv 0)) (blkOk_by (N := NN_points_at) (sc := defScope tx_points_at) (by decide +kernel)) (fun _ _ _ _ _ => (pg_tup rfl (pgs_cons (pg_name (i := 2) scp_points_at.nd rfl (.inl rfl)) (pgs_cons (pg_name (i := 3) scp_points_at.nd rfl (.inl rfl)) pgs_nil)))) (fun _ _ _ _ _ => pts_nil) (fun _ _ _ _ _ => (pe_tup (pa_cons (pe_op op_add (pv 2) pe_int) (pa_cons (pe_ix (r := rIxT K) ix_tup (pv 3) (pv 1) (fun _ _ => rfl)) pa_nil))))))), ?_⟩
  have hul : us.length = m.length := hP.len
  refine ⟨_, rfl, a, rfl, ⟨_, hT⟩, fun D hD => ?_⟩
  refine lc_ac (walk_tup (xs := us)) m hul.symm hD (fun d acc H' => PtsI K H' acc (ptsM pl d)) .nil (fun H1 s => sameT s _ _ hT) ?_ ?_
  · rintro d q r x acc H1 H2 e s hD1 hl1 hA ⟨rfl, hx⟩
    obtain ⟨b, c, rfl, hq, hc⟩ := (PtsM.mono (sameT s) hP).get hx (by rw [e]; exact getMid d q r)
    have hqm : q ∈ m := by rw [e]; simp
    refine ⟨b, _, rfl, hq, rfl, _, _, rfl, _, _, rfl, rfl, rfl, yesT ?_⟩
    refine ⟨_, rfl, _, _, rfl, rfl, _, rfl, _, rfl, c, _, _, _, rfl, rfl, hc, at_letter (hpl q hqm), le1000 (by simp), fun t ht => ?_⟩
    have hDt : D ≠ t := ne_of_none hD1 ht
    have hD2 : (upd H2 t (.tup [.int (q.1 + 1), .int (q.2.getD pl 0)])) D = some (.lst acc) := by rw [upd_ne hDt]; exact hD1
    refine Lc.put hD (sameAt s (s.free ht)) hD2 hl1 (by rw [e] at hl; simp at hl; omega) ?_
    have tk := (sameT (K := K) (sameNew (o := .tup [.int (q.1 + 1), .int (q.2.getD pl 0)]) ht)).trans (tkLst (o := .lst (acc ++ [.ref t])) hD2)
    unfold ptsM
    rw [List.map_append]
    exact (PtsI.mono tk hA).app (.one ⟨t, rfl, tkLst hD2 _ _ (.of upd_same)⟩)
  · rintro acc H1 s hD1 hl1 hA
    exact k H1 D acc s hD hD1 hA
def sp_fits_at (K : Frag) : Sp := fun vs H Q _ => ∃ (p : Int) (a : Addr) (pl : Nat) (nd : Int) (us : List V) (m : Mail) (sh : List Int), vs = [.int p, .ref a, .int (pl : Nat), .int nd] ∧ SqT K H a us ∧ PtsM K H us m ∧
  Prm p ∧ ShOk sh ∧ MailOk p sh m ∧ m.length ≤ 100 ∧ (pl : Int) < sh.sum ∧ 1 ≤ nd ∧ nd ≤ 8 ∧ ∀ H', Same H H' → Q (.bl (fitsM p m pl nd)) H'
abbrev tx_fits_at : Stmt := top 33
abbrev NN_fits_at : List Str := ["prime", "mail", "place", "need", "points", "block", "sign", "value"]
theorem scp_fits_at : FnScope NN_fits_at ["prime", "mail", "place", "need"] (defScope tx_fits_at) := ⟨rfl, rfl, rfl, by decide +kernel, rfl, by decide +kernel, by decide +kernel⟩
theorem cal_fits_at (T : Txt K mg) : Cal P w K mg base CX0 4 "fits_at" (sp_fits_at K) := by
  obtain ⟨fd, F⟩ := T.d_fits_at
  refine ⟨_, fd, ["prime", "mail", "place", "need"], F.ok scp_fits_at (fun vs H Q E h => ?_) (fun cdv A outer s H vs Q E hr h => ?_), T.g_fits_at, F.kp, F.bindsN fun _ _ _ _ _ _ us hl => match us, hl with | [_, _, _, _], _ => rfl⟩
  · obtain ⟨p, a, pl, nd, us, m, sh, rfl, _⟩ := h
    rfl
  obtain ⟨p, a, pl, nd, us, m, sh, rfl, hT, hP, hp, hsh, hm, hl, hpl, hn1, hn8, k⟩ := h
  refine ⟨_, PSs.nox (pss_cons (ps_set (i := 4) scp_fits_at.nd rfl (.inl rfl) (pe_cal (cal_points_at T) hr (by decide) pass0 (pa_cons (pv 1) (pa_cons (pv 2) pa_nil))))
      (pss_cons (ps_if (pt_cmpR op_le (pe_callB call_len_seq (by rfl) T.z_len PySem.boot_len (pa_cons (pv 4) pa_nil)) (pv 3) (nomark _)) (pss_one (ps_ret pe_bl)) pss_nil)
      (pss_cons (ps_set (i := 5) scp_fits_at.nd rfl (.inr rfl) (pe_cal (cal_through_in T) hr (by decide) pass0 (pa_cons (pv 0) (pa_cons (pe_callTy call_tuple_of (by rfl) T.z_tuple (by decide +kernel) (pa_cons (pe_slice sl_list (pv 4) po_none (po_some (pv 3))) pa_nil)) pa_nil))))
      (pss_one (ps_ret (pe_callB (cr_all rfl) (by rfl) T.z_all (by decide +kernel) (pa_cons (pe_lc (own := [("sign", 6), ("value", 7)]) (g := gTup K 2 (gCons (gName 6) (gCons (gName 7) gNil))) (tt := tYes) rfl scp_fits_at.nd (pi_list (pe_slice sl_list (pv 4) (po_some (pv 3)) po_none)) (blkOk_by (N := NN_fits_at) (sc := defScope tx_fits_at) (by decide +kernel)) (fun _ _ _ _ _ => (pg_tup rfl (pgs_cons (pg_name (i := 6) scp_fits_at.nd rfl (.inl rfl)) (pgs_cons (pg_name (i := 7) scp_fits_at.nd rfl (.inl rfl)) pgs_nil)))) (fun _ _ _ _ _ => pts_nil) (fun _ _ _ _ _ => (pe_cmpR op_eq (pe_cal (cal_value_in T) hr (by decide) pass0 (pa_cons (pv 0) (pa_cons (pv 5) (pa_cons (pv 6) pa_nil)))) (pv 7) (nomark _)))) pa_nil))))))), ?_⟩
  refine ⟨_, rfl, _, rfl, a, pl, us, m, rfl, hT, hP, fun q hq => ?_, by omega, fun H1 pp ws s1 hpp0 hpp hW => ?_⟩
  · have := hm.len q hq
    omega
  have hwl : ws.length = m.length := by rw [hW.len, ptsM_len]
  have hb := ptsM_b hsh hm pl hl
  refine ⟨_, rfl, pp, _, rfl, .inl (.of hpp), _, rfl, _, _, rfl, rfl, _, rfl, ?_⟩
  rw [hwl]
  by_cases c : (m.length : Int) ≤ nd
  · rw [decide_eq_true c]
    refine iteT ?_
    have k' := k H1 s1
    unfold fitsM at k'
    rw [if_pos c] at k'
    exact k'
  · rw [decide_eq_false c]
    refine iteF ?_
    refine ⟨_, rfl, _, rfl, _, rfl, nd, rfl, pp, _, rfl, .of hpp, fun l1 h1 => ?_⟩
    rw [cutTo _ (by omega)]
    refine ⟨l1, _, rfl, .inl ⟨.of upd_same, fun t1 h2 => ?_⟩⟩
    have s2 : Same H1 _ := (sameNew (o := .lst (ws.take nd.toNat)) h1).trans (sameNew (o := .tup (ws.take nd.toNat)) h2)
    refine ⟨p, t1, _, (ptsM pl m).take nd.toNat, rfl, .of upd_same, (PtsI.mono (sameT s2) hW).take _, (hb.take _).ok hp, fun H2 q s3 hq => ?_⟩
    have hpp2 := s3 _ _ (s2 _ _ hpp)
    refine ⟨_, rfl, _, rfl, nd, rfl, pp, _, rfl, .of hpp2, fun l2 h4 => ?_⟩
    rw [cutFrom _ (by omega)]
    refine ⟨l2, rfl, ⟨_, .of upd_same⟩, fun D hD => ?_⟩
    have hW2 : PtsI K (upd H2 l2 (.lst (ws.drop nd.toNat))) (ws.drop nd.toNat) ((ptsM pl m).drop nd.toNat) := (PtsI.mono ((sameT s2).trans ((sameT s3).trans (sameT (sameNew h4)))) hW).drop _
    have hq2 : SqT K (upd H2 l2 (.lst (ws.drop nd.toNat))) q ((thrM p ((ptsM pl m).take nd.toNat)).map .int) := sameT (sameNew h4) _ _ hq
    have hdl : ((ptsM pl m).drop nd.toNat).length ≤ 100 := by
      rw [List.length_drop, ptsM_len]
      omega
    refine lc_ac (walk_list (xs := ws.drop nd.toNat)) ((ptsM pl m).drop nd.toNat) hW2.len.symm hD (fun d acc H' => acc = d.map fun q => V.bl (decide (valM p q.1 (thrM p ((ptsM pl m).take nd.toNat)) = q.2))) rfl (fun H5 s5 => sameL s5 (.of upd_same)) ?_ ?_
    · rintro d z r x acc H5 H6 e s5 hD5 hl5 rfl ⟨rfl, hx⟩
      obtain ⟨b, rfl, hz⟩ := (PtsI.mono (sameT s5) hW2).get hx (by rw [e]; exact getMid d z r)
      have hzm : z ∈ ptsM pl m := List.mem_of_mem_drop (by rw [e]; simp)
      have hzb := hb.2 z hzm
      refine ⟨b, _, rfl, hz, rfl, _, _, rfl, _, _, rfl, rfl, rfl, yesT ?_⟩
      refine ⟨_, rfl, _, rfl, _, rfl, p, z.1, q, _, rfl, sameT s5 _ _ hq2, by have := hp.bd; omega, by omega, by omega, fun H7 s7 => ?_⟩
      refine ⟨_, rfl, rfl, ?_⟩
      refine Lc.put hD (s5.trans s7) (s7 _ _ hD5) hl5 (by rw [e] at hdl; simp at hdl; omega) ?_
      rw [List.map_append]
      simp
    · rintro acc H5 s5 hD5 hl5 rfl
      have k' := k H5 ((s1.trans s2).trans (s3.trans ((sameNew h4).trans s5)))
      refine ⟨_, ((ptsM pl m).drop nd.toNat).map fun q => decide (valM p q.1 (thrM p ((ptsM pl m).take nd.toNat)) = q.2), rfl, by rw [List.map_map]; exact .of hD5, ?_⟩
      unfold fitsM at k'
      rw [if_neg c] at k'
      rw [List.all_map]
      exact k'
end
end NL
/-! D6: unfit, read, suspects -/
namespace NL
open PySem PySem.Spec PyProof.Rows L2
section
variable {P : Program} {w : World} {K : Frag} {mg : Str → Option Value} {base : Heap}
theorem putK_keys {κ : Type} [DecidableEq κ] {kvs : List (κ × V)} {k : κ} {v : V} : (putK kvs k v).map (·.1) = if k ∈ kvs.map (·.1) then kvs.map (·.1) else kvs.map (·.1) ++ [k] := by
  unfold putK
  have e : (kvs.any fun kv => decide (kv.1 = k)) = decide (k ∈ kvs.map (·.1)) := by
    rw [Bool.eq_iff_iff, List.any_eq_true, decide_eq_true_iff, List.mem_map]
    constructor
    · rintro ⟨x, h1, h2⟩
      exact ⟨x, h1, of_decide_eq_true h2⟩
    · rintro ⟨x, h1, h2⟩
      exact ⟨x, h1, decide_eq_true h2⟩
  rw [e]
  by_cases c : k ∈ kvs.map (·.1)
  · rw [if_pos (decide_eq_true c), if_pos c, List.map_map]
    refine List.map_congr_left fun x _ => ?_
    by_cases h : x.1 = k
    · simp [h]
    · simp [h]
  · rw [if_neg (by simpa using c), if_neg c]
    simp
theorem putK_ints {kvs : List (Key × V)} {ks : List Int} (h : kvs.map (·.1) = ks.map Sum.inl) (n : Int) (v : V) : ∃ ks' : List Int, (putK kvs (Sum.inl n) v).map (·.1) = ks'.map Sum.inl ∧ ks'.length ≤ ks.length + 1 ∧ ks' ≠ [] := by
  rw [putK_keys]
  by_cases c : (Sum.inl n : Key) ∈ kvs.map (·.1)
  · rw [if_pos c]
    refine ⟨ks, h, by omega, ?_⟩
    rintro rfl
    rw [h] at c
    cases c
  · rw [if_neg c]
    exact ⟨ks ++ [n], by rw [h]; simp, by simp, by simp⟩
/-- the mail of a desk: its prime, shares and letters, as they stand -/
structure MailAt (K : Frag) (H : Hp) (p : Int) (a : Addr) (sh : List Int) (us : List V) (m : Mail) : Prop where
  sq : SqT K H a (sh.map .int)
  pt : PtsM K H us m
  hp : Prm p
  hs : ShOk sh
  ok : MailOk p sh m
  len : m.length ≤ 100
theorem MailAt.mono {H H' : Hp} (t : TK K H H') {p : Int} {a : Addr} {sh : List Int} {us : List V} {m : Mail} (h : MailAt K H p a sh us m) : MailAt K H' p a sh us m :=
  ⟨t _ _ h.sq, PtsM.mono t h.pt, h.hp, h.hs, h.ok, h.len⟩
theorem MailAt.nlen {H : Hp} {p : Int} {a : Addr} {sh : List Int} {us : List V} {m : Mail} (h : MailAt K H p a sh us m) : ((needM sh).length : Int) = sh.sum ∧ (needM sh).length ≤ 12 := by
  have := needM_len sh h.hs.bd
  have := h.hs.sum
  omega
def sp_unfit_in (K : Frag) : Sp := fun vs H Q _ => ∃ (p : Int) (a : Addr) (sh : List Int) (b : Addr) (us : List V) (m : Mail), vs = [.int p, .ref a, .ref b] ∧ SqT K H b us ∧ MailAt K H p a sh us m ∧
  ∀ ns : List Int, (ns = [] ↔ okM p sh m = true) → RetL ns H Q
abbrev tx_unfit_in : Stmt := top 34
abbrev NN_unfit_in : List Str := ["prime", "laying", "mail", "found", "place", "need"]
theorem scp_unfit_in : FnScope NN_unfit_in ["prime", "laying", "mail"] (defScope tx_unfit_in) := ⟨rfl, rfl, rfl, by decide +kernel, rfl, by decide +kernel, by decide +kernel⟩
theorem cal_unfit_in (T : Txt K mg) : Cal P w K mg base CX0 5 "unfit_in" (sp_unfit_in K) := by
  obtain ⟨fd, F⟩ := T.d_unfit_in
  refine ⟨_, fd, ["prime", "laying", "mail"], F.ok scp_unfit_in (fun vs H Q E h => ?_) (fun cdv A outer s H vs Q E hr h => ?_), T.g_unfit_in, F.kp, F.bindsN fun _ _ _ _ _ _ us hl => match us, hl with | [_, _, _], _ => rfl⟩
  · obtain ⟨p, a, sh, b, us, m, rfl, _⟩ := h
    rfl
  obtain ⟨p, a, sh, b, us, m, rfl, hT, hM, k⟩ := h
  refine ⟨_, PSs.nox (pss_cons (ps_set (i := 3) scp_unfit_in.nd rfl (.inl rfl) pe_dnewK)
      (pss_cons (ps_for PassesOwn.never rfl (pi_enum (by rfl) T.z_enumerate (pa_cons (pe_cal (cal_needs_in T) hr (by decide) pass0 (pa_cons (pv 1) pa_nil)) pa_nil)) (pg_tup rfl (pgs_cons (pg_name (i := 4) scp_unfit_in.nd rfl (.inl rfl)) (pgs_cons (pg_name (i := 5) scp_unfit_in.nd rfl (.inl rfl)) pgs_nil)))
      (pss_one (ps_if (pt_not (pt_val (pe_cal (cal_fits_at T) hr (by decide) pass0 (pa_cons (pv 0) (pa_cons (pv 2) (pa_cons (pv 4) (pa_cons (pv 5) pa_nil))))))) (pss_one (ps_dput (hu_of hr) (pv 3) (pv 5) pe_bl rfl)) pss_nil)))
      (pss_one (ps_ret (pe_callB (call_sortedDI rfl) (by rfl) T.z_sorted (by decide +kernel) (pa_cons (pv 3) pa_nil)))))), ?_⟩
  obtain ⟨hn1, hn2⟩ := hM.nlen
  have h8 := hM.hs.len.2
  refine fun f hf => ?_
  have hM1 := hM.mono (sameT (sameNew (o := .dK []) hf))
  refine ⟨_, rfl, a, sh, rfl, hM1.sq, h8, hM.hs.bd, fun H1 nl s1 hnl0 hnl => ?_⟩
  have hM2 := hM1.mono (sameT s1)
  have s01 := (sameNew (o := .dK []) hf).trans s1
  refine ⟨nl, _, rfl, .of hnl, ?_⟩
  refine for_suf (walk_enum (xs := (needM sh).map .int)) (needM sh) (by simp) (fun d _ σ H' => ∃ v4 v5 kvs ks, σ = [some (.int p), some (.ref a), some (.ref b), some (.ref f), v4, v5] ∧ Same H H' ∧ H' nl = some (.lst ((needM sh).map .int)) ∧ H' f = some (.dK kvs) ∧ kvs.map (·.1) = (ks : List Int).map Sum.inl ∧ ks.length ≤ d.length ∧ (ks = [] ↔ allIx (fitsM p m) 0 d = true)) ?_ ?_ ?_ ?_
  · exact ⟨_, _, [], [], rfl, s01, hnl, s1 _ _ upd_same, rfl, Nat.le_refl _, ⟨fun _ => rfl, fun _ => rfl⟩⟩
  · rintro d r σ H2 ⟨v4, v5, kvs, ks, rfl, s2, hnl2, _⟩
    exact .of hnl2
  · rintro d n r x σ H2 H3 e ⟨v4, v5, kvs, ks, rfl, s2, hnl2, hf2, hk, hkl, hko⟩ ⟨T, x1, y1, rfl, hT2, rfl, e1, e2⟩
    cases e1
    rw [e] at e2
    cases mapGet e2
    have hnb := needM_bd sh n (by rw [e]; simp)
    have hdl : d.length < (needM sh).length := by rw [e]; simp
    have s3 := s2.trans (sameNew (o := .tup [.int (d.length : Int), .int n]) hT2)
    have hM3 := hM.mono (sameT s3)
    refine ⟨T, _, rfl, .of upd_same, rfl, _, _, rfl, _, _, rfl, rfl, ?_⟩
    refine ⟨_, rfl, _, rfl, _, rfl, _, rfl, p, b, d.length, n, us, m, sh, rfl, sameT s3 _ _ hT, hM3.pt, hM.hp, hM.hs, hM.ok, hM.len, by omega, hnb.1, by omega, fun H4 s4 => ?_⟩
    refine ⟨_, rfl, ?_⟩
    have hf4 : H4 f = some (.dK kvs) := s4 _ _ (sameNew (o := .tup [.int (d.length : Int), .int n]) hT2 _ _ hf2)
    have hnl4 : H4 nl = some (.lst ((needM sh).map .int)) := s4 _ _ (sameNew (o := .tup [.int (d.length : Int), .int n]) hT2 _ _ hnl2)
    cases c : fitsM p m d.length n
    · refine iteT ?_
      obtain ⟨ks', k1, k2, k3⟩ := putK_ints hk n (.bl true)
      have hkl' : kvs.length = ks.length := by
        have := congrArg List.length hk
        simpa using this
      refine ⟨_, rfl, _, rfl, f, _, rfl, DPut.k (k := Sum.inl n) hf4 (small1000 (by omega)), ?_⟩
      have hfnl : nl ≠ f := ne_of hnl4 hf4 (by intro z; cases z)
      refine ⟨some (.int d.length), some (.int n), _, ks', rfl, sameAt (s3.trans s4) hf, by rw [upd_ne hfnl]; exact hnl4, upd_same, k1, by simp; omega, ?_⟩
      rw [allIx_snoc]
      simp [c, k3]
    · refine iteF ?_
      refine ⟨some (.int d.length), some (.int n), kvs, ks, rfl, s3.trans s4, hnl4, hf4, hk, by simp; omega, ?_⟩
      rw [allIx_snoc]
      simp [c, hko]
  · rintro σ H2 ⟨v4, v5, kvs, ks, rfl, s2, hnl2, hf2, hk, hkl, hko⟩
    refine ⟨_, rfl, f, kvs, ks, rfl, .inl hf2, hk, by omega, fun ys q hperm _ hq => ?_⟩
    refine k ys ?_ _ q (s2.trans (sameNew hq)) (s2.free hq) upd_same
    constructor
    · rintro rfl
      exact hko.mp (List.nil_perm.mp hperm)
    · intro z
      have := hko.mpr z
      subst this
      exact List.perm_nil.mp hperm
theorem catA_all {H : Hp} {Q : VK} {a b : Addr} {xs ys : List V} (ha : SqT K H a xs) (hb : SqT K H b ys) (hl : xs.length + ys.length ≤ sizeLine) (h : ∀ H' p, Same H H' → SqT K H' p (xs ++ ys) → Q (.ref p) H') : rCatA K (.ref a) (.ref b) H Q := by
  refine ⟨a, b, xs, ys, rfl, rfl, ha, hb, hl, ?_, ?_, ?_⟩
  · rintro rfl
    exact h H b (fun _ _ e => e) hb
  · rintro _ rfl
    exact h H a (fun _ _ e => e) (by rw [List.append_nil]; exact ha)
  · intro _ _ p hp
    exact h _ p (sameNew hp) (.of upd_same)
end
end NL
/-! D7: read, suspects -/
namespace NL
open PySem PySem.Spec PyProof.Rows L2
section
variable {P : Program} {w : World} {K : Frag} {mg : Str → Option Value} {base : Heap}
def sp_read_in (K : Frag) : Sp := fun vs H Q _ => ∃ (p : Int) (a : Addr) (sh : List Int) (b : Addr) (us : List V) (m : Mail), vs = [.int p, .ref a, .ref b] ∧ SqT K H b us ∧ MailAt K H p a sh us m ∧ RetT K (readM p sh m) H Q
abbrev tx_read_in : Stmt := top 35
abbrev NN_read_in : List Str := ["prime", "laying", "mail", "found", "place", "need"]
theorem scp_read_in : FnScope NN_read_in ["prime", "laying", "mail"] (defScope tx_read_in) := ⟨rfl, rfl, rfl, by decide +kernel, rfl, by decide +kernel, by decide +kernel⟩
theorem cal_read_in (T : Txt K mg) : Cal P w K mg base CX0 4 "read_in" (sp_read_in K) := by
  obtain ⟨fd, F⟩ := T.d_read_in
  refine ⟨_, fd, ["prime", "laying", "mail"], F.ok scp_read_in (fun vs H Q E h => ?_) (fun cdv A outer s H vs Q E hr h => ?_), T.g_read_in, F.kp, F.bindsN fun _ _ _ _ _ _ us hl => match us, hl with | [_, _, _], _ => rfl⟩
  · obtain ⟨p, a, sh, b, us, m, rfl, _⟩ := h
    rfl
  obtain ⟨p, a, sh, b, us, m, rfl, hT, hM, k⟩ := h
  refine ⟨_, PSs.nox (pss_cons (ps_set (i := 3) scp_read_in.nd rfl (.inl rfl) (pe_tup pa_nil))
      (pss_cons (ps_for PassesOwn.never rfl (pi_enum (by rfl) T.z_enumerate (pa_cons (pe_cal (cal_needs_in T) hr (by decide) pass0 (pa_cons (pv 1) pa_nil)) pa_nil)) (pg_tup rfl (pgs_cons (pg_name (i := 4) scp_read_in.nd rfl (.inl rfl)) (pgs_cons (pg_name (i := 5) scp_read_in.nd rfl (.inl rfl)) pgs_nil)))
      (pss_one (ps_if (pt_cmpR op_le (pv 5) (pe_callB call_len_seq (by rfl) T.z_len PySem.boot_len (pa_cons (pv 2) pa_nil)) (nomark _)) (pss_one (ps_set (i := 3) scp_read_in.nd rfl (.inl rfl) (pe_op op_catA (pv 3) (pe_cal (cal_through_in T) hr (by decide) pass0 (pa_cons (pv 0) (pa_cons (pe_callTy call_tuple_of (by rfl) T.z_tuple (by decide +kernel) (pa_cons (pe_slice sl_list (pe_cal (cal_points_at T) hr (by decide) pass0 (pa_cons (pv 2) (pa_cons (pv 4) pa_nil))) po_none (po_some (pv 5))) pa_nil)) pa_nil)))))) pss_nil)))
      (pss_one (ps_ret (pv 3))))), ?_⟩
  obtain ⟨hn1, hn2⟩ := hM.nlen
  have h8 := hM.hs.len.2
  have hul : us.length = m.length := hM.pt.len
  refine ⟨le1000 (by simp), fun f hf => ?_⟩
  have s0 := sameNew (o := .tup []) hf
  have hM1 := hM.mono (sameT s0)
  refine ⟨_, rfl, a, sh, rfl, hM1.sq, h8, hM.hs.bd, fun H1 nl s1 hnl0 hnl => ?_⟩
  refine ⟨nl, _, rfl, .of hnl, ?_⟩
  refine for_suf (walk_enum (xs := (needM sh).map .int)) (needM sh) (by simp) (fun d _ σ H' => ∃ f v4 v5, σ = [some (.int p), some (.ref a), some (.ref b), some (.ref f), v4, v5] ∧ Same H H' ∧ H' nl = some (.lst ((needM sh).map .int)) ∧ SqT K H' f ((rdS p m d).1.map .int)) ?_ ?_ ?_ ?_
  · exact ⟨f, _, _, rfl, s0.trans s1, hnl, sameT s1 _ _ (.of upd_same)⟩
  · rintro d r σ H2 ⟨f, v4, v5, rfl, s2, hnl2, _⟩
    exact .of hnl2
  · rintro d n r x σ H2 H3 e ⟨f, v4, v5, rfl, s2, hnl2, hf2⟩ ⟨T, x1, y1, rfl, hT2, rfl, e1, e2⟩
    cases e1
    rw [e] at e2
    cases mapGet e2
    have hnb := needM_bd sh n (by rw [e]; simp)
    have hdl : d.length < (needM sh).length := by rw [e]; simp
    have sT := sameNew (o := .tup [.int (d.length : Int), .int n]) hT2
    have s3 := s2.trans sT
    have hM3 := hM.mono (sameT s3)
    have hstep : rdS p m (d ++ [n]) = (if n ≤ m.length then (rdS p m d).1 ++ thrM p ((ptsM d.length m).take n.toNat) else (rdS p m d).1, d.length + 1) := by
      rw [rdS_snoc]
      unfold rdStep
      rw [rdS_ix]
    refine ⟨T, _, rfl, .of upd_same, rfl, _, _, rfl, _, _, rfl, rfl, ?_⟩
    refine ⟨_, rfl, _, rfl, b, us, rfl, .inr (sameT s3 _ _ hT), _, _, rfl, rfl, _, rfl, ?_⟩
    rw [hul]
    by_cases c : n ≤ (m.length : Int)
    · rw [decide_eq_true c]
      refine iteT ?_
      refine ⟨_, rfl, _, rfl, _, rfl, _, rfl, b, d.length, us, m, rfl, sameT s3 _ _ hT, hM3.pt, fun q hq => ?_, by have := hM.len; omega, fun H4 pp ws s4 hpp0 hpp hW => ?_⟩
      · have := hM.ok.len q hq
        omega
      refine ⟨_, rfl, n, rfl, pp, _, rfl, .of hpp, fun l1 h1 => ?_⟩
      rw [cutTo _ (by omega)]
      refine ⟨l1, _, rfl, .inl ⟨.of upd_same, fun t1 h2 => ?_⟩⟩
      have s5 : Same H4 _ := (sameNew (o := .lst (ws.take n.toNat)) h1).trans (sameNew (o := .tup (ws.take n.toNat)) h2)
      refine ⟨p, t1, _, (ptsM d.length m).take n.toNat, rfl, .of upd_same, (PtsI.mono (sameT s5) hW).take _, ((ptsM_b hM.hs hM.ok _ hM.len).take _).ok hM.hp, fun H6 q s6 hq => ?_⟩
      have s36 := s4.trans (s5.trans s6)
      have hl1 := rdS_len hM.ok hM.len d
      have hl2 := thr_len p (ptsM_nd hM.ok d.length n.toNat)
      refine catA_all (sameT s36 _ _ (sameT sT _ _ hf2)) hq ?_ fun H7 q7 s7 hq7 => ?_
      · rw [sizeLine_eq]
        simp [hl2, ptsM_len]
        have := hM.len
        omega
      · refine ⟨q7, some (.int d.length), some (.int n), rfl, s3.trans (s36.trans s7), s7 _ _ (s36 _ _ (sT _ _ hnl2)), ?_⟩
        rw [hstep, if_pos c, List.map_append]
        exact hq7
    · rw [decide_eq_false c]
      refine iteF ?_
      refine ⟨f, some (.int d.length), some (.int n), rfl, s3, sT _ _ hnl2, ?_⟩
      rw [hstep, if_neg c]
      exact sameT sT _ _ hf2
  · rintro σ H2 ⟨f, v4, v5, rfl, s2, hnl2, hf2⟩
    exact ⟨_, rfl, k H2 f s2 hf2⟩
end
end NL
/-! D8: suspects -/
namespace NL
open PySem PySem.Spec PyProof.Rows L2
section
variable {P : Program} {w : World} {K : Frag} {mg : Str → Option Value} {base : Heap}
def sp_suspects_in (K : Frag) : Sp := fun vs H Q _ => ∃ (p : Int) (a : Addr) (sh : List Int) (b : Addr) (us : List V) (m : Mail), vs = [.int p, .ref a, .ref b] ∧ SqT K H b us ∧ MailAt K H p a sh us m ∧ RetL (susM p sh m) H Q
/-- mail without the letter of number n -/
def wo (m : Mail) (n : Int) : Mail := m.filter fun r => decide (r.1 ≠ n)
theorem MailAt.wo {H : Hp} {p : Int} {a : Addr} {sh : List Int} {us : List V} {m : Mail} (h : MailAt K H p a sh us m) (n : Int) {ws : List V} (hw : PtsM K H ws (wo m n)) : MailAt K H p a sh ws (NL.wo m n) :=
  ⟨h.sq, hw, h.hp, h.hs, h.ok.filter _, Nat.le_trans (List.length_filter_le ..) h.len⟩
theorem pairMi {H : Hp} {q : Int × List Int} {b c : Addr} (_ : SqT K H b [.int q.1, .ref c]) : atI [V.int q.1, V.ref c] 0 = some (.int q.1) := at0 _ _
abbrev tx_suspects_in : Stmt := top 39
abbrev NN_suspects_in : List Str := ["by_prime", "by_laying", "came", "found", "number", "letter", "rest", "pair"]
theorem scp_suspects_in : FnScope NN_suspects_in ["by_prime", "by_laying", "came"] (defScope tx_suspects_in) := ⟨rfl, rfl, rfl, by decide +kernel, rfl, by decide +kernel, by decide +kernel⟩
theorem cal_suspects_in (T : Txt K mg) : Cal P w K mg base CX0 6 "suspects_in" (sp_suspects_in K) := by
  obtain ⟨fd, F⟩ := T.d_suspects_in
  refine ⟨_, fd, ["by_prime", "by_laying", "came"], F.ok scp_suspects_in (fun vs H Q E h => ?_) (fun cdv A outer s H vs Q E hr h => ?_), T.g_suspects_in, F.kp, F.bindsN fun _ _ _ _ _ _ us hl => match us, hl with | [_, _, _], _ => rfl⟩
  · obtain ⟨p, a, sh, b, us, m, rfl, _⟩ := h
    rfl
  obtain ⟨p, a, sh, b, us, m, rfl, hT, hM, k⟩ := h
  refine ⟨_, PSs.nox (pss_cons (ps_if (pt_cmpR (op_eqD (hu64 hr)) (pe_cal (cal_unfit_in T) hr (by decide) pass0 (pa_cons (pv 0) (pa_cons (pv 1) (pa_cons (pv 2) pa_nil)))) (pe_lst pa_nil) (nomark _)) (pss_one (ps_ret (pe_lst pa_nil))) pss_nil)
      (pss_cons (ps_set (i := 3) scp_suspects_in.nd rfl (.inl rfl) (pe_lst pa_nil))
      (pss_cons (ps_for PassesOwn.never rfl (pi_tup (pv 2)) (pg_tup rfl (pgs_cons (pg_name (i := 4) scp_suspects_in.nd rfl (.inr rfl)) (pgs_cons (pg_name (i := 5) scp_suspects_in.nd rfl (.inl rfl)) pgs_nil)))
      (pss_cons (ps_set (i := 6) scp_suspects_in.nd rfl (.inl rfl) (pe_callTy call_tuple_of (by rfl) T.z_tuple (by decide +kernel) (pa_cons (pe_lc (own := [("pair", 7)]) (g := gName 7) rfl scp_suspects_in.nd (pi_tup (pv 2)) (blkOk_by (N := NN_suspects_in) (sc := defScope tx_suspects_in) (by decide +kernel)) (fun _ _ _ _ _ => (pg_name (i := 7) scp_suspects_in.nd rfl (.inl rfl))) (fun _ _ _ _ _ => (pts_one (pt_cmpR op_ne (pe_ix (r := rIxT K) ix_tup (pv 7) pe_int (fun _ _ => rfl)) (pv 4) (nomark _)))) (fun _ _ _ _ _ => (pv 7))) pa_nil)))
      (pss_one (ps_if (pt_cmpR (op_eqD (hu64 hr)) (pe_cal (cal_unfit_in T) hr (by decide) pass0 (pa_cons (pv 0) (pa_cons (pv 1) (pa_cons (pv 6) pa_nil)))) (pe_lst pa_nil) (nomark _)) (pss_one (ps_expr (pe_bm PySem.F.plainAttrs_list PySem.F.slot_list_append PySem.F.type_list_append mt_append (pv 3) (pa_cons (pv 4) pa_nil)))) pss_nil))))
      (pss_one (ps_ret (pv 3)))))), ?_⟩
  have hul : us.length = m.length := hM.pt.len
  refine ⟨_, rfl, _, rfl, _, rfl, p, a, sh, b, us, m, rfl, hT, hM, fun ns hns H1 l s1 hl0 hl => ?_⟩
  refine ⟨le1000 (by simp), fun e1 he1 => ?_⟩
  have hle1 : l ≠ e1 := ne_of_none hl he1
  refine eqL (ns := ns) (ms := []) (.of (by rw [upd_ne hle1]; exact hl)) (.of upd_same) ?_
  have s2 := s1.trans (sameNew (o := .lst []) he1)
  refine ⟨_, rfl, ?_⟩
  refine ite2 (fun c => ?_) (fun c => ?_)
  · have hok : okM p sh m = true := hns.mp (of_decide_eq_true c)
    refine ⟨le1000 (by simp), fun e2 he2 => ?_⟩
    refine k _ e2 (s2.trans (sameNew he2)) (s2.free he2) ?_
    unfold susM
    rw [hok, if_pos rfl, upd_same]
    rfl
  · have hok : ¬ okM p sh m = true := fun z => c (decide_eq_true (hns.mpr z))
    have hsus : susM p sh m = (m.filter fun q => okM p sh (wo m q.1)).map (·.1) := by
      unfold susM
      rw [if_neg hok]
      rfl
    rw [hsus] at k
    refine ⟨le1000 (by simp), fun f hf => ?_⟩
    have s3 := s2.trans (sameNew (o := .lst []) hf)
    have hf0 : H f = none := s2.free hf
    refine ⟨_, rfl, b, rfl, ⟨_, sameT s3 _ _ hT⟩, ?_⟩
    refine for_suf (walk_tup (xs := us)) m hul.symm (fun d _ σ H' => ∃ v4 v5 v6 v7, σ = [some (.int p), some (.ref a), some (.ref b), some (.ref f), v4, v5, v6, v7] ∧ Same H H' ∧ H' f = some (.lst (((d.filter fun q => okM p sh (wo m q.1)).map (·.1)).map .int))) ?_ ?_ ?_ ?_
    · exact ⟨_, _, _, _, rfl, s3, upd_same⟩
    · rintro d r σ H2 ⟨v4, v5, v6, v7, rfl, s4, _⟩
      exact sameT s4 _ _ hT
    · rintro d q r x σ H2 H3 e ⟨v4, v5, v6, v7, rfl, s4, hf2⟩ ⟨rfl, hx⟩
      have hM2 := hM.mono (sameT s4)
      obtain ⟨bq, cq, rfl, hq, hc⟩ := hM2.pt.get hx (by rw [e]; exact getMid d q r)
      have hdl : d.length < 100 := by
        have := hM.len
        rw [e] at this
        simp at this
        omega
      refine ⟨bq, _, rfl, hq, rfl, _, _, rfl, _, _, rfl, rfl, ?_⟩
      refine ⟨_, rfl, b, rfl, ⟨_, sameT s4 _ _ hT⟩, fun D hD => ?_⟩
      refine lc_ac (walk_tup (xs := us)) m hul.symm hD (fun d acc H' => PtsM K H' acc (d.filter fun r => decide (r.1 ≠ q.1))) .nil (fun H5 s5 => sameT (s4.trans s5) _ _ hT) ?_ ?_
      · rintro d5 q5 r5 x5 acc H5 H6 e5 s5 hD5 hl5 hA ⟨rfl, hx5⟩
        obtain ⟨b5, c5, rfl, hq5, hc5⟩ := (PtsM.mono (sameT s5) hM2.pt).get hx5 (by rw [e5]; exact getMid d5 q5 r5)
        have hdl5 : d5.length < 1000 := by
          have := hM.len
          rw [e5] at this
          simp at this
          omega
        refine ⟨rfl, ?_⟩
        refine ⟨_, rfl, b5, _, _, _, rfl, rfl, hq5, at0 _ _, _, rfl, rfl, _, rfl, ?_⟩
        by_cases c5' : q5.1 = q.1
        · rw [decide_eq_true (congrArg V.int c5')]
          refine iteF (Lc.skip s5 hD5 hl5 ?_)
          rw [List.filter_append, List.filter_cons_of_neg (by simpa using c5')]
          simpa using hA
        · have c6 : ¬ (V.int q5.1 = V.int q.1) := fun z => c5' (V.int.inj z)
          rw [decide_eq_false c6]
          refine iteT ⟨_, rfl, Lc.put hD s5 hD5 hl5 hdl5 ?_⟩
          rw [List.filter_append, List.filter_cons_of_pos (by simpa using c5')]
          have tk := tkLst (K := K) (o := .lst (acc ++ [.ref b5])) hD5
          exact (PtsM.mono tk hA).app (.one ⟨b5, c5, rfl, tk _ _ hq5, tk _ _ hc5⟩)
      · rintro acc H5 s5 hD5 hl5 hA
        refine ⟨D, _, rfl, .inl ⟨.of hD5, fun t ht => ?_⟩⟩
        have s6 := s5.trans (sameNew (o := .tup acc) ht)
        have hM5 : MailAt K _ p a sh acc (wo m q.1) := (hM2.mono (sameT s6)).wo q.1 (PtsM.mono (sameT (sameNew ht)) hA)
        refine ⟨_, rfl, _, rfl, _, rfl, p, a, sh, t, acc, wo m q.1, rfl, .of upd_same, hM5, fun ns' hns' H7 l7 s7 hl7 hl7' => ?_⟩
        refine ⟨le1000 (by simp), fun e8 he8 => ?_⟩
        have hle8 : l7 ≠ e8 := ne_of_none hl7' he8
        refine eqL (ns := ns') (ms := []) (.of (by rw [upd_ne hle8]; exact hl7')) (.of upd_same) ?_
        have s8 := s6.trans (s7.trans (sameNew (o := .lst []) he8))
        have hf8 := s8 _ _ hf2
        refine ⟨_, rfl, ?_⟩
        by_cases c8 : ns' = []
        · rw [decide_eq_true c8]
          have hok8 := hns'.mp c8
          refine iteT ?_
          refine ⟨_, rfl, .inl ⟨rfl, _, .of hf8⟩, _, rfl, f, _, _, rfl, rfl, hf8, small1000 ?_, ?_⟩
          · have := List.length_filter_le (fun q => okM p sh (wo m q.1)) d
            simp only [List.length_map]
            omega
          · refine ⟨_, _, _, _, rfl, sameAt (s4.trans s8) hf0, ?_⟩
            rw [upd_same, List.filter_append, List.filter_cons_of_pos (by simpa using hok8)]
            simp
        · rw [decide_eq_false c8]
          have hok8 : ¬ okM p sh (wo m q.1) = true := fun z => c8 (hns'.mpr z)
          refine iteF ⟨_, _, _, _, rfl, s4.trans s8, ?_⟩
          rw [List.filter_append, List.filter_cons_of_neg (by simpa using hok8)]
          simpa using hf8
    · rintro σ H2 ⟨v4, v5, v6, v7, rfl, s4, hf2⟩
      exact ⟨_, rfl, k H2 f s4 hf0 hf2⟩
end
end NL
/-! D9: refusals, words -/
namespace NL
open PySem PySem.Spec PyProof.Rows L2
theorem Fly.of {K : Frag} {x : Str} {fs : List (Str × V)} {S : List Addr} {H H1 : Hp} {E : XK} (h : Fly K x fs S H E) (f : Fr S H H1) (hs : ∀ d, H1 d = none → H d = none) : Fly K x fs S H1 E :=
  fun H' d f' h0 hd => h H' d (f.trans f') (hs d h0) hd
theorem Fly.nil {K : Frag} {x : Str} {fs : List (Str × V)} {S : List Addr} {H : Hp} {E : XK} (h : Fly K x fs S H E) : Fly K x fs [] H E :=
  fun H' d f' h0 hd => h H' d (f'.sub fun _ z => by cases z) h0 hd
section
variable {P : Program} {w : World} {K : Frag} {mg : Str → Option Value} {base : Heap}
def sp_need_prime (K : Frag) : Sp := fun vs H Q E => ∃ p : Int, vs = [.int p] ∧ ((Prm p ∧ Q .non H) ∨ (¬ Prm p ∧ Fly K "BadPrime" [("given", .int p)] [] H E))
theorem inPrm (p : Int) : inV (.int p) [.int 11, .int 13, .int 17, .int 19, .int 23] = true ↔ Prm p := by
  unfold inV Prm
  simp [eqV]
  omega
abbrev tx_need_prime : Stmt := top 15
abbrev NN_need_prime : List Str := ["prime"]
theorem scp_need_prime : FnScope NN_need_prime ["prime"] (defScope tx_need_prime) := ⟨rfl, rfl, rfl, by decide +kernel, rfl, by decide +kernel, by decide +kernel⟩
theorem cal_need_prime (T : Txt K mg) : Cal P w K mg base (L2.CX P w) 3 "need_prime" (sp_need_prime K) := by
  obtain ⟨fd, F⟩ := T.d_need_prime
  refine ⟨_, fd, ["prime"], F.ok scp_need_prime (fun vs H Q E h => ?_) (fun cdv A outer s H vs Q E hr h => ?_), T.g_need_prime, F.kp, F.bindsN fun _ _ _ _ _ _ us hl => match us, hl with | [_], _ => rfl⟩
  · obtain ⟨p, rfl, _⟩ := h
    rfl
  obtain ⟨p, rfl, k⟩ := h
  refine ⟨_, (pss_one (ps_if (PW.pt (pw_or (pt_not (pt_val (pe_cal (cal_is_integer T) hr (by decide) pass0 (pa_cons (pv 0) pa_nil)))) (pw_or1 (pt_cmpR op_notIn_seq (pv 0) (pe_gt T.c_PRIMES) (by rfl))))) (pss_one (ps_raise rfl (takes_of rfl rfl rfl rfl) (pmk_BadPrime T hr (by decide) (pa_cons (pv 0) pa_nil)))) pss_nil)), ?_⟩
  refine ⟨_, rfl, p, rfl, true, rfl, ?_⟩
  refine iteF ⟨_, rfl, fun a ha => ⟨a, _, rfl, .inr (ha _), rfl, rfl, _, rfl, ?_⟩⟩
  rcases k with ⟨hp, k⟩ | ⟨hp, k⟩
  · exact iteFb (by rw [if_pos rfl, (inPrm p).mpr hp]; rfl) k
  · refine iteTb (by rw [if_pos rfl, Bool.not_eq_true']; exact Bool.eq_false_iff.mpr fun z => hp ((inPrm p).mp z)) ?_
    exact ⟨_, rfl, mkk1 k⟩
def sp_need_laying (K : Frag) : Sp := fun vs H Q E => ∃ (a : Addr) (ns : List Int), vs = [.ref a] ∧ SqT K H a (ns.map .int) ∧ ns.length ≤ 900 ∧ ((layB ns = true ∧ ∀ H', Same H H' → Q (.ref a) H') ∨ (layB ns = false ∧ Fly K "BadLaying" [("given", .ref a)] [] H E))
abbrev tx_need_laying : Stmt := top 28
abbrev NN_need_laying : List Str := ["thing"]
theorem scp_need_laying : FnScope NN_need_laying ["thing"] (defScope tx_need_laying) := ⟨rfl, rfl, rfl, by decide +kernel, rfl, by decide +kernel, by decide +kernel⟩
theorem cal_need_laying (T : Txt K mg) : Cal P w K mg base (L2.CX P w) 4 "need_laying" (sp_need_laying K) := by
  obtain ⟨fd, F⟩ := T.d_need_laying
  refine ⟨_, fd, ["thing"], F.ok scp_need_laying (fun vs H Q E h => ?_) (fun cdv A outer s H vs Q E hr h => ?_), T.g_need_laying, F.kp, F.bindsN fun _ _ _ _ _ _ us hl => match us, hl with | [_], _ => rfl⟩
  · obtain ⟨a, ns, rfl, _⟩ := h
    rfl
  obtain ⟨a, ns, rfl, hs, hl, k⟩ := h
  refine ⟨_, (pss_cons (ps_if (pt_not (pt_val (pe_cal (cal_is_laying T) hr (by decide) pass0 (pa_cons (pv 0) pa_nil)))) (pss_one (ps_raise rfl (takes_of rfl rfl rfl rfl) (pmk_BadLaying T hr (by decide) (pa_cons (pv 0) pa_nil)))) pss_nil)
      (pss_one (ps_ret (pv 0)))), ?_⟩
  refine ⟨_, rfl, a, ns, rfl, hs, hl, fun H1 s1 => ⟨_, rfl, ?_⟩⟩
  rcases k with ⟨hp, k⟩ | ⟨hp, k⟩
  · rw [hp]
    exact iteF ⟨_, rfl, k H1 s1⟩
  · rw [hp]
    exact iteT ⟨_, rfl, mkk1 (k.of (Fr.same s1) fun d h => s1.free h)⟩
/-- rows of words -/
def rowsM (z : Str) : List (List Str) := (Txt.split z "\n").map fun l => Txt.split l " "
def RowAt (H : Hp) (v : V) (ws : List Str) : Prop := ∃ b, v = .ref b ∧ H b = some (.lst (ws.map .str))
theorem RowAt.mono {H H' : Hp} (s : Same H H') {v : V} {ws : List Str} (h : RowAt H v ws) : RowAt H' v ws := let ⟨b, e, q⟩ := h; ⟨b, e, s _ _ q⟩
/-- a text that is no text of one's own type -/
def NoText (K : Frag) (H : Hp) (v : V) : Prop := ∃ t, TyX K H v t ∧ PySem.W.kitOne K t (.type "str") = some false
structure Small (z : Str) : Prop where
  all : z.length + 2 ≤ sizeLine
  few : (Txt.split z "\n").length ≤ 900
  each : ∀ l ∈ Txt.split z "\n", l.length + 2 ≤ sizeLine
def sp_lines_in (K : Frag) : Sp := fun vs H Q E => ∃ v : V, vs = [v] ∧ ((∃ z, v = .str z ∧ Small z ∧ ∀ H' p us, Same H H' → H p = none → H' p = some (.lst us) → All2 (RowAt H') us (rowsM z) → Q (.ref p) H') ∨
  (NoText K H v ∧ Fly K "BadText" [("word", .non), ("line", .non)] [] H E))
abbrev tx_lines_in : Stmt := top 49
abbrev NN_lines_in : List Str := ["text", "line"]
theorem scp_lines_in : FnScope NN_lines_in ["text"] (defScope tx_lines_in) := ⟨rfl, rfl, rfl, by decide +kernel, rfl, by decide +kernel, by decide +kernel⟩
theorem cal_lines_in (T : Txt K mg) : Cal P w K mg base (L2.CX P w) 3 "lines_in" (sp_lines_in K) := by
  obtain ⟨fd, F⟩ := T.d_lines_in
  refine ⟨_, fd, ["text"], F.ok scp_lines_in (fun vs H Q E h => ?_) (fun cdv A outer s H vs Q E hr h => ?_), T.g_lines_in, F.kp, F.bindsN fun _ _ _ _ _ _ us hl => match us, hl with | [_], _ => rfl⟩
  · obtain ⟨v, rfl, _⟩ := h
    rfl
  obtain ⟨v, rfl, k⟩ := h
  refine ⟨_, (pss_cons (ps_if (pt_not (pt_val (pe_callB call_isi (by rfl) T.z_isinstance (by decide +kernel) (pa_cons (pv 0) (pa_cons (pe_bltn (v := .ty "str") (by rfl) T.z_str (by decide +kernel) rfl) pa_nil))))) (pss_one (ps_raise rfl (takes_of rfl rfl rfl rfl) (pmk_BadText T hr (by decide) (pa_cons pe_non (pa_cons pe_non pa_nil))))) pss_nil)
      (pss_one (ps_ret (pe_lc (own := [("line", 1)]) (g := gName 1) (tt := tYes) rfl scp_lines_in.nd (pi_list (pe_split (pv 0) (pe_gs T.c_LINE_END))) (blkOk_by (N := NN_lines_in) (sc := defScope tx_lines_in) (by decide +kernel)) (fun _ _ _ _ _ => (pg_name (i := 1) scp_lines_in.nd rfl (.inl rfl))) (fun _ _ _ _ _ => pts_nil) (fun _ _ _ _ _ => (pe_split (pv 1) (pe_gs T.c_BLANK))))))), ?_⟩
  rcases k with ⟨z, rfl, hz, k⟩ | ⟨⟨t, h1, h2⟩, k⟩
  · refine ⟨_, rfl, _, _, _, _, _, rfl, .ty "str", .base (.str _), kit_ty (by decide +kernel), true, rfl, iteF ?_⟩
    refine ⟨_, rfl, ⟨_, rfl⟩, z, _, rfl, rfl, by decide +kernel, hz.all, fun l hl => ?_⟩
    refine ⟨l, rfl, ⟨_, .of upd_same⟩, fun D hD => ?_⟩
    have s0 : Same H _ := sameNew (o := .lst ((Txt.split z "\n").map V.str)) hl
    refine lc_ac (walk_list (xs := (Txt.split z "\n").map V.str)) (Txt.split z "\n") (by simp) hD (fun d acc H' => All2 (fun v ws => ∃ b, v = .ref b ∧ b ≠ D ∧ H' b = some (.lst (ws.map V.str))) acc (d.map fun l => Txt.split l " ")) .nil (fun H1 s => sameL s (.of upd_same)) ?_ ?_
    · rintro d b r x acc H1 H2 e s hD1 hl1 hA ⟨rfl, hx⟩
      rw [e] at hx
      cases mapGet hx
      refine ⟨rfl, yesT ⟨_, rfl, ⟨_, rfl⟩, b, _, rfl, rfl, by decide +kernel, hz.each b (by rw [e]; simp), fun q hq => ?_⟩⟩
      have hDq : D ≠ q := ne_of_none hD1 hq
      refine Lc.put hD (sameAt s (s.free hq)) (by rw [upd_ne hDq]; exact hD1) hl1 (by have := hz.few; rw [e] at this; simp at this; omega) ?_
      rw [List.map_append]
      refine (hA.imp ?_).app (.one ⟨q, rfl, hDq.symm, ?_⟩)
      · rintro v ws ⟨b', rfl, hb, hb'⟩
        exact ⟨b', rfl, hb, by rw [upd_ne hb, upd_ne (ne_of_none hb' hq)]; exact hb'⟩
      · rw [upd_ne hDq.symm, upd_same]
    · rintro acc H1 s hD1 hl1 hA
      exact k H1 D acc (s0.trans s) (s0.free hD) hD1 (hA.imp fun v ws ⟨b, e, _, q⟩ => ⟨b, e, q⟩)
  · refine ⟨_, rfl, _, _, _, _, _, rfl, .ty "str", h1, h2, false, rfl, iteT ?_⟩
    exact mkk2 k
end
end NL
/-! D10: the walk over a line's words -/
namespace NL
open PySem PySem.Spec PyProof.Rows L2
/-! what Words holds -/
theorem nWL : ((lit "own_words") == (lit "own_line")) = false := by decide +kernel
theorem nWS : ((lit "own_words") == (lit "own_spot")) = false := by decide +kernel
theorem nLS : ((lit "own_line") == (lit "own_spot")) = false := by decide +kernel
theorem nSW : ((lit "own_spot") == (lit "own_words")) = false := by decide +kernel
theorem nSL : ((lit "own_spot") == (lit "own_line")) = false := by decide +kernel
theorem nLW : ((lit "own_line") == (lit "own_words")) = false := by decide +kernel
def wf (u v i : V) : List (Str × V) := [(lit "own_words", u), (lit "own_line", v), (lit "own_spot", i)]
theorem putF_nil (f : Str) (v : V) : putF f v [] = [(f, v)] := rfl
theorem putF_eq {f g : Str} {v w : V} {r : List (Str × V)} (h : (g == f) = true) : putF f v ((g, w) :: r) = (g, v) :: r := by
  show (if g = f then (g, v) :: r else (g, w) :: putF f v r) = _
  rw [if_pos (by simpa using h)]
theorem putF_ne {f g : Str} {v w : V} {r : List (Str × V)} (h : (g == f) = false) : putF f v ((g, w) :: r) = (g, w) :: putF f v r := by
  show (if g = f then (g, v) :: r else (g, w) :: putF f v r) = _
  rw [if_neg (by simpa using h)]
theorem wf_init (u v i : V) : putF (lit "own_spot") i (putF (lit "own_line") v (putF (lit "own_words") u [])) = wf u v i := by
  rw [putF_nil, putF_ne nWL, putF_nil, putF_ne nWS, putF_ne nLS, putF_nil]
  rfl
theorem wf_put (u v i j : V) : putF (lit "own_spot") j (wf u v i) = wf u v j := by
  unfold wf
  rw [putF_ne nWS, putF_ne nLS, putF_eq (by simp)]
theorem wf_words (u v i : V) : (wf u v i).lookup (lit "own_words") = some u := by
  unfold wf
  rw [List.lookup_cons_self]
theorem wf_line (u v i : V) : (wf u v i).lookup (lit "own_line") = some v := by
  unfold wf
  simp only [List.lookup, nLW, beq_self_eq_true]
theorem wf_spot (u v i : V) : (wf u v i).lookup (lit "own_spot") = some i := by
  unfold wf
  simp only [List.lookup, nSW, nSL, beq_self_eq_true]
theorem wf_no (u v i : V) {m : Str} (h : ∀ f ∈ [lit "own_words", lit "own_line", lit "own_spot"], (m == f) = false) : (wf u v i).lookup m = none := by
  unfold wf
  simp only [List.lookup, h _ (List.mem_cons_self ..), h _ (List.mem_cons_of_mem _ (List.mem_cons_self ..)), h _ (List.mem_cons_of_mem _ (List.mem_cons_of_mem _ (List.mem_cons_self ..)))]
/-- Words at wd: its words, its line's number, its spot -/
def WAt (K : Frag) (H : Hp) (wd : Addr) (ws : List Str) (ln : Int) (i : Nat) : Prop := ∃ dx l, H wd = some (.ins (He.ga K "Words") dx (wf (.ref l) (.int ln) (.int (i : Nat)))) ∧ H l = some (.lst (ws.map .str))
theorem WAt.same {K : Frag} {H H' : Hp} {wd : Addr} {ws : List Str} {ln : Int} {i : Nat} (h : WAt K H wd ws ln i) (s : Same H H') : WAt K H' wd ws ln i := let ⟨dx, l, a, b⟩ := h; ⟨dx, l, s _ _ a, s _ _ b⟩
/-- a step of the spot -/
theorem WAt.step {K : Frag} {H : Hp} {wd dx l : Addr} {ws : List Str} {ln : Int} {i : Nat} (h1 : H wd = some (.ins (He.ga K "Words") dx (wf (.ref l) (.int ln) (.int (i : Nat))))) (h2 : H l = some (.lst (ws.map .str))) :
    WAt K (upd H wd (.ins (He.ga K "Words") dx (putF (lit "own_spot") (.int ((i : Nat) + 1)) (wf (.ref l) (.int ln) (.int (i : Nat)))))) wd ws ln (i + 1) ∧
    Fr [wd] H (upd H wd (.ins (He.ga K "Words") dx (putF (lit "own_spot") (.int ((i : Nat) + 1)) (wf (.ref l) (.int ln) (.int (i : Nat)))))) := by
  have hne : l ≠ wd := ne_of h2 h1 (by intro z; cases z)
  refine ⟨⟨dx, l, ?_, by rw [upd_ne hne]; exact h2⟩, frUpd (by simp) h1 (fun z => z)⟩
  rw [upd_same, wf_put]
  rfl
def nxt (ws : List Str) (i : Nat) : Str := (ws.drop i).headD ""
section
variable {P : Program} {w : World} {K : Frag} {mg : Str → Option Value} {base : Heap}
def sp_need_end (K : Frag) : Sp := fun vs H Q E => ∃ (a : Addr) (us : List V) (m : Int), vs = [.ref a, .int m] ∧ H a = some (.lst us) ∧ (((us.length : Int) ≤ m ∧ Q .non H) ∨ (m < us.length ∧ Fly K "BadText" [("word", .int 0), ("line", .int m)] [] H E))
abbrev tx_need_end : Stmt := top 50
abbrev NN_need_end : List Str := ["rows", "many"]
theorem scp_need_end : FnScope NN_need_end ["rows", "many"] (defScope tx_need_end) := ⟨rfl, rfl, rfl, by decide +kernel, rfl, by decide +kernel, by decide +kernel⟩
theorem cal_need_end (T : Txt K mg) : Cal P w K mg base (L2.CX P w) 3 "need_end" (sp_need_end K) := by
  obtain ⟨fd, F⟩ := T.d_need_end
  refine ⟨_, fd, ["rows", "many"], F.ok scp_need_end (fun vs H Q E h => ?_) (fun cdv A outer s H vs Q E hr h => ?_), T.g_need_end, F.kp, F.bindsN fun _ _ _ _ _ _ us hl => match us, hl with | [_, _], _ => rfl⟩
  · obtain ⟨a, us, m, rfl, _⟩ := h
    rfl
  obtain ⟨a, us, m, rfl, ha, k⟩ := h
  refine ⟨_, (pss_one (ps_if (pt_cmpR op_gt (pe_callB call_len_seq (by rfl) T.z_len PySem.boot_len (pa_cons (pv 0) pa_nil)) (pv 1) (nomark _)) (pss_one (ps_raise rfl (takes_of rfl rfl rfl rfl) (pmk_BadText T hr (by decide) (pa_cons (pv 1) (pa_cons pe_int pa_nil))))) pss_nil)), ?_⟩
  refine ⟨_, rfl, a, _, rfl, .inl (.of ha), _, rfl, _, _, rfl, rfl, _, rfl, ?_⟩
  rcases k with ⟨hp, k⟩ | ⟨hp, k⟩
  · exact iteFb (decide_eq_false (by omega)) k
  · exact iteTb (decide_eq_true hp) ⟨_, rfl, mkk2 k⟩
def sp_Words_init (K : Frag) : Sp := fun vs H Q _ => ∃ (x dx l : Addr) (ln : Int) (ws : List Str), vs = [.ref x, .ref l, .int ln] ∧ H x = some (.ins (He.ga K "Words") dx []) ∧ H l = some (.lst (ws.map .str)) ∧ ∀ H', Fr [x] H H' → WAt K H' x ws ln 0 → Q .non H'
abbrev tx_Words_init : Stmt := inClass (top 51) 0
abbrev NN_Words_init : List Str := ["self", "words", "line"]
theorem scp_Words_init : FnScope NN_Words_init ["self", "words", "line"] (defScope tx_Words_init) := ⟨rfl, rfl, rfl, by decide +kernel, rfl, by decide +kernel, by decide +kernel⟩
theorem new_Words (T : Txt K mg) : CalI P w K mg base CX0 1 "Words" (sp_Words_init K) := by
  obtain ⟨fd, F⟩ := T.d_Words_init
  refine ⟨_, fd, ["self", "words", "line"], F.ok scp_Words_init (fun vs H Q E h => ?_) (fun cdv A outer s H vs Q E hr h => ?_), T.mk_Words, T.g_Words, F.bindsN fun _ _ _ _ _ _ us hl => match us, hl with | [_, _, _], _ => rfl⟩
  · obtain ⟨x, dx, l, ln, ws, rfl, _⟩ := h
    rfl
  obtain ⟨x, dx, l, ln, ws, rfl, hx, hl, k⟩ := h
  refine ⟨_, PSs.nox (pss_cons (ps_fld (pv 0) (pv 1) rfl)
      (pss_cons (ps_fld (pv 0) (pv 2) rfl)
      (pss_one (ps_fld (pv 0) pe_int rfl)))), ?_⟩
  have hne : l ≠ x := ne_of hl hx (by intro z; cases z)
  refine ⟨_, rfl, _, rfl, x, _, dx, _, rfl, hx, T.cls_Words, T.na_own_words, by simp, ?_⟩
  refine ⟨_, rfl, _, rfl, x, _, dx, _, rfl, upd_same, T.cls_Words, T.na_own_line, by rw [putF_nil]; simp, ?_⟩
  refine ⟨_, rfl, x, _, dx, _, rfl, upd_same, T.cls_Words, T.na_own_spot, by rw [putF_nil, putF_ne nWL, putF_nil]; simp, ?_⟩
  refine k _ (fun b o e q => ?_) ⟨dx, l, ?_, by rw [upd_ne hne, upd_ne hne, upd_ne hne]; exact hl⟩
  · by_cases c : b = x
    · subst c
      rw [hx] at e
      cases e
      exact (q (by simp)).elim
    · rw [upd_ne c, upd_ne c, upd_ne c]
      exact e
  · rw [upd_same, wf_init]
    rfl
def sp_Words_is_over (K : Frag) : Sp := fun vs H Q _ => ∃ (wd : Addr) (ws : List Str) (ln : Int) (i : Nat), vs = [.ref wd] ∧ WAt K H wd ws ln i ∧ Q (.bl (decide (i = ws.length))) H
abbrev tx_Words_is_over : Stmt := inClass (top 51) 1
abbrev NN_Words_is_over : List Str := ["self"]
theorem scp_Words_is_over : FnScope NN_Words_is_over ["self"] (defScope tx_Words_is_over) := ⟨rfl, rfl, rfl, by decide +kernel, rfl, by decide +kernel, by decide +kernel⟩
theorem cal_Words_is_over (T : Txt K mg) : CalM P w K mg base CX0 1 (He.ga K "Words") "is_over" (sp_Words_is_over K) := by
  obtain ⟨fd, F⟩ := T.d_Words_is_over
  refine ⟨_, fd, ["self"], F.ok scp_Words_is_over (fun vs H Q E h => ?_) (fun cdv A outer s H vs Q E hr h => ?_), T.m_Words_is_over, F.bindsN fun _ _ _ _ _ _ us hl => match us, hl with | [_], _ => rfl⟩
  · obtain ⟨wd, ws, ln, i, rfl, _⟩ := h
    rfl
  obtain ⟨wd, ws, ln, i, rfl, ⟨dx, l, h1, h2⟩, k⟩ := h
  refine ⟨_, PSs.nox (pss_one (ps_ret (pe_cmpR op_eq (pe_fld (pv 0) rfl) (pe_callB call_len_seq (by rfl) T.z_len PySem.boot_len (pa_cons (pe_fld (pv 0) rfl) pa_nil)) (nomark _)))), ?_⟩
  refine ⟨_, rfl, wd, _, dx, _, _, rfl, h1, T.cls_Words, T.na_own_spot, wf_spot _ _ _, _, rfl, wd, _, dx, _, _, rfl, h1, T.cls_Words, T.na_own_words, wf_words _ _ _, l, _, rfl, .inl (.of h2), rfl, ?_⟩
  rw [List.length_map, show decide (V.int (i : Nat) = V.int (ws.length : Nat)) = decide (i = ws.length) by
    by_cases c : i = ws.length
    · simp [c]
    · rw [decide_eq_false c, decide_eq_false fun z => c (by have := V.int.inj z; omega)]]
  exact k
def sp_Words_refuse (K : Frag) : Sp := fun vs H _ E => ∃ (wd : Addr) (ws : List Str) (ln : Int) (i : Nat), vs = [.ref wd] ∧ WAt K H wd ws ln i ∧ Fly K "BadText" [("word", .int (i : Nat)), ("line", .int ln)] [] H E
abbrev tx_Words_refuse : Stmt := inClass (top 51) 2
abbrev NN_Words_refuse : List Str := ["self"]
theorem scp_Words_refuse : FnScope NN_Words_refuse ["self"] (defScope tx_Words_refuse) := ⟨rfl, rfl, rfl, by decide +kernel, rfl, by decide +kernel, by decide +kernel⟩
theorem cal_Words_refuse (T : Txt K mg) : CalM P w K mg base (L2.CX P w) 3 (He.ga K "Words") "refuse" (sp_Words_refuse K) := by
  obtain ⟨fd, F⟩ := T.d_Words_refuse
  refine ⟨_, fd, ["self"], F.ok scp_Words_refuse (fun vs H Q E h => ?_) (fun cdv A outer s H vs Q E hr h => ?_), T.m_Words_refuse, F.bindsN fun _ _ _ _ _ _ us hl => match us, hl with | [_], _ => rfl⟩
  · obtain ⟨wd, ws, ln, i, rfl, _⟩ := h
    rfl
  obtain ⟨wd, ws, ln, i, rfl, ⟨dx, l, h1, h2⟩, k⟩ := h
  refine ⟨_, (pss_one (ps_raise rfl (takes_of rfl rfl rfl rfl) (pmk_BadText T hr (by decide) (pa_cons (pe_fld (pv 0) rfl) (pa_cons (pe_fld (pv 0) rfl) pa_nil))))), ?_⟩
  refine ⟨_, rfl, wd, _, dx, _, _, rfl, h1, T.cls_Words, T.na_own_line, wf_line _ _ _, _, rfl, wd, _, dx, _, _, rfl, h1, T.cls_Words, T.na_own_spot, wf_spot _ _ _, ?_⟩
  exact mkk2 k
def sp_Words_next_word (K : Frag) : Sp := fun vs H Q _ => ∃ (wd : Addr) (ws : List Str) (ln : Int) (i : Nat), vs = [.ref wd] ∧ WAt K H wd ws ln i ∧ i ≤ ws.length ∧ Q (.str (nxt ws i)) H
abbrev tx_Words_next_word : Stmt := inClass (top 51) 3
abbrev NN_Words_next_word : List Str := ["self"]
theorem scp_Words_next_word : FnScope NN_Words_next_word ["self"] (defScope tx_Words_next_word) := ⟨rfl, rfl, rfl, by decide +kernel, rfl, by decide +kernel, by decide +kernel⟩
theorem cal_Words_next_word (T : Txt K mg) : CalM P w K mg base CX0 2 (He.ga K "Words") "next_word" (sp_Words_next_word K) := by
  obtain ⟨fd, F⟩ := T.d_Words_next_word
  refine ⟨_, fd, ["self"], F.ok scp_Words_next_word (fun vs H Q E h => ?_) (fun cdv A outer s H vs Q E hr h => ?_), T.m_Words_next_word, F.bindsN fun _ _ _ _ _ _ us hl => match us, hl with | [_], _ => rfl⟩
  · obtain ⟨wd, ws, ln, i, rfl, _⟩ := h
    rfl
  obtain ⟨wd, ws, ln, i, rfl, hW, hi, k⟩ := h
  refine ⟨_, PSs.nox (pss_one (ps_ret (pe_ifExp (pt_val (pe_cam0 (pv 0) T.cls_Words (cal_Words_is_over T) hr (by decide) pass0)) pe_str (pe_ix ix_list (pe_fld (pv 0) rfl) (pe_fld (pv 0) rfl) (fun _ _ => rfl))))), ?_⟩
  obtain ⟨dx, l, h1, h2⟩ := id hW
  refine ⟨_, rfl, wd, dx, _, rfl, h1, wf_no _ _ _ (by decide +kernel), wd, ws, ln, i, rfl, hW, _, rfl, ?_⟩
  by_cases c : i = ws.length
  · rw [decide_eq_true c]
    refine iteT ?_
    rw [show nxt ws i = "" by rw [c]; simp [nxt]] at k
    exact k
  · rw [decide_eq_false c]
    refine iteF ?_
    have hlt : i < ws.length := by omega
    have e : nxt ws i = ws[i] := by
      unfold nxt
      rw [List.drop_eq_getElem_cons hlt]
      rfl
    rw [e] at k
    refine ⟨_, rfl, wd, _, dx, _, _, rfl, h1, T.cls_Words, T.na_own_words, wf_words _ _ _, _, rfl, wd, _, dx, _, _, rfl, h1, T.cls_Words, T.na_own_spot, wf_spot _ _ _, l, _, _, _, rfl, rfl, .of h2, ?_, k⟩
    refine atI_nat ?_
    rw [List.getElem?_map, List.getElem?_eq_getElem hlt]
    rfl
def sp_Words_need_over (K : Frag) : Sp := fun vs H Q E => ∃ (wd : Addr) (ws : List Str) (ln : Int) (i : Nat), vs = [.ref wd] ∧ WAt K H wd ws ln i ∧ ((i = ws.length ∧ Q .non H) ∨ (i ≠ ws.length ∧ Fly K "BadText" [("word", .int (i : Nat)), ("line", .int ln)] [] H E))
abbrev tx_Words_need_over : Stmt := inClass (top 51) 9
abbrev NN_Words_need_over : List Str := ["self"]
theorem scp_Words_need_over : FnScope NN_Words_need_over ["self"] (defScope tx_Words_need_over) := ⟨rfl, rfl, rfl, by decide +kernel, rfl, by decide +kernel, by decide +kernel⟩
theorem cal_Words_need_over (T : Txt K mg) : CalM P w K mg base (L2.CX P w) 4 (He.ga K "Words") "need_over" (sp_Words_need_over K) := by
  obtain ⟨fd, F⟩ := T.d_Words_need_over
  refine ⟨_, fd, ["self"], F.ok scp_Words_need_over (fun vs H Q E h => ?_) (fun cdv A outer s H vs Q E hr h => ?_), T.m_Words_need_over, F.bindsN fun _ _ _ _ _ _ us hl => match us, hl with | [_], _ => rfl⟩
  · obtain ⟨wd, ws, ln, i, rfl, _⟩ := h
    rfl
  obtain ⟨wd, ws, ln, i, rfl, hW, k⟩ := h
  refine ⟨_, (pss_one (ps_if (pt_not (pt_val (pe_cam0 (pv 0) T.cls_Words (cal_Words_is_over T) hr (by decide) pass0))) (pss_one (ps_expr (pe_cam0 (pv 0) T.cls_Words (cal_Words_refuse T) hr (by decide) (passes_call (takes_of rfl rfl rfl rfl) (fun _ _ _ _ h => h))))) pss_nil)), ?_⟩
  obtain ⟨dx, l, h1, h2⟩ := id hW
  refine ⟨_, rfl, wd, dx, _, rfl, h1, wf_no _ _ _ (by decide +kernel), wd, ws, ln, i, rfl, hW, _, rfl, ?_⟩
  rcases k with ⟨hp, k⟩ | ⟨hp, k⟩
  · exact iteFb (by rw [decide_eq_true hp]; rfl) k
  · refine iteTb (by rw [decide_eq_false hp]; rfl) ?_
    exact ⟨_, rfl, wd, dx, _, rfl, h1, wf_no _ _ _ (by decide +kernel), wd, ws, ln, i, rfl, hW, k⟩
def sp_Words_read_word (K : Frag) : Sp := fun vs H Q E => ∃ (wd : Addr) (ws : List Str) (ln : Int) (i : Nat) (b : Addr) (ss : List Str), vs = [.ref wd, .ref b] ∧ WAt K H wd ws ln i ∧ i ≤ ws.length ∧ SqT K H b (ss.map .str) ∧
  ((nxt ws i ∈ ss ∧ ∀ H', Fr [wd] H H' → WAt K H' wd ws ln (i + 1) → Q (.str (nxt ws i)) H') ∨ (¬ nxt ws i ∈ ss ∧ Fly K "BadText" [("word", .int (i : Nat)), ("line", .int ln)] [] H E))
theorem inStr (z : Str) (ss : List Str) : inV (.str z) (ss.map .str) = decide (z ∈ ss) := by
  induction ss with
  | nil => rfl
  | cons s ss ih =>
    show (eqV (.str s) (.str z) || inV (.str z) (ss.map .str)) = _
    rw [ih, Bool.eq_iff_iff]
    simp only [eqV, Bool.or_eq_true, beq_iff_eq, decide_eq_true_eq, List.mem_cons]
    exact or_congr ⟨Eq.symm, Eq.symm⟩ Iff.rfl
abbrev tx_Words_read_word : Stmt := inClass (top 51) 4
abbrev NN_Words_read_word : List Str := ["self", "some", "word"]
theorem scp_Words_read_word : FnScope NN_Words_read_word ["self", "some"] (defScope tx_Words_read_word) := ⟨rfl, rfl, rfl, by decide +kernel, rfl, by decide +kernel, by decide +kernel⟩
theorem cal_Words_read_word (T : Txt K mg) : CalM P w K mg base (L2.CX P w) 4 (He.ga K "Words") "read_word" (sp_Words_read_word K) := by
  obtain ⟨fd, F⟩ := T.d_Words_read_word
  refine ⟨_, fd, ["self", "some"], F.ok scp_Words_read_word (fun vs H Q E h => ?_) (fun cdv A outer s H vs Q E hr h => ?_), T.m_Words_read_word, F.bindsN fun _ _ _ _ _ _ us hl => match us, hl with | [_, _], _ => rfl⟩
  · obtain ⟨wd, ws, ln, i, b, ss, rfl, _⟩ := h
    rfl
  obtain ⟨wd, ws, ln, i, b, ss, rfl, hW, hi, hb, k⟩ := h
  refine ⟨_, (pss_cons (ps_set (i := 2) scp_Words_read_word.nd rfl (.inl rfl) (pe_cam0 (pv 0) T.cls_Words (cal_Words_next_word T) hr (by decide) pass0))
      (pss_cons (ps_if (pt_cmpR op_notIn_seq (pv 2) (pv 1) (by rfl)) (pss_one (ps_expr (pe_cam0 (pv 0) T.cls_Words (cal_Words_refuse T) hr (by decide) (passes_call (takes_of rfl rfl rfl rfl) (fun _ _ _ _ h => h))))) pss_nil)
      (pss_cons (ps_fld (pv 0) (pe_op op_add (pe_fld (pv 0) rfl) pe_int) rfl)
      (pss_one (ps_ret (pv 2)))))), ?_⟩
  obtain ⟨dx, l, h1, h2⟩ := id hW
  refine ⟨_, rfl, wd, dx, _, rfl, h1, wf_no _ _ _ (by decide +kernel), wd, ws, ln, i, rfl, hW, hi, ?_⟩
  refine ⟨_, rfl, _, rfl, b, _, rfl, .inr hb, rfl, ?_, _, rfl, ?_⟩
  · rw [List.all_map]
    exact List.all_eq_true.mpr fun _ _ => rfl
  rw [if_pos rfl, inStr]
  rcases k with ⟨hp, k⟩ | ⟨hp, k⟩
  · refine iteFb (by rw [decide_eq_true hp]; rfl) ?_
    refine ⟨_, rfl, wd, _, dx, _, _, rfl, h1, T.cls_Words, T.na_own_spot, wf_spot _ _ _, _, _, rfl, rfl, _, rfl, wd, _, dx, _, rfl, h1, T.cls_Words, T.na_own_spot, by simp [wf], _, rfl, ?_⟩
    obtain ⟨q1, q2⟩ := WAt.step h1 h2
    exact k _ q2 q1
  · refine iteTb (by rw [decide_eq_false hp]; rfl) ?_
    exact ⟨_, rfl, wd, dx, _, rfl, h1, wf_no _ _ _ (by decide +kernel), wd, ws, ln, i, rfl, hW, k⟩
end
end NL
/-! D11: numbers read -/
namespace NL
open PySem PySem.Spec PyProof.Rows L2
section
variable {P : Program} {w : World} {K : Frag} {mg : Str → Option Value} {base : Heap}
def sp_Words_read_number (K : Frag) : Sp := fun vs H Q E => ∃ (wd : Addr) (ws : List Str) (ln : Int) (i : Nat), vs = [.ref wd] ∧ WAt K H wd ws ln i ∧ i ≤ ws.length ∧ (nxt ws i).length ≤ 600 ∧ Tame (nxt ws i) ∧
  ((∃ n, numM (nxt ws i) = some n ∧ ∀ H', Fr [wd] H H' → WAt K H' wd ws ln (i + 1) → Q (.int n) H') ∨ (numM (nxt ws i) = none ∧ Fly K "BadText" [("word", .int (i : Nat)), ("line", .int ln)] [] H E))
theorem figs_is : (lit "0123456789").cps.toList = figs := by decide +kernel
theorem zero_is : lit "0" = ⟨#[48]⟩ := by decide +kernel
theorem len_cps (z : Str) : z.cps.toList.length = z.length := by
  cases z
  rfl
abbrev tx_Words_read_number : Stmt := inClass (top 51) 5
abbrev NN_Words_read_number : List Str := ["self", "word", "sign"]
theorem scp_Words_read_number : FnScope NN_Words_read_number ["self"] (defScope tx_Words_read_number) := ⟨rfl, rfl, rfl, by decide +kernel, rfl, by decide +kernel, by decide +kernel⟩
theorem cal_Words_read_number (T : Txt K mg) : CalM P w K mg base (L2.CX P w) 4 (He.ga K "Words") "read_number" (sp_Words_read_number K) := by
  obtain ⟨fd, F⟩ := T.d_Words_read_number
  refine ⟨_, fd, ["self"], F.ok scp_Words_read_number (fun vs H Q E h => ?_) (fun cdv A outer s H vs Q E hr h => ?_), T.m_Words_read_number, F.bindsN fun _ _ _ _ _ _ us hl => match us, hl with | [_], _ => rfl⟩
  · obtain ⟨wd, ws, ln, i, rfl, _⟩ := h
    rfl
  obtain ⟨wd, ws, ln, i, rfl, hW, hi, hlen, ht, k⟩ := h
  refine ⟨_, (pss_cons (ps_set (i := 1) scp_Words_read_number.nd rfl (.inl rfl) (pe_cam0 (pv 0) T.cls_Words (cal_Words_next_word T) hr (by decide) pass0))
      (pss_cons (ps_if (PW.pt (pw_or (pt_not (pt_chain op_le op_le pe_int (pe_callB call_len_str (by rfl) T.z_len PySem.boot_len (pa_cons (pv 1) pa_nil)) (pe_gi T.c_MOST_FIGURES))) (pw_or1 (pt_not (pt_val (pe_callB (cr_all rfl) (by rfl) T.z_all (by decide +kernel) (pa_cons (pe_lc (own := [("sign", 2)]) (g := gName 2) (tt := tYes) rfl scp_Words_read_number.nd (pi_str (pv 1)) (blkOk_by (N := NN_Words_read_number) (sc := defScope tx_Words_read_number) (by decide +kernel)) (fun _ _ _ _ _ => (pg_name (i := 2) scp_Words_read_number.nd rfl (.inl rfl))) (fun _ _ _ _ _ => pts_nil) (fun _ _ _ _ _ => (pe_cmpR op_in_sign (pv 2) (pe_gs T.c_FIGURES) (by rfl)))) pa_nil))))))) (pss_one (ps_expr (pe_cam0 (pv 0) T.cls_Words (cal_Words_refuse T) hr (by decide) (passes_call (takes_of rfl rfl rfl rfl) (fun _ _ _ _ h => h))))) pss_nil)
      (pss_cons (ps_if (PW.pt (pw_and (pt_cmpR op_gt (pe_callB call_len_str (by rfl) T.z_len PySem.boot_len (pa_cons (pv 1) pa_nil)) pe_int (nomark _)) (pw_and1 (pt_cmpR op_eq (pe_ix ix_str (pv 1) pe_int (fun _ _ => rfl)) pe_str (nomark _))))) (pss_one (ps_expr (pe_cam0 (pv 0) T.cls_Words (cal_Words_refuse T) hr (by decide) (passes_call (takes_of rfl rfl rfl rfl) (fun _ _ _ _ h => h))))) pss_nil)
      (pss_cons (ps_fld (pv 0) (pe_op op_add (pe_fld (pv 0) rfl) pe_int) rfl)
      (pss_one (ps_ret (pe_callTy call_int_str (by rfl) T.z_int (by decide +kernel) (pa_cons (pv 1) pa_nil)))))))), ?_⟩
  obtain ⟨dx, l, h1, h2⟩ := id hW
  refine ⟨_, rfl, wd, dx, _, rfl, h1, wf_no _ _ _ (by decide +kernel), wd, ws, ln, i, rfl, hW, hi, ?_⟩
  generalize hz : nxt ws i = z at *
  have hok : numB z = true → ∃ n, PySem.intText? z = some n ∧ ∀ H', Fr [wd] H H' → WAt K H' wd ws ln (i + 1) → Q (.int n) H' := fun hb => by
    obtain ⟨n, hn⟩ := ht hb
    have e : numM z = some n := by unfold numM; rw [if_pos hb, hn]
    rcases k with ⟨n', h', k⟩ | ⟨h', k⟩
    · rw [e] at h'
      cases h'
      exact ⟨n, hn, k⟩
    · rw [e] at h'
      cases h'
  have hbad : numB z = false → Fly K "BadText" [("word", .int (i : Nat)), ("line", .int ln)] [] H E := fun hb => by
    have e : numM z = none := by unfold numM; rw [hb]; rfl
    rcases k with ⟨n', h', k⟩ | ⟨h', k⟩
    · rw [e] at h'
      cases h'
    · exact k
  have hsz : z.length ≤ sizeLine := le1000 (by omega)
  have ref : ∀ H1, Same H H1 → numB z = false → sp_Words_refuse K [.ref wd] H1 Q E := fun H1 s1 hb => ⟨wd, ws, ln, i, rfl, hW.same s1, (hbad hb).of (Fr.same s1) fun d q => s1.free q⟩
  have ref' : ∀ (Q' : VK) H1, Same H H1 → numB z = false → sp_Words_refuse K [.ref wd] H1 Q' E := fun Q' H1 s1 hb => ⟨wd, ws, ln, i, rfl, hW.same s1, (hbad hb).of (Fr.same s1) fun d q => s1.free q⟩
  refine ⟨_, rfl, z, rfl, hsz, _, _, rfl, rfl, _, rfl, ?_⟩
  by_cases c1 : (1 : Int) ≤ z.length
  case neg =>
    rw [decide_eq_false c1]
    refine iteF ⟨_, rfl, ?_⟩
    refine iteT (iteT ?_)
    refine ⟨_, rfl, wd, dx, _, rfl, h1, wf_no _ _ _ (by decide +kernel), ref' Q H (fun _ _ e => e) ?_⟩
    unfold numB
    rw [decide_eq_false (by omega)]
    rfl
  rw [decide_eq_true c1]
  refine iteT ⟨_, _, rfl, rfl, _, rfl, ?_⟩
  by_cases c2 : (z.length : Int) ≤ 4
  case neg =>
    rw [decide_eq_false c2]
    refine iteT (iteT ?_)
    refine ⟨_, rfl, wd, dx, _, rfl, h1, wf_no _ _ _ (by decide +kernel), ref' Q H (fun _ _ e => e) ?_⟩
    unfold numB
    rw [decide_eq_false (by omega)]
    rfl
  rw [decide_eq_true c2]
  refine iteF ?_
  have hb1 : decide (1 ≤ z.length ∧ z.length ≤ 4) = true := decide_eq_true (by omega)
  refine ⟨_, rfl, z, rfl, fun D hD => ?_⟩
  refine lc_ac walk_str z.cps.toList (by simp) hD (fun d acc _ => acc = d.map fun c => V.bl (decide (c ∈ figs))) rfl (fun _ _ => trivial) ?_ ?_
  · rintro d b r x acc H1 H2 e s hD1 hl1 rfl ⟨rfl, c, hc, rfl⟩
    have hcb : c = b := by
      have : z.cps.toList[d.length]? = some b := by rw [e]; exact getMid d b r
      rw [Array.getElem?_toList, hc] at this
      exact Option.some.inj this
    subst hcb
    refine ⟨rfl, yesT ⟨_, rfl, c, _, rfl, rfl, ?_⟩⟩
    refine Lc.put hD s hD1 hl1 ?_ ?_
    · have := len_cps z
      rw [e] at this
      simp at this
      omega
    · rw [show (lit "0123456789").cps.toList = figs from figs_is]
      simp
  rintro acc H1 s1 hD1 hl1 rfl
  refine ⟨_, z.cps.toList.map fun c => decide (c ∈ figs), rfl, by rw [List.map_map]; exact .of hD1, _, rfl, ?_⟩
  have eall : (z.cps.toList.map fun c => decide (c ∈ figs)).all id = z.cps.toList.all (fun c => decide (c ∈ figs)) := by rw [List.all_map]; rfl
  rw [eall]
  obtain ⟨dx1, l1, g1, g2⟩ := hW.same s1
  cases c3 : z.cps.toList.all (fun c => decide (c ∈ figs))
  · refine iteT ?_
    refine ⟨_, rfl, wd, dx1, _, rfl, g1, wf_no _ _ _ (by decide +kernel), ref' Q H1 s1 ?_⟩
    unfold numB
    rw [hb1, c3]
    rfl
  refine iteF ?_
  refine ⟨_, rfl, z, rfl, hsz, _, _, rfl, rfl, _, rfl, ?_⟩
  have fin : numB z = true → ∀ H2, H2 = H1 → ∃ n, PySem.intText? z = some n ∧ ∀ H', Fr [wd] H1 H' → WAt K H' wd ws ln (i + 1) → Q (.int n) H' := fun hb H2 _ => by
    obtain ⟨n, hn, q⟩ := hok hb
    exact ⟨n, hn, fun H' f a => q H' ((Fr.same s1).trans f) a⟩
  have go : numB z = true → tSeq (sFld K (tVar 0) (tOp (rI0 fun i j => V.int (i + j)) (tFld K (tVar 0) (lit "own_spot")) (tC (.int 1))) (lit "own_spot")) (tRet (tCB (fun xs H Q => ∃ a n, xs = [V.str a] ∧ PySem.intText? a = some n ∧ a.length ≤ 640 ∧ Q (.int n) H) (tCons (tVar 1) tNil))) { nx := fun _ H' => Q V.non H', rt := Q } [some (.ref wd), some (.str z), none] H1 := fun hb => by
    obtain ⟨n, hn, q⟩ := hok hb
    refine ⟨_, rfl, wd, _, dx1, _, _, rfl, g1, T.cls_Words, T.na_own_spot, wf_spot _ _ _, _, _, rfl, rfl, _, rfl, wd, _, dx1, _, rfl, g1, T.cls_Words, T.na_own_spot, by simp [wf], ?_⟩
    obtain ⟨q1, q2⟩ := WAt.step g1 g2
    exact ⟨_, rfl, z, n, rfl, hn, by omega, q _ ((Fr.same s1).trans q2) q1⟩
  by_cases c4 : (1 : Int) < z.length
  · rw [decide_eq_true c4]
    refine iteT ?_
    obtain ⟨c, r, hcr⟩ : ∃ c r, z.cps.toList = c :: r := by
      have := len_cps z
      cases e : z.cps.toList with
      | nil =>
        rw [e] at this
        simp at this
        omega
      | cons c r => exact ⟨c, r, rfl⟩
    refine ⟨_, rfl, z, 0, c, rfl, rfl, hsz, by rw [hcr]; exact at0 _ _, rfl, _, rfl, ?_⟩
    by_cases c5 : c = 48
    · refine iteTb ?_ ?_
      · rw [decide_eq_true_eq, c5]
        exact congrArg V.str zero_is.symm
      · refine ⟨_, rfl, wd, dx1, _, rfl, g1, wf_no _ _ _ (by decide +kernel), ref' Q H1 s1 ?_⟩
        unfold numB
        rw [hb1, c3, decide_eq_true (by omega : 1 < z.length), hcr, c5]
        rfl
    · refine iteFb ?_ ?_
      · rw [decide_eq_false_iff_not]
        intro q
        have q2 : (⟨#[c]⟩ : Str) = ⟨#[48]⟩ := (V.str.inj q).trans zero_is
        have q3 := congrArg (fun s : Str => s.cps.toList) q2
        simp at q3
        exact c5 q3
      · refine go ?_
        unfold numB
        rw [hb1, c3, hcr]
        simp [c5]
  · rw [decide_eq_false c4]
    refine iteF ?_
    refine go ?_
    unfold numB
    rw [hb1, c3, decide_eq_false (by omega : ¬ 1 < z.length)]
    rfl
end
end NL
/-! D12: rows of numbers read -/
namespace NL
open PySem PySem.Spec PyProof.Rows L2
theorem WAt.freeOf {K : Frag} {H H' : Hp} {wd : Addr} {ws : List Str} {ln : Int} {i : Nat} (f : Fr [wd] H H') (h : WAt K H' wd ws ln i) (d : Addr) (hd : H' d = none) : H d = none := by
  refine f.free hd fun m => ?_
  have e : d = wd := by simpa using m
  obtain ⟨dx, l, q, _⟩ := h
  rw [e, q] at hd
  cases hd
/-- words that can be told -/
def Tames (ws : List Str) : Prop := ∀ w ∈ ws, w.length ≤ 600 ∧ Tame w
theorem tame_nxt {ws : List Str} (h : Tames ws) (i : Nat) : (nxt ws i).length ≤ 600 ∧ Tame (nxt ws i) := by
  unfold nxt
  cases e : ws.drop i with
  | nil => exact ⟨by decide +kernel, fun q => absurd q (by decide +kernel)⟩
  | cons w r => exact h w (List.mem_of_mem_drop (by rw [e]; exact List.mem_cons_self))
theorem num_nil : numM "" = none := by decide +kernel
section
variable {P : Program} {w : World} {K : Frag} {mg : Str → Option Value} {base : Heap}
def sp_Words_read_numbers (K : Frag) : Sp := fun vs H Q E => ∃ (wd : Addr) (ws : List Str) (ln : Int) (i most : Nat), vs = [.ref wd, .int (most : Nat)] ∧ WAt K H wd ws ln i ∧ i ≤ ws.length ∧ 1 ≤ most ∧ most ≤ 100 ∧ Tames ws ∧
  ((∃ ns, readNs most (ws.drop i) = .ok ns ∧ ∀ H' t, Fr [wd] H H' → SqT K H' t (ns.map .int) → Q (.ref t) H') ∨ (∃ e, readNs most (ws.drop i) = .error e ∧ Fly K "BadText" [("word", .int ((i + e : Nat))), ("line", .int ln)] [wd] H E))
theorem drop_take_nxt {ws : List Str} {i : Nat} (h : i < ws.length) : ws.drop i = nxt ws i :: ws.drop (i + 1) := by
  have e : ws.drop i = ws[i] :: ws.drop (i + 1) := List.drop_eq_getElem_cons h
  unfold nxt
  rw [e]
  rfl
abbrev tx_Words_read_numbers : Stmt := inClass (top 51) 6
abbrev NN_Words_read_numbers : List Str := ["self", "most", "found"]
theorem scp_Words_read_numbers : FnScope NN_Words_read_numbers ["self", "most"] (defScope tx_Words_read_numbers) := ⟨rfl, rfl, rfl, by decide +kernel, rfl, by decide +kernel, by decide +kernel⟩
theorem cal_Words_read_numbers (T : Txt K mg) : CalM P w K mg base (L2.CX P w) 5 (He.ga K "Words") "read_numbers" (sp_Words_read_numbers K) := by
  obtain ⟨fd, F⟩ := T.d_Words_read_numbers
  refine ⟨_, fd, ["self", "most"], F.ok scp_Words_read_numbers (fun vs H Q E h => ?_) (fun cdv A outer s H vs Q E hr h => ?_), T.m_Words_read_numbers, F.bindsN fun _ _ _ _ _ _ us hl => match us, hl with | [_, _], _ => rfl⟩
  · obtain ⟨wd, ws, ln, i, most, rfl, _⟩ := h
    rfl
  obtain ⟨wd, ws, ln, i, most, rfl, hW, hi, hm1, hm, hT, k⟩ := h
  refine ⟨_, (pss_cons (ps_set (i := 2) scp_Words_read_numbers.nd rfl (.inl rfl) (pe_lst (pa_cons (pe_cam0 (pv 0) T.cls_Words (cal_Words_read_number T) hr (by decide) (passes_call (takes_of rfl rfl rfl rfl) (fun _ _ _ _ h => h))) pa_nil)))
      (pss_cons (ps_while PassesOwn.leaving (PW.pt (pw_and (pt_not (pt_val (pe_cam0 (pv 0) T.cls_Words (cal_Words_is_over T) hr (by decide) pass0))) (pw_and1 (pt_cmpR op_lt (pe_callB call_len_seq (by rfl) T.z_len PySem.boot_len (pa_cons (pv 2) pa_nil)) (pv 1) (nomark _)))))
      (pss_one (ps_expr (pe_bm PySem.F.plainAttrs_list PySem.F.slot_list_append PySem.F.type_list_append mt_append (pv 2) (pa_cons (pe_cam0 (pv 0) T.cls_Words (cal_Words_read_number T) hr (by decide) (passes_call (takes_of rfl rfl rfl rfl) (fun _ _ _ _ h => h))) pa_nil)))))
      (pss_cons (ps_expr (pe_cam0 (pv 0) T.cls_Words (cal_Words_need_over T) hr (by decide) (passes_call (takes_of rfl rfl rfl rfl) (fun _ _ _ _ h => h))))
      (pss_one (ps_ret (pe_callTy call_tuple_of (by rfl) T.z_tuple (by decide +kernel) (pa_cons (pv 2) pa_nil))))))), ?_⟩
  obtain ⟨dx, l, h1, h2⟩ := id hW
  obtain ⟨t1, t2⟩ := tame_nxt hT i
  refine ⟨_, rfl, wd, dx, _, rfl, h1, wf_no _ _ _ (by decide +kernel), wd, ws, ln, i, rfl, hW, hi, t1, t2, ?_⟩
  cases hn : numM (nxt ws i) with
  | none =>
    refine .inr ⟨rfl, ?_⟩
    have he : readNs most (ws.drop i) = .error 0 := by
      by_cases c : i < ws.length
      · rw [drop_take_nxt c]
        obtain ⟨m', rfl⟩ : ∃ m', most = m' + 1 := ⟨most - 1, by omega⟩
        simp [readNs, rdN, hn]
      · rw [List.drop_eq_nil_of_le (by omega)]
        rfl
    rcases k with ⟨ns, q, _⟩ | ⟨e, q, k⟩
    · rw [he] at q
      cases q
    · rw [he] at q
      cases q
      exact k.nil
  | some n0 =>
    refine .inl ⟨n0, rfl, fun H1 f1 hW1 => ?_⟩
    have hil : i < ws.length := by
      refine Nat.lt_of_le_of_ne hi fun c => ?_
      rw [show nxt ws i = "" by rw [c]; simp [nxt], num_nil] at hn
      cases hn
    refine ⟨le1000 (by simp), fun f hf => ?_⟩
    have hf0 : H f = none := hW1.freeOf f1 f hf
    have hW1' := hW1.same (sameNew (o := .lst [.int n0]) hf)
    refine ⟨fun m σ H' => ∃ (kk : Nat) (ns : List Int), m = ws.length - (i + kk) ∧ σ = [some (.ref wd), some (.int (most : Nat)), some (.ref f)] ∧ Fr [wd] H H' ∧ WAt K H' wd ws ln (i + kk) ∧ H' f = some (.lst (ns.map .int)) ∧ i + kk ≤ ws.length ∧ kk ≤ most ∧ ns.length = kk ∧ ((ws.drop i).take kk).map numM = ns.map some, ?_, ?_⟩
    · refine ⟨_, 1, [n0], rfl, rfl, f1.new hf0, hW1', upd_same, by omega, hm1, rfl, ?_⟩
      rw [drop_take_nxt hil]
      simp [hn]
    · rintro m σ H2 ⟨kk, ns, rfl, rfl, f2, hW2, hf2, hle, hkm, hnl, hmap⟩
      obtain ⟨dx2, l2, g1, g2⟩ := id hW2
      have hsplit : ws.drop i = (ws.drop i).take kk ++ ws.drop (i + kk) := by
        rw [← List.drop_drop, List.take_append_drop]
      have hlen2 : ((ws.drop i).take kk).length = kk := by simp; omega
      have hrd : readNs most (ws.drop i) = match rdN (most - kk) (ws.drop (i + kk)) with | .ok l => .ok (ns ++ l) | .error e => .error (e + kk) := by
        have e1 : readNs most (ws.drop i) = rdN most (ws.drop i) := by rw [drop_take_nxt hil]; rfl
        rw [e1, hsplit, rdN_app most _ ns _ hmap (by omega), hlen2]
        all_goals (cases rdN (most - kk) (ws.drop (i + kk)) <;> rfl)
      -- the way out: need_over, then the tuple
      have out : (i + kk = ws.length ∨ kk = most) → tSeq (tDrop (tMeth (He.ga K "Words") "need_over" (sp_Words_need_over K) [] E (tVar 0) tNil)) (tRet (tCB (fun xs H Q => ∃ p ys, xs = [V.ref p] ∧ (SqL K H p ys ∧ (∀ l, H l = none → Q (.ref l) (upd H l (.tup ys))) ∨ SqT K H p ys ∧ Q (.ref p) H)) (tCons (tVar 2) tNil))) { nx := fun _ H' => Q V.non H', rt := Q } [some (.ref wd), some (.int (most : Nat)), some (.ref f)] H2 := fun hend => by
        refine ⟨_, rfl, wd, dx2, _, rfl, g1, wf_no _ _ _ (by decide +kernel), wd, ws, ln, i + kk, rfl, hW2, ?_⟩
        by_cases c : i + kk = ws.length
        · refine .inl ⟨c, ?_⟩
          have e0 : ws.drop (i + kk) = [] := List.drop_eq_nil_of_le (by omega)
          have he : readNs most (ws.drop i) = .ok ns := by
            rw [hrd, e0]
            cases (most - kk) <;> simp [rdN]
          refine ⟨_, rfl, f, _, rfl, .inl ⟨.of hf2, fun t ht => ?_⟩⟩
          rcases k with ⟨ns', q, k⟩ | ⟨e, q, k⟩
          · rw [he] at q
            cases q
            exact k _ t (f2.trans (Fr.same (sameNew ht))) (.of upd_same)
          · rw [he] at q
            cases q
        · refine .inr ⟨c, ?_⟩
          have hkm' : kk = most := hend.resolve_left c
          have he : readNs most (ws.drop i) = .error kk := by
            rw [hrd, drop_take_nxt (by omega), show most - kk = 0 by omega]
            simp [rdN]
          rcases k with ⟨ns', q, k⟩ | ⟨e, q, k⟩
          · rw [he] at q
            cases q
          · rw [he] at q
            cases q
            exact (k.of f2 fun d hd => hW2.freeOf f2 d hd).nil
      refine ⟨_, rfl, wd, dx2, _, rfl, g1, wf_no _ _ _ (by decide +kernel), wd, ws, ln, i + kk, rfl, hW2, _, rfl, ?_⟩
      by_cases c : i + kk = ws.length
      · rw [decide_eq_true c]
        exact iteF (iteF (out (.inl c)))
      rw [decide_eq_false c]
      refine iteT ⟨_, rfl, f, _, rfl, .inl (.of hf2), _, rfl, _, _, rfl, rfl, _, rfl, ?_⟩
      rw [List.length_map]
      by_cases c2 : kk = most
      · exact iteFb (decide_eq_false (by omega)) (out (.inr c2))
      refine iteTb (decide_eq_true (by omega)) ?_
      refine ⟨fun σ' H' => ∃ ns' : List Int, σ' = [some (.ref wd), some (.int (most : Nat)), some (.ref f)] ∧ Fr [wd] H H' ∧ WAt K H' wd ws ln (i + (kk + 1)) ∧ H' f = some (.lst (ns'.map .int)) ∧ ns'.length = kk + 1 ∧ ((ws.drop i).take (kk + 1)).map numM = ns'.map some, ?_, ?_⟩
      · rintro σ' H' ⟨ns', rfl, q1, q2, q3, q4, q5⟩
        exact ⟨ws.length - (i + (kk + 1)), by omega, kk + 1, ns', rfl, rfl, q1, q2, q3, by omega, by omega, q4, q5⟩
      · refine ⟨_, rfl, .inl ⟨rfl, _, .of hf2⟩, _, rfl, wd, dx2, _, rfl, g1, wf_no _ _ _ (by decide +kernel), wd, ws, ln, i + kk, rfl, hW2, hle, (tame_nxt hT _).1, (tame_nxt hT _).2, ?_⟩
        have hlt : i + kk < ws.length := by omega
        cases hn2 : numM (nxt ws (i + kk)) with
        | none =>
          refine .inr ⟨rfl, ?_⟩
          have he : readNs most (ws.drop i) = .error kk := by
            rw [hrd, drop_take_nxt hlt]
            obtain ⟨m', hm'⟩ : ∃ m', most - kk = m' + 1 := ⟨most - kk - 1, by omega⟩
            rw [hm']
            simp [rdN, hn2]
          rcases k with ⟨ns', q, k⟩ | ⟨e, q, k⟩
          · rw [he] at q
            cases q
          · rw [he] at q
            cases q
            exact (k.of f2 fun d hd => hW2.freeOf f2 d hd).nil
        | some n2 =>
          refine .inl ⟨n2, rfl, fun H3 f3 hW3 => ?_⟩
          have hfw : f ≠ wd := ne_of hf2 g1 (by intro z; cases z)
          have hf3 := f3.at hf2 (by simpa using hfw)
          refine ⟨f, _, _, rfl, rfl, hf3, small1000 (by simp; omega), ns ++ [n2], rfl, (f2.trans f3).new hf0, ?_, by rw [upd_same]; simp, by simp [hnl], ?_⟩
          · obtain ⟨dx3, l3, e1, e2⟩ := hW3
            have hlf : l3 ≠ f := by
              intro z
              rw [z, hf3] at e2
              have e3 : ns.map V.int = ws.map V.str := by
                injection e2 with e2
                injection e2
              cases ns with
              | nil =>
                have := congrArg List.length e3
                simp at this
                omega
              | cons a r =>
                cases ws with
                | nil => simp at hlt
                | cons b r' =>
                  rw [List.map_cons, List.map_cons] at e3
                  injection e3 with e4
                  cases e4
            exact ⟨dx3, l3, by rw [upd_ne hfw.symm]; exact e1, by rw [upd_ne hlf]; exact e2⟩
          · have e1 : (ws.drop i).take (kk + 1) = (ws.drop i).take kk ++ [nxt ws (i + kk)] := by
              have hkl : kk < (ws.drop i).length := by simp; omega
              rw [← List.take_append_getElem hkl]
              congr 2
              have := drop_take_nxt hlt
              rw [← List.drop_drop, List.drop_eq_getElem_cons hkl] at this
              injection this
            rw [e1, List.map_append, hmap, List.map_append]
            simp [hn2]
end
end NL
/-! D13: letters read, numbers written -/
namespace NL
open PySem PySem.Spec PyProof.Rows L2
section
variable {P : Program} {w : World} {K : Frag} {mg : Str → Option Value} {base : Heap}
def sp_Words_read_some (K : Frag) : Sp := fun vs H Q E => ∃ (wd : Addr) (ws : List Str) (ln : Int) (i most : Nat), vs = [.ref wd, .int (most : Nat)] ∧ WAt K H wd ws ln i ∧ i ≤ ws.length ∧ 1 ≤ most ∧ most ≤ 100 ∧ Tames ws ∧
  ((∃ ns, readSome most (ws.drop i) = .ok ns ∧ ∀ H' t, Fr [wd] H H' → SqT K H' t (ns.map .int) → Q (.ref t) H') ∨ ((∀ ns, readSome most (ws.drop i) ≠ .ok ns) ∧ ∀ fs, Fly K "BadText" fs [wd] H E))
abbrev tx_Words_read_some : Stmt := inClass (top 51) 7
abbrev NN_Words_read_some : List Str := ["self", "most"]
theorem scp_Words_read_some : FnScope NN_Words_read_some ["self", "most"] (defScope tx_Words_read_some) := ⟨rfl, rfl, rfl, by decide +kernel, rfl, by decide +kernel, by decide +kernel⟩
theorem cal_Words_read_some (T : Txt K mg) : CalM P w K mg base (L2.CX P w) 6 (He.ga K "Words") "read_some" (sp_Words_read_some K) := by
  obtain ⟨fd, F⟩ := T.d_Words_read_some
  refine ⟨_, fd, ["self", "most"], F.ok scp_Words_read_some (fun vs H Q E h => ?_) (fun cdv A outer s H vs Q E hr h => ?_), T.m_Words_read_some, F.bindsN fun _ _ _ _ _ _ us hl => match us, hl with | [_, _], _ => rfl⟩
  · obtain ⟨wd, ws, ln, i, most, rfl, _⟩ := h
    rfl
  obtain ⟨wd, ws, ln, i, most, rfl, hW, hi, hm1, hm, hT, k⟩ := h
  refine ⟨_, (pss_cons (ps_if (pt_cmpR op_eq (pe_cam0 (pv 0) T.cls_Words (cal_Words_next_word T) hr (by decide) pass0) (pe_gs T.c_NONE) (nomark _)) (pss_cons (ps_fld (pv 0) (pe_op op_add (pe_fld (pv 0) rfl) pe_int) rfl)
      (pss_cons (ps_expr (pe_cam0 (pv 0) T.cls_Words (cal_Words_need_over T) hr (by decide) (passes_call (takes_of rfl rfl rfl rfl) (fun _ _ _ _ h => h))))
      (pss_one (ps_ret (pe_tup pa_nil))))) pss_nil)
      (pss_one (ps_ret (pe_cam (pv 0) T.cls_Words (cal_Words_read_numbers T) hr (by decide) (passes_call (takes_of rfl rfl rfl rfl) (fun _ _ _ _ h => h)) (pa_cons (pv 1) pa_nil))))), ?_⟩
  obtain ⟨dx, l, h1, h2⟩ := id hW
  refine ⟨_, rfl, wd, dx, _, rfl, h1, wf_no _ _ _ (by decide +kernel), wd, ws, ln, i, rfl, hW, hi, ?_⟩
  refine ⟨rfl, _, rfl, ?_⟩
  by_cases c : nxt ws i = wNone
  · refine iteTb (decide_eq_true (congrArg V.str c)) ?_
    have hil : i < ws.length := by
      refine Nat.lt_of_le_of_ne hi fun z => ?_
      have e : nxt ws i = "" := by rw [z]; simp [nxt]
      rw [e] at c
      exact absurd c (by decide +kernel)
    refine ⟨_, rfl, wd, _, dx, _, _, rfl, h1, T.cls_Words, T.na_own_spot, wf_spot _ _ _, _, _, rfl, rfl, _, rfl, wd, _, dx, _, rfl, h1, T.cls_Words, T.na_own_spot, by simp [wf], ?_⟩
    obtain ⟨q1, q2⟩ := WAt.step h1 h2
    obtain ⟨dx2, l2, g1, g2⟩ := id q1
    refine ⟨_, rfl, wd, dx2, _, rfl, g1, wf_no _ _ _ (by decide +kernel), wd, ws, ln, i + 1, rfl, q1, ?_⟩
    by_cases c2 : i + 1 = ws.length
    · refine .inl ⟨c2, ?_⟩
      have he : readSome most (ws.drop i) = .ok [] := by
        rw [drop_take_nxt hil, List.drop_eq_nil_of_le (by omega), c]
        simp [readSome]
      refine ⟨le1000 (by simp), fun t ht => ?_⟩
      rcases k with ⟨ns, q, k⟩ | ⟨q, k⟩
      · rw [he] at q
        cases q
        exact k _ t (q2.trans (Fr.same (sameNew ht))) (.of upd_same)
      · exact absurd he (q [])
    · refine .inr ⟨c2, ?_⟩
      have he : readSome most (ws.drop i) = .error 1 := by
        rw [drop_take_nxt hil, drop_take_nxt (by omega : i + 1 < ws.length), c]
        simp [readSome]
      rcases k with ⟨ns, q, k⟩ | ⟨q, k⟩
      · rw [he] at q
        cases q
      · exact ((k _).of q2 fun d hd => q1.freeOf q2 d hd).nil
  · refine iteFb (decide_eq_false fun z => c (V.str.inj z)) ?_
    have hsame : readSome most (ws.drop i) = readNs most (ws.drop i) := by
      by_cases c2 : i < ws.length
      · rw [drop_take_nxt c2]
        simp [readSome, readNs, c]
      · rw [List.drop_eq_nil_of_le (by omega)]
        rfl
    refine ⟨_, rfl, wd, dx, _, rfl, h1, wf_no _ _ _ (by decide +kernel), _, rfl, wd, ws, ln, i, most, rfl, hW, hi, hm1, hm, hT, ?_⟩
    rw [hsame] at k
    rcases k with ⟨ns, q, k⟩ | ⟨q, k⟩
    · exact .inl ⟨ns, q, k⟩
    · cases e : readNs most (ws.drop i) with
      | ok ns => exact absurd e (q ns)
      | error e' => exact .inr ⟨e', rfl, k _⟩
def sp_letter_in (K : Frag) : Sp := fun vs H Q E => ∃ (wd : Addr) (ws : List Str) (ln : Int) (i : Nat), vs = [.ref wd] ∧ WAt K H wd ws ln i ∧ i ≤ ws.length ∧ Tames ws ∧
  ((∃ ns, nxt ws i = wColon ∧ readSome 12 (ws.drop (i + 1)) = .ok ns ∧ ∀ H' t, Fr [wd] H H' → SqT K H' t (ns.map .int) → Q (.ref t) H') ∨ ((nxt ws i = wColon → ∀ ns, readSome 12 (ws.drop (i + 1)) ≠ .ok ns) ∧ ∀ fs, Fly K "BadText" fs [wd] H E))
abbrev tx_letter_in : Stmt := top 52
abbrev NN_letter_in : List Str := ["words"]
theorem scp_letter_in : FnScope NN_letter_in ["words"] (defScope tx_letter_in) := ⟨rfl, rfl, rfl, by decide +kernel, rfl, by decide +kernel, by decide +kernel⟩
theorem cal_letter_in (T : Txt K mg) : Cal P w K mg base (L2.CX P w) 7 "letter_in" (sp_letter_in K) := by
  obtain ⟨fd, F⟩ := T.d_letter_in
  refine ⟨_, fd, ["words"], F.ok scp_letter_in (fun vs H Q E h => ?_) (fun cdv A outer s H vs Q E hr h => ?_), T.g_letter_in, F.kp, F.bindsN fun _ _ _ _ _ _ us hl => match us, hl with | [_], _ => rfl⟩
  · obtain ⟨wd, ws, ln, i, rfl, _⟩ := h
    rfl
  obtain ⟨wd, ws, ln, i, rfl, hW, hi, hT, k⟩ := h
  refine ⟨_, (pss_cons (ps_expr (pe_cam (pv 0) T.cls_Words (cal_Words_read_word T) hr (by decide) (passes_call (takes_of rfl rfl rfl rfl) (fun _ _ _ _ h => h)) (pa_cons (pe_tup (pa_cons (pe_gs T.c_COLON) pa_nil)) pa_nil)))
      (pss_one (ps_ret (pe_cam (pv 0) T.cls_Words (cal_Words_read_some T) hr (by decide) (passes_call (takes_of rfl rfl rfl rfl) (fun _ _ _ _ h => h)) (pa_cons (pe_gi T.c_MOST_ROOM) pa_nil))))), ?_⟩
  obtain ⟨dx, l, h1, h2⟩ := id hW
  refine ⟨_, rfl, wd, dx, _, rfl, h1, wf_no _ _ _ (by decide +kernel), ?_⟩
  refine ⟨le1000 (by simp), fun t ht => ?_⟩
  have s1 := sameNew (o := .tup [V.str ":"]) ht
  have hW1 := hW.same s1
  refine ⟨wd, ws, ln, i, t, [wColon], rfl, hW1, hi, .of upd_same, ?_⟩
  by_cases c : nxt ws i = wColon
  · refine .inl ⟨by rw [c]; simp, fun H2 f2 hW2 => ?_⟩
    obtain ⟨dx2, l2, g1, g2⟩ := id hW2
    have hil : i < ws.length := by
      refine Nat.lt_of_le_of_ne hi fun z => ?_
      have e : nxt ws i = "" := by rw [z]; simp [nxt]
      rw [e] at c
      exact absurd c (by decide +kernel)
    have f12 : Fr [wd] H H2 := (Fr.same s1).trans f2
    refine ⟨_, rfl, wd, dx2, _, rfl, g1, wf_no _ _ _ (by decide +kernel), wd, ws, ln, i + 1, 12, rfl, hW2, by omega, by decide, by decide, hT, ?_⟩
    rcases k with ⟨ns, _, q, k⟩ | ⟨q, k⟩
    · exact .inl ⟨ns, q, fun H' t f => k H' t (f12.trans f)⟩
    · exact .inr ⟨q c, fun fs => (k fs).of f12 fun d hd => hW2.freeOf f12 d hd⟩
  · refine .inr ⟨by simpa using c, ?_⟩
    rcases k with ⟨ns, q, _⟩ | ⟨q, k⟩
    · exact absurd q c
    · exact ((k _).of (Fr.same s1) fun d hd => s1.free hd).nil
def sp_numbers_text (K : Frag) : Sp := fun vs H Q _ => ∃ (a : Addr) (ns : List Int), vs = [.ref a] ∧ SqT K H a (ns.map .int) ∧ ns.length ≤ 900 ∧ (∀ n ∈ ns, 0 ≤ n ∧ n < 500) ∧ ∀ H', Same H H' → Q (.str (rowM ns)) H'
theorem len_sum (ns : List Int) : (∀ n ∈ ns, 0 ≤ n ∧ n < 500) → ((ns.map istr).map (·.length)).sum ≤ 3 * ns.length := by
  induction ns with
  | nil => intro _; simp
  | cons n ns ih =>
    intro h
    have := ih fun m hm => h m (List.mem_cons_of_mem _ hm)
    have h1 := (istr_ok (h n List.mem_cons_self).1 (h n List.mem_cons_self).2).1
    simp at this ⊢
    omega
abbrev tx_numbers_text : Stmt := top 48
abbrev NN_numbers_text : List Str := ["some", "one"]
theorem scp_numbers_text : FnScope NN_numbers_text ["some"] (defScope tx_numbers_text) := ⟨rfl, rfl, rfl, by decide +kernel, rfl, by decide +kernel, by decide +kernel⟩
theorem cal_numbers_text (T : Txt K mg) : Cal P w K mg base CX0 1 "numbers_text" (sp_numbers_text K) := by
  obtain ⟨fd, F⟩ := T.d_numbers_text
  refine ⟨_, fd, ["some"], F.ok scp_numbers_text (fun vs H Q E h => ?_) (fun cdv A outer s H vs Q E hr h => ?_), T.g_numbers_text, F.kp, F.bindsN fun _ _ _ _ _ _ us hl => match us, hl with | [_], _ => rfl⟩
  · obtain ⟨a, ns, rfl, _⟩ := h
    rfl
  obtain ⟨a, ns, rfl, hs, hl, hb, k⟩ := h
  refine ⟨_, PSs.nox (pss_one (ps_ret (pe_ifExp (pt_cmpR (op_neD (hu64 hr)) (pv 0) (pe_tup pa_nil) (nomark _)) (pe_join (pe_gs T.c_BLANK) (pe_lc (own := [("one", 1)]) (g := gName 1) (tt := tYes) rfl scp_numbers_text.nd (pi_tup (pv 0)) (blkOk_by (N := NN_numbers_text) (sc := defScope tx_numbers_text) (by decide +kernel)) (fun _ _ _ _ _ => (pg_name (i := 1) scp_numbers_text.nd rfl (.inl rfl))) (fun _ _ _ _ _ => pts_nil) (fun _ _ _ _ _ => (pe_callTy call_str_int (by rfl) T.z_str (by decide +kernel) (pa_cons (pv 1) pa_nil))))) (pe_gs T.c_NONE)))), ?_⟩
  refine ⟨_, rfl, le1000 (by simp), fun e he => ?_⟩
  have s0 := sameNew (o := .tup []) he
  refine neT (ns := ns) (ms := []) (sameT s0 _ _ hs) (.of upd_same) ⟨_, rfl, ?_⟩
  by_cases c : ns = []
  · rw [decide_eq_true c]
    refine iteF ?_
    have k' := k _ s0
    unfold rowM at k'
    rw [if_pos c] at k'
    exact k'
  · rw [decide_eq_false c]
    refine iteT ?_
    refine ⟨⟨_, rfl⟩, _, rfl, a, rfl, ⟨_, sameT s0 _ _ hs⟩, fun D hD => ?_⟩
    refine lc_ac (walk_tup (xs := ns.map .int)) ns (by simp) hD (fun d acc _ => acc = d.map fun n => V.str (istr n)) rfl (fun H1 s => sameT s _ _ (sameT s0 _ _ hs)) ?_ ?_
    · rintro d b r x acc H1 H2 e' s hD1 hl1 rfl ⟨rfl, hx⟩
      rw [e'] at hx
      cases mapGet hx
      have hbb := hb b (by rw [e']; simp)
      refine ⟨rfl, yesT ⟨_, rfl, b, rfl, (istr_ok hbb.1 hbb.2).2.1, ?_⟩⟩
      refine Lc.put hD s hD1 hl1 (by rw [e'] at hl; simp at hl; omega) ?_
      rw [List.map_append]
      rfl
    · rintro acc H1 s hD1 hl1 rfl
      refine ⟨_, D, ns.map istr, rfl, rfl, .inl (.of (by rw [List.map_map]; exact hD1)), ?_, ?_⟩
      · have := len_sum ns hb
        have h1 : (lit " ").length = 1 := by decide +kernel
        rw [h1]
        simp at this ⊢
        omega
      · have k' := k _ (s0.trans s)
        unfold rowM at k'
        rw [if_neg c] at k'
        exact k'
end
end NL
/-! D14: the receiver, what it tells -/
namespace NL
open PySem PySem.Spec PyProof.Rows L2
/-- tuples stay, those known as objects too -/
structure TF (K : Frag) (H H' : Hp) : Prop where
  tk : TK K H H'
  fz : ∀ a o xs, H a = some (.frz o (.tup xs)) → H' a = some (.frz o (.tup xs))
theorem Fr.tf {K : Frag} {S : List Addr} {H H' : Hp} (f : Fr S H H') : TF K H H' := ⟨f.tk, fun _ _ _ h => f _ _ h fun _ => trivial⟩
theorem tfS {K : Frag} {H H' : Hp} (s : Same H H') : TF K H H' := (Fr.same (S := []) s).tf
/-- mail at c -/
def MailV (K : Frag) (H : Hp) (c : Addr) (ms : List V) (m : Mail) : Prop := SqT K H c ms ∧ PtsM K H ms m ∧ (m ≠ [] → ∃ o, H c = some (.frz o (.tup ms)) ∧ o.dict = none)
theorem MailV.mono {K : Frag} {H H' : Hp} (t : TF K H H') {c : Addr} {ms : List V} {m : Mail} (h : MailV K H c ms m) : MailV K H' c ms m := by
  obtain ⟨h1, h2, h3⟩ := h
  refine ⟨t.tk _ _ h1, PtsM.mono t.tk h2, fun z => ?_⟩
  obtain ⟨o, e, d⟩ := h3 z
  exact ⟨o, t.fz _ _ _ e, d⟩
/-- a deed and the mail behind it -/
def PastE (K : Frag) (H : Hp) (v : V) (m : Mail) : Prop := ∃ b x c ms, v = .ref b ∧ SqT K H b [x, .ref c] ∧ MailV K H c ms m
theorem PastE.mono {K : Frag} {H H' : Hp} (t : TF K H H') {v : V} {m : Mail} (h : PastE K H v m) : PastE K H' v m := let ⟨b, x, c, ms, e, s, q⟩ := h; ⟨b, x, c, ms, e, t.tk _ _ s, q.mono t⟩
theorem nPL : ((lit "own_prime") == (lit "own_laying")) = false := by decide +kernel
theorem nPP : ((lit "own_prime") == (lit "own_past")) = false := by decide +kernel
theorem nLP : ((lit "own_laying") == (lit "own_past")) = false := by decide +kernel
theorem nQP : ((lit "own_past") == (lit "own_prime")) = false := by decide +kernel
theorem nQL : ((lit "own_past") == (lit "own_laying")) = false := by decide +kernel
theorem nYP : ((lit "own_laying") == (lit "own_prime")) = false := by decide +kernel
def rf (u v t : V) : List (Str × V) := [(lit "own_prime", u), (lit "own_laying", v), (lit "own_past", t)]
theorem rf_init (u v t : V) : putF (lit "own_past") t (putF (lit "own_laying") v (putF (lit "own_prime") u [])) = rf u v t := by
  rw [putF_nil, putF_ne nPL, putF_nil, putF_ne nPP, putF_ne nLP, putF_nil]
  rfl
theorem rf_put (u v t t' : V) : putF (lit "own_past") t' (rf u v t) = rf u v t' := by
  unfold rf
  rw [putF_ne nPP, putF_ne nLP, putF_eq (by simp)]
theorem rf_prime (u v t : V) : (rf u v t).lookup (lit "own_prime") = some u := by
  unfold rf
  rw [List.lookup_cons_self]
theorem rf_laying (u v t : V) : (rf u v t).lookup (lit "own_laying") = some v := by
  unfold rf
  simp only [List.lookup, nYP, beq_self_eq_true]
theorem rf_past (u v t : V) : (rf u v t).lookup (lit "own_past") = some t := by
  unfold rf
  simp only [List.lookup, nQP, nQL, beq_self_eq_true]
theorem rf_no (u v t : V) {m : Str} (h : ∀ f ∈ [lit "own_prime", lit "own_laying", lit "own_past"], (m == f) = false) : (rf u v t).lookup m = none := by
  unfold rf
  simp only [List.lookup, h _ (List.mem_cons_self ..), h _ (List.mem_cons_of_mem _ (List.mem_cons_self ..)), h _ (List.mem_cons_of_mem _ (List.mem_cons_of_mem _ (List.mem_cons_self ..)))]
/-- a receiver at r -/
structure RIn (K : Frag) (H : Hp) (r : Addr) (p : Int) (sh : List Int) (past : List Mail) (dx la t : Addr) (us : List V) : Prop where
  ob : H r = some (.ins (He.ga K "Receiver") dx (rf (.int p) (.ref la) (.ref t)))
  sq : SqT K H la (sh.map .int)
  pt : SqT K H t us
  es : All2 (PastE K H) us past
def RAt (K : Frag) (H : Hp) (r : Addr) (p : Int) (sh : List Int) (past : List Mail) : Prop := ∃ dx la t us, RIn K H r p sh past dx la t us
theorem RIn.mono {K : Frag} {S : List Addr} {H H' : Hp} {r : Addr} {p : Int} {sh : List Int} {past : List Mail} {dx la t : Addr} {us : List V} (h : RIn K H r p sh past dx la t us) (f : Fr S H H') (hr : r ∉ S) : RIn K H' r p sh past dx la t us :=
  ⟨f.at h.ob hr, f.tk _ _ h.sq, f.tk _ _ h.pt, h.es.imp fun _ _ q => q.mono f.tf⟩
theorem RAt.mono {K : Frag} {S : List Addr} {H H' : Hp} {r : Addr} {p : Int} {sh : List Int} {past : List Mail} (h : RAt K H r p sh past) (f : Fr S H H') (hr : r ∉ S) : RAt K H' r p sh past :=
  let ⟨dx, la, t, us, q⟩ := h; ⟨dx, la, t, us, q.mono f hr⟩
theorem All2.last {α β : Type} {R : α → β → Prop} {us : List α} {pre : List β} {m : β} (h : All2 R us (pre ++ [m])) : ∃ us0 u, us = us0 ++ [u] ∧ All2 R us0 pre ∧ R u m := by
  have hl := h.len
  refine ⟨us.take pre.length, us[pre.length]'(by rw [hl]; simp), ?_, ?_, ?_⟩
  · rw [List.take_append_getElem, List.take_of_length_le]
    rw [hl]
    simp
  · have := h.take pre.length
    rwa [List.take_left] at this
  · exact h.get (List.getElem?_eq_getElem (by rw [hl]; simp)) (by simp)
theorem atLast {α : Type} (xs : List α) (x : α) : atI (xs ++ [x]) (-1) = some x := by
  have h1 : ixN (xs ++ [x]).length (-1) = some xs.length := by
    unfold ixN
    rw [if_neg (by decide), if_pos (by simp only [List.length_append, List.length_cons, List.length_nil]; omega)]
    simp only [List.length_append, List.length_cons, List.length_nil]
    congr 1
    omega
  unfold atI
  rw [h1]
  simp
section
variable {P : Program} {w : World} {K : Frag} {mg : Str → Option Value} {base : Heap}
def sp_Receiver_mail (K : Frag) : Sp := fun vs H Q _ => ∃ (r : Addr) (p : Int) (sh : List Int) (past : List Mail), vs = [.ref r] ∧ RAt K H r p sh past ∧ PastOk p sh past ∧ ∀ c ms, MailV K H c ms (cur past) → Q (.ref c) H
abbrev tx_Receiver_mail : Stmt := inClass (top 40) 3
abbrev NN_Receiver_mail : List Str := ["self"]
theorem scp_Receiver_mail : FnScope NN_Receiver_mail ["self"] (defScope tx_Receiver_mail) := ⟨rfl, rfl, rfl, by decide +kernel, rfl, by decide +kernel, by decide +kernel⟩
theorem cal_Receiver_mail (T : Txt K mg) : CalM P w K mg base CX0 1 (He.ga K "Receiver") "mail" (sp_Receiver_mail K) := by
  obtain ⟨fd, F⟩ := T.d_Receiver_mail
  refine ⟨_, fd, ["self"], F.ok scp_Receiver_mail (fun vs H Q E h => ?_) (fun cdv A outer s H vs Q E hr h => ?_), T.m_Receiver_mail, F.bindsN fun _ _ _ _ _ _ us hl => match us, hl with | [_], _ => rfl⟩
  · obtain ⟨r, p, sh, past, rfl, _⟩ := h
    rfl
  obtain ⟨r, p, sh, past, rfl, ⟨dx, la, t, us, R⟩, ok, k⟩ := h
  refine ⟨_, PSs.nox (pss_one (ps_ret (pe_ix ix_tup (pe_ix ix_tup (pe_fld (pv 0) rfl) (pe_un un_neg pe_int) (fun _ _ => rfl)) pe_int (fun _ _ => rfl)))), ?_⟩
  have hes := R.es
  rw [ok.split] at hes
  obtain ⟨us0, u, rfl, _, b, x, c, ms, rfl, hb, hm⟩ := hes.last
  exact ⟨_, rfl, r, _, dx, _, _, rfl, R.ob, T.cls_Receiver, T.na_own_past, rf_past _ _ _, 1, rfl, t, _, _, _, rfl, rfl, R.pt, atLast _ _, b, _, _, _, rfl, rfl, hb, atI_nat (j := 1) rfl, k c ms hm⟩
def sp_Receiver_here (K : Frag) : Sp := fun vs H Q _ => ∃ (r : Addr) (p : Int) (sh : List Int) (past : List Mail), vs = [.ref r] ∧ RAt K H r p sh past ∧ PastOk p sh past ∧ sh.length ≤ 8 ∧ RetL ((cur past).map (·.1)) H Q
abbrev tx_Receiver_here : Stmt := inClass (top 40) 4
abbrev NN_Receiver_here : List Str := ["self", "pair"]
theorem scp_Receiver_here : FnScope NN_Receiver_here ["self"] (defScope tx_Receiver_here) := ⟨rfl, rfl, rfl, by decide +kernel, rfl, by decide +kernel, by decide +kernel⟩
theorem cal_Receiver_here (T : Txt K mg) : CalM P w K mg base CX0 2 (He.ga K "Receiver") "here" (sp_Receiver_here K) := by
  obtain ⟨fd, F⟩ := T.d_Receiver_here
  refine ⟨_, fd, ["self"], F.ok scp_Receiver_here (fun vs H Q E h => ?_) (fun cdv A outer s H vs Q E hr h => ?_), T.m_Receiver_here, F.bindsN fun _ _ _ _ _ _ us hl => match us, hl with | [_], _ => rfl⟩
  · obtain ⟨r, p, sh, past, rfl, _⟩ := h
    rfl
  obtain ⟨r, p, sh, past, rfl, ⟨dx, la, t, us, R⟩, ok, h8, k⟩ := h
  refine ⟨_, PSs.nox (pss_one (ps_ret (pe_lc (own := [("pair", 1)]) (g := gName 1) (tt := tYes) rfl scp_Receiver_here.nd (pi_tup (pe_cam0 (pv 0) T.cls_Receiver (cal_Receiver_mail T) hr (by decide) pass0)) (blkOk_by (N := NN_Receiver_here) (sc := defScope tx_Receiver_here) (by decide +kernel)) (fun _ _ _ _ _ => (pg_name (i := 1) scp_Receiver_here.nd rfl (.inl rfl))) (fun _ _ _ _ _ => pts_nil) (fun _ _ _ _ _ => (pe_ix (r := rIxT K) ix_tup (pv 1) pe_int (fun _ _ => rfl)))))), ?_⟩
  refine ⟨_, rfl, r, dx, _, rfl, R.ob, rf_no _ _ _ (by decide +kernel), r, p, sh, past, rfl, ⟨dx, la, t, us, R⟩, ok, fun c ms hm => ?_⟩
  obtain ⟨hc, hp, _⟩ := hm
  have hlen := ok.cur.len
  refine ⟨c, rfl, ⟨_, hc⟩, fun D hD => ?_⟩
  refine lc_ac (walk_tup (xs := ms)) (cur past) hp.len.symm hD (fun d acc _ => acc = d.map fun q => V.int q.1) rfl (fun H1 s => sameT s _ _ hc) ?_ ?_
  · rintro d q r' x acc H1 H2 e s hD1 hl1 rfl ⟨rfl, hx⟩
    obtain ⟨b, c', rfl, hq, _⟩ := (PtsM.mono (sameT s) hp).get hx (by rw [e]; exact getMid d q r')
    refine ⟨rfl, yesT ⟨_, rfl, b, _, _, _, rfl, rfl, hq, at0 _ _, ?_⟩⟩
    refine Lc.put hD s hD1 hl1 (by rw [e] at hlen; simp at hlen; omega) ?_
    simp
  · rintro acc H1 s hD1 hl1 rfl
    refine k H1 D s hD ?_
    rw [hD1, List.map_map]
    rfl
def sp_Receiver_known_by (K : Frag) : Sp := fun vs H Q _ => ∃ (r : Addr) (p : Int) (sh : List Int) (past : List Mail) (n : Nat), vs = [.ref r, .int (n : Nat)] ∧ RAt K H r p sh past ∧ ShOk sh ∧ n ≤ sh.length ∧ ∀ H', Same H H' → Q (.int (reachM sh n)) H'
abbrev tx_Receiver_known_by : Stmt := inClass (top 40) 7
abbrev NN_Receiver_known_by : List Str := ["self", "many"]
theorem scp_Receiver_known_by : FnScope NN_Receiver_known_by ["self", "many"] (defScope tx_Receiver_known_by) := ⟨rfl, rfl, rfl, by decide +kernel, rfl, by decide +kernel, by decide +kernel⟩
theorem cal_Receiver_known_by (T : Txt K mg) : CalM P w K mg base CX0 2 (He.ga K "Receiver") "known_by" (sp_Receiver_known_by K) := by
  obtain ⟨fd, F⟩ := T.d_Receiver_known_by
  refine ⟨_, fd, ["self", "many"], F.ok scp_Receiver_known_by (fun vs H Q E h => ?_) (fun cdv A outer s H vs Q E hr h => ?_), T.m_Receiver_known_by, F.bindsN fun _ _ _ _ _ _ us hl => match us, hl with | [_, _], _ => rfl⟩
  · obtain ⟨r, p, sh, past, n, rfl, _⟩ := h
    rfl
  obtain ⟨r, p, sh, past, n, rfl, ⟨dx, la, t, us, R⟩, hs, hn, k⟩ := h
  refine ⟨_, PSs.nox (pss_one (ps_ret (pe_ifExp (pt_cmpR op_gt (pv 1) pe_int (nomark _)) (pe_ix ix_list (pe_cal (cal_profile_in T) hr (by decide) pass0 (pa_cons (pe_fld (pv 0) rfl) pa_nil)) (pe_op op_sub (pv 1) pe_int) (fun _ _ => rfl)) pe_int))), ?_⟩
  refine ⟨_, rfl, _, _, rfl, rfl, _, rfl, ?_⟩
  cases n with
  | zero =>
    refine iteFb (decide_eq_false (by omega)) ?_
    exact k H fun _ _ e => e
  | succ n =>
    refine iteTb (decide_eq_true (by omega)) ?_
    refine ⟨_, rfl, r, _, dx, _, _, rfl, R.ob, T.cls_Receiver, T.na_own_laying, rf_laying _ _ _, la, sh, rfl, R.sq, by have := hs.len.2; omega, fun H1 f s1 hf0 hf => ?_⟩
    refine ⟨_, rfl, _, _, rfl, rfl, f, _, _, _, rfl, rfl, .of hf, ?_, k H1 s1⟩
    have e : ((n + 1 : Nat) : Int) - 1 = (n : Int) := by omega
    rw [e]
    refine atI_nat ?_
    have hl : n < (stairM sh).length := by rw [show (stairM sh).length = sh.length from stairS_len sh]; omega
    rw [List.getElem?_map, List.getElem?_eq_getElem hl]
    unfold reachM
    rw [List.getD_eq_getElem?_getD, List.getElem?_cons_succ, List.getElem?_eq_getElem hl]
    rfl
def sp_Receiver_known (K : Frag) : Sp := fun vs H Q _ => ∃ (r : Addr) (p : Int) (sh : List Int) (past : List Mail), vs = [.ref r] ∧ RAt K H r p sh past ∧ PastOk p sh past ∧ ShOk sh ∧ ∀ H', Same H H' → Q (.int (reachM sh (cur past).length)) H'
abbrev tx_Receiver_known : Stmt := inClass (top 40) 8
abbrev NN_Receiver_known : List Str := ["self"]
theorem scp_Receiver_known : FnScope NN_Receiver_known ["self"] (defScope tx_Receiver_known) := ⟨rfl, rfl, rfl, by decide +kernel, rfl, by decide +kernel, by decide +kernel⟩
theorem cal_Receiver_known (T : Txt K mg) : CalM P w K mg base CX0 3 (He.ga K "Receiver") "known" (sp_Receiver_known K) := by
  obtain ⟨fd, F⟩ := T.d_Receiver_known
  refine ⟨_, fd, ["self"], F.ok scp_Receiver_known (fun vs H Q E h => ?_) (fun cdv A outer s H vs Q E hr h => ?_), T.m_Receiver_known, F.bindsN fun _ _ _ _ _ _ us hl => match us, hl with | [_], _ => rfl⟩
  · obtain ⟨r, p, sh, past, rfl, _⟩ := h
    rfl
  obtain ⟨r, p, sh, past, rfl, ⟨dx, la, t, us, R⟩, ok, hs, k⟩ := h
  refine ⟨_, PSs.nox (pss_one (ps_ret (pe_cam (pv 0) T.cls_Receiver (cal_Receiver_known_by T) hr (by decide) pass0 (pa_cons (pe_callB call_len_seq (by rfl) T.z_len PySem.boot_len (pa_cons (pe_cam0 (pv 0) T.cls_Receiver (cal_Receiver_mail T) hr (by decide) pass0) pa_nil)) pa_nil)))), ?_⟩
  have hlen := ok.cur.len
  refine ⟨_, rfl, r, dx, _, rfl, R.ob, rf_no _ _ _ (by decide +kernel), _, rfl, r, dx, _, rfl, R.ob, rf_no _ _ _ (by decide +kernel), r, p, sh, past, rfl, ⟨dx, la, t, us, R⟩, ok, fun c ms hm => ?_⟩
  have e : ms.length = (cur past).length := hm.2.1.len
  refine ⟨c, ms, rfl, .inr hm.1, ?_⟩
  rw [e]
  exact ⟨r, p, sh, past, _, rfl, ⟨dx, la, t, us, R⟩, hs, hlen, k⟩
def sp_Receiver_more (K : Frag) : Sp := fun vs H Q _ => ∃ (r : Addr) (p : Int) (sh : List Int) (past : List Mail), vs = [.ref r] ∧ RAt K H r p sh past ∧ PastOk p sh past ∧ ShOk sh ∧ ∀ H', Same H H' → Q (.int (moreM sh (cur past).length)) H'
abbrev tx_Receiver_more : Stmt := inClass (top 40) 9
abbrev NN_Receiver_more : List Str := ["self", "many"]
theorem scp_Receiver_more : FnScope NN_Receiver_more ["self"] (defScope tx_Receiver_more) := ⟨rfl, rfl, rfl, by decide +kernel, rfl, by decide +kernel, by decide +kernel⟩
theorem cal_Receiver_more (T : Txt K mg) : CalM P w K mg base CX0 3 (He.ga K "Receiver") "more" (sp_Receiver_more K) := by
  obtain ⟨fd, F⟩ := T.d_Receiver_more
  refine ⟨_, fd, ["self"], F.ok scp_Receiver_more (fun vs H Q E h => ?_) (fun cdv A outer s H vs Q E hr h => ?_), T.m_Receiver_more, F.bindsN fun _ _ _ _ _ _ us hl => match us, hl with | [_], _ => rfl⟩
  · obtain ⟨r, p, sh, past, rfl, _⟩ := h
    rfl
  obtain ⟨r, p, sh, past, rfl, ⟨dx, la, t, us, R⟩, ok, hs, k⟩ := h
  refine ⟨_, PSs.nox (pss_cons (ps_set (i := 1) scp_Receiver_more.nd rfl (.inl rfl) (pe_callB call_len_seq (by rfl) T.z_len PySem.boot_len (pa_cons (pe_cam0 (pv 0) T.cls_Receiver (cal_Receiver_mail T) hr (by decide) pass0) pa_nil)))
      (pss_one (ps_ret (pe_ifExp (pt_cmpR op_lt (pv 1) (pe_callB call_len_seq (by rfl) T.z_len PySem.boot_len (pa_cons (pe_fld (pv 0) rfl) pa_nil)) (nomark _)) (pe_op op_sub (pe_cam (pv 0) T.cls_Receiver (cal_Receiver_known_by T) hr (by decide) pass0 (pa_cons (pe_op op_add (pv 1) pe_int) pa_nil)) (pe_cam (pv 0) T.cls_Receiver (cal_Receiver_known_by T) hr (by decide) pass0 (pa_cons (pv 1) pa_nil))) pe_int)))), ?_⟩
  have hlen := ok.cur.len
  refine ⟨_, rfl, r, dx, _, rfl, R.ob, rf_no _ _ _ (by decide +kernel), r, p, sh, past, rfl, ⟨dx, la, t, us, R⟩, ok, fun c ms hm => ?_⟩
  have e : ms.length = (cur past).length := hm.2.1.len
  refine ⟨c, ms, rfl, .inr hm.1, ?_⟩
  rw [e]
  refine ⟨_, rfl, _, rfl, r, _, dx, _, _, rfl, R.ob, T.cls_Receiver, T.na_own_laying, rf_laying _ _ _, la, _, rfl, .inr R.sq, _, _, rfl, rfl, _, rfl, ?_⟩
  rw [List.length_map]
  unfold moreM at k
  by_cases c2 : (cur past).length < sh.length
  · refine iteTb (decide_eq_true (by omega)) ?_
    rw [if_pos c2] at k
    refine ⟨_, rfl, r, dx, _, rfl, R.ob, rf_no _ _ _ (by decide +kernel), _, rfl, _, _, rfl, rfl, r, p, sh, past, (cur past).length + 1, rfl, ⟨dx, la, t, us, R⟩, hs, c2, fun H1 s1 => ?_⟩
    have R1 := R.mono (Fr.same (S := []) s1) (by simp)
    exact ⟨_, rfl, r, dx, _, rfl, R1.ob, rf_no _ _ _ (by decide +kernel), _, rfl, r, p, sh, past, (cur past).length, rfl, ⟨dx, la, t, us, R1⟩, hs, hlen, fun H2 s2 => ⟨_, _, rfl, rfl, k H2 (s1.trans s2)⟩⟩
  · refine iteFb (decide_eq_false (by omega)) ?_
    rw [if_neg c2] at k
    exact k H fun _ _ e => e
def sp_Receiver_prime (K : Frag) : Sp := fun vs H Q _ => ∃ (r : Addr) (p : Int) (sh : List Int) (past : List Mail), vs = [.ref r] ∧ RAt K H r p sh past ∧ Q (.int p) H
abbrev tx_Receiver_prime : Stmt := inClass (top 40) 1
abbrev NN_Receiver_prime : List Str := ["self"]
theorem scp_Receiver_prime : FnScope NN_Receiver_prime ["self"] (defScope tx_Receiver_prime) := ⟨rfl, rfl, rfl, by decide +kernel, rfl, by decide +kernel, by decide +kernel⟩
theorem cal_Receiver_prime (T : Txt K mg) : CalP P w K mg base CX0 1 (He.ga K "Receiver") "prime" (sp_Receiver_prime K) := by
  obtain ⟨p_, g_, fd, M_, F⟩ := T.p_Receiver_prime
  refine ⟨p_, g_, fd, ["self"], M_, F.ok scp_Receiver_prime (fun vs H Q E h => ?_) (fun cdv A outer s H vs Q E hr h => ?_), F.bindsN fun _ _ _ _ _ _ us hl => match us, hl with | [_], _ => rfl⟩
  · obtain ⟨r, p, sh, past, rfl, _⟩ := h
    rfl
  obtain ⟨r, p, sh, past, rfl, ⟨dx, la, t, us, R⟩, k⟩ := h
  refine ⟨_, PSs.nox (pss_one (ps_ret (pe_fld (pv 0) rfl))), ?_⟩
  exact ⟨_, rfl, r, _, dx, _, _, rfl, R.ob, T.cls_Receiver, T.na_own_prime, rf_prime _ _ _, k⟩
def sp_Receiver_laying (K : Frag) : Sp := fun vs H Q _ => ∃ (r : Addr) (p : Int) (sh : List Int) (past : List Mail), vs = [.ref r] ∧ RAt K H r p sh past ∧ ∀ la, SqT K H la (sh.map .int) → Q (.ref la) H
abbrev tx_Receiver_laying : Stmt := inClass (top 40) 2
abbrev NN_Receiver_laying : List Str := ["self"]
theorem scp_Receiver_laying : FnScope NN_Receiver_laying ["self"] (defScope tx_Receiver_laying) := ⟨rfl, rfl, rfl, by decide +kernel, rfl, by decide +kernel, by decide +kernel⟩
theorem cal_Receiver_laying (T : Txt K mg) : CalP P w K mg base CX0 1 (He.ga K "Receiver") "laying" (sp_Receiver_laying K) := by
  obtain ⟨p_, g_, fd, M_, F⟩ := T.p_Receiver_laying
  refine ⟨p_, g_, fd, ["self"], M_, F.ok scp_Receiver_laying (fun vs H Q E h => ?_) (fun cdv A outer s H vs Q E hr h => ?_), F.bindsN fun _ _ _ _ _ _ us hl => match us, hl with | [_], _ => rfl⟩
  · obtain ⟨r, p, sh, past, rfl, _⟩ := h
    rfl
  obtain ⟨r, p, sh, past, rfl, ⟨dx, la, t, us, R⟩, k⟩ := h
  refine ⟨_, PSs.nox (pss_one (ps_ret (pe_fld (pv 0) rfl))), ?_⟩
  exact ⟨_, rfl, r, _, dx, _, _, rfl, R.ob, T.cls_Receiver, T.na_own_laying, rf_laying _ _ _, k la R.sq⟩
/-- any of the program's own refusals -/
def nestL : List Str := [lit "BadNumber", lit "BadPrime", lit "BadLaying", lit "Unsound", lit "BadLetter", lit "BadText"]
def FlyN (K : Frag) (S : List Addr) (H : Hp) (E : XK) : Prop := ∀ x ∈ nestL, ∀ fs, Fly K x fs S H E
theorem FlyN.of {K : Frag} {S : List Addr} {H H1 : Hp} {E : XK} (h : FlyN K S H E) (f : Fr S H H1) (hs : ∀ d, H1 d = none → H d = none) : FlyN K S H1 E := fun x m fs => (h x m fs).of f hs
theorem mailAt {H : Hp} {p : Int} {sh : List Int} {past : List Mail} {r dx la t : Addr} {us : List V} (R : RIn K H r p sh past dx la t us) (ok : PastOk p sh past) (hs : ShOk sh) (hp : Prm p) {c : Addr} {ms : List V} (hm : MailV K H c ms (cur past)) : MailAt K H p la sh ms (cur past) :=
  ⟨R.sq, hm.2.1, hp, hs, ok.cur.ok, by have := ok.cur.len; have := hs.len.2; omega⟩
def sp_Receiver_read (K : Frag) : Sp := fun vs H Q E => ∃ (r : Addr) (p : Int) (sh : List Int) (past : List Mail), vs = [.ref r] ∧ RAt K H r p sh past ∧ PastOk p sh past ∧ ShOk sh ∧ Prm p ∧
  ((okM p sh (cur past) = true ∧ RetT K (readM p sh (cur past)) H Q) ∨ (okM p sh (cur past) = false ∧ FlyN K [] H E))
abbrev tx_Receiver_read : Stmt := inClass (top 40) 10
abbrev NN_Receiver_read : List Str := ["self", "unfit"]
theorem scp_Receiver_read : FnScope NN_Receiver_read ["self"] (defScope tx_Receiver_read) := ⟨rfl, rfl, rfl, by decide +kernel, rfl, by decide +kernel, by decide +kernel⟩
theorem cal_Receiver_read (T : Txt K mg) : CalM P w K mg base (L2.CX P w) 6 (He.ga K "Receiver") "read" (sp_Receiver_read K) := by
  obtain ⟨fd, F⟩ := T.d_Receiver_read
  refine ⟨_, fd, ["self"], F.ok scp_Receiver_read (fun vs H Q E h => ?_) (fun cdv A outer s H vs Q E hr h => ?_), T.m_Receiver_read, F.bindsN fun _ _ _ _ _ _ us hl => match us, hl with | [_], _ => rfl⟩
  · obtain ⟨r, p, sh, past, rfl, _⟩ := h
    rfl
  obtain ⟨r, p, sh, past, rfl, ⟨dx, la, t, us, R⟩, ok, hs, hp, k⟩ := h
  refine ⟨_, (pss_cons (ps_set (i := 1) scp_Receiver_read.nd rfl (.inl rfl) (pe_cal (cal_unfit_in T) hr (by decide) pass0 (pa_cons (pe_fld (pv 0) rfl) (pa_cons (pe_fld (pv 0) rfl) (pa_cons (pe_cam0 (pv 0) T.cls_Receiver (cal_Receiver_mail T) hr (by decide) pass0) pa_nil)))))
      (pss_cons (ps_if (pt_cmpR (op_neD (hu64 hr)) (pv 1) (pe_lst pa_nil) (nomark _)) (pss_one (ps_raise rfl (takes_of rfl rfl rfl rfl) (pmk_Unsound T hr (by decide) (pa_cons (pe_ix ix_list (pv 1) pe_int (fun _ _ => rfl)) pa_nil)))) pss_nil)
      (pss_one (ps_ret (pe_cal (cal_read_in T) hr (by decide) pass0 (pa_cons (pe_fld (pv 0) rfl) (pa_cons (pe_fld (pv 0) rfl) (pa_cons (pe_cam0 (pv 0) T.cls_Receiver (cal_Receiver_mail T) hr (by decide) pass0) pa_nil)))))))), ?_⟩
  refine ⟨_, rfl, r, _, dx, _, _, rfl, R.ob, T.cls_Receiver, T.na_own_prime, rf_prime _ _ _, _, rfl, r, _, dx, _, _, rfl, R.ob, T.cls_Receiver, T.na_own_laying, rf_laying _ _ _, _, rfl, r, dx, _, rfl, R.ob, rf_no _ _ _ (by decide +kernel), r, p, sh, past, rfl, ⟨dx, la, t, us, R⟩, ok, fun c ms hm => ?_⟩
  have hM := mailAt R ok hs hp hm
  refine ⟨p, la, sh, c, ms, cur past, rfl, hm.1, hM, fun ns hns H1 l s1 hl0 hl => ?_⟩
  refine ⟨_, rfl, le1000 (by simp), fun e he => ?_⟩
  have hle : l ≠ e := ne_of_none hl he
  have s2 := s1.trans (sameNew (o := .lst []) he)
  have R2 := R.mono (Fr.same (S := []) s2) (by simp)
  refine neL (ns := ns) (ms := []) (.of (by rw [upd_ne hle]; exact hl)) (.of upd_same) ⟨_, rfl, ?_⟩
  rcases k with ⟨hok, k⟩ | ⟨hok, k⟩
  · have e0 : ns = [] := hns.mpr hok
    refine iteFb (by rw [e0]; rfl) ?_
    refine ⟨_, rfl, r, _, dx, _, _, rfl, R2.ob, T.cls_Receiver, T.na_own_prime, rf_prime _ _ _, _, rfl, r, _, dx, _, _, rfl, R2.ob, T.cls_Receiver, T.na_own_laying, rf_laying _ _ _, _, rfl, r, dx, _, rfl, R2.ob, rf_no _ _ _ (by decide +kernel), r, p, sh, past, rfl, ⟨dx, la, t, us, R2⟩, ok, fun c2 ms2 hm2 => ?_⟩
    exact ⟨p, la, sh, c2, ms2, cur past, rfl, hm2.1, mailAt R2 ok hs hp hm2, fun H3 q s3 hq => k H3 q (s2.trans s3) hq⟩
  · obtain ⟨n0, r0, e0⟩ : ∃ n0 r0, ns = n0 :: r0 := by
      cases ns with
      | nil =>
        rw [hns.mp rfl] at hok
        cases hok
      | cons a b => exact ⟨a, b, rfl⟩
    refine iteTb (by rw [e0]; rfl) ?_
    refine ⟨_, rfl, l, _, _, _, rfl, rfl, .of (by rw [upd_ne hle]; exact hl), by rw [e0]; exact at0 _ _, ?_⟩
    exact mkk1 ((k "Unsound" (by decide +kernel) _).of (Fr.same s2) fun d h => s2.free h)
def sp_Receiver_suspects (K : Frag) : Sp := fun vs H Q _ => ∃ (r : Addr) (p : Int) (sh : List Int) (past : List Mail), vs = [.ref r] ∧ RAt K H r p sh past ∧ PastOk p sh past ∧ ShOk sh ∧ Prm p ∧ RetT K (susM p sh (cur past)) H Q
abbrev tx_Receiver_suspects : Stmt := inClass (top 40) 11
abbrev NN_Receiver_suspects : List Str := ["self"]
theorem scp_Receiver_suspects : FnScope NN_Receiver_suspects ["self"] (defScope tx_Receiver_suspects) := ⟨rfl, rfl, rfl, by decide +kernel, rfl, by decide +kernel, by decide +kernel⟩
theorem cal_Receiver_suspects (T : Txt K mg) : CalM P w K mg base CX0 7 (He.ga K "Receiver") "suspects" (sp_Receiver_suspects K) := by
  obtain ⟨fd, F⟩ := T.d_Receiver_suspects
  refine ⟨_, fd, ["self"], F.ok scp_Receiver_suspects (fun vs H Q E h => ?_) (fun cdv A outer s H vs Q E hr h => ?_), T.m_Receiver_suspects, F.bindsN fun _ _ _ _ _ _ us hl => match us, hl with | [_], _ => rfl⟩
  · obtain ⟨r, p, sh, past, rfl, _⟩ := h
    rfl
  obtain ⟨r, p, sh, past, rfl, ⟨dx, la, t, us, R⟩, ok, hs, hp, k⟩ := h
  refine ⟨_, PSs.nox (pss_one (ps_ret (pe_callTy call_tuple_of (by rfl) T.z_tuple (by decide +kernel) (pa_cons (pe_cal (cal_suspects_in T) hr (by decide) pass0 (pa_cons (pe_fld (pv 0) rfl) (pa_cons (pe_fld (pv 0) rfl) (pa_cons (pe_cam0 (pv 0) T.cls_Receiver (cal_Receiver_mail T) hr (by decide) pass0) pa_nil)))) pa_nil)))), ?_⟩
  refine ⟨_, rfl, r, _, dx, _, _, rfl, R.ob, T.cls_Receiver, T.na_own_prime, rf_prime _ _ _, _, rfl, r, _, dx, _, _, rfl, R.ob, T.cls_Receiver, T.na_own_laying, rf_laying _ _ _, _, rfl, r, dx, _, rfl, R.ob, rf_no _ _ _ (by decide +kernel), r, p, sh, past, rfl, ⟨dx, la, t, us, R⟩, ok, fun c ms hm => ?_⟩
  refine ⟨p, la, sh, c, ms, cur past, rfl, hm.1, mailAt R ok hs hp hm, fun H1 l s1 hl0 hl => ?_⟩
  exact ⟨l, _, rfl, .inl ⟨.of hl, fun q hq => k _ q (s1.trans (sameNew hq)) (.of upd_same)⟩⟩
def sp_Receiver_len (K : Frag) : Sp := fun vs H Q _ => ∃ (r : Addr) (p : Int) (sh : List Int) (past : List Mail), vs = [.ref r] ∧ RAt K H r p sh past ∧ PastOk p sh past ∧ ∀ H', Same H H' → Q (.int ((past.length : Int) - 1)) H'
abbrev tx_Receiver_len : Stmt := inClass (top 40) 15
abbrev NN_Receiver_len : List Str := ["self"]
theorem scp_Receiver_len : FnScope NN_Receiver_len ["self"] (defScope tx_Receiver_len) := ⟨rfl, rfl, rfl, by decide +kernel, rfl, by decide +kernel, by decide +kernel⟩
theorem cal_Receiver_len (T : Txt K mg) : CalM P w K mg base CX0 1 (He.ga K "Receiver") "__len__" (sp_Receiver_len K) := by
  obtain ⟨fd, F⟩ := T.d_Receiver_len
  refine ⟨_, fd, ["self"], F.ok scp_Receiver_len (fun vs H Q E h => ?_) (fun cdv A outer s H vs Q E hr h => ?_), T.m_Receiver_len, F.bindsN fun _ _ _ _ _ _ us hl => match us, hl with | [_], _ => rfl⟩
  · obtain ⟨r, p, sh, past, rfl, _⟩ := h
    rfl
  obtain ⟨r, p, sh, past, rfl, ⟨dx, la, t, us, R⟩, ok, k⟩ := h
  refine ⟨_, PSs.nox (pss_one (ps_ret (pe_callB call_len_seq (by rfl) T.z_len PySem.boot_len (pa_cons (pe_slice sl_tupA (pe_fld (pv 0) rfl) (po_some pe_int) po_none) pa_nil)))), ?_⟩
  have hul := R.es.len
  have hpos := List.length_pos_iff.mpr ok.ne
  refine ⟨_, rfl, r, _, dx, _, _, rfl, R.ob, T.cls_Receiver, T.na_own_past, rf_past _ _ _, 1, rfl, t, us, rfl, R.pt, ?_, ?_⟩
  · intro ⟨z, _⟩
    exfalso
    have z' : min 1 us.length = 0 := z
    omega
  · intro _ q hq
    refine ⟨q, _, rfl, .inr (.of upd_same), ?_⟩
    rw [cutFrom _ (by decide)]
    rw [show (((us.drop (1 : Int).toNat).length : Nat) : Int) = (past.length : Int) - 1 by simp; omega]
    exact k _ (sameNew hq)
end
end NL
/-! D15: the receiver made, a letter comes -/
namespace NL
open PySem PySem.Spec PyProof.Rows L2
theorem zip_pairs {α β : Type} {R : α → β → Prop} {as : List α} {bs : List β} (h : All2 R as bs) : ∀ c ∈ List.zip as bs, R c.1 c.2 := by
  induction h with
  | nil => intro c hc; simp at hc
  | cons r _ ih =>
    intro c hc
    rw [List.zip_cons_cons] at hc
    rcases List.mem_cons.mp hc with rfl | hc
    · exact r
    · exact ih c hc
theorem all2_of {α β : Type} {R : α → β → Prop} : ∀ cs : List (α × β), (∀ c ∈ cs, R c.1 c.2) → All2 R (cs.map (·.1)) (cs.map (·.2))
  | [], _ => .nil
  | c :: cs, h => .cons (h c List.mem_cons_self) (all2_of cs fun d hd => h d (List.mem_cons_of_mem _ hd))
theorem zip_fst {α β : Type} {R : α → β → Prop} {as : List α} {bs : List β} (h : All2 R as bs) : (List.zip as bs).map (·.1) = as ∧ (List.zip as bs).map (·.2) = bs := by
  induction h with
  | nil => exact ⟨rfl, rfl⟩
  | cons _ _ ih => simp [ih]
theorem inInt (n : Int) (ks : List Int) : inV (.int n) (ks.map .int) = decide (n ∈ ks) := by
  induction ks with
  | nil => rfl
  | cons s ss ih =>
    show (eqV (.int s) (.int n) || inV (.int n) (ss.map .int)) = _
    rw [ih, Bool.eq_iff_iff]
    simp only [eqV, Bool.or_eq_true, beq_iff_eq, decide_eq_true_eq, List.mem_cons]
    exact or_congr ⟨Eq.symm, Eq.symm⟩ Iff.rfl
section
variable {P : Program} {w : World} {K : Frag} {mg : Str → Option Value} {base : Heap}
def sp_Receiver_init (K : Frag) : Sp := fun vs H Q E => ∃ (r dx la : Addr) (p : Int) (ns : List Int), vs = [.ref r, .int p, .ref la] ∧ H r = some (.ins (He.ga K "Receiver") dx []) ∧ SqT K H la (ns.map .int) ∧ ns.length ≤ 900 ∧
  ((Prm p ∧ layB ns = true ∧ ∀ H', Fr [r] H H' → RAt K H' r p ns [[]] → Q .non H') ∨ (¬ Prm p ∧ Fly K "BadPrime" [("given", .int p)] [] H E) ∨ (Prm p ∧ layB ns = false ∧ Fly K "BadLaying" [("given", .ref la)] [] H E))
abbrev tx_Receiver_init : Stmt := inClass (top 40) 0
abbrev NN_Receiver_init : List Str := ["self", "prime", "laying"]
theorem scp_Receiver_init : FnScope NN_Receiver_init ["self", "prime", "laying"] (defScope tx_Receiver_init) := ⟨rfl, rfl, rfl, by decide +kernel, rfl, by decide +kernel, by decide +kernel⟩
theorem new_Receiver (T : Txt K mg) : CalI P w K mg base (L2.CX P w) 5 "Receiver" (sp_Receiver_init K) := by
  obtain ⟨fd, F⟩ := T.d_Receiver_init
  refine ⟨_, fd, ["self", "prime", "laying"], F.ok scp_Receiver_init (fun vs H Q E h => ?_) (fun cdv A outer s H vs Q E hr h => ?_), T.mk_Receiver, T.g_Receiver, F.bindsN fun _ _ _ _ _ _ us hl => match us, hl with | [_, _, _], _ => rfl⟩
  · obtain ⟨r, dx, la, p, ns, rfl, _⟩ := h
    rfl
  obtain ⟨r, dx, la, p, ns, rfl, hr0, hs, hl, k⟩ := h
  refine ⟨_, (pss_cons (ps_expr (pe_cal (cal_need_prime T) hr (by decide) (passes_call (takes_of rfl rfl rfl rfl) (fun _ _ _ _ h => h)) (pa_cons (pv 1) pa_nil)))
      (pss_cons (ps_expr (pe_cal (cal_need_laying T) hr (by decide) (passes_call (takes_of rfl rfl rfl rfl) (fun _ _ _ _ h => h)) (pa_cons (pv 2) pa_nil)))
      (pss_cons (ps_fld (pv 0) (pv 1) rfl)
      (pss_cons (ps_fld (pv 0) (pv 2) rfl)
      (pss_one (ps_fld (pv 0) (pe_tup (pa_cons (pe_tup (pa_cons (pe_tup pa_nil) (pa_cons (pe_tup pa_nil) pa_nil))) pa_nil)) rfl)))))), ?_⟩
  refine ⟨_, rfl, p, rfl, ?_⟩
  rcases k with ⟨hp, hb, k⟩ | ⟨hp, k⟩ | ⟨hp, hb, k⟩
  · refine .inl ⟨hp, _, rfl, la, ns, rfl, hs, hl, .inl ⟨hb, fun H1 s1 => ?_⟩⟩
    have h1 := s1 _ _ hr0
    refine ⟨_, rfl, _, rfl, r, _, dx, _, rfl, h1, T.cls_Receiver, T.na_own_prime, by simp, ?_⟩
    refine ⟨_, rfl, _, rfl, r, _, dx, _, rfl, upd_same, T.cls_Receiver, T.na_own_laying, by rw [putF_nil]; simp, ?_⟩
    refine ⟨le1000 (by simp), fun e1 he1 => ?_⟩
    refine ⟨le1000 (by simp), fun e2 he2 => ?_⟩
    refine ⟨le1000 (by simp), fun e3 he3 => ?_⟩
    refine ⟨le1000 (by simp), fun e4 he4 => ?_⟩
    -- the heap ahead of the last store
    generalize hG : (upd (upd H1 r (.ins (He.ga K "Receiver") dx (putF (lit "own_prime") (V.int p) []))) r (.ins (He.ga K "Receiver") dx (putF (lit "own_laying") (V.ref la) (putF (lit "own_prime") (V.int p) [])))) = G at *
    have hGr : G r = some (.ins (He.ga K "Receiver") dx (putF (lit "own_laying") (V.ref la) (putF (lit "own_prime") (V.int p) []))) := by rw [← hG, upd_same]
    have fG : Fr [r] H1 G := fun b o e q => by
      by_cases c : b = r
      · subst c
        rw [h1] at e
        cases e
        exact (q (by simp)).elim
      · rw [← hG, upd_ne c, upd_ne c]
        exact e
    have sG := (((sameNew (o := .tup []) he1).trans (sameNew (o := .tup []) he2)).trans (sameNew (o := .tup [V.ref e1, V.ref e2]) he3)).trans (sameNew (o := .tup [V.ref e3]) he4)
    refine ⟨_, rfl, r, _, dx, _, rfl, sG _ _ hGr, T.cls_Receiver, T.na_own_past, by rw [putF_nil, putF_ne nPL, putF_nil]; simp, ?_⟩
    rw [rf_init]
    refine k _ ?_ ?_
    · refine ((Fr.same s1).trans fG).trans ((Fr.same sG).trans (frUpd (by simp) (sG _ _ hGr) (fun z => z)))
    · have tkL : TK K G _ := ((Fr.same sG).trans (frUpd (S := [r]) (o := .ins (He.ga K "Receiver") dx (rf (V.int p) (V.ref la) (V.ref e4))) (by simp) (sG _ _ hGr) (fun z => z))).tk
      have tk4 : ∀ {G4 : Hp}, G4 r = some (.ins (He.ga K "Receiver") dx (putF (lit "own_laying") (V.ref la) (putF (lit "own_prime") (V.int p) []))) → TK K G4 (upd G4 r (.ins (He.ga K "Receiver") dx (rf (V.int p) (V.ref la) (V.ref e4)))) := fun h => (frUpd (S := [r]) (by simp) h (fun z => z)).tk
      refine ⟨dx, la, e4, [.ref e3], upd_same, tkL _ _ (fG.tk _ _ (sameT s1 _ _ hs)), tk4 (sG _ _ hGr) _ _ (.of upd_same), .one ⟨e3, .ref e1, e2, [], rfl, ?_, ?_, .nil, fun z => absurd rfl z⟩⟩
      · exact tk4 (sG _ _ hGr) _ _ (sameT (sameNew he4) _ _ (.of upd_same))
      · exact tk4 (sG _ _ hGr) _ _ (sameT ((sameNew (o := .tup [V.ref e1, V.ref e2]) he3).trans (sameNew he4)) _ _ (.of upd_same))
  · exact .inr ⟨hp, k⟩
  · exact .inl ⟨hp, _, rfl, la, ns, rfl, hs, hl, .inr ⟨hb, k⟩⟩
end
end NL
/-! D16: come -/
namespace NL
open PySem PySem.Spec PyProof.Rows L2
/-- a letter that may come -/
def comeB (p : Int) (sh : List Int) (m : Mail) (n : Int) (ns : List Int) : Bool := decide (0 ≤ n ∧ n ≤ (sh.length : Int) - 1) && !decide (n ∈ m.map (·.1)) && signsB p ns && decide ((ns.length : Int) = sh.sum)
section
variable {P : Program} {w : World} {K : Frag} {mg : Str → Option Value} {base : Heap}
def sp_Receiver_come (K : Frag) : Sp := fun vs H Q E => ∃ (r lt : Addr) (p n : Int) (sh ns : List Int) (past : List Mail), vs = [.ref r, .int n, .ref lt] ∧ RAt K H r p sh past ∧ PastOk p sh past ∧ ShOk sh ∧ past.length ≤ 900 ∧ SqT K H lt (ns.map .int) ∧ ns.length ≤ 1000 ∧
  ((comeB p sh (cur past) n ns = true ∧ ∀ H', Fr [r] H H' → RAt K H' r p sh (past ++ [srtM (cur past ++ [(n, ns)])]) → Q (.int (reachM sh ((cur past).length + 1))) H') ∨ (comeB p sh (cur past) n ns = false ∧ FlyN K [] H E))
abbrev tx_Receiver_come : Stmt := inClass (top 40) 5
abbrev NN_Receiver_come : List Str := ["self", "number", "letter", "came"]
theorem scp_Receiver_come : FnScope NN_Receiver_come ["self", "number", "letter"] (defScope tx_Receiver_come) := ⟨rfl, rfl, rfl, by decide +kernel, rfl, by decide +kernel, by decide +kernel⟩
theorem cal_Receiver_come (T : Txt K mg) : CalM P w K mg base (L2.CX P w) 5 (He.ga K "Receiver") "come" (sp_Receiver_come K) := by
  obtain ⟨fd, F⟩ := T.d_Receiver_come
  refine ⟨_, fd, ["self", "number", "letter"], F.ok scp_Receiver_come (fun vs H Q E h => ?_) (fun cdv A outer s H vs Q E hr h => ?_), T.m_Receiver_come, F.bindsN fun _ _ _ _ _ _ us hl => match us, hl with | [_, _, _], _ => rfl⟩
  · obtain ⟨r, lt, p, n, sh, ns, past, rfl, _⟩ := h
    rfl
  obtain ⟨r, lt, p, n, sh, ns, past, rfl, ⟨dx, la, t, us, R⟩, ok, hs, hpl, hlt, hnl, k⟩ := h
  refine ⟨_, (pss_cons (ps_if (PW.pt (pw_or (pt_not (pt_val (pe_cal (cal_is_between T) hr (by decide) pass0 (pa_cons (pv 1) (pa_cons pe_int (pa_cons (pe_op op_sub (pe_callB call_len_seq (by rfl) T.z_len PySem.boot_len (pa_cons (pe_fld (pv 0) rfl) pa_nil)) pe_int) pa_nil)))))) (pw_or1 (pt_cmpR op_in_seq (pv 1) (pe_cam0 (pv 0) T.cls_Receiver (cal_Receiver_here T) hr (by decide) pass0) (by rfl))))) (pss_one (ps_raise rfl (takes_of rfl rfl rfl rfl) (pmk_BadNumber T hr (by decide) (pa_cons (pv 1) pa_nil)))) pss_nil)
      (pss_cons (ps_if (PW.pt (pw_or (pt_not (pt_val (pe_cal (cal_are_signs T) hr (by decide) pass0 (pa_cons (pe_fld (pv 0) rfl) (pa_cons (pv 2) pa_nil))))) (pw_or1 (pt_cmpR op_ne (pe_callB call_len_seq (by rfl) T.z_len PySem.boot_len (pa_cons (pv 2) pa_nil)) (pe_callB (cr_sumT rfl) (by rfl) T.z_sum (by decide +kernel) (pa_cons (pe_fld (pv 0) rfl) pa_nil)) (nomark _))))) (pss_one (ps_raise rfl (takes_of rfl rfl rfl rfl) (pmk_BadLetter T hr (by decide) (pa_cons (pv 2) pa_nil)))) pss_nil)
      (pss_cons (ps_set (i := 3) scp_Receiver_come.nd rfl (.inl rfl) (pe_callTy call_tupleF (by rfl) T.z_tuple (by decide +kernel) (pa_cons (pe_callB (cr_sortedM (hu64 hr)) (by rfl) T.z_sorted (by decide +kernel) (pa_cons (pe_lst (StX.pa_star (pe_cam0 (pv 0) T.cls_Receiver (cal_Receiver_mail T) hr (by decide) pass0) (pa_cons (pe_tup (pa_cons (pv 1) (pa_cons (pv 2) pa_nil))) pa_nil))) pa_nil)) pa_nil)))
      (pss_cons (ps_fld (pv 0) (pe_tup (StX.pa_star (pe_fld (pv 0) rfl) (pa_cons (pe_tup (pa_cons (pe_tup (pa_cons (pe_gs T.c_COME_receiver) (pa_cons (pv 1) (pa_cons (pv 2) pa_nil)))) (pa_cons (pv 3) pa_nil))) pa_nil))) rfl)
      (pss_one (ps_ret (pe_cam0 (pv 0) T.cls_Receiver (cal_Receiver_known T) hr (by decide) pass0))))))), ?_⟩
  have h8 := hs.len.2
  have hlen := ok.cur.len
  have hbad : comeB p sh (cur past) n ns = false → FlyN K [] H E := fun z => by
    rcases k with ⟨hc, k⟩ | ⟨hc, k⟩
    · rw [z] at hc
      cases hc
    · exact k
  have hgood : comeB p sh (cur past) n ns = true → ∀ H', Fr [r] H H' → RAt K H' r p sh (past ++ [srtM (cur past ++ [(n, ns)])]) → Q (.int (reachM sh ((cur past).length + 1))) H' := fun z => by
    rcases k with ⟨hc, k⟩ | ⟨hc, k⟩
    · exact k
    · rw [z] at hc
      cases hc
  refine ⟨_, rfl, _, rfl, r, _, dx, _, _, rfl, R.ob, T.cls_Receiver, T.na_own_laying, rf_laying _ _ _, la, _, rfl, .inr R.sq, _, _, rfl, rfl, n, 0, _, rfl, _, rfl, ?_⟩
  rw [List.length_map]
  by_cases c1 : 0 ≤ n ∧ n ≤ (sh.length : Int) - 1
  case neg =>
    refine iteTb (by rw [decide_eq_false c1]; rfl) (iteT ⟨_, rfl, ?_⟩)
    exact mkk1 (hbad (by unfold comeB; rw [decide_eq_false c1]; rfl) "BadNumber" (by decide +kernel) _)
  refine iteFb (by rw [decide_eq_true c1]; rfl) ?_
  refine ⟨_, rfl, _, rfl, r, dx, _, rfl, R.ob, rf_no _ _ _ (by decide +kernel), r, p, sh, past, rfl, ⟨dx, la, t, us, R⟩, ok, h8, fun H1 l1 s1 hl0 hl1 => ?_⟩
  refine ⟨l1, _, rfl, .inl (.of hl1), rfl, by rw [List.all_map]; exact List.all_eq_true.mpr fun _ _ => rfl, _, rfl, ?_⟩
  rw [inInt]
  by_cases c2 : n ∈ (cur past).map (·.1)
  case pos =>
    refine iteTb (by rw [decide_eq_true c2]; rfl) ⟨_, rfl, ?_⟩
    exact mkk1 ((hbad (by unfold comeB; rw [decide_eq_true c2]; simp) "BadNumber" (by decide +kernel) _).of (Fr.same s1) fun d h => s1.free h)
  refine iteFb (by rw [decide_eq_false c2]; rfl) ?_
  have R1 := R.mono (Fr.same (S := []) s1) (by simp)
  refine ⟨_, rfl, r, _, dx, _, _, rfl, R1.ob, T.cls_Receiver, T.na_own_prime, rf_prime _ _ _, _, rfl, p, lt, ns, rfl, sameT s1 _ _ hlt, hnl, fun H2 s2 => ⟨_, rfl, ?_⟩⟩
  have s12 := s1.trans s2
  have R2 := R.mono (Fr.same (S := []) s12) (by simp)
  cases c3 : signsB p ns
  · refine iteT (iteT ⟨_, rfl, ?_⟩)
    exact mkk1 ((hbad (by unfold comeB; rw [c3]; simp) "BadLetter" (by decide +kernel) _).of (Fr.same s12) fun d h => s12.free h)
  refine iteF ?_
  refine ⟨_, rfl, lt, _, rfl, .inr (sameT s12 _ _ hlt), _, rfl, r, _, dx, _, _, rfl, R2.ob, T.cls_Receiver, T.na_own_laying, rf_laying _ _ _, la, sh, rfl, R2.sq, rfl, _, rfl, ?_⟩
  rw [List.length_map]
  by_cases c4 : (ns.length : Int) = sh.sum
  case neg =>
    refine iteTb (by rw [decide_eq_false fun z => c4 (V.int.inj z)]; rfl) ⟨_, rfl, ?_⟩
    exact mkk1 ((hbad (by unfold comeB; rw [decide_eq_false c4]; simp) "BadLetter" (by decide +kernel) _).of (Fr.same s12) fun d h => s12.free h)
  refine iteFb (by rw [decide_eq_true (congrArg V.int c4)]; rfl) ?_
  have hcb : comeB p sh (cur past) n ns = true := by
    unfold comeB
    rw [decide_eq_true c1, decide_eq_false c2, c3, decide_eq_true c4]
    rfl
  have k := hgood hcb
  -- came
  refine ⟨_, rfl, r, dx, _, rfl, R2.ob, rf_no _ _ _ (by decide +kernel), r, p, sh, past, rfl, ⟨dx, la, t, us, R2⟩, ok, fun c ms hm => ?_⟩
  refine ⟨c, ms, rfl, .inl hm.1, _, rfl, _, rfl, le1000 (by simp), fun q hq => ?_⟩
  have hml : ms.length = (cur past).length := hm.2.1.len
  refine ⟨le1000 (by simp; omega), fun l hl => ?_⟩
  have s3 := (sameNew (o := .tup [V.int n, V.ref lt]) hq).trans (sameNew (o := .lst (ms ++ [V.ref q])) hl)
  have hm3 : PtsM K _ ms (cur past) := PtsM.mono (sameT s3) hm.2.1
  have hq3 : PairM K (upd (upd H2 q (.tup [V.int n, V.ref lt])) l (.lst (ms ++ [V.ref q]))) (.ref q) (n, ns) := ⟨q, lt, rfl, sameT (sameNew hl) _ _ (.of upd_same), sameT (s12.trans s3) _ _ hlt⟩
  obtain ⟨zf, zs⟩ := zip_fst hm3
  have hall : ∀ b ∈ List.zip ms (cur past) ++ [(V.ref q, (n, ns))], PairM K (upd (upd H2 q (.tup [V.int n, V.ref lt])) l (.lst (ms ++ [V.ref q]))) b.1 b.2 := fun b hb => by
    rcases List.mem_append.mp hb with hb | hb
    · exact zip_pairs hm3 b hb
    · rw [List.mem_singleton.mp hb]
      exact hq3
  refine ⟨l, List.zip ms (cur past) ++ [(V.ref q, (n, ns))], rfl, .inl (.of (by rw [upd_same, List.map_append, zf]; rfl)), fun b hb => dpM (hall b hb), by simp [hml]; omega, fun cs l2 hperm hpw hl2 => ?_⟩
  have hcs2 : cs.map (·.2) = srtM (cur past ++ [(n, ns)]) := by
    refine srt_unique ?_ ?_ ?_
    · have := hperm.map (·.2)
      rw [List.map_append, zs] at this
      exact this
    · exact (ok.cur.ok.snoc ⟨c1.1, by omega⟩ c2 c4 (fun i hi => by
        have := List.all_eq_true.mp c3 i hi
        have := of_decide_eq_true this
        omega)).nd
    · exact List.pairwise_map.mpr hpw
  have hsg : ∀ i ∈ ns, 0 ≤ i ∧ i < p := fun i hi => by
    have := List.all_eq_true.mp c3 i hi
    have := of_decide_eq_true this
    omega
  refine ⟨l2, _, rfl, .of upd_same, fun tt o htt hod => ?_⟩
  have s4 := (sameNew (o := .lst (cs.map (·.1))) hl2).trans (sameNew (o := .frz o (.tup (cs.map (·.1)))) htt)
  have sAll := s12.trans (s3.trans s4)
  have hms : PtsM K _ (cs.map (·.1)) (cs.map (·.2)) := PtsM.mono (sameT s4) (all2_of cs fun b hb => hall b (hperm.subset hb))
  rw [hcs2] at hms
  have hmv : MailV K (upd (upd (upd (upd H2 q (.tup [V.int n, V.ref lt])) l (.lst (ms ++ [V.ref q]))) l2 (.lst (cs.map (·.1)))) tt (.frz o (.tup (cs.map (·.1))))) tt (cs.map (·.1)) (srtM (cur past ++ [(n, ns)])) := ⟨.inl (.inr ⟨o, upd_same⟩), hms, fun _ => ⟨o, upd_same, hod⟩⟩
  generalize hG : (upd (upd (upd (upd H2 q (.tup [V.int n, V.ref lt])) l (.lst (ms ++ [V.ref q]))) l2 (.lst (cs.map (·.1)))) tt (.frz o (.tup (cs.map (·.1))))) = G at *
  have RG := R.mono (Fr.same (S := []) sAll) (by simp)
  refine ⟨_, rfl, r, _, dx, _, _, rfl, RG.ob, T.cls_Receiver, T.na_own_past, rf_past _ _ _, t, us, rfl, .inl RG.pt, _, rfl, _, rfl, le1000 (by simp), fun d1 hd1 => ?_⟩
  refine ⟨_, rfl, le1000 (by simp), fun d2 hd2 => ?_⟩
  have hul := RG.es.len
  refine ⟨le1000 (by simp; omega), fun d3 hd3 => ?_⟩
  have s5 := ((sameNew (o := .tup [V.str (lit "come"), V.int n, V.ref lt]) hd1).trans (sameNew (o := .tup [V.ref d1, V.ref tt]) hd2)).trans (sameNew (o := .tup (us ++ [V.ref d2])) hd3)
  have R5 := RG.mono (Fr.same (S := []) s5) (by simp)
  refine ⟨_, rfl, r, _, dx, _, rfl, R5.ob, T.cls_Receiver, T.na_own_past, by simp [rf], ?_⟩
  rw [rf_put]
  have f6 : Fr [r] _ _ := frUpd (S := [r]) (o := .ins (He.ga K "Receiver") dx (rf (V.int p) (V.ref la) (V.ref d3))) (by simp) R5.ob (fun z => z)
  have hRA : RAt K (upd (upd (upd (upd G d1 (.tup [V.str (lit "come"), V.int n, V.ref lt])) d2 (.tup [V.ref d1, V.ref tt])) d3 (.tup (us ++ [V.ref d2]))) r (.ins (He.ga K "Receiver") dx (rf (V.int p) (V.ref la) (V.ref d3)))) r p sh (past ++ [srtM (cur past ++ [(n, ns)])]) := by
    refine ⟨dx, la, d3, us ++ [V.ref d2], upd_same, f6.tk _ _ R5.sq, f6.tk _ _ (.of upd_same), (R5.es.imp fun _ _ q => q.mono f6.tf).app (.one ⟨d2, .ref d1, tt, cs.map (·.1), rfl, f6.tk _ _ (sameT (sameNew hd3) _ _ (.of upd_same)), (hmv.mono (tfS s5)).mono f6.tf⟩)⟩
  have ok6 : PastOk p sh (past ++ [srtM (cur past ++ [(n, ns)])]) := ok.add (ok.cur.add ⟨c1.1, by omega⟩ c2 c4 hsg)
  obtain ⟨dx6, la6, t6, us6, R6⟩ := id hRA
  refine ⟨_, rfl, r, dx6, _, rfl, R6.ob, rf_no _ _ _ (by decide +kernel), r, p, sh, _, rfl, hRA, ok6, hs, fun H7 s7 => ?_⟩
  rw [cur_app, show (srtM (cur past ++ [(n, ns)])).length = (cur past).length + 1 by rw [(srt_perm _).length_eq]; simp]
  exact k H7 ((Fr.same (sAll.trans s5)).trans (f6.trans (Fr.same s7))) (hRA.mono (Fr.same (S := []) s7) (by simp))
end
end NL
/-! D17: drop, undo -/
namespace NL
open PySem PySem.Spec PyProof.Rows L2
/-- the letter of number n -/
def letM (m : Mail) (n : Int) : List Int := ((m.filter fun q => decide (q.1 = n)).headD (0, [])).2
/-- a dict's entry for a letter -/
def EntL (K : Frag) (H : Hp) (kv : Key × V) (q : Int × List Int) : Prop := kv.1 = Sum.inl q.1 ∧ ∃ c, kv.2 = .ref c ∧ SqT K H c (q.2.map .int)
theorem val_no {K : Frag} {H : Hp} {n : Int} {kvs : List (Key × V)} {m : Mail} (h : All2 (EntL K H) kvs m) : ∀ acc : List (Key × V), ¬ n ∈ m.map (·.1) → valV (mergeK acc kvs) (Sum.inl n) = valV acc (Sum.inl n) := by
  induction h with
  | nil => intro acc _; rfl
  | cons r t ih =>
    rename_i kv q kvs m
    intro acc hn
    simp only [List.map_cons, List.mem_cons, not_or] at hn
    show valV (mergeK (putK acc kv.1 kv.2) kvs) _ = _
    rw [ih _ hn.2, valV_put, if_neg]
    rw [r.1]
    exact fun z => hn.1 (Sum.inl.inj z)
theorem val_at {K : Frag} {H : Hp} {n : Int} {kvs : List (Key × V)} {m : Mail} (h : All2 (EntL K H) kvs m) : ∀ acc : List (Key × V), (m.map (·.1)).Nodup → n ∈ m.map (·.1) → ∃ c, valV (mergeK acc kvs) (Sum.inl n) = some (.ref c) ∧ SqT K H c ((letM m n).map .int) := by
  induction h with
  | nil => intro acc _ hn; cases hn
  | cons r t ih =>
    rename_i kv q kvs m
    intro acc nd hn
    rw [List.map_cons, List.nodup_cons] at nd
    by_cases c : q.1 = n
    · obtain ⟨r1, cc, r2, r3⟩ := r
      refine ⟨cc, ?_, ?_⟩
      · show valV (mergeK (putK acc kv.1 kv.2) kvs) _ = _
        rw [val_no t _ (c ▸ nd.1), valV_put, if_pos (by rw [r1, c]), r2]
      · unfold letM
        rw [List.filter_cons_of_pos (by simpa using c)]
        exact r3
    · have hn' : n ∈ m.map (·.1) := by
        rcases List.mem_cons.mp hn with z | z
        · exact absurd z.symm c
        · exact z
      obtain ⟨cc, e, s⟩ := ih (putK acc kv.1 kv.2) nd.2 hn'
      refine ⟨cc, e, ?_⟩
      unfold letM
      rw [List.filter_cons_of_neg (by simpa using c)]
      exact s
theorem ents {K : Frag} {H : Hp} {ms : List V} {m : Mail} (h : PtsM K H ms m) : ∃ (ps : List Addr) (kvs : List (Key × V)), ms = ps.map V.ref ∧ Paired (fun p kv => SqT K H p [kV kv.1, kv.2]) ps kvs ∧ All2 (EntL K H) kvs m := by
  induction h with
  | nil => exact ⟨[], [], rfl, .nil, .nil⟩
  | cons r _ ih =>
    obtain ⟨ps, kvs, e, p, a⟩ := ih
    obtain ⟨b, c, rfl, h1, h2⟩ := r
    refine ⟨b :: ps, (Sum.inl _, .ref c) :: kvs, by rw [e]; rfl, .cons h1 p, .cons ⟨rfl, c, rfl, h2⟩ a⟩
section
variable {P : Program} {w : World} {K : Frag} {mg : Str → Option Value} {base : Heap}
def sp_Receiver_drop (K : Frag) : Sp := fun vs H Q E => ∃ (r : Addr) (p n : Int) (sh : List Int) (past : List Mail), vs = [.ref r, .int n] ∧ RAt K H r p sh past ∧ PastOk p sh past ∧ ShOk sh ∧ past.length ≤ 900 ∧
  ((n ∈ (cur past).map (·.1) ∧ ∀ H' t, Fr [r] H H' → RAt K H' r p sh (past ++ [wo (cur past) n]) → SqT K H' t ((letM (cur past) n).map .int) → Q (.ref t) H') ∨ (¬ n ∈ (cur past).map (·.1) ∧ FlyN K [] H E))
abbrev tx_Receiver_drop : Stmt := inClass (top 40) 6
abbrev NN_Receiver_drop : List Str := ["self", "number", "found", "came", "pair"]
theorem scp_Receiver_drop : FnScope NN_Receiver_drop ["self", "number"] (defScope tx_Receiver_drop) := ⟨rfl, rfl, rfl, by decide +kernel, rfl, by decide +kernel, by decide +kernel⟩
theorem cal_Receiver_drop (T : Txt K mg) : CalM P w K mg base (L2.CX P w) 3 (He.ga K "Receiver") "drop" (sp_Receiver_drop K) := by
  obtain ⟨fd, F⟩ := T.d_Receiver_drop
  refine ⟨_, fd, ["self", "number"], F.ok scp_Receiver_drop (fun vs H Q E h => ?_) (fun cdv A outer s H vs Q E hr h => ?_), T.m_Receiver_drop, F.bindsN fun _ _ _ _ _ _ us hl => match us, hl with | [_, _], _ => rfl⟩
  · obtain ⟨r, p, n, sh, past, rfl, _⟩ := h
    rfl
  obtain ⟨r, p, n, sh, past, rfl, ⟨dx, la, t, us, R⟩, ok, hs, hpl, k⟩ := h
  refine ⟨_, (pss_cons (ps_if (PW.pt (pw_or (pt_not (pt_val (pe_cal (cal_is_integer T) hr (by decide) pass0 (pa_cons (pv 1) pa_nil)))) (pw_or1 (pt_cmpR op_notIn_seq (pv 1) (pe_cam0 (pv 0) T.cls_Receiver (cal_Receiver_here T) hr (by decide) pass0) (by rfl))))) (pss_one (ps_raise rfl (takes_of rfl rfl rfl rfl) (pmk_BadNumber T hr (by decide) (pa_cons (pv 1) pa_nil)))) pss_nil)
      (pss_cons (ps_set (i := 2) scp_Receiver_drop.nd rfl (.inl rfl) (pe_dget (hu_of hr) (pe_callTy (call_dictPT rfl) (by rfl) T.z_dict (by decide +kernel) (pa_cons (pe_cam0 (pv 0) T.cls_Receiver (cal_Receiver_mail T) hr (by decide) pass0) pa_nil)) (pv 1) (fun _ _ => rfl)))
      (pss_cons (ps_set (i := 3) scp_Receiver_drop.nd rfl (.inl rfl) (pe_callTy call_tupleF (by rfl) T.z_tuple (by decide +kernel) (pa_cons (pe_lc (own := [("pair", 4)]) (g := gName 4) rfl scp_Receiver_drop.nd (pi_tup (pe_cam0 (pv 0) T.cls_Receiver (cal_Receiver_mail T) hr (by decide) pass0)) (blkOk_by (N := NN_Receiver_drop) (sc := defScope tx_Receiver_drop) (by decide +kernel)) (fun _ _ _ _ _ => (pg_name (i := 4) scp_Receiver_drop.nd rfl (.inl rfl))) (fun _ _ _ _ _ => (pts_one (pt_cmpR op_ne (pe_ix (r := rIxT K) ix_tup (pv 4) pe_int (fun _ _ => rfl)) (pv 1) (nomark _)))) (fun _ _ _ _ _ => (pv 4))) pa_nil)))
      (pss_cons (ps_fld (pv 0) (pe_tup (StX.pa_star (pe_fld (pv 0) rfl) (pa_cons (pe_tup (pa_cons (pe_tup (pa_cons (pe_gs T.c_DROP_receiver) (pa_cons (pv 1) pa_nil))) (pa_cons (pv 3) pa_nil))) pa_nil))) rfl)
      (pss_one (ps_ret (pv 2))))))), ?_⟩
  have h8 := hs.len.2
  have hlen := ok.cur.len
  refine ⟨_, rfl, n, rfl, true, rfl, iteF ?_⟩
  refine ⟨_, rfl, _, rfl, r, dx, _, rfl, R.ob, rf_no _ _ _ (by decide +kernel), r, p, sh, past, rfl, ⟨dx, la, t, us, R⟩, ok, h8, fun H1 l1 s1 hl0 hl1 => ?_⟩
  refine ⟨l1, _, rfl, .inl (.of hl1), rfl, by rw [List.all_map]; exact List.all_eq_true.mpr fun _ _ => rfl, _, rfl, ?_⟩
  rw [inInt]
  rcases k with ⟨hn, k⟩ | ⟨hn, k⟩
  case inr =>
    refine iteTb (by rw [decide_eq_false hn]; rfl) ⟨_, rfl, ?_⟩
    exact mkk1 ((k "BadNumber" (by decide +kernel) _).of (Fr.same s1) fun d h => s1.free h)
  refine iteFb (by rw [decide_eq_true hn]; rfl) ?_
  have R1 := R.mono (Fr.same (S := []) s1) (by simp)
  refine ⟨_, rfl, r, dx, _, rfl, R1.ob, rf_no _ _ _ (by decide +kernel), r, p, sh, past, rfl, ⟨dx, la, t, us, R1⟩, ok, fun c ms hm => ?_⟩
  obtain ⟨o, hc, hod⟩ := hm.2.2 (fun z => by rw [z] at hn; cases hn)
  obtain ⟨ps, kvs, rfl, hpr, hen⟩ := ents hm.2.1
  refine ⟨c, o, ps, kvs, rfl, hc, hod, hpr, fun d hd => ?_⟩
  obtain ⟨lt, hv, hlt⟩ := val_at hen [] ok.cur.ok.nd hn
  have sd := sameNew (o := .dK (mergeK [] kvs)) hd
  refine ⟨_, rfl, d, .ref lt, rfl, ?_, ?_⟩
  · have := DGet.k (k := Sum.inl n) (show (upd H1 d (.dK (mergeK [] kvs))) d = some (.dK (mergeK [] kvs)) from upd_same)
    rw [hv] at this
    exact this
  have s2 := s1.trans sd
  have R2 := R.mono (Fr.same (S := []) s2) (by simp)
  have hlt2 := sameT sd _ _ hlt
  refine ⟨_, rfl, r, dx, _, rfl, R2.ob, rf_no _ _ _ (by decide +kernel), r, p, sh, past, rfl, ⟨dx, la, t, us, R2⟩, ok, fun c2 ms2 hm2 => ?_⟩
  have hul2 : ms2.length = (cur past).length := hm2.2.1.len
  refine ⟨c2, rfl, ⟨_, hm2.1⟩, fun D hD => ?_⟩
  refine lc_ac (walk_tup (xs := ms2)) (cur past) hul2.symm hD (fun d' acc H' => PtsM K H' acc (d'.filter fun r => decide (r.1 ≠ n))) .nil (fun H5 s5 => sameT s5 _ _ hm2.1) ?_ ?_
  · rintro d5 q5 r5 x5 acc H5 H6 e5 s5 hD5 hl5 hA ⟨rfl, hx5⟩
    obtain ⟨b5, c5, rfl, hq5, hc5⟩ := (PtsM.mono (sameT s5) hm2.2.1).get hx5 (by rw [e5]; exact getMid d5 q5 r5)
    have hdl5 : d5.length < 1000 := by
      rw [e5] at hlen
      simp at hlen
      omega
    refine ⟨rfl, ?_⟩
    refine ⟨_, rfl, b5, _, _, _, rfl, rfl, hq5, at0 _ _, _, rfl, rfl, _, rfl, ?_⟩
    by_cases c5' : q5.1 = n
    · refine iteFb (by rw [decide_eq_true (congrArg V.int c5')]; rfl) (Lc.skip s5 hD5 hl5 ?_)
      rw [List.filter_append, List.filter_cons_of_neg (by simpa using c5')]
      simpa using hA
    · refine iteTb (by rw [decide_eq_false fun z => c5' (V.int.inj z)]; rfl) ⟨_, rfl, Lc.put hD s5 hD5 hl5 hdl5 ?_⟩
      rw [List.filter_append, List.filter_cons_of_pos (by simpa using c5')]
      have tk := tkLst (K := K) (o := .lst (acc ++ [.ref b5])) hD5
      exact (PtsM.mono tk hA).app (.one ⟨b5, c5, rfl, tk _ _ hq5, tk _ _ hc5⟩)
  rintro acc H5 s5 hD5 hl5 hA
  have hA : PtsM K H5 acc (wo (cur past) n) := hA
  refine ⟨D, _, rfl, .of hD5, fun tt o2 htt hod2 => ?_⟩
  have s6 := s5.trans (sameNew (o := .frz o2 (.tup acc)) htt)
  have sAll := s2.trans s6
  have RG := R.mono (Fr.same (S := []) sAll) (by simp)
  have hmv : MailV K (upd H5 tt (.frz o2 (.tup acc))) tt acc (wo (cur past) n) := ⟨.inl (.inr ⟨o2, upd_same⟩), PtsM.mono (sameT (sameNew htt)) hA, fun _ => ⟨o2, upd_same, hod2⟩⟩
  have hlt6 := sameT s6 _ _ hlt2
  refine ⟨_, rfl, r, _, dx, _, _, rfl, RG.ob, T.cls_Receiver, T.na_own_past, rf_past _ _ _, t, us, rfl, .inl RG.pt, _, rfl, le1000 (by simp), fun d1 hd1 => ?_⟩
  refine ⟨_, rfl, le1000 (by simp), fun d2 hd2 => ?_⟩
  have hul := RG.es.len
  refine ⟨le1000 (by simp; omega), fun d3 hd3 => ?_⟩
  have s7 := ((sameNew (o := .tup [V.str (lit "drop"), V.int n]) hd1).trans (sameNew (o := .tup [V.ref d1, V.ref tt]) hd2)).trans (sameNew (o := .tup (us ++ [V.ref d2])) hd3)
  have R7 := RG.mono (Fr.same (S := []) s7) (by simp)
  refine ⟨_, rfl, r, _, dx, _, rfl, R7.ob, T.cls_Receiver, T.na_own_past, by simp [rf], ?_⟩
  rw [rf_put]
  have f8 : Fr [r] _ _ := frUpd (S := [r]) (o := .ins (He.ga K "Receiver") dx (rf (V.int p) (V.ref la) (V.ref d3))) (by simp) R7.ob (fun z => z)
  refine ⟨_, rfl, k _ lt ((Fr.same (sAll.trans s7)).trans f8) ?_ (f8.tk _ _ (sameT s7 _ _ hlt6))⟩
  exact ⟨dx, la, d3, us ++ [V.ref d2], upd_same, f8.tk _ _ R7.sq, f8.tk _ _ (.of upd_same), (R7.es.imp fun _ _ q => q.mono f8.tf).app (.one ⟨d2, .ref d1, tt, acc, rfl, f8.tk _ _ (sameT (sameNew hd3) _ _ (.of upd_same)), (hmv.mono (tfS s7)).mono f8.tf⟩)⟩
def sp_Receiver_undo (K : Frag) : Sp := fun vs H Q E => ∃ (r : Addr) (p : Int) (n : Nat) (sh : List Int) (past : List Mail), vs = [.ref r, .int (n : Nat)] ∧ RAt K H r p sh past ∧ 1 ≤ n ∧
  ((n < past.length ∧ ∀ H', Fr [r] H H' → RAt K H' r p sh (past.take (past.length - n)) → Q .non H') ∨ (past.length ≤ n ∧ Fly K "NothingLeft" [("many", .int (n : Nat))] [] H E))
abbrev tx_Receiver_undo : Stmt := inClass (top 40) 12
abbrev NN_Receiver_undo : List Str := ["self", "many"]
theorem scp_Receiver_undo : FnScope NN_Receiver_undo ["self", "many"] (defScope tx_Receiver_undo) := ⟨rfl, rfl, rfl, by decide +kernel, rfl, by decide +kernel, by decide +kernel⟩
theorem ok_undo (T : Txt K mg) : ∃ fd, FnOk P w K mg base (L2.CX P w) 3 (He.ma K (He.ga K "Receiver") "undo") fd ["self", "many"] (sp_Receiver_undo K) ∧ Binds K fd ["self", "many"] [] ∧ ∃ ds, Vals [V.int 1] ds ∧ Binds K fd ["self", "many"] ds := by
  obtain ⟨fd, F⟩ := T.d_Receiver_undo
  refine ⟨fd, F.ok scp_Receiver_undo (fun vs H Q E h => ?_) (fun cdv A outer s H vs Q E hr h => ?_), ?_, ?_⟩
  · obtain ⟨r, p, n, sh, past, rfl, _⟩ := h
    rfl
  · obtain ⟨r, p, n, sh, past, rfl, ⟨dx, la, t, us, R⟩, hn, k⟩ := h
    have hul := R.es.len
    refine ⟨_, (pss_cons (ps_if (PW.pt (pw_or (pt_not (pt_val (pe_cal (cal_is_integer T) hr (by decide) pass0 (pa_cons (pv 1) pa_nil)))) (pw_or1 (pt_cmpR op_lt (pv 1) pe_int (nomark _))))) (pss_one (ps_raise rfl (takes_of rfl rfl rfl rfl) (pmk_BadNumber T hr (by decide) (pa_cons (pv 1) pa_nil)))) pss_nil)
      (pss_cons (ps_if (pt_cmpR op_ge (pv 1) (pe_callB call_len_seq (by rfl) T.z_len PySem.boot_len (pa_cons (pe_fld (pv 0) rfl) pa_nil)) (nomark _)) (pss_one (ps_raise rfl (takes_of rfl rfl rfl rfl) (pmk_NothingLeft T hr (by decide) (pa_cons (pv 1) pa_nil)))) pss_nil)
      (pss_one (ps_fld (pv 0) (pe_slice sl_tupA (pe_fld (pv 0) rfl) po_none (po_some (pe_op op_sub (pe_callB call_len_seq (by rfl) T.z_len PySem.boot_len (pa_cons (pe_fld (pv 0) rfl) pa_nil)) (pv 1)))) rfl)))), ?_⟩
    refine ⟨_, rfl, (n : Int), rfl, true, rfl, iteF ?_⟩
    refine ⟨_, rfl, _, _, rfl, rfl, _, rfl, iteFb (decide_eq_false (by omega)) ?_⟩
    refine ⟨_, rfl, _, rfl, r, _, dx, _, _, rfl, R.ob, T.cls_Receiver, T.na_own_past, rf_past _ _ _, t, us, rfl, .inr R.pt, _, _, rfl, rfl, _, rfl, ?_⟩
    rcases k with ⟨hlt, k⟩ | ⟨hge, k⟩
    · refine iteFb (decide_eq_false (by omega)) ?_
      refine ⟨_, rfl, r, _, dx, _, _, rfl, R.ob, T.cls_Receiver, T.na_own_past, rf_past _ _ _, _, rfl, r, _, dx, _, _, rfl, R.ob, T.cls_Receiver, T.na_own_past, rf_past _ _ _, t, us, rfl, .inr R.pt, _, rfl, _, _, rfl, rfl, _, rfl, t, us, rfl, R.pt, ?_, ?_⟩
      · intro ⟨_, z⟩
        exfalso
        have hnn : ¬ ((us.length : Int) - (n : Int) < 0) := by omega
        have z' : (if (us.length : Int) - (n : Int) < 0 then ((us.length : Int) - (n : Int) + us.length).toNat else min ((us.length : Int) - (n : Int)).toNat us.length) = us.length := z
        rw [if_neg hnn] at z'
        omega
      · intro _ q hq
        rw [cutTo _ (by omega)]
        have hnat : ((us.length : Int) - (n : Int)).toNat = past.length - n := by omega
        rw [hnat]
        have s1 := sameNew (o := .tup (us.take (past.length - n))) hq
        have R1 := R.mono (Fr.same (S := []) s1) (by simp)
        refine ⟨_, rfl, r, _, dx, _, rfl, R1.ob, T.cls_Receiver, T.na_own_past, by simp [rf], ?_⟩
        rw [rf_put]
        have f2 : Fr [r] _ _ := frUpd (S := [r]) (o := .ins (He.ga K "Receiver") dx (rf (V.int p) (V.ref la) (V.ref q))) (by simp) R1.ob (fun z => z)
        exact k _ ((Fr.same s1).trans f2) ⟨dx, la, q, us.take (past.length - n), upd_same, f2.tk _ _ R1.sq, f2.tk _ _ (.of upd_same), (R1.es.imp fun _ _ q => q.mono f2.tf).take _⟩
    · refine iteTb (decide_eq_true (by omega)) ⟨_, rfl, ?_⟩
      exact mkk1 k
  · obtain ⟨ds, h1, h2⟩ := F.binds1 (ps := ["self", "many"]) 2 1 (by simp) rfl fun _ _ _ _ _ _ _ us its hu hi => match us, its, hu, hi with | [_, _], [_], _, _ => ⟨_, rfl, rfl⟩
    cases h1
    exact h2
  · exact F.binds1 (ps := ["self", "many"]) 1 0 (by simp) rfl fun _ _ _ _ _ _ _ us its hu hi => match us, its, hu, hi with | [_], [_], _, _ => ⟨_, rfl, rfl⟩
end
end NL
/-! D18: the desk -/
namespace NL
open PySem PySem.Spec PyProof.Rows L2
theorem Fr.toSame {H H' : Hp} (f : Fr [] H H') : Same H H' := fun b o e => f b o e (fun z => by cases z)
theorem sameFr {H H1 H2 : Hp} {wd : Addr} (s : Same H H1) (hw : H wd = none) (f : Fr [wd] H1 H2) : Same H H2 := fun b o e => f b o (s _ _ e) fun m => by
  have e' : b = wd := by simpa using m
  rw [e', hw] at e
  cases e
theorem Fly.fresh {K : Frag} {x : Str} {fs : List (Str × V)} {H H2 : Hp} {E : XK} {wd : Addr} (h : Fly K x fs [] H E) (s : Same H H2) (hw : H wd = none) : Fly K x fs [wd] H2 E :=
  fun H' d f h0 hd => h H' d (Fr.same (sameFr s hw f)) (s.free h0) hd
theorem Fly.same {K : Frag} {x : Str} {fs : List (Str × V)} {S : List Addr} {H H2 : Hp} {E : XK} (h : Fly K x fs S H E) (s : Same H H2) : Fly K x fs S H2 E := h.of (Fr.same s) fun _ q => s.free q
theorem FlyN.same {K : Frag} {S : List Addr} {H H2 : Hp} {E : XK} (h : FlyN K S H E) (s : Same H H2) : FlyN K S H2 E := fun x m fs => (h x m fs).same s
theorem nestText : lit "BadText" ∈ nestL := by decide +kernel
def df (r : Addr) : List (Str × V) := [(lit "own_receiver", .ref r)]
theorem df_at (r : Addr) : (df r).lookup (lit "own_receiver") = some (.ref r) := by
  unfold df
  rw [List.lookup_cons_self]
theorem df_no (r : Addr) {m : Str} (h : (m == lit "own_receiver") = false) : (df r).lookup m = none := by
  unfold df
  simp only [List.lookup, h]
/-- a desk at d over the receiver at r -/
def DAt (K : Frag) (H : Hp) (d r : Addr) (p : Int) (sh : List Int) (past : List Mail) : Prop := (∃ dx, H d = some (.ins (He.ga K "Desk") dx (df r))) ∧ RAt K H r p sh past
theorem DAt.same {K : Frag} {H H' : Hp} {d r : Addr} {p : Int} {sh : List Int} {past : List Mail} (h : DAt K H d r p sh past) (s : Same H H') : DAt K H' d r p sh past :=
  let ⟨⟨dx, e⟩, q⟩ := h; ⟨⟨dx, s _ _ e⟩, q.mono (Fr.same (S := []) s) (by simp)⟩
theorem DAt.to {K : Frag} {H H' : Hp} {d r : Addr} {p : Int} {sh : List Int} {past past' : List Mail} (h : DAt K H d r p sh past) (f : Fr [r] H H') (q : RAt K H' r p sh past') : DAt K H' d r p sh past' := by
  obtain ⟨⟨dx, e⟩, ⟨dx2, la, t, us, R⟩⟩ := h
  refine ⟨⟨dx, f.at e fun m => ?_⟩, q⟩
  have e' : d = r := by simpa using m
  have q' := R.ob
  rw [← e', e] at q'
  have h2 := Option.some.inj q'
  injection h2 with _ _ h3
  have h4 := congrArg List.length h3
  simp [df, rf] at h4
structure DOk (p : Int) (sh : List Int) (past : List Mail) : Prop where
  ok : PastOk p sh past
  hs : ShOk sh
  hp : Prm p
  len : past.length ≤ 800
/-! what the commands answer -/
def undoA (past : List Mail) : Str × List Mail := if 1 < past.length then ("done", past.take (past.length - 1)) else ("nothing", past)
def aloneA (p : Int) (sh : List Int) (past : List Mail) (w : Str) : Option (Str × List Mail) :=
  if w = lit "known" then some (istr (reachM sh (cur past).length), past)
  else if w = lit "more" then some (istr (moreM sh (cur past).length), past)
  else if w = lit "read" then (if okM p sh (cur past) = true then some (rowM (readM p sh (cur past)), past) else none)
  else if w = lit "mail" then some (rowM ((cur past).map (·.1)), past)
  else if w = lit "suspects" then some (rowM (susM p sh (cur past)), past)
  else if w = lit "deeds" then some (istr ((past.length : Int) - 1), past)
  else some (undoA past)
def ansCmd (p : Int) (sh : List Int) (past : List Mail) : Cmd → Option (Str × List Mail)
  | .come n ns => if comeB p sh (cur past) n ns = true then some (istr (reachM sh ((cur past).length + 1)), past ++ [srtM (cur past ++ [(n, ns)])]) else none
  | .drop n => if n ∈ (cur past).map (·.1) then some (rowM (letM (cur past) n), past ++ [wo (cur past) n]) else none
  | .alone w => aloneA p sh past w
def sayM (p : Int) (sh : List Int) (past : List Mail) (rows : List (List Str)) : Option (Str × List Mail) := match rows with
  | [ws] => (parseM ws).bind (ansCmd p sh past)
  | _ => none
def sayA (p : Int) (sh : List Int) (past : List Mail) (z : Str) : Str × List Mail := (sayM p sh past (rowsM z)).getD ("no", past)
theorem let_tell {p : Int} (hp : Prm p) {sh : List Int} (hs : ShOk sh) {m : Mail} (h : CurOk p sh m) {n : Int} (hn : n ∈ m.map (·.1)) : TellOk (letM m n) := by
  obtain ⟨q, hq, e⟩ := List.mem_map.mp hn
  unfold letM
  have hm : q ∈ m.filter fun q => decide (q.1 = n) := List.mem_filter.mpr ⟨hq, decide_eq_true e⟩
  cases c : m.filter fun q => decide (q.1 = n) with
  | nil =>
    rw [c] at hm
    cases hm
  | cons x t =>
    have hx : x ∈ m := (List.mem_filter.mp (by rw [c]; exact List.mem_cons_self : x ∈ m.filter fun q => decide (q.1 = n))).1
    exact let_ok hp hs h hx
theorem readNs1 {r : List Str} {ns : List Int} (h : readNs 1 r = .ok ns) : ∃ n, ns = [n] := by
  cases r with
  | nil => cases h
  | cons w r =>
    have h : rdN 1 (w :: r) = .ok ns := h
    unfold rdN at h
    split at h
    · cases h
    · cases r with
      | nil =>
        simp [rdN] at h
        exact ⟨_, h.symm⟩
      | cons a b =>
        simp [rdN] at h
section
variable {X : Cx} {E : XK} {j : Nat} {e : Expr} {es : List Expr} {o : Expr} {ta : TE} {t : TA} {pos apos : Pos}
theorem lenR (T : Txt X.K X.mg) (hr : Room j X.A) (hk : 2 ≤ j) : CallR X (.builtin "len") (fun xs H Q => ∃ a dx fs, xs = [V.ref a] ∧ H a = some (.ins (He.ga X.K "Receiver") dx fs) ∧ sp_Receiver_len X.K [.ref a] H (fun v H' => ∃ n : Int, v = .int n ∧ 0 ≤ n ∧ n < 2 ^ 62 ∧ Q (.int n) H') (fun _ _ _ => False)) := by
  obtain ⟨f, fd, ps, F, M, b⟩ := (cal_Receiver_len (P := X.prog) (w := X.w) (base := X.base) T).ex
  have hf : f = He.ma X.K (He.ga X.K "Receiver") "__len__" := by
    have h1 := M.at_
    have h2 := T.m_Receiver_len.at_
    rw [h1] at h2
    cases h2
    rfl
  exact call_lenO M.at_ (by rw [hf]; exact T.xt_Receiver_len) F b (hr.mono hk) pass0
theorem pe_undo0 {pl : Sem Bool} (ho : PE X o ta) (T : Txt X.K X.mg) (hr : Room j X.A) (hk : 3 ≤ j) (hx : Passes (L2.CX X.prog X.w) X E)
    (hv : eval ((o.Attribute "undo" apos).Call [] [] pos) X.env = (do
      let ov ← eval o X.env
      standAt apos.atName
      match ← holding [ov] (getMethod ov "undo" pl) with
      | (f, first) => callWith pos f first (backTo pos (starEach [] X.env)) (backToKw pos (keywordEach [] X.env))) := by rfl) :
    PE X (.Call (.Attribute o "undo" apos) [] [] pos) (tMeth (He.ga X.K "Receiver") "undo" (sp_Receiver_undo X.K) [.int 1] E ta tNil) := by
  obtain ⟨fd, F, _, ds, hd, b⟩ := ok_undo (P := X.prog) (w := X.w) (base := X.base) T
  exact pe_meth0 ho T.cls_Receiver T.m_Receiver_undo F (hr.mono hk) b hd hx hv
theorem pe_undo1 {pl : Sem Bool} (ho : PE X o ta) (T : Txt X.K X.mg) (hr : Room j X.A) (hk : 3 ≤ j) (hx : Passes (L2.CX X.prog X.w) X E) (ha : PA X (e :: es) t)
    (he : starEach (e :: es) X.env = (false, eval e X.env) :: starEach es X.env := by rfl) (hpl : (backTo pos (starEach es X.env)).any (·.1) = false := by rfl)
    (hv : eval ((o.Attribute "undo" apos).Call (e :: es) [] pos) X.env = (do
      let ov ← eval o X.env
      standAt apos.atName
      match ← holding [ov] (getMethod ov "undo" pl) with
      | (f, first) => callWith pos f first (backTo pos (starEach (e :: es) X.env)) (backToKw pos (keywordEach [] X.env))) := by rfl) :
    PE X (.Call (.Attribute o "undo" apos) (e :: es) [] pos) (tMeth (He.ga X.K "Receiver") "undo" (sp_Receiver_undo X.K) [] E ta t) := by
  obtain ⟨fd, F, b, _⟩ := ok_undo (P := X.prog) (w := X.w) (base := X.base) T
  exact pe_meth ho T.cls_Receiver T.m_Receiver_undo F (hr.mono hk) b .nil hx ha he hpl hv
end
section
variable {P : Program} {w : World} {K : Frag} {mg : Str → Option Value} {base : Heap}
def sp_Desk_receiver (K : Frag) : Sp := fun vs H Q _ => ∃ (d r : Addr) (p : Int) (sh : List Int) (past : List Mail), vs = [.ref d] ∧ DAt K H d r p sh past ∧ Q (.ref r) H
abbrev tx_Desk_receiver : Stmt := inClass (top 60) 1
abbrev NN_Desk_receiver : List Str := ["self"]
theorem scp_Desk_receiver : FnScope NN_Desk_receiver ["self"] (defScope tx_Desk_receiver) := ⟨rfl, rfl, rfl, by decide +kernel, rfl, by decide +kernel, by decide +kernel⟩
theorem cal_Desk_receiver (T : Txt K mg) : CalP P w K mg base CX0 1 (He.ga K "Desk") "receiver" (sp_Desk_receiver K) := by
  obtain ⟨p_, g_, fd, M_, F⟩ := T.p_Desk_receiver
  refine ⟨p_, g_, fd, ["self"], M_, F.ok scp_Desk_receiver (fun vs H Q E h => ?_) (fun cdv A outer s H vs Q E hr h => ?_), F.bindsN fun _ _ _ _ _ _ us hl => match us, hl with | [_], _ => rfl⟩
  · obtain ⟨d, r, p, sh, past, rfl, _⟩ := h
    rfl
  obtain ⟨d, r, p, sh, past, rfl, ⟨⟨dx, hd⟩, _⟩, k⟩ := h
  refine ⟨_, PSs.nox (pss_one (ps_ret (pe_fld (pv 0) rfl))), ?_⟩
  exact ⟨_, rfl, d, _, dx, _, _, rfl, hd, T.cls_Desk, T.na_own_receiver, df_at r, k⟩
def sp_Desk_undone (K : Frag) : Sp := fun vs H Q _ => ∃ (d r : Addr) (p : Int) (sh : List Int) (past : List Mail), vs = [.ref d] ∧ DAt K H d r p sh past ∧
  ∀ H', Fr [r] H H' → RAt K H' r p sh (undoA past).2 → Q (.str (undoA past).1) H'
abbrev tx_Desk_undone : Stmt := inClass (top 60) 5
abbrev NN_Desk_undone : List Str := ["self"]
theorem scp_Desk_undone : FnScope NN_Desk_undone ["self"] (defScope tx_Desk_undone) := ⟨rfl, rfl, rfl, by decide +kernel, rfl, by decide +kernel, by decide +kernel⟩
theorem cal_Desk_undone (T : Txt K mg) : CalM P w K mg base CX0 4 (He.ga K "Desk") "undone" (sp_Desk_undone K) := by
  obtain ⟨fd, F⟩ := T.d_Desk_undone
  refine ⟨_, fd, ["self"], F.ok scp_Desk_undone (fun vs H Q E h => ?_) (fun cdv A outer s H vs Q E hr h => ?_), T.m_Desk_undone, F.bindsN fun _ _ _ _ _ _ us hl => match us, hl with | [_], _ => rfl⟩
  · obtain ⟨d, r, p, sh, past, rfl, _⟩ := h
    rfl
  obtain ⟨d, r, p, sh, past, rfl, ⟨⟨dx, hd⟩, ⟨rx, la, t, us, R⟩⟩, k⟩ := h
  refine ⟨_, PSs.nox (pss_cons (ps_try_only (tb := fun W => tDrop (tMeth (He.ga K "Receiver") "undo" (sp_Receiver_undo K) [.int 1] (fun cls d H => ∀ σ, W cls d σ H) (tFld K (tVar 0) "own_receiver") tNil)) (ts := fun _ _ _ => tRet (tC (.str "nothing"))) (Wout := fun _ _ _ _ => False) rfl rfl ⟨rfl, by decide, .inl T.g_NothingLeft⟩ takes0 (fun W pn xe tk _ =>
      (pss_one (ps_expr (pe_undo0 (pe_fld (pv 0) rfl) T hr (by decide) (passes_call (E := fun cls d H => ∀ σ, W cls d σ H) tk (fun _ _ σ _ h => h σ)))))) (fun a oe cls d pn _ _ => (pss_one (ps_ret (pe_gs T.c_NOTHING)))))
      (pss_one (ps_ret (pe_gs T.c_DONE)))), ?_⟩
  refine ⟨_, rfl, d, _, dx, _, _, rfl, hd, T.cls_Desk, T.na_own_receiver, df_at r, r, rx, _, rfl, R.ob, rf_no _ _ _ (by decide +kernel), r, p, 1, sh, past, rfl, ⟨rx, la, t, us, R⟩, Nat.le_refl _, ?_⟩
  by_cases c : 1 < past.length
  · refine .inl ⟨c, fun H1 f1 R1 => ?_⟩
    unfold undoA at k
    rw [if_pos c] at k
    exact k H1 f1 R1
  · refine .inr ⟨by omega, fun H1 dd f1 h0 h1 σ => ⟨true, T.xm_left, fun _ a ha => ?_, fun z => nomatch z⟩⟩
    unfold undoA at k
    rw [if_neg c] at k
    exact k H1 (f1.sub fun b hb => by cases hb) (RAt.mono ⟨rx, la, t, us, R⟩ f1 (by simp))
def sp_Desk_alone (K : Frag) : Sp := fun vs H Q E => ∃ (d r : Addr) (p : Int) (sh : List Int) (past : List Mail) (w : Str), vs = [.ref d, .str w] ∧ DAt K H d r p sh past ∧ DOk p sh past ∧
  ((∃ z past', aloneA p sh past w = some (z, past') ∧ ∀ H', Fr [r] H H' → RAt K H' r p sh past' → Q (.str z) H') ∨ (aloneA p sh past w = none ∧ FlyN K [] H E))
abbrev tx_Desk_alone : Stmt := inClass (top 60) 4
abbrev NN_Desk_alone : List Str := ["self", "word", "pair"]
theorem scp_Desk_alone : FnScope NN_Desk_alone ["self", "word"] (defScope tx_Desk_alone) := ⟨rfl, rfl, rfl, by decide +kernel, rfl, by decide +kernel, by decide +kernel⟩
theorem cal_Desk_alone (T : Txt K mg) : CalM P w K mg base (L2.CX P w) 8 (He.ga K "Desk") "alone" (sp_Desk_alone K) := by
  obtain ⟨fd, F⟩ := T.d_Desk_alone
  refine ⟨_, fd, ["self", "word"], F.ok scp_Desk_alone (fun vs H Q E h => ?_) (fun cdv A outer s H vs Q E hr h => ?_), T.m_Desk_alone, F.bindsN fun _ _ _ _ _ _ us hl => match us, hl with | [_, _], _ => rfl⟩
  · obtain ⟨d, r, p, sh, past, w, rfl, _⟩ := h
    rfl
  obtain ⟨d, r, p, sh, past, w, rfl, hD, hO, k⟩ := h
  refine ⟨_, (pss_cons (ps_if (pt_cmpR op_eq (pv 1) pe_str (nomark _)) (pss_one (ps_ret (pe_callTy call_str_int (by rfl) T.z_str (by decide +kernel) (pa_cons (pe_cam0 (pe_fld (pv 0) rfl) T.cls_Receiver (cal_Receiver_known T) hr (by decide) pass0) pa_nil)))) pss_nil)
      (pss_cons (ps_if (pt_cmpR op_eq (pv 1) pe_str (nomark _)) (pss_one (ps_ret (pe_callTy call_str_int (by rfl) T.z_str (by decide +kernel) (pa_cons (pe_cam0 (pe_fld (pv 0) rfl) T.cls_Receiver (cal_Receiver_more T) hr (by decide) pass0) pa_nil)))) pss_nil)
      (pss_cons (ps_if (pt_cmpR op_eq (pv 1) pe_str (nomark _)) (pss_one (ps_ret (pe_cal (cal_numbers_text T) hr (by decide) pass0 (pa_cons (pe_cam0 (pe_fld (pv 0) rfl) T.cls_Receiver (cal_Receiver_read T) hr (by decide) (passes_call (takes_of rfl rfl rfl rfl) (fun _ _ _ _ h => h))) pa_nil)))) pss_nil)
      (pss_cons (ps_if (pt_cmpR op_eq (pv 1) pe_str (nomark _)) (pss_one (ps_ret (pe_cal (cal_numbers_text T) hr (by decide) pass0 (pa_cons (pe_callTy call_tuple_of (by rfl) T.z_tuple (by decide +kernel) (pa_cons (pe_lc (own := [("pair", 2)]) (g := gName 2) (tt := tYes) rfl scp_Desk_alone.nd (pi_tup (pe_cam0 (pe_fld (pv 0) rfl) T.cls_Receiver (cal_Receiver_mail T) hr (by decide) pass0)) (blkOk_by (N := NN_Desk_alone) (sc := defScope tx_Desk_alone) (by decide +kernel)) (fun _ _ _ _ _ => (pg_name (i := 2) scp_Desk_alone.nd rfl (.inl rfl))) (fun _ _ _ _ _ => pts_nil) (fun _ _ _ _ _ => (pe_ix (r := rIxT K) ix_tup (pv 2) pe_int (fun _ _ => rfl)))) pa_nil)) pa_nil)))) pss_nil)
      (pss_cons (ps_if (pt_cmpR op_eq (pv 1) pe_str (nomark _)) (pss_one (ps_ret (pe_cal (cal_numbers_text T) hr (by decide) pass0 (pa_cons (pe_cam0 (pe_fld (pv 0) rfl) T.cls_Receiver (cal_Receiver_suspects T) hr (by decide) pass0) pa_nil)))) pss_nil)
      (pss_cons (ps_if (pt_cmpR op_eq (pv 1) pe_str (nomark _)) (pss_one (ps_ret (pe_callTy call_str_int (by rfl) T.z_str (by decide +kernel) (pa_cons (pe_callB (lenR T hr (by decide)) (by rfl) T.z_len PySem.boot_len (pa_cons (pe_fld (pv 0) rfl) pa_nil)) pa_nil)))) pss_nil)
      (pss_one (ps_ret (pe_cam0 (pv 0) T.cls_Desk (cal_Desk_undone T) hr (by decide) pass0))))))))), ?_⟩
  obtain ⟨⟨dx, hd⟩, ⟨rx, la, t, us, R⟩⟩ := id hD
  have hR : RAt K H r p sh past := ⟨rx, la, t, us, R⟩
  have nil1 : ∀ {H'}, Same H H' → RAt K H' r p sh past := fun s => hR.mono (Fr.same (S := []) s) (by simp)
  have hp := hO.hp
  have hc := hO.ok.cur
  refine ⟨_, rfl, rfl, _, rfl, ?_⟩
  by_cases c1 : w = lit "known"
  · refine iteTb (decide_eq_true (congrArg V.str c1)) ?_
    rw [show aloneA p sh past w = some (istr (reachM sh (cur past).length), past) from if_pos c1] at k
    rcases k with ⟨z, q, e, k⟩ | ⟨e, _⟩
    case inr => cases e
    cases e
    refine ⟨_, rfl, d, _, dx, _, _, rfl, hd, T.cls_Desk, T.na_own_receiver, df_at r, r, rx, _, rfl, R.ob, rf_no _ _ _ (by decide +kernel), r, p, sh, past, rfl, hR, hO.ok, hO.hs, fun H1 s1 => ?_⟩
    have hb := reachM_bd hO.hs (cur past).length
    exact ⟨_, rfl, log_bd (by omega) (by omega), k H1 (Fr.same s1) (nil1 s1)⟩
  refine iteFb (decide_eq_false fun z => c1 (V.str.inj z)) ?_
  refine ⟨_, rfl, rfl, _, rfl, ?_⟩
  by_cases c2 : w = lit "more"
  · refine iteTb (decide_eq_true (congrArg V.str c2)) ?_
    rw [show aloneA p sh past w = some (istr (moreM sh (cur past).length), past) from (if_neg c1).trans (if_pos c2)] at k
    rcases k with ⟨z, q, e, k⟩ | ⟨e, _⟩
    case inr => cases e
    cases e
    refine ⟨_, rfl, d, _, dx, _, _, rfl, hd, T.cls_Desk, T.na_own_receiver, df_at r, r, rx, _, rfl, R.ob, rf_no _ _ _ (by decide +kernel), r, p, sh, past, rfl, hR, hO.ok, hO.hs, fun H1 s1 => ?_⟩
    have hb := more_bd hO.hs (cur past).length
    exact ⟨_, rfl, log_bd (by omega) (by omega), k H1 (Fr.same s1) (nil1 s1)⟩
  refine iteFb (decide_eq_false fun z => c2 (V.str.inj z)) ?_
  refine ⟨_, rfl, rfl, _, rfl, ?_⟩
  by_cases c3 : w = lit "read"
  · refine iteTb (decide_eq_true (congrArg V.str c3)) ?_
    rw [show aloneA p sh past w = (if okM p sh (cur past) = true then some (rowM (readM p sh (cur past)), past) else none) from (if_neg c1).trans ((if_neg c2).trans (if_pos c3))] at k
    refine ⟨_, rfl, d, _, dx, _, _, rfl, hd, T.cls_Desk, T.na_own_receiver, df_at r, r, rx, _, rfl, R.ob, rf_no _ _ _ (by decide +kernel), r, p, sh, past, rfl, hR, hO.ok, hO.hs, hO.hp, ?_⟩
    by_cases co : okM p sh (cur past) = true
    · rw [if_pos co] at k
      rcases k with ⟨z, q, e, k⟩ | ⟨e, _⟩
      case inr => cases e
      cases e
      refine .inl ⟨co, fun H1 q1 s1 hq1 => ?_⟩
      have ht := read_ok hp hO.hs hc
      exact ⟨q1, _, rfl, hq1, ht.1, ht.2, fun H2 s2 => k H2 (Fr.same (s1.trans s2)) (nil1 (s1.trans s2))⟩
    · rw [if_neg co] at k
      rcases k with ⟨z, q, e, k⟩ | ⟨_, k⟩
      · cases e
      exact .inr ⟨by simpa using co, k⟩
  refine iteFb (decide_eq_false fun z => c3 (V.str.inj z)) ?_
  refine ⟨_, rfl, rfl, _, rfl, ?_⟩
  by_cases c4 : w = lit "mail"
  · refine iteTb (decide_eq_true (congrArg V.str c4)) ?_
    rw [show aloneA p sh past w = some (rowM ((cur past).map (·.1)), past) from (if_neg c1).trans ((if_neg c2).trans ((if_neg c3).trans (if_pos c4)))] at k
    rcases k with ⟨z, q, e, k⟩ | ⟨e, _⟩
    case inr => cases e
    cases e
    refine ⟨_, rfl, d, _, dx, _, _, rfl, hd, T.cls_Desk, T.na_own_receiver, df_at r, r, rx, _, rfl, R.ob, rf_no _ _ _ (by decide +kernel), r, p, sh, past, rfl, hR, hO.ok, fun c ms hm => ?_⟩
    obtain ⟨hcm, hpm, _⟩ := hm
    have hlen := hc.len
    have h8 := hO.hs.len.2
    refine ⟨c, rfl, ⟨_, hcm⟩, fun D hD0 => ?_⟩
    refine lc_ac (walk_tup (xs := ms)) (cur past) hpm.len.symm hD0 (fun d acc _ => acc = d.map fun q => V.int q.1) rfl (fun H1 s => sameT s _ _ hcm) ?_ ?_
    · rintro d' q r' x acc H1 H2 e s hD1 hl1 rfl ⟨rfl, hx⟩
      obtain ⟨b, c', rfl, hq, _⟩ := (PtsM.mono (sameT s) hpm).get hx (by rw [e]; exact getMid d' q r')
      refine ⟨rfl, yesT ⟨_, rfl, b, _, _, _, rfl, rfl, hq, at0 _ _, ?_⟩⟩
      refine Lc.put hD0 s hD1 hl1 (by rw [e] at hlen; simp at hlen; omega) ?_
      simp
    · rintro acc H1 s hD1 hl1 rfl
      have ht := nums_ok hO.hs hc
      refine ⟨D, _, rfl, .inl ⟨.of hD1, fun q hq => ?_⟩⟩
      refine ⟨q, (cur past).map (·.1), rfl, by rw [List.map_map]; exact .of upd_same, ht.1, ht.2, fun H2 s2 => ?_⟩
      have s3 := s.trans ((sameNew hq).trans s2)
      exact k H2 (Fr.same s3) (nil1 s3)
  refine iteFb (decide_eq_false fun z => c4 (V.str.inj z)) ?_
  refine ⟨_, rfl, rfl, _, rfl, ?_⟩
  by_cases c5 : w = lit "suspects"
  · refine iteTb (decide_eq_true (congrArg V.str c5)) ?_
    rw [show aloneA p sh past w = some (rowM (susM p sh (cur past)), past) from (if_neg c1).trans ((if_neg c2).trans ((if_neg c3).trans ((if_neg c4).trans (if_pos c5))))] at k
    rcases k with ⟨z, q, e, k⟩ | ⟨e, _⟩
    case inr => cases e
    cases e
    refine ⟨_, rfl, d, _, dx, _, _, rfl, hd, T.cls_Desk, T.na_own_receiver, df_at r, r, rx, _, rfl, R.ob, rf_no _ _ _ (by decide +kernel), r, p, sh, past, rfl, hR, hO.ok, hO.hs, hO.hp, fun H1 q1 s1 hq1 => ?_⟩
    have ht := sus_ok hO.hs hc
    exact ⟨q1, _, rfl, hq1, ht.1, ht.2, fun H2 s2 => k H2 (Fr.same (s1.trans s2)) (nil1 (s1.trans s2))⟩
  refine iteFb (decide_eq_false fun z => c5 (V.str.inj z)) ?_
  refine ⟨_, rfl, rfl, _, rfl, ?_⟩
  by_cases c6 : w = lit "deeds"
  · refine iteTb (decide_eq_true (congrArg V.str c6)) ?_
    rw [show aloneA p sh past w = some (istr ((past.length : Int) - 1), past) from (if_neg c1).trans ((if_neg c2).trans ((if_neg c3).trans ((if_neg c4).trans ((if_neg c5).trans (if_pos c6)))))] at k
    rcases k with ⟨z, q, e, k⟩ | ⟨e, _⟩
    case inr => cases e
    cases e
    have hl := hO.len
    have h1 := List.length_pos_iff.mpr hO.ok.ne
    refine ⟨_, rfl, d, _, dx, _, _, rfl, hd, T.cls_Desk, T.na_own_receiver, df_at r, r, rx, _, rfl, R.ob, r, p, sh, past, rfl, hR, hO.ok, fun H1 s1 => ⟨_, rfl, by omega, by omega, ?_⟩⟩
    exact ⟨_, rfl, log_bd (by omega) (by omega), k H1 (Fr.same s1) (nil1 s1)⟩
  refine iteFb (decide_eq_false fun z => c6 (V.str.inj z)) ?_
  rw [show aloneA p sh past w = some (undoA past) from (if_neg c1).trans ((if_neg c2).trans ((if_neg c3).trans ((if_neg c4).trans ((if_neg c5).trans (if_neg c6)))))] at k
  rcases k with ⟨z, q, e, k⟩ | ⟨e, _⟩
  case inr => cases e
  have e := Option.some.inj e
  refine ⟨_, rfl, d, dx, _, rfl, hd, df_no r (by decide +kernel), d, r, p, sh, past, rfl, hD, fun H1 f1 R1 => ?_⟩
  rw [e] at R1
  rw [e]
  exact k H1 f1 R1
end
end NL
/-! D19: the desk answers -/
namespace NL
open PySem PySem.Spec PyProof.Rows L2
theorem split_ne (x y : Str) : Txt.split x y ≠ [] := fun e => by
  have := split_pos x y
  rw [e] at this
  cases this
theorem rows_ne (z : Str) : rowsM z ≠ [] := fun e => split_ne z "\n" (List.map_eq_nil_iff.mp e)
theorem dropNe : ¬ wDrop = wCome := by decide +kernel
theorem aloneNe {w : Str} (h : w ∈ aloneL) : w ≠ wCome ∧ w ≠ wDrop := by
  have : aloneL.all (fun w => decide (w ≠ wCome ∧ w ≠ wDrop)) = true := by decide +kernel
  exact of_decide_eq_true (List.all_eq_true.mp this w h)
theorem parse_no {w : Str} {r : List Str} (h : ¬ w ∈ [wCome, wDrop] ++ aloneL) : parseM (w :: r) = none := by
  simp only [List.cons_append, List.nil_append, List.mem_cons, not_or] at h
  simp [parseM, h.1, h.2.1, h.2.2]
theorem parse_c2 {n : Str} {r : List Str} (hn : numM n = none) : parseM (wCome :: n :: r) = none := by
  cases r <;> simp [parseM, hn]
theorem parse_c1 {n : Str} : parseM [wCome, n] = none := by simp [parseM]
theorem parse_c3 {n c : Str} {k : Int} {r : List Str} (hn : numM n = some k) (hc : c ≠ wColon) : parseM (wCome :: n :: c :: r) = none := by simp [parseM, hn, hc]
theorem parse_c4 {n c : Str} {k : Int} {r : List Str} {e : Nat} (hn : numM n = some k) (hc : c = wColon) (hr : readSome 12 r = .error e) : parseM (wCome :: n :: c :: r) = none := by simp [parseM, hn, hc, hr]
theorem parse_c5 {n c : Str} {k : Int} {r : List Str} {ns : List Int} (hn : numM n = some k) (hc : c = wColon) (hr : readSome 12 r = .ok ns) : parseM (wCome :: n :: c :: r) = some (.come k ns) := by simp [parseM, hn, hc, hr]
theorem parse_d0 {r : List Str} {e : Nat} (hr : readNs 1 r = .error e) : parseM (wDrop :: r) = none := by simp [parseM, hr, dropNe]
theorem parse_d1 {r : List Str} {n : Int} (hr : readNs 1 r = .ok [n]) : parseM (wDrop :: r) = some (.drop n) := by simp [parseM, hr, dropNe]
theorem parse_a0 {w a : Str} {r : List Str} (h : w ∈ aloneL) : parseM (w :: a :: r) = none := by
  obtain ⟨h1, h2⟩ := aloneNe h
  simp [parseM, h1, h2]
theorem parse_a1 {w : Str} (h : w ∈ aloneL) : parseM [w] = some (.alone w) := by
  obtain ⟨h1, h2⟩ := aloneNe h
  simp [parseM, h1, h2, h]
section
variable {P : Program} {w : World} {K : Frag} {mg : Str → Option Value} {base : Heap}
/-- a text that can be told, in rows of words -/
structure TextOk (z : Str) : Prop where
  sm : Small z
  tm : ∀ ws ∈ rowsM z, Tames ws
def sp_Desk_answered (K : Frag) : Sp := fun vs H Q E => ∃ (d r : Addr) (p : Int) (sh : List Int) (past : List Mail) (v : V), vs = [.ref d, v] ∧ DAt K H d r p sh past ∧ DOk p sh past ∧
  ((∃ z, v = .str z ∧ TextOk z ∧ ((∃ a past', sayM p sh past (rowsM z) = some (a, past') ∧ ∀ H', Fr [r] H H' → RAt K H' r p sh past' → Q (.str a) H') ∨ (sayM p sh past (rowsM z) = none ∧ FlyN K [] H E))) ∨ (NoText K H v ∧ FlyN K [] H E))
abbrev tx_Desk_answered : Stmt := inClass (top 60) 3
abbrev NN_Desk_answered : List Str := ["self", "line", "rows", "here", "word", "number"]
theorem scp_Desk_answered : FnScope NN_Desk_answered ["self", "line"] (defScope tx_Desk_answered) := ⟨rfl, rfl, rfl, by decide +kernel, rfl, by decide +kernel, by decide +kernel⟩
theorem cal_Desk_answered (T : Txt K mg) : CalM P w K mg base (L2.CX P w) 9 (He.ga K "Desk") "answered" (sp_Desk_answered K) := by
  obtain ⟨fd, F⟩ := T.d_Desk_answered
  refine ⟨_, fd, ["self", "line"], F.ok scp_Desk_answered (fun vs H Q E h => ?_) (fun cdv A outer s H vs Q E hr h => ?_), T.m_Desk_answered, F.bindsN fun _ _ _ _ _ _ us hl => match us, hl with | [_, _], _ => rfl⟩
  · obtain ⟨d, r, p, sh, past, v, rfl, _⟩ := h
    rfl
  obtain ⟨d, r, p, sh, past, v, rfl, hD, hO, k⟩ := h
  refine ⟨_, (pss_cons (ps_set (i := 2) scp_Desk_answered.nd rfl (.inl rfl) (pe_cal (cal_lines_in T) hr (by decide) (passes_call (takes_of rfl rfl rfl rfl) (fun _ _ _ _ h => h)) (pa_cons (pv 1) pa_nil)))
      (pss_cons (ps_expr (pe_cal (cal_need_end T) hr (by decide) (passes_call (takes_of rfl rfl rfl rfl) (fun _ _ _ _ h => h)) (pa_cons (pv 2) (pa_cons pe_int pa_nil))))
      (pss_cons (ps_set (i := 3) scp_Desk_answered.nd rfl (.inl rfl) (pe_new (new_Words T) hr (by decide) pass0 (pa_cons (pe_ix ix_list (pv 2) pe_int (fun _ _ => rfl)) (pa_cons pe_int pa_nil))))
      (pss_cons (ps_set (i := 4) scp_Desk_answered.nd rfl (.inl rfl) (pe_cam (pv 3) T.cls_Words (cal_Words_read_word T) hr (by decide) (passes_call (takes_of rfl rfl rfl rfl) (fun _ _ _ _ h => h)) (pa_cons (pe_tup (pa_cons (pe_gs T.c_COME_desk) (pa_cons (pe_gs T.c_DROP_desk) (StX.pa_star (pe_gt T.c_ALONE) pa_nil)))) pa_nil)))
      (pss_cons (ps_if (pt_cmpR op_eq (pv 4) (pe_gs T.c_COME_desk) (nomark _)) (pss_cons (ps_set (i := 5) scp_Desk_answered.nd rfl (.inl rfl) (pe_cam0 (pv 3) T.cls_Words (cal_Words_read_number T) hr (by decide) (passes_call (takes_of rfl rfl rfl rfl) (fun _ _ _ _ h => h))))
      (pss_one (ps_ret (pe_callTy call_str_int (by rfl) T.z_str (by decide +kernel) (pa_cons (pe_cam (pe_fld (pv 0) rfl) T.cls_Receiver (cal_Receiver_come T) hr (by decide) (passes_call (takes_of rfl rfl rfl rfl) (fun _ _ _ _ h => h)) (pa_cons (pv 5) (pa_cons (pe_cal (cal_letter_in T) hr (by decide) (passes_call (takes_of rfl rfl rfl rfl) (fun _ _ _ _ h => h)) (pa_cons (pv 3) pa_nil)) pa_nil))) pa_nil))))) pss_nil)
      (pss_cons (ps_if (pt_cmpR op_eq (pv 4) (pe_gs T.c_DROP_desk) (nomark _)) (pss_one (ps_ret (pe_cal (cal_numbers_text T) hr (by decide) pass0 (pa_cons (pe_cam (pe_fld (pv 0) rfl) T.cls_Receiver (cal_Receiver_drop T) hr (by decide) (passes_call (takes_of rfl rfl rfl rfl) (fun _ _ _ _ h => h)) (pa_cons (pe_ix ix_tup (pe_cam (pv 3) T.cls_Words (cal_Words_read_numbers T) hr (by decide) (passes_call (takes_of rfl rfl rfl rfl) (fun _ _ _ _ h => h)) (pa_cons pe_int pa_nil)) pe_int (fun _ _ => rfl)) pa_nil)) pa_nil)))) pss_nil)
      (pss_cons (ps_expr (pe_cam0 (pv 3) T.cls_Words (cal_Words_need_over T) hr (by decide) (passes_call (takes_of rfl rfl rfl rfl) (fun _ _ _ _ h => h))))
      (pss_one (ps_ret (pe_cam (pv 0) T.cls_Desk (cal_Desk_alone T) hr (by decide) (passes_call (takes_of rfl rfl rfl rfl) (fun _ _ _ _ h => h)) (pa_cons (pv 4) pa_nil))))))))))), ?_⟩
  refine ⟨_, rfl, _, rfl, ?_⟩
  rcases k with ⟨z, rfl, hz, k⟩ | ⟨hno, k⟩
  case inr => exact .inr ⟨hno, k _ nestText _⟩
  refine .inl ⟨z, rfl, hz.sm, fun H1 l us s1 hl0 hl hA => ?_⟩
  have hul := hA.len
  -- the refusal
  have bad : sayM p sh past (rowsM z) = none → FlyN K [] H E := fun e => by
    rcases k with ⟨a, q, e', _⟩ | ⟨_, k⟩
    · rw [e] at e'
      cases e'
    · exact k
  refine ⟨_, rfl, l, us, 1, rfl, hl, ?_⟩
  by_cases c1 : us.length ≤ 1
  case neg =>
    refine .inr ⟨by omega, ?_⟩
    refine (bad ?_ _ nestText _).same s1
    unfold sayM
    split
    · rename_i ws e
      rw [e] at hul
      simp at hul
      omega
    · rfl
  refine .inl ⟨by omega, ?_⟩
  obtain ⟨ws, hrow⟩ : ∃ ws, rowsM z = [ws] := by
    have := rows_ne z
    cases e : rowsM z with
    | nil => exact absurd e this
    | cons a t =>
      cases t with
      | nil => exact ⟨a, rfl⟩
      | cons b t =>
        rw [e] at hul
        simp at hul
        omega
  have hT : Tames ws := hz.tm ws (by rw [hrow]; simp)
  rw [hrow] at hA k bad
  have hsay : sayM p sh past [ws] = (parseM ws).bind (ansCmd p sh past) := rfl
  rw [hsay] at k bad
  have bad' : parseM ws = none → FlyN K [] H E := fun e => bad (by rw [e]; rfl)
  obtain ⟨u0, hus, hu0⟩ : ∃ u0, us = [u0] ∧ RowAt H1 u0 ws := by
    cases hA with
    | cons q t =>
      cases t
      exact ⟨_, rfl, q⟩
  obtain ⟨b, rfl, hb⟩ := hu0
  subst hus
  refine ⟨_, rfl, l, _, _, _, rfl, rfl, .of hl, at0 _ _, fun x dx hx hdx hne => ?_⟩
  have hbx : b ≠ x := ne_of_none hb hx
  have hbdx : b ≠ dx := ne_of_none hb hdx
  have hxH : H x = none := s1.free hx
  refine ⟨x, dx, b, 0, ws, rfl, upd_same, by rw [upd_ne hbx, upd_ne hbdx]; exact hb, fun H2 f2 hW2 => ⟨rfl, ?_⟩⟩
  have s2 : Same H H2 := by
    refine sameFr (wd := x) (H1 := upd (upd H1 dx (.own x)) x (.ins (He.ga K "Words") dx [])) ?_ hxH f2
    intro b' o' e'
    rw [upd_ne (ne_of_none (s1 _ _ e') hx), upd_ne (ne_of_none (s1 _ _ e') hdx)]
    exact s1 _ _ e'
  obtain ⟨dx2, l2, g1, g2⟩ := id hW2
  refine ⟨_, rfl, x, dx2, _, rfl, g1, wf_no _ _ _ (by decide +kernel), fun al hal => ⟨al, _, rfl, .inl (hal _), le1000 (by simp), fun t ht => ?_⟩⟩
  have st := sameNew (o := .tup ([V.str (lit "come"), V.str (lit "drop")] ++ (aloneL.map V.str))) ht
  have hW3 := hW2.same st
  have s3 := s2.trans st
  refine ⟨x, ws, 0, 0, t, [wCome, wDrop] ++ aloneL, rfl, hW3, Nat.zero_le _, .of upd_same, ?_⟩
  by_cases c2 : nxt ws 0 ∈ [wCome, wDrop] ++ aloneL
  case neg =>
    refine .inr ⟨c2, ?_⟩
    refine (bad' ?_ _ nestText _).same s3
    cases ws with
    | nil => rfl
    | cons w0 r0 => exact parse_no c2
  refine .inl ⟨c2, fun H4 f4 hW4 => ?_⟩
  have hx3 : ∀ {G : Hp}, G x = none → False → False := fun _ z => z
  have s4 : Same H H4 := sameFr s3 hxH f4
  have hpos : 0 < ws.length := by
    cases ws with
    | nil => exact absurd c2 (by decide +kernel)
    | cons w0 r0 => simp
  obtain ⟨w0, r0, rfl⟩ : ∃ w0 r0, ws = w0 :: r0 := by
    cases ws with
    | nil => cases hpos
    | cons a t => exact ⟨a, t, rfl⟩
  have e0 : nxt (w0 :: r0) 0 = w0 := rfl
  rw [e0] at c2 ⊢
  obtain ⟨dx4, l4, g41, g42⟩ := id hW4
  have hD4 := hD.same s4
  refine ⟨_, rfl, rfl, _, rfl, ?_⟩
  by_cases c3 : w0 = wCome
  · refine iteTb (decide_eq_true (congrArg V.str c3)) ?_
    obtain ⟨tl1, tl2⟩ := tame_nxt hT 1
    refine ⟨_, rfl, x, dx4, _, rfl, g41, wf_no _ _ _ (by decide +kernel), x, _, 0, 1, rfl, hW4, by simp, tl1, tl2, ?_⟩
    have hdrop1 : (w0 :: r0).drop 1 = r0 := rfl
    cases hn : numM (nxt (w0 :: r0) 1) with
    | none =>
      refine .inr ⟨rfl, (bad' ?_ _ nestText _).same s4⟩
      rw [c3]
      cases r0 with
      | nil => simp [parseM]
      | cons n r1 => exact parse_c2 hn
    | some n =>
      refine .inl ⟨n, rfl, fun H5 f5 hW5 => ?_⟩
      have s5 : Same H H5 := sameFr s4 hxH f5
      obtain ⟨⟨ddx, hd5⟩, ⟨rx, la, tt, ruu, R5⟩⟩ := id (hD.same s5)
      have hil : 1 < (w0 :: r0).length := by
        cases r0 with
        | nil =>
          have hn : numM "" = some n := hn
          rw [num_nil] at hn
          cases hn
        | cons a t => simp
      refine ⟨_, rfl, d, _, ddx, _, _, rfl, hd5, T.cls_Desk, T.na_own_receiver, df_at r, r, rx, _, rfl, R5.ob, rf_no _ _ _ (by decide +kernel), _, rfl, _, rfl, x, _, 0, 2, rfl, hW5, by omega, hT, ?_⟩
      obtain ⟨n0, r1, rfl⟩ : ∃ n0 r1, r0 = n0 :: r1 := by
        cases r0 with
        | nil => simp at hil
        | cons a t => exact ⟨a, t, rfl⟩
      have hn : numM n0 = some n := hn
      by_cases hok : ∃ ns, nxt (w0 :: n0 :: r1) 2 = wColon ∧ readSome 12 ((w0 :: n0 :: r1).drop (2 + 1)) = .ok ns
      · obtain ⟨ns, hcol, hrd⟩ := hok
        refine .inl ⟨ns, hcol, hrd, fun H6 t6 f6 ht6 => ?_⟩
        have s6 : Same H H6 := sameFr s5 hxH f6
        obtain ⟨⟨ddx6, hd6⟩, ⟨rx6, la6, tt6, ruu6, R6⟩⟩ := id (hD.same s6)
        obtain ⟨c, r2, rfl⟩ : ∃ c r2, r1 = c :: r2 := by
          cases r1 with
          | nil =>
            have : (lit "") = wColon := hcol
            exact absurd this (by decide +kernel)
          | cons a t => exact ⟨a, t, rfl⟩
        have hcol : c = wColon := hcol
        have hrd : readSome 12 r2 = .ok ns := hrd
        have hp : parseM (w0 :: n0 :: c :: r2) = some (.come n ns) := by rw [c3]; exact parse_c5 hn hcol hrd
        rw [hp] at k bad
        have hnl : ns.length ≤ 1000 := by
          have := readSome_len hrd
          omega
        refine ⟨r, t6, p, n, sh, ns, past, rfl, ⟨rx6, la6, tt6, ruu6, R6⟩, hO.ok, hO.hs, by have := hO.len; omega, ht6, hnl, ?_⟩
        have ecmd : ((some (Cmd.come n ns)).bind (ansCmd p sh past)) = if comeB p sh (cur past) n ns = true then some (istr (reachM sh ((cur past).length + 1)), past ++ [srtM (cur past ++ [(n, ns)])]) else none := rfl
        rw [ecmd] at k bad
        by_cases cb : comeB p sh (cur past) n ns = true
        · rw [if_pos cb] at k
          rcases k with ⟨a, q, e, k⟩ | ⟨e, _⟩
          case inr => cases e
          cases e
          refine .inl ⟨cb, fun H7 f7 R7 => ?_⟩
          have hb := reachM_bd hO.hs ((cur past).length + 1)
          exact ⟨_, rfl, log_bd (by omega) (by omega), k H7 ((Fr.same s6).trans f7) R7⟩
        · rw [if_neg cb] at bad
          exact .inr ⟨by simpa using cb, (bad rfl).same s6⟩
      · refine .inr ⟨fun hcol ns hrd => hok ⟨ns, hcol, hrd⟩, fun fs => ?_⟩
        refine Fly.fresh (bad' ?_ _ nestText _) s5 hxH
        rw [c3]
        cases r1 with
        | nil => exact parse_c1
        | cons c r2 =>
          by_cases hcol : c = wColon
          · cases hrd : readSome 12 r2 with
            | ok ns => exact absurd ⟨ns, hcol, hrd⟩ hok
            | error e => exact parse_c4 hn hcol hrd
          · exact parse_c3 hn hcol
  refine iteFb (decide_eq_false fun z => c3 (V.str.inj z)) ?_
  refine ⟨_, rfl, rfl, _, rfl, ?_⟩
  by_cases c4 : w0 = wDrop
  · refine iteTb (decide_eq_true (congrArg V.str c4)) ?_
    obtain ⟨⟨ddx, hd5⟩, ⟨rx, la, tt, ruu, R5⟩⟩ := id hD4
    refine ⟨_, rfl, d, _, ddx, _, _, rfl, hd5, T.cls_Desk, T.na_own_receiver, df_at r, r, rx, _, rfl, R5.ob, rf_no _ _ _ (by decide +kernel), _, rfl, x, dx4, _, rfl, g41, wf_no _ _ _ (by decide +kernel), x, _, 0, 1, 1, rfl, hW4, by simp, by decide, by decide, hT, ?_⟩
    have hdrop1 : (w0 :: r0).drop 1 = r0 := rfl
    rw [hdrop1]
    cases hrd : readNs 1 r0 with
    | error e =>
      exact .inr ⟨e, rfl, Fly.fresh (bad' (by rw [c4]; exact parse_d0 hrd) _ nestText _) s4 hxH⟩
    | ok ns =>
      obtain ⟨n, rfl⟩ := readNs1 hrd
      have hparse : parseM (w0 :: r0) = some (.drop n) := by rw [c4]; exact parse_d1 hrd
      rw [hparse] at k bad
      refine .inl ⟨[n], rfl, fun H6 t6 f6 ht6 => ?_⟩
      have s6 : Same H H6 := sameFr s4 hxH f6
      obtain ⟨⟨ddx6, hd6⟩, R6⟩ := id (hD.same s6)
      refine ⟨t6, _, _, _, rfl, rfl, ht6, at0 _ _, r, p, n, sh, past, rfl, R6, hO.ok, hO.hs, by have := hO.len; omega, ?_⟩
      have ecmd : ((some (Cmd.drop n)).bind (ansCmd p sh past)) = if n ∈ (cur past).map (·.1) then some (rowM (letM (cur past) n), past ++ [wo (cur past) n]) else none := rfl
      rw [ecmd] at k bad
      by_cases cb : n ∈ (cur past).map (·.1)
      · rw [if_pos cb] at k
        rcases k with ⟨a, q, e, k⟩ | ⟨e, _⟩
        case inr => cases e
        cases e
        refine .inl ⟨cb, fun H7 t7 f7 R7 ht7 => ?_⟩
        have ht := let_tell hO.hp hO.hs hO.ok.cur cb
        refine ⟨t7, _, rfl, ht7, ht.1, ht.2, fun H8 s8 => ?_⟩
        exact k H8 ((Fr.same s6).trans (f7.trans (Fr.same s8))) (R7.mono (Fr.same (S := []) s8) (by simp))
      · rw [if_neg cb] at bad
        exact .inr ⟨cb, (bad rfl).same s6⟩
  refine iteFb (decide_eq_false fun z => c4 (V.str.inj z)) ?_
  have c5 : w0 ∈ aloneL := by
    simp only [List.cons_append, List.nil_append, List.mem_cons] at c2
    rcases c2 with c2 | c2 | c2
    · exact absurd c2 c3
    · exact absurd c2 c4
    · simpa [aloneL] using c2
  refine ⟨_, rfl, x, dx4, _, rfl, g41, wf_no _ _ _ (by decide +kernel), x, _, 0, 1, rfl, hW4, ?_⟩
  by_cases c6 : 1 = (w0 :: r0).length
  case neg =>
    refine .inr ⟨c6, (bad' ?_ _ nestText _).same s4⟩
    cases r0 with
    | nil => exact absurd rfl c6
    | cons a t => exact parse_a0 c5
  refine .inl ⟨c6, ?_⟩
  have hr0 : r0 = [] := by
    cases r0 with
    | nil => rfl
    | cons a t => simp at c6
  subst hr0
  have hparse : parseM [w0] = some (.alone w0) := parse_a1 c5
  rw [hparse] at k bad
  obtain ⟨⟨ddx, hd5⟩, R5⟩ := id hD4
  refine ⟨_, rfl, d, ddx, _, rfl, hd5, df_no r (by decide +kernel), _, rfl, d, r, p, sh, past, w0, rfl, hD4, hO, ?_⟩
  rcases k with ⟨a, q, e, k⟩ | ⟨e, k⟩
  · exact .inl ⟨a, q, e, fun H7 f7 R7 => k H7 ((Fr.same s4).trans f7) R7⟩
  · exact .inr ⟨e, k.same s4⟩
def sp_Desk_say (K : Frag) : Sp := fun vs H Q _ => ∃ (d r : Addr) (p : Int) (sh : List Int) (past : List Mail) (v : V), vs = [.ref d, v] ∧ DAt K H d r p sh past ∧ DOk p sh past ∧
  ((∃ z, v = .str z ∧ TextOk z ∧ ∀ H', Fr [r] H H' → RAt K H' r p sh (sayA p sh past z).2 → Q (.str (sayA p sh past z).1) H') ∨ (NoText K H v ∧ ∀ H', Same H H' → Q (.str "no") H'))
theorem nest_caught (T : Txt K mg) {x : Str} (h : x ∈ nestL) : PySem.W.exmOne K (.ref (He.ga K x)) (.ref (He.ga K "NestError")) = some true := by
  simp only [nestL, List.mem_cons, List.not_mem_nil, or_false] at h
  rcases h with rfl | rfl | rfl | rfl | rfl | rfl
  · exact T.xm_BadNumber
  · exact T.xm_BadPrime
  · exact T.xm_BadLaying
  · exact T.xm_Unsound
  · exact T.xm_BadLetter
  · exact T.xm_BadText
abbrev tx_Desk_say : Stmt := inClass (top 60) 2
abbrev NN_Desk_say : List Str := ["self", "line"]
theorem scp_Desk_say : FnScope NN_Desk_say ["self", "line"] (defScope tx_Desk_say) := ⟨rfl, rfl, rfl, by decide +kernel, rfl, by decide +kernel, by decide +kernel⟩
theorem cal_Desk_say (T : Txt K mg) : CalM P w K mg base CX0 10 (He.ga K "Desk") "say" (sp_Desk_say K) := by
  obtain ⟨fd, F⟩ := T.d_Desk_say
  refine ⟨_, fd, ["self", "line"], F.ok scp_Desk_say (fun vs H Q E h => ?_) (fun cdv A outer s H vs Q E hr h => ?_), T.m_Desk_say, F.bindsN fun _ _ _ _ _ _ us hl => match us, hl with | [_, _], _ => rfl⟩
  · obtain ⟨d, r, p, sh, past, v, rfl, _⟩ := h
    rfl
  obtain ⟨d, r, p, sh, past, v, rfl, hD, hO, k⟩ := h
  refine ⟨_, PSs.nox (pss_one (ps_try_only (tb := fun W => tRet (tMeth (He.ga K "Desk") "answered" (sp_Desk_answered K) [] (fun cls d H => ∀ σ, W cls d σ H) (tVar 0) (tCons (tVar 1) tNil))) (ts := fun _ _ _ => tRet (tC (.str "no"))) (Wout := fun _ _ _ _ => False) rfl rfl ⟨rfl, by decide, .inl T.g_NestError⟩ takes0 (fun W pn xe tk _ =>
      (pss_one (ps_ret (pe_cam (pv 0) T.cls_Desk (cal_Desk_answered T) hr (by decide) (passes_call (E := fun cls d H => ∀ σ, W cls d σ H) tk (fun _ _ σ _ h => h σ)) (pa_cons (pv 1) pa_nil))))) (fun a oe cls d pn _ _ => (pss_one (ps_ret (pe_gs T.c_NO)))))), ?_⟩
  obtain ⟨⟨dx, hd⟩, hR⟩ := id hD
  refine ⟨_, rfl, d, dx, _, rfl, hd, df_no r (by decide +kernel), _, rfl, d, r, p, sh, past, v, rfl, hD, hO, ?_⟩
  rcases k with ⟨z, rfl, hz, k⟩ | ⟨hno, k⟩
  · refine .inl ⟨z, rfl, hz, ?_⟩
    unfold sayA at k
    cases e : sayM p sh past (rowsM z) with
    | some q =>
      obtain ⟨a, past'⟩ := q
      rw [e] at k
      exact .inl ⟨a, past', rfl, fun H1 f1 R1 => k H1 f1 R1⟩
    | none =>
      rw [e] at k
      refine .inr ⟨rfl, fun x hx fs H1 dd f1 h0 h1 σ => ⟨true, nest_caught T hx, fun _ a ha => ?_, fun z => nomatch z⟩⟩
      exact k H1 (f1.sub fun b hb => by cases hb) (hR.mono f1 (by simp))
  · refine .inr ⟨hno, fun x hx fs H1 dd f1 h0 h1 σ => ⟨true, nest_caught T hx, fun _ a ha => ?_, fun z => nomatch z⟩⟩
    exact k H1 f1.toSame
end
end NL
/-! D20: a desk made -/
namespace NL
open PySem PySem.Spec PyProof.Rows L2
instance decPrm (p : Int) : Decidable (Prm p) := by
  unfold Prm
  infer_instance
/-- what a text makes -/
inductive Ini
  | ok (p : Int) (sh : List Int)
  | text (l w : Int)
  | prime (p : Int)
  | laying (sh : List Int)
deriving DecidableEq
def iniM (rows : List (List Str)) : Ini := match rows with
  | [] => .text 0 0
  | r0 :: rest => match readNs 1 r0 with
    | .error e => .text 0 (e : Nat)
    | .ok ns => match rest with
      | [] => .text 1 0
      | r1 :: rest2 => match readNs 8 r1 with
        | .error e => .text 1 (e : Nat)
        | .ok sh => match rest2 with
          | _ :: _ => .text 2 0
          | [] => if Prm (ns.headD 0) then (if layB sh = true then .ok (ns.headD 0) sh else .laying sh) else .prime (ns.headD 0)
section
variable {P : Program} {w : World} {K : Frag} {mg : Str → Option Value} {base : Heap}
def IniP (K : Frag) (H : Hp) (d : Addr) (Q : VK) (E : XK) : Ini → Prop
  | .ok p sh => ∀ H' r, Fr [d] H H' → H r = none → DAt K H' d r p sh [[]] → Q .non H'
  | .text l w => Fly K "BadText" [("word", .int w), ("line", .int l)] [] H E
  | .prime p => Fly K "BadPrime" [("given", .int p)] [] H E
  | .laying sh => ∀ H1 t, Same H H1 → SqT K H1 t (sh.map .int) → Fly K "BadLaying" [("given", .ref t)] [] H1 E
def sp_Desk_init (K : Frag) : Sp := fun vs H Q E => ∃ (d dx : Addr) (v : V), vs = [.ref d, v] ∧ H d = some (.ins (He.ga K "Desk") dx []) ∧
  ((∃ z, v = .str z ∧ TextOk z ∧ IniP K H d Q E (iniM (rowsM z))) ∨ (NoText K H v ∧ Fly K "BadText" [("word", .non), ("line", .non)] [] H E))
theorem sameMake {H1 : Hp} {x dx C : Addr} (hx : H1 x = none) (hdx : H1 dx = none) : Same H1 (upd (upd H1 dx (.own x)) x (.ins C dx [])) := fun b o e => by
  rw [upd_ne (ne_of_none e hx), upd_ne (ne_of_none e hdx)]
  exact e
abbrev tx_Desk_init : Stmt := inClass (top 60) 0
abbrev NN_Desk_init : List Str := ["self", "text", "rows", "prime", "laying"]
theorem scp_Desk_init : FnScope NN_Desk_init ["self", "text"] (defScope tx_Desk_init) := ⟨rfl, rfl, rfl, by decide +kernel, rfl, by decide +kernel, by decide +kernel⟩
theorem new_Desk (T : Txt K mg) : CalI P w K mg base (L2.CX P w) 7 "Desk" (sp_Desk_init K) := by
  obtain ⟨fd, F⟩ := T.d_Desk_init
  refine ⟨_, fd, ["self", "text"], F.ok scp_Desk_init (fun vs H Q E h => ?_) (fun cdv A outer s H vs Q E hr h => ?_), T.mk_Desk, T.g_Desk, F.bindsN fun _ _ _ _ _ _ us hl => match us, hl with | [_, _], _ => rfl⟩
  · obtain ⟨d, ddx, v, rfl, _⟩ := h
    rfl
  obtain ⟨d, ddx, v, rfl, hd, k⟩ := h
  refine ⟨_, (pss_cons (ps_set (i := 2) scp_Desk_init.nd rfl (.inl rfl) (pe_cal (cal_lines_in T) hr (by decide) (passes_call (takes_of rfl rfl rfl rfl) (fun _ _ _ _ h => h)) (pa_cons (pv 1) pa_nil)))
      (pss_cons (ps_set (i := 3) scp_Desk_init.nd rfl (.inl rfl) (pe_ix ix_tup (pe_cam (pe_new (new_Words T) hr (by decide) pass0 (pa_cons (pe_ix ix_list (pv 2) pe_int (fun _ _ => rfl)) (pa_cons pe_int pa_nil))) T.cls_Words (cal_Words_read_numbers T) hr (by decide) (passes_call (takes_of rfl rfl rfl rfl) (fun _ _ _ _ h => h)) (pa_cons pe_int pa_nil)) pe_int (fun _ _ => rfl)))
      (pss_cons (ps_if (pt_cmpR op_eq (pe_callB call_len_seq (by rfl) T.z_len PySem.boot_len (pa_cons (pv 2) pa_nil)) pe_int (nomark _)) (pss_one (ps_raise rfl (takes_of rfl rfl rfl rfl) (pmk_BadText T hr (by decide) (pa_cons pe_int (pa_cons pe_int pa_nil))))) pss_nil)
      (pss_cons (ps_set (i := 4) scp_Desk_init.nd rfl (.inl rfl) (pe_cam (pe_new (new_Words T) hr (by decide) pass0 (pa_cons (pe_ix ix_list (pv 2) pe_int (fun _ _ => rfl)) (pa_cons pe_int pa_nil))) T.cls_Words (cal_Words_read_numbers T) hr (by decide) (passes_call (takes_of rfl rfl rfl rfl) (fun _ _ _ _ h => h)) (pa_cons (pe_gi T.c_MOST_LETTERS) pa_nil)))
      (pss_cons (ps_expr (pe_cal (cal_need_end T) hr (by decide) (passes_call (takes_of rfl rfl rfl rfl) (fun _ _ _ _ h => h)) (pa_cons (pv 2) (pa_cons pe_int pa_nil))))
      (pss_cons (ps_expr (pe_cal (cal_need_prime T) hr (by decide) (passes_call (takes_of rfl rfl rfl rfl) (fun _ _ _ _ h => h)) (pa_cons (pv 3) pa_nil)))
      (pss_cons (ps_expr (pe_cal (cal_need_laying T) hr (by decide) (passes_call (takes_of rfl rfl rfl rfl) (fun _ _ _ _ h => h)) (pa_cons (pv 4) pa_nil)))
      (pss_one (ps_fld (pv 0) (pe_new (new_Receiver T) hr (by decide) (passes_call (takes_of rfl rfl rfl rfl) (fun _ _ _ _ h => h)) (pa_cons (pv 3) (pa_cons (pv 4) pa_nil))) rfl))))))))), ?_⟩
  refine ⟨_, rfl, _, rfl, ?_⟩
  rcases k with ⟨z, rfl, hz, k⟩ | ⟨hno, k⟩
  case inr => exact .inr ⟨hno, k⟩
  refine .inl ⟨z, rfl, hz.sm, fun H1 l us s1 hl0 hl hA => ?_⟩
  have hul := hA.len
  have hTall := hz.tm
  generalize hrows : rowsM z = rows at *
  cases hA with
  | nil => exact absurd hrows (rows_ne z)
  | @cons u0 ws0 us1 rest hu0 hAr =>
  obtain ⟨b, rfl, hb⟩ := hu0
  refine ⟨_, rfl, l, _, _, _, rfl, rfl, .of hl, at0 _ _, fun x dx hx hdx hne => ?_⟩
  have sm := sameMake (C := He.ga K "Words") hx hdx
  refine ⟨x, dx, b, 0, ws0, rfl, upd_same, sm _ _ hb, fun H2 f2 hW2 => ⟨rfl, ?_⟩⟩
  have hxH : H x = none := s1.free hx
  have s2a : Same H1 H2 := sameFr sm hx f2
  have s2 : Same H H2 := s1.trans s2a
  obtain ⟨dx2, l2, g1, g2⟩ := id hW2
  refine ⟨x, dx2, _, rfl, g1, wf_no _ _ _ (by decide +kernel), x, ws0, 0, 0, 1, rfl, hW2, Nat.zero_le _, by decide, by decide, hTall _ List.mem_cons_self, ?_⟩
  rw [List.drop_zero]
  cases hr0 : readNs 1 ws0 with
  | error e =>
    refine .inr ⟨e, rfl, ?_⟩
    have hk : iniM (ws0 :: rest) = .text 0 (e : Nat) := by simp only [iniM, hr0]
    rw [hk] at k
    have k : Fly K "BadText" [("word", .int (e : Nat)), ("line", .int 0)] [] H E := k
    rw [Nat.zero_add]
    exact Fly.fresh k s2 hxH
  | ok ns =>
  obtain ⟨p, rfl⟩ := readNs1 hr0
  refine .inl ⟨[p], rfl, fun H3 t3 f3 ht3 => ?_⟩
  have s3a : Same H1 H3 := sameFr s2a hx f3
  have s3 : Same H H3 := s1.trans s3a
  refine ⟨t3, _, _, _, rfl, rfl, ht3, at0 _ _, ?_⟩
  refine ⟨_, rfl, l, _, rfl, .inl (.of (s3a _ _ hl)), rfl, _, rfl, ?_⟩
  cases hAr with
  | nil =>
    refine iteTb (by simp) ?_
    have hk : iniM [ws0] = .text 1 0 := by simp only [iniM, hr0]
    rw [hk] at k
    have k : Fly K "BadText" [("word", .int 0), ("line", .int 1)] [] H E := k
    exact mkk2 (k.same s3)
  | @cons u1 ws1 us2 rest2 hu1 hAr2 =>
  refine iteFb (by rw [decide_eq_false_iff_not]; intro q; have q := V.int.inj q; simp at q; omega) ?_
  obtain ⟨b1, rfl, hb1⟩ := hu1
  refine ⟨_, rfl, l, _, _, _, rfl, rfl, .of (s3a _ _ hl), atI_nat (j := 1) rfl, fun y dy hy hdy hney => ?_⟩
  have sm2 := sameMake (C := He.ga K "Words") hy hdy
  refine ⟨y, dy, b1, 1, ws1, rfl, upd_same, sm2 _ _ (s3a _ _ hb1), fun H4 f4 hW4 => ⟨rfl, ?_⟩⟩
  have hyH : H y = none := s3.free hy
  have s4 : Same H3 H4 := sameFr sm2 hy f4
  have s04 : Same H H4 := s3.trans s4
  obtain ⟨dx4, l4, g41, g42⟩ := id hW4
  refine ⟨y, dx4, _, rfl, g41, wf_no _ _ _ (by decide +kernel), y, ws1, 1, 0, 8, rfl, hW4, Nat.zero_le _, by decide, by decide, hTall _ (List.mem_cons_of_mem _ List.mem_cons_self), ?_⟩
  rw [List.drop_zero]
  cases hr1 : readNs 8 ws1 with
  | error e =>
    refine .inr ⟨e, rfl, ?_⟩
    have hk : iniM (ws0 :: ws1 :: rest2) = .text 1 (e : Nat) := by simp only [iniM, hr0, hr1]
    rw [hk] at k
    have k : Fly K "BadText" [("word", .int (e : Nat)), ("line", .int 1)] [] H E := k
    rw [Nat.zero_add]
    exact Fly.fresh k s04 hyH
  | ok sh =>
  refine .inl ⟨sh, rfl, fun H5 t5 f5 ht5 => ?_⟩
  have s35 : Same H3 H5 := sameFr s4 hy f5
  have s5 : Same H H5 := s3.trans s35
  refine ⟨_, rfl, l, _, 2, rfl, s35 _ _ (s3a _ _ hl), ?_⟩
  have hul2 := hAr2.len
  cases rest2 with
  | cons w2 r2 =>
    refine .inr ⟨by simp only [List.length_cons, List.length_nil] at hul2 ⊢; omega, ?_⟩
    have hk : iniM (ws0 :: ws1 :: w2 :: r2) = .text 2 0 := by simp only [iniM, hr0, hr1]
    rw [hk] at k
    have k : Fly K "BadText" [("word", .int 0), ("line", .int 2)] [] H E := k
    exact k.same s5
  | nil =>
  refine .inl ⟨by simp only [List.length_cons, List.length_nil] at hul2 ⊢; omega, ?_⟩
  have hk : iniM [ws0, ws1] = if Prm p then (if layB sh = true then .ok p sh else .laying sh) else .prime p := by simp [iniM, hr0, hr1]
  rw [hk] at k
  refine ⟨_, rfl, p, rfl, ?_⟩
  by_cases hp : Prm p
  case neg =>
    rw [if_neg hp] at k
    have k : Fly K "BadPrime" [("given", .int p)] [] H E := k
    exact .inr ⟨hp, k.same s5⟩
  rw [if_pos hp] at k
  refine .inl ⟨hp, ?_⟩
  have hl8 := readNs_len hr1
  refine ⟨_, rfl, t5, sh, rfl, ht5, by omega, ?_⟩
  by_cases hb2 : layB sh = true
  case neg =>
    rw [if_neg hb2] at k
    have k : ∀ H1 t, Same H H1 → SqT K H1 t (sh.map .int) → Fly K "BadLaying" [("given", .ref t)] [] H1 E := k
    exact .inr ⟨by simpa using hb2, k H5 t5 s5 ht5⟩
  rw [if_pos hb2] at k
  have k : ∀ H' r, Fr [d] H H' → H r = none → DAt K H' d r p sh [[]] → Q .non H' := k
  refine .inl ⟨hb2, fun H6 s6 => ?_⟩
  have s06 : Same H H6 := s5.trans s6
  refine ⟨_, rfl, _, rfl, fun r rdx hr hrdx hner => ?_⟩
  have smr := sameMake (C := He.ga K "Receiver") hr hrdx
  refine ⟨r, rdx, t5, p, sh, rfl, upd_same, sameT smr _ _ (sameT s6 _ _ ht5), by omega, .inl ⟨hp, hb2, fun H7 f7 R7 => ⟨rfl, ?_⟩⟩⟩
  have s07 : Same H H7 := sameFr (s06.trans smr) (s06.free hr) f7
  have hd7 := s07 _ _ hd
  refine ⟨_, rfl, d, _, ddx, _, rfl, hd7, T.cls_Desk, T.na_own_receiver, by simp, ?_⟩
  have f8 : Fr [d] H7 _ := frUpd (S := [d]) (o := .ins (He.ga K "Desk") ddx (putF (lit "own_receiver") (V.ref r) [])) (by simp) hd7 (fun z => z)
  refine k _ r ((Fr.same s07).trans f8) (s06.free hr) ⟨⟨ddx, by rw [upd_same]; rfl⟩, R7.mono f8 fun m => ?_⟩
  have e' : r = d := by simpa using m
  rw [e', s06 _ _ hd] at hr
  cases hr
end
end NL
/-! R8: a loop over a list or a tuple; sorts of keys -/
namespace NL
open PySem PySem.Spec PyProof.Rows L2
theorem pi_or {X : Cx} {tg e : Expr} {f g : TI} (a : PI X tg e f) (b : PI X tg e g) : PI X tg e (fun σ H R => f σ H R ∨ g σ H R) :=
  ⟨fun pins s σ H R I h => h.elim (a.run pins s σ H R I) (b.run pins s σ H R I)⟩
end NL
/-! L1: the law's draws -/
namespace NL
open PySem PySem.Spec PyProof.Rows L2
abbrev kC : Key := Sum.inr (lit "cells")
abbrev kL : Key := Sum.inr (lit "lefts")
abbrev kA : Key := Sum.inr (lit "at")
abbrev kR : Key := Sum.inr (lit "room")
theorem k1 : ¬ kC = kL := by decide +kernel
theorem k2 : ¬ kC = kA := by decide +kernel
theorem k3 : ¬ kC = kR := by decide +kernel
theorem k4 : ¬ kL = kA := by decide +kernel
theorem k5 : ¬ kL = kR := by decide +kernel
theorem k6 : ¬ kA = kR := by decide +kernel
theorem st_keys (c l a r : V) : valV (mergeK [] [(kC, c), (kL, l), (kA, a), (kR, r)]) kC = some c ∧ valV (mergeK [] [(kC, c), (kL, l), (kA, a), (kR, r)]) kL = some l ∧ valV (mergeK [] [(kC, c), (kL, l), (kA, a), (kR, r)]) kA = some a := by
  have e : mergeK [] [(kC, c), (kL, l), (kA, a), (kR, r)] = putK (putK (putK (putK [] kC c) kL l) kA a) kR r := rfl
  rw [e]
  refine ⟨?_, ?_, ?_⟩
  · rw [valV_put, if_neg k3, valV_put, if_neg k2, valV_put, if_neg k1, valV_put, if_pos rfl]
  · rw [valV_put, if_neg k5, valV_put, if_neg k4, valV_put, if_pos rfl]
  · rw [valV_put, if_neg k6, valV_put, if_pos rfl]
theorem put_len (kvs : List (Key × V)) (k : Key) (v : V) : (putK kvs k v).length ≤ kvs.length + 1 := by
  unfold putK
  split <;> simp
theorem merge_len : ∀ (kvs acc : List (Key × V)), (mergeK acc kvs).length ≤ acc.length + kvs.length
  | [], acc => Nat.le_refl _
  | (k, v) :: kvs, acc => by
    have h1 := merge_len kvs (putK acc k v)
    have h2 := put_len acc k v
    show (mergeK (putK acc k v) kvs).length ≤ _
    simp only [List.length_cons]
    omega
theorem put_lenS {kvs : List (Key × V)} {k : Key} {v u : V} (h : valV kvs k = some u) : (putK kvs k v).length = kvs.length := by
  unfold putK
  have e := valV_any k kvs
  rw [h] at e
  have e : (kvs.any fun kv => decide (kv.fst = k)) = true := e
  rw [if_pos e, List.length_map]
/-- the state of the draws at st, the digits that are left at l, at most n draws before -/
structure LIn (K : Frag) (H : Hp) (st l : Addr) (n : Nat) (kvs : List (Key × V)) (c : Addr) (cs ls : List Int) (a : Int) : Prop where
  d : H st = some (.dK kvs)
  len : kvs.length ≤ 100
  kc : valV kvs kC = some (.ref c)
  kl : valV kvs kL = some (.ref l)
  ka : valV kvs kA = some (.int a)
  hc : H c = some (.lst (cs.map .int))
  hl : H l = some (.lst (ls.map .int))
  ne : c ≠ l
  eq : ls.length = cs.length
  pos : 0 < cs.length
  bd : 0 ≤ a ∧ a ≤ n
def LSt (K : Frag) (H : Hp) (st c l : Addr) (n : Nat) : Prop := ∃ kvs cs ls a, LIn K H st l n kvs c cs ls a
theorem LIn.stl {K : Frag} {H : Hp} {st l : Addr} {n : Nat} {kvs : List (Key × V)} {c : Addr} {cs ls : List Int} {a : Int} (h : LIn K H st l n kvs c cs ls a) : l ≠ st ∧ c ≠ st :=
  ⟨ne_of h.hl h.d (by intro z; cases z), ne_of h.hc h.d (by intro z; cases z)⟩
theorem LSt.mono {K : Frag} {H : Hp} {st c l : Addr} {n m : Nat} (h : LSt K H st c l n) (hm : n ≤ m) : LSt K H st c l m :=
  let ⟨kvs, cs, ls, a, q⟩ := h; ⟨kvs, cs, ls, a, { q with bd := ⟨q.bd.1, by have := q.bd.2; omega⟩ }⟩
theorem LSt.fr {K : Frag} {S : List Addr} {H H' : Hp} {st c l : Addr} {n : Nat} (h : LSt K H st c l n) (f : Fr S H H') (hs : ∀ b ∈ S, b ≠ st ∧ b ≠ c ∧ b ≠ l) : LSt K H' st c l n := by
  obtain ⟨kvs, cs, ls, a, q⟩ := h
  exact ⟨kvs, cs, ls, a, { q with d := f.at q.d (fun m => (hs _ m).1 rfl), hc := f.at q.hc (fun m => (hs _ m).2.1 rfl), hl := f.at q.hl (fun m => (hs _ m).2.2 rfl) }⟩
theorem LSt.same {K : Frag} {H H' : Hp} {st c l : Addr} {n : Nat} (h : LSt K H st c l n) (s : Same H H') : LSt K H' st c l n := h.fr (Fr.same (S := []) s) (fun b hb => by cases hb)
theorem LSt.upd {K : Frag} {H : Hp} {st c l f : Addr} {o : HO} {n : Nat} (h : LSt K H st c l n) (h1 : f ≠ st) (h2 : f ≠ c) (h3 : f ≠ l) : LSt K (L2.upd H f o) st c l n := by
  obtain ⟨kvs, cs, ls, a, q⟩ := h
  exact ⟨kvs, cs, ls, a, { q with d := by rw [upd_ne h1.symm]; exact q.d, hc := by rw [upd_ne h2.symm]; exact q.hc, hl := by rw [upd_ne h3.symm]; exact q.hl }⟩
theorem LSt.fresh {K : Frag} {H : Hp} {st c l f : Addr} {n : Nat} (h : LSt K H st c l n) (hf : H f = none) : f ≠ st ∧ f ≠ c ∧ f ≠ l := by
  obtain ⟨kvs, cs, ls, a, q⟩ := h
  exact ⟨(ne_of_none q.d hf).symm, (ne_of_none q.hc hf).symm, (ne_of_none q.hl hf).symm⟩
theorem LSt.free {K : Frag} {H H' : Hp} {st c l : Addr} {n : Nat} (f : Fr [st, l] H H') (h : LSt K H' st c l n) {d : Addr} (hd : H' d = none) : H d = none := by
  obtain ⟨e1, _, e3⟩ := h.fresh hd
  refine f.free hd fun m => ?_
  simp only [List.mem_cons, List.not_mem_nil, or_false] at m
  rcases m with rfl | rfl
  · exact e1 rfl
  · exact e3 rfl
section
variable {P : Program} {w : World} {K : Frag} {mg : Str → Option Value} {base : Heap}
def sp__law_mixed (_ : Frag) : Sp := fun vs H Q _ => ∃ c k : Int, vs = [.int c, .int k] ∧ 0 ≤ k ∧ k ≤ 2000000 ∧ ∀ r : Int, Q (.int r) H
abbrev tx__law_mixed : Stmt := top 62
abbrev NN__law_mixed : List Str := ["_law_cell", "_law_k"]
theorem scp__law_mixed : FnScope NN__law_mixed ["_law_cell", "_law_k"] (defScope tx__law_mixed) := ⟨rfl, rfl, rfl, by decide +kernel, rfl, by decide +kernel, by decide +kernel⟩
theorem cal__law_mixed (T : Txt K mg) : Cal P w K mg base CX0 1 "_law_mixed" (sp__law_mixed K) := by
  obtain ⟨fd, F⟩ := T.d__law_mixed
  refine ⟨_, fd, ["_law_cell", "_law_k"], F.ok scp__law_mixed (fun vs H Q E h => ?_) (fun cdv A outer s H vs Q E hr h => ?_), T.g__law_mixed, F.kp, F.bindsN fun _ _ _ _ _ _ us hl => match us, hl with | [_, _], _ => rfl⟩
  · obtain ⟨c, k, rfl, _⟩ := h
    rfl
  obtain ⟨c, k, rfl, h0, h1, q⟩ := h
  refine ⟨_, PSs.nox (pss_cons (ps_set (i := 0) scp__law_mixed.nd rfl (.inl rfl) (pe_op op_mod (pe_callTy call_int1 (by rfl) T.z_int (by decide +kernel) (pa_cons (pv 0) pa_nil)) pe_int))
      (pss_one (ps_ret (pe_op op_mod (pe_op op_mul (pe_op op_mod (pe_op op_add (pe_op op_add (pe_op op_mul (pv 0) (pe_op op_add pe_int (pe_op op_mul (pe_op op_mul pe_int (pv 1)) (pv 1)))) (pe_op op_mul pe_int (pv 1))) pe_int) pe_int) pe_int) pe_int)))), ?_⟩
  refine ⟨_, rfl, .inl ⟨_, rfl, _, _, rfl, rfl, (by decide : (0 : Int) < 2147483647), ?_⟩⟩
  have b1 := Int.emod_nonneg c (by decide : (2147483647 : Int) ≠ 0)
  have b2 := Int.emod_lt_of_pos c (by decide : (0 : Int) < 2147483647)
  refine ⟨_, rfl, _, rfl, _, _, rfl, rfl, .inl ⟨by decide, by decide⟩, _, rfl, _, _, rfl, rfl, .inr ⟨by omega, by omega⟩, _, _, rfl, rfl, _, _, rfl, rfl, .inl ⟨by omega, by omega⟩, ?_⟩
  exact ⟨_, rfl, _, _, rfl, rfl, .inl ⟨by decide, by decide⟩, _, _, rfl, rfl, _, _, rfl, rfl, _, _, rfl, rfl, (by decide : (0 : Int) < 2147483647), _, _, rfl, rfl, .inr ⟨by decide, by decide⟩, _, _, rfl, rfl, (by decide : (0 : Int) < 2147483629), q _⟩
def sp__law_begin (K : Frag) : Sp := fun vs H Q _ => ∃ (s : Addr) (ns : List Int), vs = [.ref s] ∧ SqL K H s (ns.map .int) ∧ ns.length ≤ 63 ∧ ∀ H' st c l, Same H H' → LSt K H' st c l 0 → H st = none → H c = none → H l = none → Q (.ref st) H'
abbrev tx__law_begin : Stmt := top 63
abbrev NN__law_begin : List Str := ["_law_script", "_law_cells", "_law_cell"]
theorem scp__law_begin : FnScope NN__law_begin ["_law_script"] (defScope tx__law_begin) := ⟨rfl, rfl, rfl, by decide +kernel, rfl, by decide +kernel, by decide +kernel⟩
theorem cal__law_begin (T : Txt K mg) : Cal P w K mg base CX0 1 "_law_begin" (sp__law_begin K) := by
  obtain ⟨fd, F⟩ := T.d__law_begin
  refine ⟨_, fd, ["_law_script"], F.ok scp__law_begin (fun vs H Q E h => ?_) (fun cdv A outer s H vs Q E hr h => ?_), T.g__law_begin, F.kp, F.bindsN fun _ _ _ _ _ _ us hl => match us, hl with | [_], _ => rfl⟩
  · obtain ⟨s, ns, rfl, _⟩ := h
    rfl
  obtain ⟨s, ns, rfl, hS, hl, k⟩ := h
  refine ⟨_, PSs.nox (pss_cons (ps_set (i := 1) scp__law_begin.nd rfl (.inl rfl) (pe_ifExp (pt_cmpR (op_neD (hu64 hr)) (pv 0) (pe_lst pa_nil) (nomark _)) (pe_callTy call_list_of (by rfl) T.z_list (by decide +kernel) (pa_cons (pv 0) pa_nil)) (pe_lst (pa_cons pe_int pa_nil))))
      (pss_one (ps_ret (pe_disp (pps_cons pe_str (pv 1) (pps_cons pe_str (pe_lc (own := [("_law_cell", 2)]) (g := gName 2) (tt := tYes) rfl scp__law_begin.nd (pi_list (pv 1)) (blkOk_by (N := NN__law_begin) (sc := defScope tx__law_begin) (by decide +kernel)) (fun _ _ _ _ _ => (pg_name (i := 2) scp__law_begin.nd rfl (.inl rfl))) (fun _ _ _ _ _ => pts_nil) (fun _ _ _ _ _ => (pe_ifExp (pt_cmpR op_ge (pv 2) (pe_op op_pow pe_int pe_int) (nomark _)) (pv 2) pe_int))) (pps_cons pe_str pe_int (pps_cons pe_str pe_int pps_nil)))) (by rfl) (by rfl) (fun z => by cases z) (by decide))))), ?_⟩
  refine ⟨_, rfl, le1000 (by simp), fun e he => ?_⟩
  have s1 := sameNew (o := .lst []) he
  refine neL (ns := ns) (ms := []) (sameL s1 hS) (.of upd_same) ⟨_, rfl, ?_⟩
  refine ite2 (fun z => ?g1) (fun z => ?g2)
  case' g1 =>
    have hne : ns ≠ [] := by simpa using z
    refine ⟨_, rfl, s, _, rfl, .inl (sameL s1 hS), fun c hc => ?_⟩
    have s2 := s1.trans (sameNew (o := .lst (ns.map V.int)) hc)
    obtain ⟨cs, h1, h2, h3⟩ : ∃ cs : List Int, upd (upd H e (.lst [])) c (.lst (ns.map V.int)) c = some (.lst (cs.map .int)) ∧ 0 < cs.length ∧ cs.length ≤ 63 := ⟨ns, upd_same, List.length_pos_iff.mpr hne, hl⟩
  case' g2 =>
    refine ⟨le1000 (by simp), fun c hc => ?_⟩
    have s2 := s1.trans (sameNew (o := .lst [V.int 0]) hc)
    obtain ⟨cs, h1, h2, h3⟩ : ∃ cs : List Int, upd (upd H e (.lst [])) c (.lst [V.int 0]) c = some (.lst (cs.map .int)) ∧ 0 < cs.length ∧ cs.length ≤ 63 := ⟨[0], upd_same, by simp, by simp⟩
  all_goals
    have hcH := s1.free hc
    intro st hst
    refine ⟨_, rfl, ?_⟩
    have hcst : c ≠ st := ne_of_none h1 hst
    refine ⟨_, rfl, c, rfl, ⟨_, .of (by rw [upd_ne hcst]; exact h1)⟩, fun D hD => ?_⟩
    have s3 := s2.trans (sameNew (o := .dK []) hst)
    refine lc_ac (walk_list (xs := cs.map .int)) cs (by simp) hD (fun d acc H' => ∃ ls : List Int, acc = ls.map V.int ∧ ls.length = d.length) ⟨[], rfl, rfl⟩ (fun H1 q => sameL q (.of (by rw [upd_ne hcst]; exact h1))) ?_ ?_
    · rintro d b r x acc H1 H2 e' q hD1 hl1 ⟨ls, rfl, hls⟩ ⟨rfl, hx⟩
      rw [e'] at hx
      cases mapGet hx
      have hdl : d.length < 1000 := by
        rw [e'] at h3
        simp at h3
        omega
      refine ⟨rfl, yesT ⟨_, rfl, _, _, rfl, rfl, ⟨by decide, by decide, by decide⟩, _, _, rfl, rfl, _, rfl, ?_⟩⟩
      refine ite2 (fun z => ?_) (fun z => ?_)
      · exact ⟨_, rfl, Lc.put hD q hD1 hl1 hdl ⟨ls ++ [b], by simp, by simp [hls]⟩⟩
      · exact Lc.put hD q hD1 hl1 hdl ⟨ls ++ [0], by simp, by simp [hls]⟩
    · rintro acc H1 q hD1 hl1 ⟨ls, rfl, hls⟩
      have hcD : c ≠ D := ne_of_none (by rw [upd_ne hcst]; exact h1) hD
      have hDst : D ≠ st := (ne_of_none (show (upd _ st (.dK [])) st = _ from upd_same) hD).symm
      refine ⟨q _ _ upd_same, [(kC, .ref c), (kL, .ref D), (kA, .int 0), (kR, .int 0)], rfl, by simp, ?_⟩
      obtain ⟨e1, e2, e3⟩ := st_keys (.ref c) (.ref D) (.int 0) (.int 0)
      refine k _ st c D (sameAt (s3.trans q) (s2.free hst)) ⟨_, cs, ls, 0, upd_same, Nat.le_trans (merge_len _ _) (by simp), e1, e2, e3, ?_, ?_, hcD, hls, h2, by omega⟩ (s2.free hst) hcH (s3.free hD)
      · rw [upd_ne hcst]
        exact q _ _ (by rw [upd_ne hcst]; exact h1)
      · rw [upd_ne hDst]
        exact hD1
def sp__law_draw (K : Frag) : Sp := fun vs H Q _ => ∃ (st c l : Addr) (n : Nat) (many : Int), vs = [.ref st, .int many] ∧ LSt K H st c l n ∧ n ≤ 1000000 ∧ 0 < many ∧ many < 100000 ∧ ∀ H' r, Fr [st, l] H H' → LSt K H' st c l (n + 1) → 0 ≤ r → r < many → Q (.int r) H'
abbrev tx__law_draw : Stmt := top 64
abbrev NN__law_draw : List Str := ["_law_state", "_law_many", "_law_at", "_law_place", "_law_left", "_law_number"]
theorem scp__law_draw : FnScope NN__law_draw ["_law_state", "_law_many"] (defScope tx__law_draw) := ⟨rfl, rfl, rfl, by decide +kernel, rfl, by decide +kernel, by decide +kernel⟩
theorem cal__law_draw (T : Txt K mg) : Cal P w K mg base CX0 2 "_law_draw" (sp__law_draw K) := by
  obtain ⟨fd, F⟩ := T.d__law_draw
  refine ⟨_, fd, ["_law_state", "_law_many"], F.ok scp__law_draw (fun vs H Q E h => ?_) (fun cdv A outer s H vs Q E hr h => ?_), T.g__law_draw, F.kp, F.bindsN fun _ _ _ _ _ _ us hl => match us, hl with | [_, _], _ => rfl⟩
  · obtain ⟨st, c, l, n, many, rfl, _⟩ := h
    rfl
  obtain ⟨st, c, l, n, many, rfl, ⟨kvs, cs, ls, a, L⟩, hn, h0, h1, k⟩ := h
  refine ⟨_, PSs.nox (pss_cons (ps_set (i := 2) scp__law_draw.nd rfl (.inl rfl) (pe_dget (hu_of hr) (pv 0) pe_str (fun _ _ => rfl)))
      (pss_cons (ps_dput (hu_of hr) (pv 0) pe_str (pe_op op_add (pv 2) pe_int) rfl)
      (pss_cons (ps_set (i := 3) scp__law_draw.nd rfl (.inl rfl) (pe_op op_mod (pe_callTy call_int1 (by rfl) T.z_int (by decide +kernel) (pa_cons (pv 2) pa_nil)) (pe_callB call_len_seq (by rfl) T.z_len PySem.boot_len (pa_cons (pe_dget (hu_of hr) (pv 0) pe_str (fun _ _ => rfl)) pa_nil))))
      (pss_cons (ps_set (i := 4) scp__law_draw.nd rfl (.inl rfl) (pe_ix ix_list (pe_dget (hu_of hr) (pv 0) pe_str (fun _ _ => rfl)) (pv 3) (fun _ _ => rfl)))
      (pss_cons (ps_if (pt_cmpR op_gt (pv 4) pe_int (nomark _)) (pss_cons (ps_asg (pe_op op_fdiv (pv 4) (pv 1)) (pg_sub (pe_dget (hu_of hr) (pv 0) pe_str (fun _ _ => rfl)) (pv 3) set_list))
      (pss_one (ps_ret (pe_op op_mod (pe_callTy call_int1 (by rfl) T.z_int (by decide +kernel) (pa_cons (pv 4) pa_nil)) (pv 1))))) pss_nil)
      (pss_cons (ps_set (i := 5) scp__law_draw.nd rfl (.inl rfl) (pe_cal (cal__law_mixed T) hr (by decide) pass0 (pa_cons (pe_cal (cal__law_mixed T) hr (by decide) pass0 (pa_cons (pe_ix ix_list (pe_dget (hu_of hr) (pv 0) pe_str (fun _ _ => rfl)) (pv 3) (fun _ _ => rfl)) (pa_cons (pv 2) pa_nil))) (pa_cons (pe_op op_add pe_int (pv 2)) pa_nil))))
      (pss_one (ps_ret (pe_op op_mod (pe_op op_fdiv (pe_callTy call_int1 (by rfl) T.z_int (by decide +kernel) (pa_cons (pe_op op_add (pe_op op_mul (pv 5) pe_int) (pe_cal (cal__law_mixed T) hr (by decide) pass0 (pa_cons (pv 5) (pa_cons (pe_op op_add pe_int (pv 2)) pa_nil)))) pa_nil)) pe_int) (pv 1)))))))))), ?_⟩
  have gA : DGet H st (.str (lit "at")) (some (.int a)) := by
    have := DGet.k (k := kA) L.d
    rw [L.ka] at this
    exact this
  have hb := L.bd
  have hpos := L.pos
  obtain ⟨nl, nc⟩ := L.stl
  refine ⟨_, rfl, st, _, rfl, gA, ?_⟩
  refine ⟨_, rfl, _, _, rfl, rfl, _, rfl, st, _, rfl, DPut.k (k := kA) L.d (small1000 (by have := L.len; omega)), ?_⟩
  generalize hH1 : upd H st (.dK (putK kvs kA (.int (a + 1)))) = H1
  have d1 : H1 st = some (.dK (putK kvs kA (.int (a + 1)))) := by rw [← hH1, upd_same]
  have f1 : Fr [st, l] H H1 := by
    rw [← hH1]
    exact frUpd (by simp) L.d (fun z => z)
  have hc1 : H1 c = some (.lst (cs.map .int)) := by rw [← hH1, upd_ne nc]; exact L.hc
  have hl1 : H1 l = some (.lst (ls.map .int)) := by rw [← hH1, upd_ne nl]; exact L.hl
  have vC : valV (putK kvs kA (.int (a + 1))) kC = some (.ref c) := by rw [valV_put, if_neg k2]; exact L.kc
  have vL : valV (putK kvs kA (.int (a + 1))) kL = some (.ref l) := by rw [valV_put, if_neg k4]; exact L.kl
  have vA : valV (putK kvs kA (.int (a + 1))) kA = some (.int (a + 1)) := by rw [valV_put, if_pos rfl]
  have gC : DGet H1 st (.str (lit "cells")) (some (.ref c)) := by
    have := DGet.k (k := kC) d1
    rw [vC] at this
    exact this
  have gL : DGet H1 st (.str (lit "lefts")) (some (.ref l)) := by
    have := DGet.k (k := kL) d1
    rw [vL] at this
    exact this
  have L1 : LIn K H1 st l (n + 1) (putK kvs kA (.int (a + 1))) c cs ls (a + 1) :=
    ⟨d1, by rw [put_lenS L.ka]; exact L.len, vC, vL, vA, hc1, hl1, L.ne, L.eq, L.pos, by omega⟩
  refine ⟨_, rfl, .inl ⟨_, rfl, _, rfl, st, _, rfl, gC, c, _, rfl, .inl (.of hc1), _, _, rfl, rfl, by rw [List.length_map]; omega, ?_⟩⟩
  have p0 := Int.emod_nonneg a (show (cs.length : Int) ≠ 0 by omega)
  have p1 := Int.emod_lt_of_pos a (show (0 : Int) < cs.length by omega)
  obtain ⟨j, hj⟩ : ∃ j : Nat, a % (cs.length : Int) = (j : Int) := ⟨(a % (cs.length : Int)).toNat, by omega⟩
  have hjl : j < ls.length := by have := L.eq; omega
  have ej : a % (((cs.map V.int).length : Nat) : Int) = (j : Int) := by rw [List.length_map]; exact hj
  dsimp only
  rw [ej]
  refine ⟨_, rfl, st, _, rfl, gL, _, rfl, l, _, _, _, rfl, rfl, .of hl1, atI_nat (j := j) (by rw [List.getElem?_map, List.getElem?_eq_getElem hjl]; rfl), ?_⟩
  refine ⟨_, rfl, _, _, rfl, rfl, _, rfl, ?_⟩
  refine ite2 (fun z => ?_) (fun z => ?_)
  · refine ⟨_, rfl, _, rfl, _, _, rfl, rfl, ⟨h0, by omega⟩, _, rfl, st, _, rfl, gL, _, rfl, l, _, _, j, rfl, rfl, hl1, ixN_nat (by rw [List.length_map]; exact hjl), ?_⟩
    refine ⟨_, rfl, .inl ⟨_, rfl, _, rfl, _, _, rfl, rfl, h0, ?_⟩⟩
    have f2 : Fr [st, l] H1 (upd H1 l (.lst ((ls.map V.int).set j (.int (ls[j] / many))))) := frUpd (by simp) hl1 (fun z => z)
    refine k _ _ (f1.trans f2) ⟨_, cs, ls.set j (ls[j] / many), a + 1, { L1 with d := ?_, hc := ?_, hl := ?_, eq := ?_ }⟩ (Int.emod_nonneg _ (by omega)) (Int.emod_lt_of_pos _ h0)
    · rw [upd_ne nl.symm]
      exact d1
    · rw [upd_ne L.ne]
      exact hc1
    · rw [upd_same, List.map_set]
    · rw [List.length_set]
      exact L.eq
  · have hjc : j < cs.length := by omega
    refine ⟨_, rfl, st, _, rfl, gC, _, rfl, c, _, _, _, rfl, rfl, .of hc1, atI_nat (j := j) (by rw [List.getElem?_map, List.getElem?_eq_getElem hjc]; rfl), _, rfl, _, _, rfl, hb.1, by omega, fun r1 => ?_⟩
    refine ⟨_, rfl, _, _, rfl, rfl, _, _, rfl, by omega, by omega, fun r2 => ?_⟩
    refine ⟨_, rfl, _, _, rfl, rfl, .inr ⟨by decide, by decide⟩, _, rfl, _, rfl, _, _, rfl, rfl, _, _, rfl, by omega, by omega, fun r3 => ?_⟩
    exact ⟨_, _, rfl, rfl, .inl ⟨_, rfl, _, _, rfl, rfl, ⟨by decide, by decide⟩, _, rfl, _, _, rfl, rfl, h0, k _ _ f1 ⟨_, cs, ls, a + 1, L1⟩ (Int.emod_nonneg _ (by omega)) (Int.emod_lt_of_pos _ h0)⟩⟩
def sp__law_of (K : Frag) : Sp := fun vs H Q _ => ∃ (st c l b : Addr) (n : Nat) (ss : List Str), vs = [.ref st, .ref b] ∧ LSt K H st c l n ∧ n ≤ 1000000 ∧ H b = some (.lst (ss.map .str)) ∧ b ≠ l ∧ 0 < ss.length ∧ ss.length < 1000 ∧ ∀ H' s, Fr [st, l] H H' → LSt K H' st c l (n + 1) → s ∈ ss → Q (.str s) H'
abbrev tx__law_of : Stmt := top 65
abbrev NN__law_of : List Str := ["_law_state", "_law_some"]
theorem scp__law_of : FnScope NN__law_of ["_law_state", "_law_some"] (defScope tx__law_of) := ⟨rfl, rfl, rfl, by decide +kernel, rfl, by decide +kernel, by decide +kernel⟩
theorem cal__law_of (T : Txt K mg) : Cal P w K mg base CX0 3 "_law_of" (sp__law_of K) := by
  obtain ⟨fd, F⟩ := T.d__law_of
  refine ⟨_, fd, ["_law_state", "_law_some"], F.ok scp__law_of (fun vs H Q E h => ?_) (fun cdv A outer s H vs Q E hr h => ?_), T.g__law_of, F.kp, F.bindsN fun _ _ _ _ _ _ us hl => match us, hl with | [_, _], _ => rfl⟩
  · obtain ⟨st, c, l, b, n, ss, rfl, _⟩ := h
    rfl
  obtain ⟨st, c, l, b, n, ss, rfl, hL, hn, hb, hbl, h0, h1, k⟩ := h
  refine ⟨_, PSs.nox (pss_one (ps_ret (pe_ix ix_list (pv 1) (pe_cal (cal__law_draw T) hr (by decide) pass0 (pa_cons (pv 0) (pa_cons (pe_callB call_len_seq (by rfl) T.z_len PySem.boot_len (pa_cons (pv 1) pa_nil)) pa_nil))) (fun _ _ => rfl)))), ?_⟩
  refine ⟨_, rfl, _, rfl, _, rfl, b, _, rfl, .inl (.of hb), st, c, l, n, _, rfl, hL, hn, by rw [List.length_map]; omega, by rw [List.length_map]; omega, fun H1 r f1 L1 r0 r1 => ?_⟩
  rw [List.length_map] at r1
  obtain ⟨j, rfl⟩ : ∃ j : Nat, r = (j : Int) := ⟨r.toNat, by omega⟩
  have hj : j < ss.length := by omega
  have hbst : b ≠ st := by
    obtain ⟨kvs, cs, ls, a, L⟩ := hL
    exact ne_of hb L.d (by intro z; cases z)
  refine ⟨b, _, _, _, rfl, rfl, .of (f1.at hb (by simp [hbst, hbl])), atI_nat (j := j) (by rw [List.getElem?_map, List.getElem?_eq_getElem hj]; rfl), ?_⟩
  exact k _ _ f1 L1 (List.getElem_mem hj)
end
end NL
/-! L2: the law's sums -/
namespace NL
open PySem PySem.Spec PyProof.Rows L2
theorem btw_inv {p : Int} (hp : 1 < p) {ps : List (Int × Int)} (ok : PtsOk p ps) (x : Int) {q : Int × Int} (hq : q ∈ ps) : Inv1 p ((btwIn ps x q).2 % p) := by
  obtain ⟨_, b2⟩ := btw_is (p := p) ps x q
  have e2 : (btwIn ps x q).2 % p = (blkM p ps q.1).2 % p := b2.emod
  have e3 : (blkM p ps q.1).2 % p = (blkM p ps q.1).2 := by
    rw [(blk_is hp ps q.1).2, Int.emod_emod_of_dvd _ (Int.dvd_refl p)]
  rw [e2, e3]
  exact ok.inv q hq
section
variable {P : Program} {w : World} {K : Frag} {mg : Str → Option Value} {base : Heap}
def sp__law_back (_ : Frag) : Sp := fun vs H Q _ => ∃ p s : Int, vs = [.int p, .int s] ∧ p ≤ 100 ∧ Inv1 p s ∧ ∀ H', Same H H' → Q (.int (invM p s)) H'
abbrev tx__law_back : Stmt := top 66
abbrev NN__law_back : List Str := ["_law_prime_so", "_law_sign", "_law_one"]
theorem scp__law_back : FnScope NN__law_back ["_law_prime_so", "_law_sign"] (defScope tx__law_back) := ⟨rfl, rfl, rfl, by decide +kernel, rfl, by decide +kernel, by decide +kernel⟩
theorem cal__law_back (T : Txt K mg) : Cal P w K mg base CX0 1 "_law_back" (sp__law_back K) := by
  obtain ⟨fd, F⟩ := T.d__law_back
  refine ⟨_, fd, ["_law_prime_so", "_law_sign"], F.ok scp__law_back (fun vs H Q E h => ?_) (fun cdv A outer s H vs Q E hr h => ?_), T.g__law_back, F.kp, F.bindsN fun _ _ _ _ _ _ us hl => match us, hl with | [_, _], _ => rfl⟩
  · obtain ⟨p, s, rfl, _⟩ := h
    rfl
  obtain ⟨p, s, rfl, hp, hi, k⟩ := h
  refine ⟨_, PSs.nox (pss_one (ps_ret (pe_ix ix_list (pe_lc (own := [("_law_one", 2)]) (g := gName 2) rfl scp__law_back.nd (pi_range2 (by rfl) T.z_range (pa_cons pe_int (pa_cons (pv 0) pa_nil))) (blkOk_by (N := NN__law_back) (sc := defScope tx__law_back) (by decide +kernel)) (fun _ _ _ _ _ => (pg_name (i := 2) scp__law_back.nd rfl (.inl rfl))) (fun _ _ _ _ _ => (pts_one (pt_cmpR op_eq (pe_op op_mod (pe_callTy call_int1 (by rfl) T.z_int (by decide +kernel) (pa_cons (pe_op op_mul (pv 2) (pv 1)) pa_nil)) (pv 0)) pe_int (nomark _)))) (fun _ _ _ _ _ => (pv 2))) pe_int (fun _ _ => rfl)))), ?_⟩
  have hp1 : 1 ≤ p := by
    obtain ⟨r, h1, h2, _⟩ := hi
    omega
  refine ⟨_, rfl, 1, p, rfl, ⟨by decide, by decide, by omega, by omega⟩, fun D hD => ?_⟩
  refine lc_ac walk_range ((List.range (p - 1).toNat).map fun (i : Nat) => (1 : Int) + i) (by simp) hD (fun d acc _ => acc = (d.filter fun o => decide (o * s % p = 1)).map .int) rfl (fun _ _ => trivial) ?_ ?_
  · rintro d b r x acc H1 H2 e s1 hD1 hl1 rfl ⟨rfl, rfl⟩
    obtain ⟨rfl, hlt⟩ := rangeMid e
    refine ⟨rfl, ?_⟩
    refine ⟨_, rfl, _, rfl, _, _, rfl, rfl, .inl ⟨by omega, by omega⟩, .inl ⟨_, rfl, _, rfl, _, _, rfl, rfl, (by omega : 0 < p), rfl, _, rfl, ?_⟩⟩
    refine ite2 (fun c => ?_) (fun c => ?_)
    · have c' : (1 + (d.length : Int)) * s % p = 1 := V.int.inj (of_decide_eq_true c)
      refine ⟨_, rfl, Lc.put hD s1 hD1 hl1 (by omega) ?_⟩
      rw [List.filter_append, List.filter_cons_of_pos (by simpa using c')]
      simp
    · have c' : ¬ (1 + (d.length : Int)) * s % p = 1 := fun z => c (decide_eq_true (congrArg V.int z))
      refine Lc.skip s1 hD1 hl1 ?_
      rw [List.filter_append, List.filter_cons_of_neg (by simpa using c')]
      simp
  · rintro acc H1 s1 hD1 hl1 rfl
    obtain ⟨t, e⟩ := inv_cons hi
    refine ⟨_, _, _, _, rfl, rfl, .of hD1, ?_, k H1 s1⟩
    have e' : (((List.range (p - 1).toNat).map fun (i : Nat) => (1 : Int) + i).filter fun o => decide (o * s % p = 1)) = invM p s :: t := e
    rw [e']
    exact atI_nat (j := 0) rfl
def sp__law_value (K : Frag) : Sp := fun vs H Q _ => ∃ (p s : Int) (a : Addr) (ns : List Int), vs = [.int p, .ref a, .int s] ∧ SqT K H a (ns.map .int) ∧ 0 < p ∧ -1000 < s ∧ s < 1000 ∧ (∀ n ∈ ns, 0 ≤ n ∧ n < 1000) ∧ ∀ H' r, Same H H' → 0 ≤ r → r < p → Q (.int r) H'
abbrev tx__law_value : Stmt := top 67
abbrev NN__law_value : List Str := ["_law_prime_so", "_law_block_here", "_law_sign", "_law_got", "_law_power", "_law_one"]
theorem scp__law_value : FnScope NN__law_value ["_law_prime_so", "_law_block_here", "_law_sign"] (defScope tx__law_value) := ⟨rfl, rfl, rfl, by decide +kernel, rfl, by decide +kernel, by decide +kernel⟩
theorem cal__law_value (T : Txt K mg) : Cal P w K mg base CX0 1 "_law_value" (sp__law_value K) := by
  obtain ⟨fd, F⟩ := T.d__law_value
  refine ⟨_, fd, ["_law_prime_so", "_law_block_here", "_law_sign"], F.ok scp__law_value (fun vs H Q E h => ?_) (fun cdv A outer s H vs Q E hr h => ?_), T.g__law_value, F.kp, F.bindsN fun _ _ _ _ _ _ us hl => match us, hl with | [_, _, _], _ => rfl⟩
  · obtain ⟨p, s, a, ns, rfl, _⟩ := h
    rfl
  obtain ⟨p, s, a, ns, rfl, hs, hp, h1, h2, hb, k⟩ := h
  refine ⟨_, PSs.nox (pss_cons (ps_asg (pe_tup (pa_cons pe_int (pa_cons pe_int pa_nil))) (pg_tup rfl (pgs_cons (pg_name (i := 3) scp__law_value.nd rfl (.inl rfl)) (pgs_cons (pg_name (i := 4) scp__law_value.nd rfl (.inl rfl)) pgs_nil))))
      (pss_cons (ps_for PassesOwn.never rfl (pi_tup (pv 1)) (pg_name (i := 5) scp__law_value.nd rfl (.inl rfl))
      (pss_one (ps_par (i := 3) (j := 4) (by rfl) scp__law_value.nd rfl rfl (by decide) rfl rfl (pa_cons (pe_op op_add (pv 3) (pe_op op_mul (pv 5) (pv 4))) (pa_cons (pe_op op_mul (pv 4) (pv 2)) pa_nil)) (by rfl))))
      (pss_one (ps_ret (pe_op op_mod (pe_callTy call_int1 (by rfl) T.z_int (by decide +kernel) (pa_cons (pv 3) pa_nil)) (pv 0)))))), ?_⟩
  refine ⟨le1000 (by simp), fun t0 ht0 => ⟨t0, _, rfl, .of upd_same, rfl, _, _, rfl, _, _, rfl, rfl, ?_⟩⟩
  have s0 := sameNew (o := .tup [V.int 0, V.int 1]) ht0
  refine ⟨_, rfl, a, rfl, ⟨_, sameT s0 _ _ hs⟩, ?_⟩
  refine for_suf (walk_tup (xs := ns.map .int)) ns (by simp) (fun d _ σ H' => ∃ g pw v, σ = [some (.int p), some (.ref a), some (.int s), some (.int g), some (.int pw), v] ∧ Same H H') ⟨_, _, _, rfl, s0⟩ ?_ ?_ ?_
  · rintro d r σ H1 ⟨g, pw, v, rfl, s1⟩
    exact sameT s1 _ _ hs
  · rintro d b r x σ H1 H2 e ⟨g, pw, v, rfl, s1⟩ ⟨rfl, hx⟩
    rw [e] at hx
    cases mapGet hx
    have hbb := hb b (by rw [e]; simp)
    refine ⟨_, rfl, _, rfl, _, rfl, _, _, rfl, rfl, .inl ⟨by omega, by omega⟩, _, _, rfl, rfl, _, rfl, _, rfl, _, _, rfl, rfl, .inr ⟨by omega, by omega⟩, _, _, rfl, ?_⟩
    exact ⟨_, _, _, rfl, s1⟩
  · rintro σ H1 ⟨g, pw, v, rfl, s1⟩
    exact ⟨_, rfl, .inl ⟨_, rfl, _, rfl, _, _, rfl, rfl, hp, k H1 _ s1 (Int.emod_nonneg _ (by omega)) (Int.emod_lt_of_pos _ hp)⟩⟩
def sp__law_between (K : Frag) : Sp := fun vs H Q _ => ∃ (p x : Int) (b : Addr) (us : List V) (ps : List (Int × Int)), vs = [.int p, .ref b, .int x] ∧ SqL K H b us ∧ PtsI K H us ps ∧ 1 < p ∧ PtsOk p ps ∧ -1000 < x ∧ x < 1000 ∧ ∀ H', Same H H' → Q (.int (betM p ps x)) H'
abbrev tx__law_between : Stmt := top 68
abbrev NN__law_between : List Str := ["_law_prime_so", "_law_points_here", "_law_sign", "_law_got", "_law_one", "_law_height", "_law_top", "_law_bottom", "_law_far", "_law_rest"]
theorem scp__law_between : FnScope NN__law_between ["_law_prime_so", "_law_points_here", "_law_sign"] (defScope tx__law_between) := ⟨rfl, rfl, rfl, by decide +kernel, rfl, by decide +kernel, by decide +kernel⟩
theorem cal__law_between (T : Txt K mg) : Cal P w K mg base CX0 2 "_law_between" (sp__law_between K) := by
  obtain ⟨fd, F⟩ := T.d__law_between
  refine ⟨_, fd, ["_law_prime_so", "_law_points_here", "_law_sign"], F.ok scp__law_between (fun vs H Q E h => ?_) (fun cdv A outer s H vs Q E hr h => ?_), T.g__law_between, F.kp, F.bindsN fun _ _ _ _ _ _ us hl => match us, hl with | [_, _, _], _ => rfl⟩
  · obtain ⟨p, x, b, us, ps, rfl, _⟩ := h
    rfl
  obtain ⟨p, x, b, us, ps, rfl, hT, hP, hp1, ok, h1, h2, k⟩ := h
  refine ⟨_, PSs.nox (pss_cons (ps_set (i := 3) scp__law_between.nd rfl (.inl rfl) pe_int)
      (pss_cons (ps_for PassesOwn.never rfl (pi_list (pv 1)) (pg_tup rfl (pgs_cons (pg_name (i := 4) scp__law_between.nd rfl (.inl rfl)) (pgs_cons (pg_name (i := 5) scp__law_between.nd rfl (.inl rfl)) pgs_nil)))
      (pss_cons (ps_par (i := 6) (j := 7) (by rfl) scp__law_between.nd rfl rfl (by decide) rfl rfl (pa_cons (pv 5) (pa_cons pe_int pa_nil)) (by rfl))
      (pss_cons (ps_for PassesOwn.never rfl (pi_list (pv 1)) (pg_tup rfl (pgs_cons (pg_name (i := 8) scp__law_between.nd rfl (.inl rfl)) (pgs_cons (pg_name (i := 9) scp__law_between.nd rfl (.inl rfl)) pgs_nil)))
      (pss_one (ps_if (pt_cmpR op_ne (pv 8) (pv 4) (nomark _)) (pss_one (ps_par (i := 6) (j := 7) (by rfl) scp__law_between.nd rfl rfl (by decide) rfl rfl (pa_cons (pe_op op_mul (pv 6) (pe_op op_sub (pv 2) (pv 8))) (pa_cons (pe_op op_mul (pv 7) (pe_op op_sub (pv 4) (pv 8))) pa_nil)) (by rfl))) pss_nil)))
      (pss_one (ps_set (i := 3) scp__law_between.nd rfl (.inl rfl) (pe_op op_add (pv 3) (pe_op op_mul (pv 6) (pe_cal (cal__law_back T) hr (by decide) pass0 (pa_cons (pv 0) (pa_cons (pe_op op_mod (pe_callTy call_int1 (by rfl) T.z_int (by decide +kernel) (pa_cons (pv 7) pa_nil)) (pv 0)) pa_nil))))))))))
      (pss_one (ps_ret (pe_op op_mod (pe_callTy call_int1 (by rfl) T.z_int (by decide +kernel) (pa_cons (pv 3) pa_nil)) (pv 0)))))), ?_⟩
  have hul : us.length = ps.length := hP.len
  refine ⟨_, rfl, b, rfl, ⟨us, hT⟩, ?_⟩
  refine for_suf (walk_list (xs := us)) ps hul.symm (fun d _ σ H' => ∃ v4 v5 v6 v7 v8 v9, σ = [some (.int p), some (.ref b), some (.int x), some (.int (d.foldl (btwOut p ps x) 0)), v4, v5, v6, v7, v8, v9] ∧ Same H H') ?_ ?_ ?_ ?_
  · exact ⟨_, _, _, _, _, _, rfl, fun _ _ e => e⟩
  · rintro d r σ H1 ⟨v4, v5, v6, v7, v8, v9, rfl, s1⟩
    exact sameL s1 hT
  · rintro d q r y σ H1 H2 e ⟨v4, v5, v6, v7, v8, v9, rfl, s1⟩ ⟨rfl, hx⟩
    obtain ⟨b1, rfl, hq⟩ := (PtsI.mono (sameT s1) hP).get hx (by rw [e]; exact getMid d q r)
    have hqm : q ∈ ps := by rw [e]; simp
    have hqb := ok.bd q hqm
    refine ⟨b1, _, rfl, hq, rfl, _, _, rfl, _, _, rfl, rfl, ?_⟩
    refine ⟨_, rfl, _, _, rfl, ?_⟩
    refine ⟨_, rfl, b, rfl, ⟨us, sameL s1 hT⟩, ?_⟩
    refine for_suf (walk_list (xs := us)) ps hul.symm (fun d' _ σ H' => ∃ v8 v9, σ = [some (.int p), some (.ref b), some (.int x), some (.int (d.foldl (btwOut p ps x) 0)), some (.int q.1), some (.int q.2), some (.int (d'.foldl (btwStep x q.1) (q.2, 1)).1), some (.int (d'.foldl (btwStep x q.1) (q.2, 1)).2), v8, v9] ∧ Same H H') ?_ ?_ ?_ ?_
    · exact ⟨_, _, rfl, s1⟩
    · rintro d' r' σ H3 ⟨v8, v9, rfl, s3⟩
      exact sameL s3 hT
    · rintro d' q' r' y σ H3 H4 e' ⟨v8, v9, rfl, s3⟩ ⟨rfl, hx⟩
      obtain ⟨b', rfl, hq'⟩ := (PtsI.mono (sameT s3) hP).get hx (by rw [e']; exact getMid d' q' r')
      have hqm' : q' ∈ ps := by rw [e']; simp
      have hqb' := ok.bd q' hqm'
      refine ⟨b', _, rfl, hq', rfl, _, _, rfl, _, _, rfl, rfl, ?_⟩
      refine ⟨_, rfl, _, rfl, rfl, _, rfl, ?_⟩
      by_cases c : q'.1 = q.1
      · refine iteFb (by rw [decide_eq_true (congrArg V.int c)]; rfl) ?_
        have st : (d' ++ [q']).foldl (btwStep x q.1) (q.2, 1) = d'.foldl (btwStep x q.1) (q.2, 1) := by
          rw [List.foldl_append]
          exact if_pos c
        exact ⟨_, _, by rw [st]; rfl, s3⟩
      · refine iteTb (by rw [decide_eq_false fun z => c (V.int.inj z)]; rfl) ?_
        have st : (d' ++ [q']).foldl (btwStep x q.1) (q.2, 1) = ((d'.foldl (btwStep x q.1) (q.2, 1)).1 * (x - q'.1), (d'.foldl (btwStep x q.1) (q.2, 1)).2 * (q.1 - q'.1)) := by
          rw [List.foldl_append]
          exact if_neg c
        refine ⟨_, rfl, _, rfl, _, rfl, _, _, rfl, rfl, _, _, rfl, rfl, .inr ⟨by omega, by omega⟩, _, rfl, _, rfl, _, rfl, _, _, rfl, rfl, _, _, rfl, rfl, .inr ⟨by omega, by omega⟩, _, _, rfl, ?_⟩
        exact ⟨_, _, by rw [st]; rfl, s3⟩
    · rintro σ H3 ⟨v8, v9, rfl, s3⟩
      have hin := btw_inv hp1 ok x hqm
      have hp100 := ok.hp.2
      have hbd : 1 ≤ invM p ((ps.foldl (btwStep x q.1) (q.2, 1)).2 % p) ∧ invM p ((ps.foldl (btwStep x q.1) (q.2, 1)).2 % p) < p ∧ _ := inv_bd hin
      refine ⟨_, rfl, _, rfl, _, rfl, _, rfl, .inl ⟨_, rfl, _, rfl, _, _, rfl, rfl, (by omega : 0 < p), _, _, rfl, ok.hp.2, hin, fun H4 s4 => ?_⟩⟩
      refine ⟨_, _, rfl, rfl, .inr ⟨by omega, by omega⟩, _, _, rfl, rfl, ?_⟩
      have st : (d ++ [q]).foldl (btwOut p ps x) 0 = d.foldl (btwOut p ps x) 0 + (ps.foldl (btwStep x q.1) (q.2, 1)).1 * invM p ((ps.foldl (btwStep x q.1) (q.2, 1)).2 % p) := by
        rw [List.foldl_append]
        rfl
      exact ⟨_, _, _, _, _, _, by rw [st]; rfl, s3.trans s4⟩
  · rintro σ H1 ⟨v4, v5, v6, v7, v8, v9, rfl, s1⟩
    exact ⟨_, rfl, .inl ⟨_, rfl, _, rfl, _, _, rfl, rfl, (by omega : 0 < p), k H1 s1⟩⟩
def sp__law_stair (K : Frag) : Sp := fun vs H Q _ => ∃ (a : Addr) (ns : List Int), vs = [.ref a] ∧ SqT K H a (ns.map .int) ∧ ns.length ≤ 900 ∧ RetT K (stairM ns) H Q
abbrev tx__law_stair : Stmt := top 70
abbrev NN__law_stair : List Str := ["_law_shares_here", "_law_got", "_law_last", "_law_spot", "_law_share"]
theorem scp__law_stair : FnScope NN__law_stair ["_law_shares_here"] (defScope tx__law_stair) := ⟨rfl, rfl, rfl, by decide +kernel, rfl, by decide +kernel, by decide +kernel⟩
theorem cal__law_stair (T : Txt K mg) : Cal P w K mg base CX0 1 "_law_stair" (sp__law_stair K) := by
  obtain ⟨fd, F⟩ := T.d__law_stair
  refine ⟨_, fd, ["_law_shares_here"], F.ok scp__law_stair (fun vs H Q E h => ?_) (fun cdv A outer s H vs Q E hr h => ?_), T.g__law_stair, F.kp, F.bindsN fun _ _ _ _ _ _ us hl => match us, hl with | [_], _ => rfl⟩
  · obtain ⟨a, ns, rfl, _⟩ := h
    rfl
  obtain ⟨a, ns, rfl, hs, hl, k⟩ := h
  refine ⟨_, PSs.nox (pss_cons (ps_par (i := 1) (j := 2) (by rfl) scp__law_stair.nd rfl rfl (by decide) rfl rfl (pa_cons (pe_lst pa_nil) (pa_cons pe_int pa_nil)) (by rfl))
      (pss_cons (ps_for PassesOwn.never rfl (pi_enumT (by rfl) T.z_enumerate (pa_cons (pv 0) pa_nil)) (pg_tup rfl (pgs_cons (pg_name (i := 3) scp__law_stair.nd rfl (.inl rfl)) (pgs_cons (pg_name (i := 4) scp__law_stair.nd rfl (.inl rfl)) pgs_nil)))
      (pss_cons (ps_set (i := 2) scp__law_stair.nd rfl (.inl rfl) (pe_op op_add (pv 2) (pe_op op_mul (pe_op op_add (pv 3) pe_int) (pv 4))))
      (pss_one (ps_expr (pe_bm PySem.F.plainAttrs_list PySem.F.slot_list_append PySem.F.type_list_append mt_append (pv 1) (pa_cons (pv 2) pa_nil))))))
      (pss_one (ps_ret (pe_callTy call_tuple_of (by rfl) T.z_tuple (by decide +kernel) (pa_cons (pv 1) pa_nil)))))), ?_⟩
  refine ⟨by decide, fun f hf => ?_⟩
  refine ⟨_, _, rfl, ?_⟩
  refine ⟨_, rfl, a, _, rfl, sameT (sameNew hf) _ _ hs, ?_⟩
  refine for_suf (walk_enumT (xs := ns.map .int)) ns (by simp) (fun d _ σ H' => ∃ v3 v4, σ = [some (.ref a), some (.ref f), some (.int (stairS d).2), v3, v4] ∧ Same H H' ∧ H' f = some (.lst ((stairS d).1.map .int))) ?_ ?_ ?_ ?_
  · exact ⟨_, _, rfl, sameNew hf, upd_same⟩
  · rintro d r σ H1 ⟨v3, v4, rfl, s1, _⟩
    exact sameT s1 _ _ hs
  · rintro d b r x σ H1 H2 e ⟨v3, v4, rfl, s1, hf1⟩ ⟨T, x1, y1, rfl, hT, rfl, e1, e2⟩
    cases e1
    rw [e] at e2
    cases mapGet e2
    have hdl : d.length ≤ 900 := by rw [e] at hl; simp at hl; omega
    have hfT : f ≠ T := ne_of_none hf1 hT
    refine ⟨T, _, rfl, .of upd_same, rfl, _, _, rfl, _, _, rfl, rfl, ?_⟩
    refine ⟨_, rfl, _, rfl, _, _, rfl, rfl, _, rfl, _, _, rfl, rfl, .inl ⟨by omega, by omega⟩, _, _, rfl, rfl, ?_⟩
    have hf2 : (upd H1 T (.tup [.int (d.length : Int), .int b])) f = some (.lst ((stairS d).1.map .int)) := by rw [upd_ne hfT]; exact hf1
    refine ⟨_, rfl, .inl ⟨rfl, _, .of hf2⟩, _, rfl, f, _, _, rfl, rfl, hf2, small1000 (by simp [stairS_len]; omega), ?_⟩
    refine ⟨some (.int d.length), some (.int b), ?_, sameAt (sameAt s1 (s1.free hT)) hf, ?_⟩
    · rw [stairS_snoc, stairS_len]
      rfl
    · rw [upd_same, stairS_snoc, stairS_len]
      simp
  · rintro σ H1 ⟨v3, v4, rfl, s1, hf1⟩
    exact ⟨_, rfl, f, _, rfl, .inl ⟨.of hf1, fun t ht => k _ t (s1.trans (sameNew ht)) (.of upd_same)⟩⟩
def sp__law_needs (K : Frag) : Sp := fun vs H Q _ => ∃ (a : Addr) (ns : List Int), vs = [.ref a] ∧ SqT K H a (ns.map .int) ∧ ns.length ≤ 8 ∧ (∀ s ∈ ns, 0 ≤ s ∧ s ≤ 6) ∧ RetL (needM ns) H Q
abbrev tx__law_needs : Stmt := top 69
abbrev NN__law_needs : List Str := ["_law_shares_here", "_law_got", "_law_spot", "_law_share"]
theorem scp__law_needs : FnScope NN__law_needs ["_law_shares_here"] (defScope tx__law_needs) := ⟨rfl, rfl, rfl, by decide +kernel, rfl, by decide +kernel, by decide +kernel⟩
theorem cal__law_needs (T : Txt K mg) : Cal P w K mg base CX0 1 "_law_needs" (sp__law_needs K) := by
  obtain ⟨fd, F⟩ := T.d__law_needs
  refine ⟨_, fd, ["_law_shares_here"], F.ok scp__law_needs (fun vs H Q E h => ?_) (fun cdv A outer s H vs Q E hr h => ?_), T.g__law_needs, F.kp, F.bindsN fun _ _ _ _ _ _ us hl => match us, hl with | [_], _ => rfl⟩
  · obtain ⟨a, ns, rfl, _⟩ := h
    rfl
  obtain ⟨a, ns, rfl, hs, hl, hb, k⟩ := h
  refine ⟨_, PSs.nox (pss_cons (ps_set (i := 1) scp__law_needs.nd rfl (.inl rfl) (pe_lst pa_nil))
      (pss_cons (ps_for PassesOwn.never rfl (pi_enumT (by rfl) T.z_enumerate (pa_cons (pv 0) pa_nil)) (pg_tup rfl (pgs_cons (pg_name (i := 2) scp__law_needs.nd rfl (.inl rfl)) (pgs_cons (pg_name (i := 3) scp__law_needs.nd rfl (.inl rfl)) pgs_nil)))
      (pss_one (ps_set (i := 1) scp__law_needs.nd rfl (.inl rfl) (pe_op op_cat (pv 1) (pe_op op_rep (pe_lst (pa_cons (pe_op op_add (pv 2) pe_int) pa_nil)) (pv 3))))))
      (pss_one (ps_ret (pv 1))))), ?_⟩
  refine ⟨by decide, fun f hf => ?_⟩
  refine ⟨_, rfl, a, _, rfl, sameT (sameNew hf) _ _ hs, ?_⟩
  refine for_suf (walk_enumT (xs := ns.map .int)) ns (by simp) (fun d _ σ H' => ∃ f v3 v4, σ = [some (.ref a), some (.ref f), v3, v4] ∧ Same H H' ∧ H f = none ∧ H' f = some (.lst ((needS d).1.map .int))) ?_ ?_ ?_ ?_
  · exact ⟨f, _, _, rfl, sameNew hf, hf, upd_same⟩
  · rintro d r σ H1 ⟨f, v3, v4, rfl, s1, _⟩
    exact sameT s1 _ _ hs
  · rintro d b r x σ H1 H2 e ⟨f, v3, v4, rfl, s1, hf0, hf1⟩ ⟨T, x1, y1, rfl, hT, rfl, e1, e2⟩
    cases e1
    rw [e] at e2
    cases mapGet e2
    have hb1 := hb b (by rw [e]; simp)
    have hdl : d.length ≤ 8 := by rw [e] at hl; simp at hl; omega
    have hsm := needS_small d hdl fun s hs => hb s (by rw [e]; exact List.mem_append_left _ hs)
    have hfT : f ≠ T := ne_of_none hf1 hT
    refine ⟨T, _, rfl, .of upd_same, rfl, _, _, rfl, _, _, rfl, rfl, ?_⟩
    refine ⟨_, rfl, _, rfl, _, _, rfl, rfl, le1000 (by simp), fun l1 h1 => ?_⟩
    refine ⟨_, rfl, ?_⟩
    refine ⟨l1, _, _, rfl, rfl, upd_same, by omega, by omega, le1000 (by simp; omega), fun l2 h2 => ?_⟩
    have hf2 : (upd H1 T (.tup [.int (d.length : Int), .int b])) f = some (.lst ((needS d).1.map .int)) := by rw [upd_ne hfT]; exact hf1
    have s2 := sameNew (o := .lst [.int ((d.length : Int) + 1)]) h1
    have s3 := sameNew (o := .lst (List.replicate b.toNat [V.int ((d.length : Int) + 1)]).flatten) h2
    refine ⟨f, l2, _, _, rfl, rfl, s3 _ _ (s2 _ _ hf2), upd_same, le1000 ?_, fun l3 h3 => ?_⟩
    · rw [replI]
      simp
      omega
    · have s4 := ((s1.trans (sameNew (o := .tup [.int (d.length : Int), .int b]) hT)).trans s2).trans s3
      refine ⟨l3, some (.int d.length), some (.int b), rfl, s4.trans (sameNew h3), s4.free h3, ?_⟩
      · rw [upd_same, needS_snoc, needS_ix, replI]
        simp
  · rintro σ H1 ⟨f, v3, v4, rfl, s1, hf0, hf1⟩
    exact ⟨_, rfl, k H1 f s1 hf0 hf1⟩
end
end NL
/-! L3: what is drawn -/
namespace NL
open PySem PySem.Spec PyProof.Rows L2
/-- a letter's signs at v -/
def LetR (K : Frag) (H : Hp) (v : V) (ns : List Int) : Prop := ∃ c, v = .ref c ∧ SqT K H c (ns.map .int)
theorem LetR.mono {K : Frag} {H H' : Hp} (t : TK K H H') {v : V} {ns : List Int} (h : LetR K H v ns) : LetR K H' v ns := let ⟨c, e, q⟩ := h; ⟨c, e, t _ _ q⟩
def Sg (p : Int) (ns : List Int) : Prop := ∀ i ∈ ns, 0 ≤ i ∧ i < p
theorem cutI (ms : List Int) (lo hi : Option Int) : ∃ a b : Nat, cutV (ms.map V.int) lo hi = ((ms.drop a).take b).map V.int := by
  refine ⟨HT.sIx (ms.map V.int).length 0 lo, HT.sIx (ms.map V.int).length (ms.map V.int).length hi - HT.sIx (ms.map V.int).length 0 lo, ?_⟩
  unfold cutV
  rw [List.map_take, List.map_drop]
theorem primes_in {i : Nat} (h : i < 5) : ∃ p : Int, ([V.int 11, V.int 13, V.int 17, V.int 19, V.int 23])[i]? = some (.int p) ∧ Prm p := by
  rcases i with _ | _ | _ | _ | _ | i
  · exact ⟨11, rfl, by decide⟩
  · exact ⟨13, rfl, by decide⟩
  · exact ⟨17, rfl, by decide⟩
  · exact ⟨19, rfl, by decide⟩
  · exact ⟨23, rfl, by decide⟩
  · omega
theorem lefts_in {i : Nat} (h : i < 3) : ∃ p : Int, ([V.int 2, V.int 5, V.int 12])[i]? = some (.int p) ∧ 0 ≤ p ∧ p ≤ 12 := by
  rcases i with _ | _ | _ | i
  · exact ⟨2, rfl, by decide⟩
  · exact ⟨5, rfl, by decide⟩
  · exact ⟨12, rfl, by decide⟩
  · omega
section
variable {P : Program} {w : World} {K : Frag} {mg : Str → Option Value} {base : Heap}
def sp__law_prime (K : Frag) : Sp := fun vs H Q _ => ∃ (st c l : Addr) (n : Nat), vs = [.ref st] ∧ LSt K H st c l n ∧ n ≤ 1000000 ∧ ∀ H' p, Fr [st, l] H H' → LSt K H' st c l (n + 1) → Prm p → Q (.int p) H'
abbrev tx__law_prime : Stmt := top 72
abbrev NN__law_prime : List Str := ["_law_state"]
theorem scp__law_prime : FnScope NN__law_prime ["_law_state"] (defScope tx__law_prime) := ⟨rfl, rfl, rfl, by decide +kernel, rfl, by decide +kernel, by decide +kernel⟩
theorem cal__law_prime (T : Txt K mg) : Cal P w K mg base CX0 3 "_law_prime" (sp__law_prime K) := by
  obtain ⟨fd, F⟩ := T.d__law_prime
  refine ⟨_, fd, ["_law_state"], F.ok scp__law_prime (fun vs H Q E h => ?_) (fun cdv A outer s H vs Q E hr h => ?_), T.g__law_prime, F.kp, F.bindsN fun _ _ _ _ _ _ us hl => match us, hl with | [_], _ => rfl⟩
  · obtain ⟨st, c, l, n, rfl, _⟩ := h
    rfl
  obtain ⟨st, c, l, n, rfl, hL, hn, k⟩ := h
  refine ⟨_, PSs.nox (pss_one (ps_ret (pe_ix ix_list (pe_lst (pa_cons pe_int (pa_cons pe_int (pa_cons pe_int (pa_cons pe_int (pa_cons pe_int pa_nil)))))) (pe_cal (cal__law_draw T) hr (by decide) pass0 (pa_cons (pv 0) (pa_cons pe_int pa_nil))) (fun _ _ => rfl)))), ?_⟩
  refine ⟨le1000 (by simp), fun b hb => ?_⟩
  have s1 := sameNew (o := .lst [V.int 11, V.int 13, V.int 17, V.int 19, V.int 23]) hb
  refine ⟨_, rfl, st, c, l, n, 5, rfl, hL.same s1, hn, by decide, by decide, fun H1 r f1 L1 r0 r1 => ?_⟩
  obtain ⟨j, rfl⟩ : ∃ j : Nat, r = (j : Int) := ⟨r.toNat, by omega⟩
  obtain ⟨p, e, hp⟩ := primes_in (i := j) (by omega)
  obtain ⟨g1, g2, g3⟩ := hL.fresh hb
  refine ⟨b, _, _, _, rfl, rfl, .of (f1.at upd_same (by simp [g1, g3])), atI_nat (j := j) e, ?_⟩
  exact k H1 p ((Fr.same s1).trans f1) L1 hp
def sp__law_shares (K : Frag) : Sp := fun vs H Q _ => ∃ (st c l : Addr) (n : Nat) (m : Int), vs = [.ref st, .int m] ∧ 0 < m ∧ m ≤ 8 ∧ LSt K H st c l n ∧ n ≤ 900000 ∧ ∀ H' t sh, Fr [st, l] H H' → LSt K H' st c l (n + 20) → SqT K H' t (sh.map .int) → ShOk sh → (sh.length : Int) ≤ m → Q (.ref t) H'
abbrev tx__law_shares : Stmt := top 73
abbrev NN__law_shares : List Str := ["_law_state", "_law_most", "_law_got", "_law_left", "_law_k", "_law_share"]
theorem scp__law_shares : FnScope NN__law_shares ["_law_state", "_law_most"] (defScope tx__law_shares) := ⟨rfl, rfl, rfl, by decide +kernel, rfl, by decide +kernel, by decide +kernel⟩
theorem cal__law_shares (T : Txt K mg) : Cal P w K mg base CX0 3 "_law_shares" (sp__law_shares K) := by
  obtain ⟨fd, F⟩ := T.d__law_shares
  refine ⟨_, fd, ["_law_state", "_law_most"], F.ok scp__law_shares (fun vs H Q E h => ?_) (fun cdv A outer s H vs Q E hr h => ?_), T.g__law_shares, F.kp, F.bindsN fun _ _ _ _ _ _ us hl => match us, hl with | [_, _], _ => rfl⟩
  · obtain ⟨st, c, l, n, m, rfl, _⟩ := h
    rfl
  obtain ⟨st, c, l, n, m, rfl, hm0, hm8, hL, hn, k⟩ := h
  refine ⟨_, PSs.nox (pss_cons (ps_par (i := 2) (j := 3) (by rfl) scp__law_shares.nd rfl rfl (by decide) rfl rfl (pa_cons (pe_lst pa_nil) (pa_cons (pe_ix ix_list (pe_lst (pa_cons pe_int (pa_cons pe_int (pa_cons pe_int pa_nil)))) (pe_cal (cal__law_draw T) hr (by decide) pass0 (pa_cons (pv 0) (pa_cons pe_int pa_nil))) (fun _ _ => rfl)) pa_nil)) (by rfl))
      (pss_cons (ps_for PassesOwn.never rfl (pi_range1 (by rfl) T.z_range (pa_cons (pe_op op_add pe_int (pe_cal (cal__law_draw T) hr (by decide) pass0 (pa_cons (pv 0) (pa_cons (pv 1) pa_nil)))) pa_nil)) (pg_name (i := 4) scp__law_shares.nd rfl (.inl rfl))
      (pss_cons (ps_set (i := 5) scp__law_shares.nd rfl (.inl rfl) (pe_ifExp (pt_cmpR op_gt (pe_cal (cal__law_draw T) hr (by decide) pass0 (pa_cons (pv 0) (pa_cons pe_int pa_nil))) pe_int (nomark _)) (pe_cal (cal__law_draw T) hr (by decide) pass0 (pa_cons (pv 0) (pa_cons (pe_op op_add pe_int (pe_callB (call_min2 rfl) (by rfl) T.z_min (by decide +kernel) (pa_cons pe_int (pa_cons (pv 3) pa_nil)))) pa_nil))) pe_int))
      (pss_cons (ps_expr (pe_bm PySem.F.plainAttrs_list PySem.F.slot_list_append PySem.F.type_list_append mt_append (pv 2) (pa_cons (pv 5) pa_nil)))
      (pss_one (ps_set (i := 3) scp__law_shares.nd rfl (.inl rfl) (pe_op op_sub (pv 3) (pv 5)))))))
      (pss_one (ps_ret (pe_callTy call_tuple_of (by rfl) T.z_tuple (by decide +kernel) (pa_cons (pv 2) pa_nil)))))), ?_⟩
  refine ⟨le1000 (by simp), fun f hf => ?_⟩
  have s1 := sameNew (o := .lst []) hf
  obtain ⟨f1, f2, f3⟩ := hL.fresh hf
  refine ⟨le1000 (by simp), fun b hb => ?_⟩
  have s2 := s1.trans (sameNew (o := .lst [V.int 2, V.int 5, V.int 12]) hb)
  have hL2 := hL.same s2
  obtain ⟨g1, g2, g3⟩ := (hL.same s1).fresh hb
  have hfb : f ≠ b := ne_of_none upd_same hb
  refine ⟨_, rfl, st, c, l, n, 3, rfl, hL2, by omega, by decide, by decide, fun H3 r q3 L3 r0 r1 => ?_⟩
  obtain ⟨j, rfl⟩ : ∃ j : Nat, r = (j : Int) := ⟨r.toNat, by omega⟩
  obtain ⟨lf, e, hlf⟩ := lefts_in (i := j) (by omega)
  refine ⟨b, _, _, _, rfl, rfl, .of (q3.at upd_same (by simp [g1, g3])), atI_nat (j := j) e, ?_⟩
  refine ⟨_, _, rfl, ?_⟩
  have F3 : Fr [st, l] H H3 := (Fr.same s2).trans q3
  have hf3 : H3 f = some (.lst []) := q3.at (by rw [upd_ne hfb, upd_same]) (by simp [f1, f3])
  refine ⟨_, rfl, _, rfl, st, c, l, n + 1, m, rfl, L3, by omega, hm0, by omega, fun H4 r4 q4 L4 r40 r41 => ?_⟩
  refine ⟨_, _, rfl, rfl, _, rfl, by omega, by omega, ?_⟩
  have hf4 : H4 f = some (.lst []) := q4.at hf3 (by simp [f1, f3])
  refine for_suf walk_range (List.range (1 + r4).toNat) (by simp) (fun d _ σ H' => ∃ (lf : Int) (gs : List Int) (v4 v5 : Option V), σ = [some (.ref st), some (.int m), some (.ref f), some (.int lf), v4, v5] ∧ Fr [st, l] H H' ∧ LSt K H' st c l (n + 2 + 2 * d.length) ∧ H' f = some (.lst (gs.map .int)) ∧ gs.length = d.length ∧ (∀ s ∈ gs, 0 ≤ s ∧ s ≤ 6) ∧ 0 ≤ lf ∧ gs.sum + lf ≤ 12) ?_ ?_ ?_ ?_
  · exact ⟨lf, [], _, _, rfl, F3.trans q4, L4, hf4, rfl, (fun s hs => by cases hs), hlf.1, by simpa using hlf.2⟩
  · intro d r σ H' _
    trivial
  · rintro d b' r' x σ H5 H6 e5 ⟨lf, gs, v4, v5, rfl, F5, L5, hf5, hgl, hgb, hl0, hsum⟩ ⟨rfl, rfl⟩
    have hdl : d.length < 8 := by
      have := congrArg List.length e5
      simp at this
      omega
    refine ⟨_, rfl, st, c, l, _, 3, rfl, L5, by omega, by decide, by decide, fun H7 r7 q7 L7 r70 r71 => ?_⟩
    have F7 := F5.trans q7
    have hf7 : H7 f = some (.lst (gs.map .int)) := q7.at hf5 (by simp [f1, f3])
    refine ⟨_, _, rfl, rfl, _, rfl, ?_⟩
    have fin : ∀ H8 sv, Fr [st, l] H7 H8 → LSt K H8 st c l (n + 2 + 2 * (d ++ [b']).length) → 0 ≤ sv → sv ≤ 6 → sv ≤ lf →
        ∃ (lf' : Int) (gs' : List Int) (v4 v5 : Option V), [some (V.ref st), some (V.int m), some (V.ref f), some (V.int (lf - sv)), some (V.int (0 + (d.length : Int))), some (V.int sv)] = [some (.ref st), some (.int m), some (.ref f), some (.int lf'), v4, v5] ∧ Fr [st, l] H (upd H8 f (.lst ((gs ++ [sv]).map .int))) ∧ LSt K (upd H8 f (.lst ((gs ++ [sv]).map .int))) st c l (n + 2 + 2 * (d ++ [b']).length) ∧ (upd H8 f (.lst ((gs ++ [sv]).map .int))) f = some (.lst (gs'.map .int)) ∧ gs'.length = (d ++ [b']).length ∧ (∀ s ∈ gs', 0 ≤ s ∧ s ≤ 6) ∧ 0 ≤ lf' ∧ gs'.sum + lf' ≤ 12 := by
      intro H8 sv q8 L8 h0 h6 hlf
      refine ⟨lf - sv, gs ++ [sv], _, _, rfl, (F7.trans q8).new hf, L8.upd f1 f2 f3, upd_same, by simp [hgl], fun s hs => ?_, by omega, by simp; omega⟩
      rcases List.mem_append.mp hs with hs | hs
      · exact hgb s hs
      · rw [List.mem_singleton.mp hs]
        exact ⟨h0, h6⟩
    by_cases c7 : (0 : Int) < r7
    · refine iteTb (decide_eq_true c7) ?_
      refine ⟨_, rfl, _, rfl, _, _, rfl, ?_⟩
      have hmin : 0 ≤ (if lf < 6 then lf else 6) ∧ (if lf < 6 then lf else 6) ≤ 6 ∧ (if lf < 6 then lf else 6) ≤ lf := by split <;> omega
      refine ⟨_, _, rfl, rfl, st, c, l, _, _, rfl, L7, by omega, by omega, by omega, fun H8 sv q8 L8 s0 s1 => ?_⟩
      have hf8 : H8 f = some (.lst (gs.map .int)) := q8.at hf7 (by simp [f1, f3])
      have L8' := L8.mono (m := n + 2 + 2 * (d ++ [b']).length) (by simp; omega)
      refine ⟨_, rfl, .inl ⟨rfl, _, .of hf8⟩, _, rfl, f, _, _, rfl, rfl, hf8, small1000 (by simp; omega), ?_⟩
      refine ⟨_, rfl, _, rfl, _, _, rfl, rfl, ?_⟩
      have := fin H8 sv q8 L8' s0 (by omega) (by omega)
      rw [List.map_append] at this
      exact this
    · refine iteFb (decide_eq_false c7) ?_
      have L7' := L7.mono (m := n + 2 + 2 * (d ++ [b']).length) (by simp; omega)
      refine ⟨_, rfl, .inl ⟨rfl, _, .of hf7⟩, _, rfl, f, _, _, rfl, rfl, hf7, small1000 (by simp; omega), ?_⟩
      refine ⟨_, rfl, _, rfl, _, _, rfl, rfl, ?_⟩
      have := fin H7 0 (Fr.refl _ _) L7' (by omega) (by omega) hl0
      rw [List.map_append] at this
      exact this
  · rintro σ H5 ⟨lf, gs, v4, v5, rfl, F5, L5, hf5, hgl, hgb, hl0, hsum⟩
    rw [List.length_range] at hgl L5
    refine ⟨_, rfl, f, _, rfl, .inl ⟨.of hf5, fun t ht => ?_⟩⟩
    have s6 := sameNew (o := .tup (gs.map V.int)) ht
    exact k _ t gs (F5.trans (Fr.same s6)) ((L5.same s6).mono (by omega)) (.of upd_same) ⟨by omega, hgb, by omega⟩ (by omega)
def sp__law_message (K : Frag) : Sp := fun vs H Q _ => ∃ (st c l : Addr) (n many : Nat) (p : Int), vs = [.ref st, .int p, .int (many : Nat)] ∧ 0 < p ∧ p < 1000 ∧ many ≤ 100 ∧ LSt K H st c l n ∧ n ≤ 900000 ∧ ∀ H' t ms, Fr [st, l] H H' → LSt K H' st c l (n + many) → SqT K H' t (ms.map .int) → ms.length = many → Sg p ms → Q (.ref t) H'
abbrev tx__law_message : Stmt := top 74
abbrev NN__law_message : List Str := ["_law_state", "_law_prime_so", "_law_many", "_law_k"]
theorem scp__law_message : FnScope NN__law_message ["_law_state", "_law_prime_so", "_law_many"] (defScope tx__law_message) := ⟨rfl, rfl, rfl, by decide +kernel, rfl, by decide +kernel, by decide +kernel⟩
theorem cal__law_message (T : Txt K mg) : Cal P w K mg base CX0 3 "_law_message" (sp__law_message K) := by
  obtain ⟨fd, F⟩ := T.d__law_message
  refine ⟨_, fd, ["_law_state", "_law_prime_so", "_law_many"], F.ok scp__law_message (fun vs H Q E h => ?_) (fun cdv A outer s H vs Q E hr h => ?_), T.g__law_message, F.kp, F.bindsN fun _ _ _ _ _ _ us hl => match us, hl with | [_, _, _], _ => rfl⟩
  · obtain ⟨st, c, l, n, many, p, rfl, _⟩ := h
    rfl
  obtain ⟨st, c, l, n, many, p, rfl, hp0, hp1, hm, hL, hn, k⟩ := h
  refine ⟨_, PSs.nox (pss_one (ps_ret (pe_callTy call_tuple_of (by rfl) T.z_tuple (by decide +kernel) (pa_cons (pe_lc (own := [("_law_k", 3)]) (g := gName 3) (tt := tYes) rfl scp__law_message.nd (pi_range1 (by rfl) T.z_range (pa_cons (pv 2) pa_nil)) (blkOk_by (N := NN__law_message) (sc := defScope tx__law_message) (by decide +kernel)) (fun _ _ _ _ _ => (pg_name (i := 3) scp__law_message.nd rfl (.inl rfl))) (fun _ _ _ _ _ => pts_nil) (fun _ _ _ _ _ => (pe_cal (cal__law_draw T) hr (by decide) pass0 (pa_cons (pv 0) (pa_cons (pv 1) pa_nil))))) pa_nil)))), ?_⟩
  refine ⟨_, rfl, _, rfl, by omega, by omega, fun D hD => ?_⟩
  obtain ⟨g1, g2, g3⟩ := hL.fresh hD
  refine lc_suf walk_range (List.range many) (by simp) (fun d _ H' => ∃ ms : List Int, Fr [st, l] H H' ∧ LSt K H' st c l (n + d.length) ∧ H' D = some (.lst (ms.map .int)) ∧ ms.length = d.length ∧ Sg p ms) ?_ ?_ ?_ ?_
  · exact ⟨[], Fr.same (sameNew hD), hL.upd g1 g2 g3, upd_same, rfl, fun i hi => by cases hi⟩
  · intro d r H' _
    trivial
  · rintro d b r x H1 H2 e ⟨ms, F1, L1, hD1, hml, hsg⟩ ⟨rfl, rfl⟩
    have hdl : d.length < 100 := by
      have := congrArg List.length e
      simp at this
      omega
    refine ⟨rfl, yesT ⟨_, rfl, _, rfl, st, c, l, _, p, rfl, L1, by omega, hp0, by omega, fun H3 r3 q3 L3 r30 r31 => ?_⟩⟩
    have hD3 : H3 D = some (.lst (ms.map .int)) := q3.at hD1 (by simp [g1, g3])
    refine ⟨_, hD3, small1000 (by simp; omega), ms ++ [r3], (F1.trans q3).new hD, ?_, by rw [upd_same]; simp, by simp [hml], fun i hi => ?_⟩
    · have := L3.upd (o := .lst (ms.map V.int ++ [V.int r3])) g1 g2 g3
      rw [List.length_append]
      exact this
    · rcases List.mem_append.mp hi with hi | hi
      · exact hsg i hi
      · rw [List.mem_singleton.mp hi]
        exact ⟨r30, r31⟩
  · rintro H1 ⟨ms, F1, L1, hD1, hml, hsg⟩
    rw [List.length_range] at hml L1
    refine ⟨D, _, rfl, .inl ⟨.of hD1, fun t ht => ?_⟩⟩
    have s6 := sameNew (o := .tup (ms.map V.int)) ht
    exact k _ t ms (F1.trans (Fr.same s6)) (L1.same s6) (.of upd_same) hml hsg
end
end NL
/-! L4: letters, rows, points -/
namespace NL
open PySem PySem.Spec PyProof.Rows L2
/-- blocks of signs -/
def BlkR (K : Frag) (p : Int) (H : Hp) (v : V) : Prop := ∃ c ns, v = .ref c ∧ SqT K H c (ns.map V.int) ∧ Sg p ns
theorem BlkR.mono {K : Frag} {p : Int} {H H' : Hp} (t : TK K H H') {v : V} (h : BlkR K p H v) : BlkR K p H' v := let ⟨c, ns, e, q, r⟩ := h; ⟨c, ns, e, t _ _ q, r⟩
theorem Sg.cut {p : Int} {ms : List Int} (h : Sg p ms) (a b : Nat) : Sg p ((ms.drop a).take b) := fun i hi => h i (List.mem_of_mem_drop (List.mem_of_mem_take hi))
section
variable {P : Program} {w : World} {K : Frag} {mg : Str → Option Value} {base : Heap}
def sp__law_letters (K : Frag) : Sp := fun vs H Q _ => ∃ (p : Int) (a b : Addr) (sh ms : List Int), vs = [.int p, .ref a, .ref b] ∧ SqT K H a (sh.map .int) ∧ SqT K H b (ms.map .int) ∧ ShOk sh ∧ 0 < p ∧ p ≤ 100 ∧ Sg p ms ∧
  ∀ H' t us ls, Same H H' → SqT K H' t us → All2 (LetR K H') us ls → ls.length = sh.length → (∀ ns ∈ ls, (ns.length : Int) = sh.sum ∧ Sg p ns) → Q (.ref t) H'
abbrev tx__law_letters : Stmt := top 71
abbrev NN__law_letters : List Str := ["_law_prime_so", "_law_shares_here", "_law_message_so", "_law_blocks", "_law_at", "_law_need", "_law_got", "_law_spot", "_law_block_here"]
theorem scp__law_letters : FnScope NN__law_letters ["_law_prime_so", "_law_shares_here", "_law_message_so"] (defScope tx__law_letters) := ⟨rfl, rfl, rfl, by decide +kernel, rfl, by decide +kernel, by decide +kernel⟩
theorem cal__law_letters (T : Txt K mg) : Cal P w K mg base CX0 2 "_law_letters" (sp__law_letters K) := by
  obtain ⟨fd, F⟩ := T.d__law_letters
  refine ⟨_, fd, ["_law_prime_so", "_law_shares_here", "_law_message_so"], F.ok scp__law_letters (fun vs H Q E h => ?_) (fun cdv A outer s H vs Q E hr h => ?_), T.g__law_letters, F.kp, F.bindsN fun _ _ _ _ _ _ us hl => match us, hl with | [_, _, _], _ => rfl⟩
  · obtain ⟨p, a, b, sh, ms, rfl, _⟩ := h
    rfl
  obtain ⟨p, a, b, sh, ms, rfl, ha, hb, hs, hp0, hp1, hsg, k⟩ := h
  refine ⟨_, PSs.nox (pss_cons (ps_par (i := 3) (j := 4) (by rfl) scp__law_letters.nd rfl rfl (by decide) rfl rfl (pa_cons (pe_lst pa_nil) (pa_cons pe_int pa_nil)) (by rfl))
      (pss_cons (ps_for PassesOwn.never rfl (pi_list (pe_cal (cal__law_needs T) hr (by decide) pass0 (pa_cons (pv 1) pa_nil))) (pg_name (i := 5) scp__law_letters.nd rfl (.inl rfl))
      (pss_cons (ps_expr (pe_bm PySem.F.plainAttrs_list PySem.F.slot_list_append PySem.F.type_list_append mt_append (pv 3) (pa_cons (pe_slice sl_tupA (pv 2) (po_some (pv 4)) (po_some (pe_op op_add (pv 4) (pv 5)))) pa_nil)))
      (pss_one (ps_set (i := 4) scp__law_letters.nd rfl (.inl rfl) (pe_op op_add (pv 4) (pv 5))))))
      (pss_cons (ps_set (i := 6) scp__law_letters.nd rfl (.inl rfl) (pe_lst pa_nil))
      (pss_cons (ps_for PassesOwn.never rfl (pi_range1 (by rfl) T.z_range (pa_cons (pe_callB call_len_seq (by rfl) T.z_len PySem.boot_len (pa_cons (pv 1) pa_nil)) pa_nil)) (pg_name (i := 7) scp__law_letters.nd rfl (.inr rfl))
      (pss_one (ps_expr (pe_bm PySem.F.plainAttrs_list PySem.F.slot_list_append PySem.F.type_list_append mt_append (pv 6) (pa_cons (pe_callTy call_tuple_of (by rfl) T.z_tuple (by decide +kernel) (pa_cons (pe_lc (own := [("_law_block_here", 8)]) (g := gName 8) (tt := tYes) rfl scp__law_letters.nd (pi_list (pv 3)) (blkOk_by (N := NN__law_letters) (sc := defScope tx__law_letters) (by decide +kernel)) (fun _ _ _ _ _ => (pg_name (i := 8) scp__law_letters.nd rfl (.inl rfl))) (fun _ _ _ _ _ => pts_nil) (fun _ _ _ _ _ => (pe_cal (cal__law_value T) hr (by decide) pass0 (pa_cons (pv 0) (pa_cons (pv 8) (pa_cons (pe_op op_add (pv 7) pe_int) pa_nil)))))) pa_nil)) pa_nil)))))
      (pss_one (ps_ret (pe_callTy call_tuple_of (by rfl) T.z_tuple (by decide +kernel) (pa_cons (pv 6) pa_nil)))))))), ?_⟩
  have h8 := hs.len.2
  have hn1 := needM_len sh hs.bd
  have hn2 := hs.sum
  refine ⟨le1000 (by simp), fun f hf => ⟨_, _, rfl, ?_⟩⟩
  have s0 := sameNew (o := .lst []) hf
  refine ⟨_, rfl, a, sh, rfl, sameT s0 _ _ ha, h8, hs.bd, fun H1 nl s1 hnl0 hnl => ?_⟩
  have s01 := s0.trans s1
  refine ⟨nl, rfl, ⟨_, .of hnl⟩, ?_⟩
  have hfnl : f ≠ nl := ne_of_none upd_same hnl0
  refine for_suf (walk_list (xs := (needM sh).map .int)) (needM sh) (by simp) (fun d _ σ H' => ∃ (at_ : Int) (us : List V) (v5 v6 v7 v8 : Option V), σ = [some (.int p), some (.ref a), some (.ref b), some (.ref f), some (.int at_), v5, v6, v7, v8] ∧ Same H H' ∧ H' nl = some (.lst ((needM sh).map .int)) ∧ H' f = some (.lst us) ∧ us.length = d.length ∧ ∀ u ∈ us, BlkR K p H' u) ?_ ?_ ?_ ?_
  · exact ⟨0, [], _, _, _, _, rfl, s01, hnl, s1 _ _ upd_same, rfl, fun u hu => by cases hu⟩
  · rintro d r σ H2 ⟨at_, us, v5, v6, v7, v8, rfl, s2, hnl2, _⟩
    exact .of hnl2
  · rintro d n r x σ H2 H3 e ⟨at_, us, v5, v6, v7, v8, rfl, s2, hnl2, hf2, hul, hall⟩ ⟨rfl, hx⟩
    rw [e] at hx
    cases mapGet hx
    have hdl : d.length < (needM sh).length := by rw [e]; simp
    have hb2 := sameT s2 _ _ hb
    obtain ⟨c1, c2, hcut⟩ := cutI ms (some at_) (some (at_ + n))
    refine ⟨_, rfl, .inl ⟨rfl, _, .of hf2⟩, _, rfl, _, rfl, at_, rfl, _, rfl, _, rfl, _, _, rfl, rfl, _, rfl, b, _, rfl, hb2, ?_, ?_⟩
    · intro _
      refine ⟨f, _, _, rfl, rfl, hf2, small1000 (by omega), ?_⟩
      have tk := tkLst (K := K) (o := .lst (us ++ [.ref b])) hf2
      refine ⟨_, rfl, _, rfl, _, _, rfl, rfl, at_ + n, us ++ [.ref b], _, _, _, _, rfl, sameAt s2 hf, by rw [upd_ne hfnl.symm]; exact hnl2, upd_same, by simp [hul], fun u hu => ?_⟩
      rcases List.mem_append.mp hu with hu | hu
      · exact (hall u hu).mono tk
      · rw [List.mem_singleton.mp hu]
        exact ⟨b, ms, rfl, tk _ _ hb2, hsg⟩
    · intro _ q hq
      have hfq : f ≠ q := ne_of_none hf2 hq
      have sq := sameNew (o := .tup (cutV (ms.map V.int) (some at_) (some (at_ + n)))) hq
      have hf3 := sq _ _ hf2
      refine ⟨f, _, _, rfl, rfl, hf3, small1000 (by omega), ?_⟩
      have tk := tkLst (K := K) (o := .lst (us ++ [.ref q])) hf3
      refine ⟨_, rfl, _, rfl, _, _, rfl, rfl, at_ + n, us ++ [.ref q], _, _, _, _, rfl, sameAt (s2.trans sq) hf, by rw [upd_ne hfnl.symm]; exact sq _ _ hnl2, upd_same, by simp [hul], fun u hu => ?_⟩
      rcases List.mem_append.mp hu with hu | hu
      · exact ((hall u hu).mono (sameT sq)).mono tk
      · rw [List.mem_singleton.mp hu]
        exact ⟨q, _, rfl, tk _ _ (.of (by rw [upd_same, hcut])), hsg.cut c1 c2⟩
  · rintro σ H2 ⟨at_, us, v5, v6, v7, v8, rfl, s2, hnl2, hf2, hul, hall⟩
    refine ⟨le1000 (by simp), fun g hg => ?_⟩
    have hgH := s2.free hg
    have sg := sameNew (o := .lst []) hg
    have hfg : f ≠ g := ne_of_none hf2 hg
    refine ⟨_, rfl, a, _, rfl, .inr (sameT (s2.trans sg) _ _ ha), _, rfl, by rw [List.length_map]; omega, by rw [List.length_map]; omega, ?_⟩
    rw [List.length_map]
    refine for_suf walk_range (List.range sh.length) (by simp) (fun d _ σ H' => ∃ (ws : List V) (ls : List (List Int)) (v7 v8 : Option V), σ = [some (.int p), some (.ref a), some (.ref b), some (.ref f), some (.int at_), v5, some (.ref g), v7, v8] ∧ Same H2 H' ∧ H' g = some (.lst ws) ∧ All2 (LetR K H') ws ls ∧ ls.length = d.length ∧ ∀ ns ∈ ls, (ns.length : Int) = sh.sum ∧ Sg p ns) ?_ ?_ ?_ ?_
    · exact ⟨[], [], _, _, rfl, sg, upd_same, .nil, rfl, fun ns hns => by cases hns⟩
    · intro d r σ H' _
      trivial
    · rintro d i r x σ H3 H4 e ⟨ws, ls, v7, v8, rfl, s3, hg3, hA, hll, hls⟩ ⟨rfl, rfl⟩
      have hdl : d.length < 8 := by
        have := congrArg List.length e
        simp at this
        omega
      have hf3 := s3 _ _ hf2
      refine ⟨_, rfl, .inl ⟨rfl, _, .of hg3⟩, _, rfl, f, rfl, ⟨_, .of hf3⟩, fun D hD => ?_⟩
      have hgD : g ≠ D := ne_of_none hg3 hD
      have hlu : us.length = (needM sh).length := hul
      refine lc_ac (walk_list (xs := us)) us rfl hD (fun d' acc _ => ∃ ns : List Int, acc = ns.map V.int ∧ ns.length = d'.length ∧ Sg p ns) ⟨[], rfl, rfl, fun i hi => by cases hi⟩ (fun H5 s5 => .of (s5 _ _ hf3)) ?_ ?_
      · rintro d' u r' x acc H5 H6 e' s5 hD5 hl5 ⟨ns, rfl, hnl', hns⟩ ⟨rfl, hx⟩
        have hxu : x = u := by
          rw [e', getMid] at hx
          exact (Option.some.inj hx).symm
        subst hxu
        obtain ⟨c5, ms5, rfl, hc5, hm5⟩ := (hall x (by rw [e']; simp)).mono (sameT (s3.trans s5))
        refine ⟨rfl, yesT ⟨_, rfl, _, rfl, _, rfl, _, _, rfl, rfl, p, _, c5, ms5, rfl, hc5, hp0, by omega, by omega, fun i hi => by have := hm5 i hi; omega, fun H7 r7 s7 h70 h71 => ?_⟩⟩
        refine Lc.put hD (s5.trans s7) (s7 _ _ hD5) hl5 (by have := congrArg List.length e'; simp at this; omega) ⟨ns ++ [r7], by simp, by simp [hnl'], fun i hi => ?_⟩
        rcases List.mem_append.mp hi with hi | hi
        · exact hns i hi
        · rw [List.mem_singleton.mp hi]
          exact ⟨h70, h71⟩
      · rintro acc H5 s5 hD5 hl5 ⟨ns, rfl, hnl', hns⟩
        refine ⟨D, _, rfl, .inl ⟨.of hD5, fun t ht => ?_⟩⟩
        have st := sameNew (o := .tup (ns.map V.int)) ht
        have hg5 := (s5.trans st) _ _ hg3
        refine ⟨g, _, _, rfl, rfl, hg5, small1000 (by have := hA.len; omega), ?_⟩
        have tk := tkLst (K := K) (o := .lst (ws ++ [.ref t])) hg5
        refine ⟨ws ++ [.ref t], ls ++ [ns], _, _, rfl, sameAt ((s3.trans s5).trans st) hg, upd_same, (hA.imp fun _ _ q => (q.mono (sameT (s5.trans st))).mono tk).app (.one ⟨t, rfl, tk _ _ (.of upd_same)⟩), by simp [hll], fun ns' h' => ?_⟩
        rcases List.mem_append.mp h' with h' | h'
        · exact hls ns' h'
        · rw [List.mem_singleton.mp h']
          exact ⟨by omega, hns⟩
    · rintro σ H3 ⟨ws, ls, v7, v8, rfl, s3, hg3, hA, hll, hls⟩
      rw [List.length_range] at hll
      refine ⟨_, rfl, g, _, rfl, .inl ⟨.of hg3, fun t ht => ?_⟩⟩
      have st := sameNew (o := .tup ws) ht
      exact k _ t ws ls ((s2.trans s3).trans st) (.of upd_same) (hA.imp fun _ _ q => q.mono (sameT st)) hll hls
def sp__law_row_of (K : Frag) : Sp := fun vs H Q _ => ∃ (a : Addr) (ns : List Int), vs = [.ref a] ∧ SqT K H a (ns.map .int) ∧ TellOk ns ∧ ∀ H', Same H H' → Q (.str (rowM ns)) H'
abbrev tx__law_row_of : Stmt := top 75
abbrev NN__law_row_of : List Str := ["_law_some", "_law_one"]
theorem scp__law_row_of : FnScope NN__law_row_of ["_law_some"] (defScope tx__law_row_of) := ⟨rfl, rfl, rfl, by decide +kernel, rfl, by decide +kernel, by decide +kernel⟩
theorem cal__law_row_of (T : Txt K mg) : Cal P w K mg base CX0 1 "_law_row_of" (sp__law_row_of K) := by
  obtain ⟨fd, F⟩ := T.d__law_row_of
  refine ⟨_, fd, ["_law_some"], F.ok scp__law_row_of (fun vs H Q E h => ?_) (fun cdv A outer s H vs Q E hr h => ?_), T.g__law_row_of, F.kp, F.bindsN fun _ _ _ _ _ _ us hl => match us, hl with | [_], _ => rfl⟩
  · obtain ⟨a, ns, rfl, _⟩ := h
    rfl
  obtain ⟨a, ns, rfl, hs, ⟨hl, hb⟩, k⟩ := h
  refine ⟨_, PSs.nox (pss_one (ps_ret (pe_ifExp (pt_cmpR (op_neD (hu64 hr)) (pv 0) (pe_tup pa_nil) (nomark _)) (pe_join pe_str (pe_lc (own := [("_law_one", 1)]) (g := gName 1) (tt := tYes) rfl scp__law_row_of.nd (pi_tup (pv 0)) (blkOk_by (N := NN__law_row_of) (sc := defScope tx__law_row_of) (by decide +kernel)) (fun _ _ _ _ _ => (pg_name (i := 1) scp__law_row_of.nd rfl (.inl rfl))) (fun _ _ _ _ _ => pts_nil) (fun _ _ _ _ _ => (pe_callTy call_str_int (by rfl) T.z_str (by decide +kernel) (pa_cons (pv 1) pa_nil))))) pe_str))), ?_⟩
  refine ⟨_, rfl, le1000 (by simp), fun e he => ?_⟩
  have s0 := sameNew (o := .tup []) he
  refine neT (ns := ns) (ms := []) (sameT s0 _ _ hs) (.of upd_same) ⟨_, rfl, ?_⟩
  by_cases c : ns = []
  · rw [decide_eq_true c]
    refine iteF ?_
    have k' := k _ s0
    unfold rowM at k'
    rw [if_pos c] at k'
    exact k'
  · rw [decide_eq_false c]
    refine iteT ?_
    refine ⟨⟨_, rfl⟩, _, rfl, a, rfl, ⟨_, sameT s0 _ _ hs⟩, fun D hD => ?_⟩
    refine lc_ac (walk_tup (xs := ns.map .int)) ns (by simp) hD (fun d acc _ => acc = d.map fun n => V.str (istr n)) rfl (fun H1 s => sameT s _ _ (sameT s0 _ _ hs)) ?_ ?_
    · rintro d b r x acc H1 H2 e' s hD1 hl1 rfl ⟨rfl, hx⟩
      rw [e'] at hx
      cases mapGet hx
      have hbb := hb b (by rw [e']; simp)
      refine ⟨rfl, yesT ⟨_, rfl, b, rfl, (istr_ok hbb.1 hbb.2).2.1, ?_⟩⟩
      refine Lc.put hD s hD1 hl1 (by rw [e'] at hl; simp at hl; omega) ?_
      rw [List.map_append]
      rfl
    · rintro acc H1 s hD1 hl1 rfl
      refine ⟨_, D, ns.map istr, rfl, rfl, .inl (.of (by rw [List.map_map]; exact hD1)), ?_, ?_⟩
      · have := len_sum ns hb
        have h1 : (lit " ").length = 1 := by decide +kernel
        rw [h1]
        simp at this ⊢
        omega
      · have k' := k _ (s0.trans s)
        unfold rowM at k'
        rw [if_neg c] at k'
        exact k'
end
end NL
/-! L5: the law's own look at mail -/
namespace NL
open PySem PySem.Spec PyProof.Rows L2
/-- a tuple or a list -/
def SqA (K : Frag) (H : Hp) (a : Addr) (us : List V) : Prop := SqT K H a us ∨ SqL K H a us
theorem SqA.same {K : Frag} {H H' : Hp} {a : Addr} {us : List V} (h : SqA K H a us) (s : Same H H') : SqA K H' a us := h.elim (fun q => .inl (sameT s _ _ q)) fun q => .inr (sameL s q)
theorem goes_ix (p : Int) (near : List (Int × Int)) (d : List (Int × Int)) : decide (((d.filter fun q => !decide (betM p near q.1 = q.2)).map fun _ => (1 : Int)) = []) = d.all fun q => decide (betM p near q.1 = q.2) := by
  rw [Bool.eq_iff_iff, decide_eq_true_eq, List.map_eq_nil_iff, List.filter_eq_nil_iff, List.all_eq_true]
  simp
section
variable {P : Program} {w : World} {K : Frag} {mg : Str → Option Value} {base : Heap}
def sp__law_points (K : Frag) : Sp := fun vs H Q _ => ∃ (a : Addr) (pl : Nat) (us : List V) (m : Mail), vs = [.ref a, .int (pl : Nat)] ∧ SqA K H a us ∧ PtsM K H us m ∧ (∀ q ∈ m, pl < q.2.length) ∧ m.length ≤ 900 ∧ RetP K (ptsM pl m) H Q
abbrev tx__law_points : Stmt := top 77
abbrev NN__law_points : List Str := ["_law_pairs", "_law_place", "_law_number", "_law_signs"]
theorem scp__law_points : FnScope NN__law_points ["_law_pairs", "_law_place"] (defScope tx__law_points) := ⟨rfl, rfl, rfl, by decide +kernel, rfl, by decide +kernel, by decide +kernel⟩
theorem cal__law_points (T : Txt K mg) : Cal P w K mg base CX0 1 "_law_points" (sp__law_points K) := by
  obtain ⟨fd, F⟩ := T.d__law_points
  refine ⟨_, fd, ["_law_pairs", "_law_place"], F.ok scp__law_points (fun vs H Q E h => ?_) (fun cdv A outer s H vs Q E hr h => ?_), T.g__law_points, F.kp, F.bindsN fun _ _ _ _ _ _ us hl => match us, hl with | [_, _], _ => rfl⟩
  · obtain ⟨a, pl, us, m, rfl, _⟩ := h
    rfl
  obtain ⟨a, pl, us, m, rfl, hT, hP, hpl, hl, k⟩ := h
  refine ⟨_, PSs.nox (pss_one (ps_ret (pe_lc (own := [("_law_number", 2), ("_law_signs", 3)]) (g := gTup K 2 (gCons (gName 2) (gCons (gName 3) gNil))) (tt := tYes) rfl scp__law_points.nd (pi_or (pi_tup (pv 0)) (pi_list (pv 0))) (blkOk_by (N := NN__law_points) (sc := defScope tx__law_points) (by decide +kernel)) (fun _ _ _ _ _ => (pg_tup rfl (pgs_cons (pg_name (i := 2) scp__law_points.nd rfl (.inl rfl)) (pgs_cons (pg_name (i := 3) scp__law_points.nd rfl (.inl rfl)) pgs_nil)))) (fun _ _ _ _ _ => pts_nil) (fun _ _ _ _ _ => (pe_tup (pa_cons (pe_op op_add (pv 2) pe_int) (pa_cons (pe_ix (r := rIxT K) ix_tup (pv 3) (pv 1) (fun _ _ => rfl)) pa_nil))))))), ?_⟩
  have hul : us.length = m.length := hP.len
  rcases hT with hT | hT
  · refine .inl ⟨_, rfl, a, rfl, ⟨_, hT⟩, fun D hD => ?_⟩
    refine lc_ac (walk_tup (xs := us)) m hul.symm hD (fun d acc H' => PtsI K H' acc (ptsM pl d)) .nil (fun H1 s => sameT s _ _ hT) ?_ ?_
    · rintro d q r x acc H1 H2 e s hD1 hl1 hA ⟨rfl, hx⟩
      obtain ⟨b, c, rfl, hq, hc⟩ := (PtsM.mono (sameT s) hP).get hx (by rw [e]; exact getMid d q r)
      have hqm : q ∈ m := by rw [e]; simp
      refine ⟨b, _, rfl, hq, rfl, _, _, rfl, _, _, rfl, rfl, rfl, yesT ?_⟩
      refine ⟨_, rfl, _, _, rfl, rfl, _, rfl, _, rfl, c, _, _, _, rfl, rfl, hc, at_letter (hpl q hqm), le1000 (by simp), fun t ht => ?_⟩
      have hDt : D ≠ t := ne_of_none hD1 ht
      have hD2 : (upd H2 t (.tup [.int (q.1 + 1), .int (q.2.getD pl 0)])) D = some (.lst acc) := by rw [upd_ne hDt]; exact hD1
      refine Lc.put hD (sameAt s (s.free ht)) hD2 hl1 (by rw [e] at hl; simp at hl; omega) ?_
      have tk := (sameT (K := K) (sameNew (o := .tup [.int (q.1 + 1), .int (q.2.getD pl 0)]) ht)).trans (tkLst (o := .lst (acc ++ [.ref t])) hD2)
      unfold ptsM
      rw [List.map_append]
      exact (PtsI.mono tk hA).app (.one ⟨t, rfl, tkLst hD2 _ _ (.of upd_same)⟩)
    · rintro acc H1 s hD1 hl1 hA
      exact k H1 D acc s hD hD1 hA
  · refine .inr ⟨_, rfl, a, rfl, ⟨_, hT⟩, fun D hD => ?_⟩
    refine lc_ac (walk_list (xs := us)) m hul.symm hD (fun d acc H' => PtsI K H' acc (ptsM pl d)) .nil (fun H1 s => sameL s hT) ?_ ?_
    · rintro d q r x acc H1 H2 e s hD1 hl1 hA ⟨rfl, hx⟩
      obtain ⟨b, c, rfl, hq, hc⟩ := (PtsM.mono (sameT s) hP).get hx (by rw [e]; exact getMid d q r)
      have hqm : q ∈ m := by rw [e]; simp
      refine ⟨b, _, rfl, hq, rfl, _, _, rfl, _, _, rfl, rfl, rfl, yesT ?_⟩
      refine ⟨_, rfl, _, _, rfl, rfl, _, rfl, _, rfl, c, _, _, _, rfl, rfl, hc, at_letter (hpl q hqm), le1000 (by simp), fun t ht => ?_⟩
      have hDt : D ≠ t := ne_of_none hD1 ht
      have hD2 : (upd H2 t (.tup [.int (q.1 + 1), .int (q.2.getD pl 0)])) D = some (.lst acc) := by rw [upd_ne hDt]; exact hD1
      refine Lc.put hD (sameAt s (s.free ht)) hD2 hl1 (by rw [e] at hl; simp at hl; omega) ?_
      have tk := (sameT (K := K) (sameNew (o := .tup [.int (q.1 + 1), .int (q.2.getD pl 0)]) ht)).trans (tkLst (o := .lst (acc ++ [.ref t])) hD2)
      unfold ptsM
      rw [List.map_append]
      exact (PtsI.mono tk hA).app (.one ⟨t, rfl, tkLst hD2 _ _ (.of upd_same)⟩)
    · rintro acc H1 s hD1 hl1 hA
      exact k H1 D acc s hD hD1 hA
def sp__law_goes (K : Frag) : Sp := fun vs H Q _ => ∃ (p : Int) (b : Addr) (nd : Int) (us : List V) (ps : List (Int × Int)), vs = [.int p, .ref b, .int nd] ∧ SqL K H b us ∧ PtsI K H us ps ∧ Prm p ∧ PtsB ps ∧ 0 ≤ nd ∧ nd ≤ 8 ∧ ∀ H', Same H H' → Q (.bl (goesM p ps nd)) H'
abbrev tx__law_goes : Stmt := top 78
abbrev NN__law_goes : List Str := ["_law_prime_so", "_law_points_here", "_law_need", "_law_near", "_law_at", "_law_sign"]
theorem scp__law_goes : FnScope NN__law_goes ["_law_prime_so", "_law_points_here", "_law_need"] (defScope tx__law_goes) := ⟨rfl, rfl, rfl, by decide +kernel, rfl, by decide +kernel, by decide +kernel⟩
theorem cal__law_goes (T : Txt K mg) : Cal P w K mg base CX0 3 "_law_goes" (sp__law_goes K) := by
  obtain ⟨fd, F⟩ := T.d__law_goes
  refine ⟨_, fd, ["_law_prime_so", "_law_points_here", "_law_need"], F.ok scp__law_goes (fun vs H Q E h => ?_) (fun cdv A outer s H vs Q E hr h => ?_), T.g__law_goes, F.kp, F.bindsN fun _ _ _ _ _ _ us hl => match us, hl with | [_, _, _], _ => rfl⟩
  · obtain ⟨p, b, nd, us, ps, rfl, _⟩ := h
    rfl
  obtain ⟨p, b, nd, us, ps, rfl, hT, hP, hp, hb, hn0, hn8, k⟩ := h
  refine ⟨_, PSs.nox (pss_cons (ps_set (i := 3) scp__law_goes.nd rfl (.inr rfl) (pe_slice sl_list (pv 1) po_none (po_some (pv 2))))
      (pss_one (ps_ret (pe_cmpR (op_eqD (hu64 hr)) (pe_lc (own := [("_law_at", 4), ("_law_sign", 5)]) (g := gTup K 2 (gCons (gName 4) (gCons (gName 5) gNil))) rfl scp__law_goes.nd (pi_list (pe_slice sl_list (pv 1) (po_some (pv 2)) po_none)) (blkOk_by (N := NN__law_goes) (sc := defScope tx__law_goes) (by decide +kernel)) (fun _ _ _ _ _ => (pg_tup rfl (pgs_cons (pg_name (i := 4) scp__law_goes.nd rfl (.inl rfl)) (pgs_cons (pg_name (i := 5) scp__law_goes.nd rfl (.inl rfl)) pgs_nil)))) (fun _ _ _ _ _ => (pts_one (pt_cmpR op_ne (pe_cal (cal__law_between T) hr (by decide) pass0 (pa_cons (pv 0) (pa_cons (pv 3) (pa_cons (pv 4) pa_nil)))) (pv 5) (nomark _)))) (fun _ _ _ _ _ => pe_int)) (pe_lst pa_nil) (nomark _))))), ?_⟩
  have hpb := hp.bd
  refine ⟨_, rfl, _, rfl, nd, rfl, b, _, rfl, hT, fun l1 h1 => ?_⟩
  rw [cutTo _ hn0]
  have s1 := sameNew (o := .lst (us.take nd.toNat)) h1
  refine ⟨_, rfl, _, rfl, nd, rfl, b, _, rfl, sameL s1 hT, fun l2 h2 => ?_⟩
  rw [cutFrom _ hn0]
  have s2 := s1.trans (sameNew (o := .lst (us.drop nd.toNat)) h2)
  refine ⟨l2, rfl, ⟨_, .of upd_same⟩, fun D hD => ?_⟩
  have hl1 : SqL K _ l1 (us.take nd.toNat) := sameL (sameNew (o := .lst (us.drop nd.toNat)) h2) (.of upd_same)
  have hW : PtsI K _ (us.take nd.toNat) (ps.take nd.toNat) := (PtsI.mono (sameT s2) hP).take _
  have hW2 : PtsI K _ (us.drop nd.toNat) (ps.drop nd.toNat) := (PtsI.mono (sameT s2) hP).drop _
  have hdl : (ps.drop nd.toNat).length ≤ 100 := by
    rw [List.length_drop]
    have := hb.1
    omega
  refine lc_ac (walk_list (xs := us.drop nd.toNat)) (ps.drop nd.toNat) hW2.len.symm hD (fun d acc _ => acc = ((d.filter fun q => !decide (betM p (ps.take nd.toNat) q.1 = q.2)).map fun _ => (1 : Int)).map V.int) rfl (fun H5 s5 => sameL s5 (.of upd_same)) ?_ ?_
  · rintro d z r x acc H5 H6 e s5 hD5 hl5 rfl ⟨rfl, hx⟩
    obtain ⟨b', rfl, hz⟩ := (PtsI.mono (sameT s5) hW2).get hx (by rw [e]; exact getMid d z r)
    have hzm : z ∈ ps := List.mem_of_mem_drop (by rw [e]; simp)
    have hzb := hb.2 z hzm
    refine ⟨b', _, rfl, hz, rfl, _, _, rfl, _, _, rfl, rfl, rfl, ?_⟩
    refine ⟨_, rfl, _, rfl, _, rfl, p, z.1, l1, _, _, rfl, sameL s5 hl1, PtsI.mono (sameT s5) hW, by omega, (hb.take _).ok hp, by omega, by omega, fun H7 s7 => ?_⟩
    refine ⟨_, rfl, rfl, _, rfl, ?_⟩
    have hdl' : d.length < 1000 := by rw [e] at hdl; simp at hdl; omega
    by_cases c : betM p (ps.take nd.toNat) z.1 = z.2
    · refine iteFb (by rw [decide_eq_true (congrArg V.int c)]; rfl) (Lc.skip (s5.trans s7) (s7 _ _ hD5) hl5 ?_)
      rw [List.filter_append, List.filter_cons_of_neg (by simp [c])]
      simp
    · refine iteTb (by rw [decide_eq_false fun z' => c (V.int.inj z')]; rfl) (Lc.put hD (s5.trans s7) (s7 _ _ hD5) hl5 hdl' ?_)
      rw [List.filter_append, List.filter_cons_of_pos (by simp [c])]
      simp
  · rintro acc H5 s5 hD5 hl5 rfl
    refine ⟨le1000 (by simp), fun e1 he1 => ?_⟩
    have s6 := sameNew (o := .lst []) he1
    refine eqL (ms := []) (.of (s6 _ _ hD5)) (.of upd_same) ?_
    have k' := k _ ((s2.trans s5).trans s6)
    unfold goesM at k'
    rw [goes_ix]
    exact k'
theorem MailAt.same {H H' : Hp} (s : Same H H') {p : Int} {a : Addr} {sh : List Int} {us : List V} {m : Mail} (h : MailAt K H p a sh us m) : MailAt K H' p a sh us m := h.mono (sameT s)
def sp__law_unfit (K : Frag) : Sp := fun vs H Q _ => ∃ (p : Int) (a : Addr) (sh : List Int) (b : Addr) (us : List V) (m : Mail), vs = [.int p, .ref a, .ref b] ∧ SqA K H b us ∧ MailAt K H p a sh us m ∧
  ∀ ns : List Int, (ns = [] ↔ okM p sh m = true) → RetL ns H Q
abbrev tx__law_unfit : Stmt := top 79
abbrev NN__law_unfit : List Str := ["_law_prime_so", "_law_shares_here", "_law_pairs", "_law_found", "_law_place", "_law_need"]
theorem scp__law_unfit : FnScope NN__law_unfit ["_law_prime_so", "_law_shares_here", "_law_pairs"] (defScope tx__law_unfit) := ⟨rfl, rfl, rfl, by decide +kernel, rfl, by decide +kernel, by decide +kernel⟩
theorem cal__law_unfit (T : Txt K mg) : Cal P w K mg base CX0 4 "_law_unfit" (sp__law_unfit K) := by
  obtain ⟨fd, F⟩ := T.d__law_unfit
  refine ⟨_, fd, ["_law_prime_so", "_law_shares_here", "_law_pairs"], F.ok scp__law_unfit (fun vs H Q E h => ?_) (fun cdv A outer s H vs Q E hr h => ?_), T.g__law_unfit, F.kp, F.bindsN fun _ _ _ _ _ _ us hl => match us, hl with | [_, _, _], _ => rfl⟩
  · obtain ⟨p, a, sh, b, us, m, rfl, _⟩ := h
    rfl
  obtain ⟨p, a, sh, b, us, m, rfl, hT, hM, k⟩ := h
  refine ⟨_, PSs.nox (pss_cons (ps_set (i := 3) scp__law_unfit.nd rfl (.inl rfl) pe_dnewK)
      (pss_cons (ps_for PassesOwn.never rfl (pi_enum (by rfl) T.z_enumerate (pa_cons (pe_cal (cal__law_needs T) hr (by decide) pass0 (pa_cons (pv 1) pa_nil)) pa_nil)) (pg_tup rfl (pgs_cons (pg_name (i := 4) scp__law_unfit.nd rfl (.inl rfl)) (pgs_cons (pg_name (i := 5) scp__law_unfit.nd rfl (.inl rfl)) pgs_nil)))
      (pss_one (ps_if (pt_not (pt_val (pe_cal (cal__law_goes T) hr (by decide) pass0 (pa_cons (pv 0) (pa_cons (pe_cal (cal__law_points T) hr (by decide) pass0 (pa_cons (pv 2) (pa_cons (pv 4) pa_nil))) (pa_cons (pv 5) pa_nil)))))) (pss_one (ps_dput (hu_of hr) (pv 3) (pv 5) pe_bl rfl)) pss_nil)))
      (pss_one (ps_ret (pe_callB (call_sortedDI rfl) (by rfl) T.z_sorted (by decide +kernel) (pa_cons (pv 3) pa_nil)))))), ?_⟩
  obtain ⟨hn1, hn2⟩ := hM.nlen
  have h8 := hM.hs.len.2
  have hpb := hM.hp.bd
  refine fun f hf => ?_
  have hM1 := hM.mono (sameT (sameNew (o := .dK []) hf))
  refine ⟨_, rfl, a, sh, rfl, hM1.sq, h8, hM.hs.bd, fun H1 nl s1 hnl0 hnl => ?_⟩
  have hM2 := hM1.mono (sameT s1)
  have s01 := (sameNew (o := .dK []) hf).trans s1
  refine ⟨nl, _, rfl, .of hnl, ?_⟩
  refine for_suf (walk_enum (xs := (needM sh).map .int)) (needM sh) (by simp) (fun d _ σ H' => ∃ v4 v5 kvs ks, σ = [some (.int p), some (.ref a), some (.ref b), some (.ref f), v4, v5] ∧ Same H H' ∧ H' nl = some (.lst ((needM sh).map .int)) ∧ H' f = some (.dK kvs) ∧ kvs.map (·.1) = (ks : List Int).map Sum.inl ∧ ks.length ≤ d.length ∧ (ks = [] ↔ allIx (fun pl nd => goesM p (ptsM pl m) nd) 0 d = true)) ?_ ?_ ?_ ?_
  · exact ⟨_, _, [], [], rfl, s01, hnl, s1 _ _ upd_same, rfl, Nat.le_refl _, ⟨fun _ => rfl, fun _ => rfl⟩⟩
  · rintro d r σ H2 ⟨v4, v5, kvs, ks, rfl, s2, hnl2, _⟩
    exact .of hnl2
  · rintro d n r x σ H2 H3 e ⟨v4, v5, kvs, ks, rfl, s2, hnl2, hf2, hk, hkl, hko⟩ ⟨T, x1, y1, rfl, hT2, rfl, e1, e2⟩
    cases e1
    rw [e] at e2
    cases mapGet e2
    have hnb := needM_bd sh n (by rw [e]; simp)
    have hdl : d.length < (needM sh).length := by rw [e]; simp
    have s3 := s2.trans (sameNew (o := .tup [.int (d.length : Int), .int n]) hT2)
    have hM3 := hM.mono (sameT s3)
    refine ⟨T, _, rfl, .of upd_same, rfl, _, _, rfl, _, _, rfl, rfl, ?_⟩
    refine ⟨_, rfl, _, rfl, _, rfl, b, d.length, us, m, rfl, hT.same s3, hM3.pt, fun q hq => ?_, by have := hM.len; omega, fun H4 pp ws s4 hpp0 hpp hW => ?_⟩
    · have := hM.ok.len q hq
      omega
    refine ⟨_, rfl, p, pp, n, ws, ptsM d.length m, rfl, .of hpp, hW, hM.hp, ptsM_b hM.hs hM.ok _ hM.len, by omega, by omega, fun H5 s5 => ?_⟩
    refine ⟨_, rfl, ?_⟩
    have s45 := s4.trans s5
    have hf4 : H5 f = some (.dK kvs) := s45 _ _ (sameNew (o := .tup [.int (d.length : Int), .int n]) hT2 _ _ hf2)
    have hnl4 : H5 nl = some (.lst ((needM sh).map .int)) := s45 _ _ (sameNew (o := .tup [.int (d.length : Int), .int n]) hT2 _ _ hnl2)
    cases c : goesM p (ptsM d.length m) n
    · refine iteT ?_
      obtain ⟨ks', k1, k2, k3⟩ := putK_ints hk n (.bl true)
      have hkl' : kvs.length = ks.length := by
        have := congrArg List.length hk
        simpa using this
      refine ⟨_, rfl, _, rfl, f, _, rfl, DPut.k (k := Sum.inl n) hf4 (small1000 (by omega)), ?_⟩
      have hfnl : nl ≠ f := ne_of hnl4 hf4 (by intro z; cases z)
      refine ⟨some (.int d.length), some (.int n), _, ks', rfl, sameAt (s3.trans s45) hf, by rw [upd_ne hfnl]; exact hnl4, upd_same, k1, by simp; omega, ?_⟩
      rw [allIx_snoc]
      simp [c, k3]
    · refine iteF ?_
      refine ⟨some (.int d.length), some (.int n), kvs, ks, rfl, s3.trans s45, hnl4, hf4, hk, by simp; omega, ?_⟩
      rw [allIx_snoc]
      simp [c, hko]
  · rintro σ H2 ⟨v4, v5, kvs, ks, rfl, s2, hnl2, hf2, hk, hkl, hko⟩
    refine ⟨_, rfl, f, kvs, ks, rfl, .inl hf2, hk, by omega, fun ys q hperm _ hq => ?_⟩
    have hko : ks = [] ↔ okL p sh m = true := hko
    rw [ok_law (by omega) hM.ok] at hko
    refine k ys ?_ _ q (s2.trans (sameNew hq)) (s2.free hq) upd_same
    constructor
    · rintro rfl
      exact hko.mp (List.nil_perm.mp hperm)
    · intro z
      have := hko.mpr z
      subst this
      exact List.perm_nil.mp hperm
end
end NL
/-! L6: the law's own readings -/
namespace NL
open PySem PySem.Spec PyProof.Rows L2
theorem lw_len (one : Int) : ∀ (d : List (Int × Int)) (s : List Int × Int), (d.foldl (lwStep one) s).1.length ≤ s.1.length + d.length
  | [], s => Nat.le_refl _
  | q :: d, s => by
    rw [List.foldl_cons]
    refine Nat.le_trans (lw_len one d _) ?_
    unfold lwStep
    split
    · simp
    · simp [trL]
      omega
theorem lw_inv {p : Int} (hp : 1 < p) {ps : List (Int × Int)} (ok : PtsOk p ps) {q : Int × Int} (hq : q ∈ ps) : Inv1 p ((lwBlk ps q.1).2 % p) := by
  rw [← (blk_is hp ps q.1).2]
  exact ok.inv q hq
theorem repl_map {α : Type} (ps : List α) : (ps.map fun _ => (0 : Int)) = List.replicate ps.length 0 := by
  induction ps with
  | nil => rfl
  | cons a ps ih => rw [List.map_cons, ih]; rfl
section
variable {P : Program} {w : World} {K : Frag} {mg : Str → Option Value} {base : Heap}
def sp__law_block (K : Frag) : Sp := fun vs H Q _ => ∃ (p : Int) (a : Addr) (us : List V) (ps : List (Int × Int)), vs = [.int p, .ref a] ∧ SqL K H a us ∧ PtsI K H us ps ∧ 1 < p ∧ PtsOk p ps ∧ (∀ q ∈ ps, -1000 < q.2 ∧ q.2 < 1000) ∧ RetT K (thrM p ps) H Q
abbrev tx__law_block : Stmt := top 76
abbrev NN__law_block : List Str := ["_law_prime_so", "_law_points_here", "_law_got", "_law_one", "_law_height", "_law_row", "_law_bottom", "_law_far", "_law_rest", "_law_factor", "_law_point", "_law_up", "_law_here", "_law_part"]
theorem scp__law_block : FnScope NN__law_block ["_law_prime_so", "_law_points_here"] (defScope tx__law_block) := ⟨rfl, rfl, rfl, by decide +kernel, rfl, by decide +kernel, by decide +kernel⟩
theorem cal__law_block (T : Txt K mg) : Cal P w K mg base CX0 2 "_law_block" (sp__law_block K) := by
  obtain ⟨fd, F⟩ := T.d__law_block
  refine ⟨_, fd, ["_law_prime_so", "_law_points_here"], F.ok scp__law_block (fun vs H Q E h => ?_) (fun cdv A outer s H vs Q E hr h => ?_), T.g__law_block, F.kp, F.bindsN fun _ _ _ _ _ _ us hl => match us, hl with | [_, _], _ => rfl⟩
  · obtain ⟨p, a, us, ps, rfl, _⟩ := h
    rfl
  obtain ⟨p, a, us, ps, rfl, hT, hP, hp1, ok, hv, k⟩ := h
  refine ⟨_, PSs.nox (pss_cons (ps_setLc (own := [("_law_point", 10)]) (g := gName 10) (tt := tYes) (i := 2) rfl scp__law_block.nd rfl rfl (sw_true rfl rfl rfl (by decide +kernel)) (pi_list (pv 1)) (blkOk_by (N := NN__law_block) (sc := defScope tx__law_block) (by decide +kernel)) (fun _ _ _ _ _ => (pg_name (i := 10) scp__law_block.nd rfl (.inl rfl))) (fun _ _ _ _ _ => pts_nil) (fun _ _ _ _ _ => pe_int))
      (pss_cons (ps_for PassesOwn.never rfl (pi_list (pv 1)) (pg_tup rfl (pgs_cons (pg_name (i := 3) scp__law_block.nd rfl (.inl rfl)) (pgs_cons (pg_name (i := 4) scp__law_block.nd rfl (.inl rfl)) pgs_nil)))
      (pss_cons (ps_par (i := 5) (j := 6) (by rfl) scp__law_block.nd rfl rfl (by decide) rfl rfl (pa_cons (pe_lst (pa_cons pe_int pa_nil)) (pa_cons pe_int pa_nil)) (by rfl))
      (pss_cons (ps_for PassesOwn.never rfl (pi_list (pv 1)) (pg_tup rfl (pgs_cons (pg_name (i := 7) scp__law_block.nd rfl (.inr rfl)) (pgs_cons (pg_name (i := 8) scp__law_block.nd rfl (.inl rfl)) pgs_nil)))
      (pss_one (ps_if (pt_cmpR op_ne (pv 7) (pv 3) (nomark _)) (pss_cons (ps_setLc (own := [("_law_up", 11), ("_law_here", 12)]) (g := gTup K 2 (gCons (gName 11) (gCons (gName 12) gNil))) (tt := tYes) (i := 5) rfl scp__law_block.nd rfl rfl (sw_true rfl rfl rfl (by decide +kernel)) (pi_zip (by rfl) T.z_zip (pa_cons (pe_op op_cat (pe_lst (pa_cons pe_int pa_nil)) (pv 5)) (pa_cons (pe_op op_cat (pv 5) (pe_lst (pa_cons pe_int pa_nil))) pa_nil))) (blkOk_by (N := NN__law_block) (sc := defScope tx__law_block) (by decide +kernel)) (fun _ _ _ _ _ => (pg_tup rfl (pgs_cons (pg_name (i := 11) scp__law_block.nd rfl (.inl rfl)) (pgs_cons (pg_name (i := 12) scp__law_block.nd rfl (.inl rfl)) pgs_nil)))) (fun _ _ _ _ _ => pts_nil) (fun _ _ _ _ _ => (pe_op op_sub (pv 11) (pe_op op_mul (pv 7) (pv 12)))))
      (pss_one (ps_set (i := 6) scp__law_block.nd rfl (.inl rfl) (pe_op op_mul (pv 6) (pe_op op_sub (pv 3) (pv 7)))))) pss_nil)))
      (pss_cons (ps_set (i := 9) scp__law_block.nd rfl (.inr rfl) (pe_op op_mul (pv 4) (pe_cal (cal__law_back T) hr (by decide) pass0 (pa_cons (pv 0) (pa_cons (pe_op op_mod (pe_callTy call_int1 (by rfl) T.z_int (by decide +kernel) (pa_cons (pv 6) pa_nil)) (pv 0)) pa_nil)))))
      (pss_one (ps_setLc (own := [("_law_here", 12), ("_law_part", 13)]) (g := gTup K 2 (gCons (gName 12) (gCons (gName 13) gNil))) (tt := tYes) (i := 2) rfl scp__law_block.nd rfl rfl (sw_true rfl rfl rfl (by decide +kernel)) (pi_zip (by rfl) T.z_zip (pa_cons (pv 2) (pa_cons (pv 5) pa_nil))) (blkOk_by (N := NN__law_block) (sc := defScope tx__law_block) (by decide +kernel)) (fun _ _ _ _ _ => (pg_tup rfl (pgs_cons (pg_name (i := 12) scp__law_block.nd rfl (.inl rfl)) (pgs_cons (pg_name (i := 13) scp__law_block.nd rfl (.inl rfl)) pgs_nil)))) (fun _ _ _ _ _ => pts_nil) (fun _ _ _ _ _ => (pe_op op_mod (pe_callTy call_int1 (by rfl) T.z_int (by decide +kernel) (pa_cons (pe_op op_add (pv 12) (pe_op op_mul (pv 9) (pv 13))) pa_nil)) (pv 0)))))))))
      (pss_one (ps_ret (pe_callTy call_tuple_of (by rfl) T.z_tuple (by decide +kernel) (pa_cons (pv 2) pa_nil)))))), ?_⟩
  have ok' := ok
  obtain ⟨hp, hl, hb, hi⟩ := ok
  have hul : us.length = ps.length := hP.len
  rw [thr_law hp1] at k
  refine ⟨_, rfl, a, rfl, ⟨us, hT⟩, fun D0 hD0 => ?_⟩
  refine lc_ac (walk_list (xs := us)) ps hul.symm hD0 (fun d acc _ => acc = (d.map fun _ => (0 : Int)).map V.int) rfl (fun H1 s => sameL s hT) ?_ ?_
  · rintro d q r x acc H1 H2 e s hD1 hl1 rfl ⟨rfl, hx⟩
    refine ⟨rfl, yesT (Lc.put hD0 s hD1 hl1 (by rw [e] at hl; simp at hl; omega) ?_)⟩
    simp
  rintro acc H0 s0 hf0 hl0 rfl
  rw [repl_map] at hf0
  refine ⟨_, rfl, a, rfl, ⟨us, sameL s0 hT⟩, ?_⟩
  refine for_suf (walk_list (xs := us)) ps hul.symm (fun d _ σ H' => ∃ f v3 v4 v5 v6 v7 v8 v9 v10 v11 v12 v13, σ = [some (.int p), some (.ref a), some (.ref f), v3, v4, v5, v6, v7, v8, v9, v10, v11, v12, v13] ∧ Same H H' ∧ H' f = some (.lst ((d.foldl (lwOut p ps) (List.replicate ps.length 0)).map .int))) ?_ ?_ ?_ ?_
  · exact ⟨D0, _, _, _, _, _, _, _, _, _, _, _, rfl, s0, hf0⟩
  · rintro d r σ H1 ⟨f, v3, v4, v5, v6, v7, v8, v9, v10, v11, v12, v13, rfl, s1, _⟩
    exact sameL s1 hT
  · rintro d q r x σ H1 H2 e ⟨f, v3, v4, v5, v6, v7, v8, v9, v10, v11, v12, v13, rfl, s1, hf1⟩ ⟨rfl, hx⟩
    obtain ⟨b, rfl, hq⟩ := (PtsI.mono (sameT s1) hP).get hx (by rw [e]; exact getMid d q r)
    have hqm : q ∈ ps := by rw [e]; simp
    obtain ⟨one, value⟩ := q
    obtain ⟨hv1, hv2⟩ : -1000 < value ∧ value < 1000 := hv _ hqm
    refine ⟨b, _, rfl, hq, rfl, _, _, rfl, _, _, rfl, rfl, ?_⟩
    refine ⟨le1000 (by simp), fun l1 h1 => ?_⟩
    refine ⟨_, _, rfl, ?_⟩
    have s2 : Same H2 (upd H2 l1 (.lst [.int 1])) := sameNew h1
    refine ⟨_, rfl, a, rfl, ⟨us, sameL s2 (sameL s1 hT)⟩, ?_⟩
    refine for_suf (walk_list (xs := us)) ps hul.symm (fun d' _ σ H' => ∃ bb v7 v8 v9 v10 v11 v12 v13, σ = [some (.int p), some (.ref a), some (.ref f), some (.int one), some (.int value), some (.ref bb), some (.int (d'.foldl (lwStep one) ([1], 1)).2), v7, v8, v9, v10, v11, v12, v13] ∧ Same H2 H' ∧ H' bb = some (.lst ((d'.foldl (lwStep one) ([1], 1)).1.map .int))) ?_ ?_ ?_ ?_
    · exact ⟨l1, _, _, _, _, _, _, _, rfl, s2, upd_same⟩
    · rintro d' r' σ H3 ⟨bb, v7, v8, v9, v10, v11, v12, v13, rfl, s3, _⟩
      exact sameL s3 (sameL s1 hT)
    · rintro d' q' r' x σ H3 H4 e' ⟨bb, v7, v8, v9, v10, v11, v12, v13, rfl, s3, hbb⟩ ⟨rfl, hx⟩
      obtain ⟨b', rfl, hq'⟩ := (PtsI.mono (sameT s3) (PtsI.mono (sameT s1) hP)).get hx (by rw [e']; exact getMid d' q' r')
      have hqm' : q' ∈ ps := by rw [e']; simp
      obtain ⟨other, rest⟩ := q'
      obtain ⟨g1, g2⟩ : -100 ≤ one ∧ one ≤ 100 := hb _ hqm
      obtain ⟨g3, g4⟩ : -100 ≤ other ∧ other ≤ 100 := hb _ hqm'
      have hdl : d'.length ≤ 100 := by rw [e'] at hl; simp at hl; omega
      have hbl := lw_len one d' ([1], 1)
      simp only [List.length_cons, List.length_nil] at hbl
      refine ⟨b', _, rfl, hq', rfl, _, _, rfl, _, _, rfl, rfl, ?_⟩
      refine ⟨_, rfl, _, rfl, rfl, _, rfl, ?_⟩
      by_cases c : other = one
      · subst c
        refine iteNS rfl ?_
        have st : (d' ++ [(other, rest)]).foldl (lwStep other) ([1], 1) = d'.foldl (lwStep other) ([1], 1) := by
          rw [List.foldl_append]
          simp [lwStep]
        exact ⟨bb, some (.int other), some (.int rest), _, _, _, _, _, by rw [st]; rfl, s3, by rw [st]; exact hbb⟩
      · have c' : ¬ (V.int other = V.int one) := fun z => c (V.int.inj z)
        rw [decide_eq_false c']
        refine iteT ?_
        generalize hrow : (d'.foldl (lwStep one) ([1], 1)).1 = row at *
        generalize hbot : (d'.foldl (lwStep one) ([1], 1)).2 = bot at *
        have st : (d' ++ [(other, rest)]).foldl (lwStep one) ([1], 1) = (trL other row, bot * (one - other)) := by
          rw [List.foldl_append, ← hrow, ← hbot]
          exact if_neg c
        refine ⟨le1000 (by simp), fun m1 hm1 => ?_⟩
        have t1 := sameNew (o := .lst [V.int 0]) hm1
        refine ⟨_, rfl, m1, bb, _, _, rfl, rfl, upd_same, t1 _ _ hbb, le1000 (by simp; omega), fun m2 hm2 => ?_⟩
        have t2 := sameNew (o := .lst ([V.int 0] ++ row.map V.int)) hm2
        refine ⟨_, rfl, le1000 (by simp), fun m3 hm3 => ?_⟩
        have t3 := sameNew (o := .lst [V.int 0]) hm3
        refine ⟨bb, m3, _, _, rfl, rfl, t3 _ _ (t2 _ _ (t1 _ _ hbb)), upd_same, le1000 (by simp; omega), fun m4 hm4 => ?_⟩
        have t4 := sameNew (o := .lst (row.map V.int ++ [V.int 0])) hm4
        have hz1 : upd (upd (upd (upd H4 m1 (.lst [V.int 0])) m2 (.lst ([V.int 0] ++ row.map V.int))) m3 (.lst [V.int 0])) m4 (.lst (row.map V.int ++ [V.int 0])) m2 = some (.lst ((0 :: row).map V.int)) := t4 _ _ (t3 _ _ upd_same)
        have hz2 : upd (upd (upd (upd H4 m1 (.lst [V.int 0])) m2 (.lst ([V.int 0] ++ row.map V.int))) m3 (.lst [V.int 0])) m4 (.lst (row.map V.int ++ [V.int 0])) m4 = some (.lst ((row ++ [0]).map V.int)) := by rw [upd_same, List.map_append]; rfl
        have t14 := ((t1.trans t2).trans t3).trans t4
        refine ⟨m2, m4, _, _, rfl, .of hz1, .of hz2, fun D hD => ?_⟩
        refine lc_ac (walk_zip rfl) (List.zip (0 :: row) (row ++ [0])) (by simp) hD
          (fun d acc _ => acc = d.map fun q => V.int (q.1 - other * q.2)) rfl (fun H5 s5 => ⟨.of (s5 _ _ hz1), .of (s5 _ _ hz2)⟩) ?_ ?_
        · rintro d5 q5 r5 x acc H5 H6 e5 s5 hD5 hl5 rfl ⟨T, x1, y1, rfl, hT5, rfl, e1, e2⟩
          have hz := getMid d5 q5 r5
          rw [← e5, List.getElem?_zip_eq_some] at hz
          obtain ⟨z1, z2⟩ := hz
          obtain rfl := mapAt z1 e1
          obtain rfl := mapAt z2 e2
          refine ⟨T, _, rfl, .of upd_same, rfl, _, _, rfl, _, _, rfl, rfl, rfl, yesT ?_⟩
          refine ⟨_, rfl, _, rfl, _, rfl, _, _, rfl, rfl, .inl ⟨by omega, by omega⟩, _, _, rfl, rfl, ?_⟩
          have h900 : d5.length < 1000 := by
            have e6 := congrArg List.length e5
            simp at e6
            omega
          have hTD : D ≠ T := ne_of_none hD5 hT5
          refine Lc.put hD (sameAt s5 (s5.free hT5)) ?_ hl5 h900 ?_
          · rw [upd_ne hTD]
            exact hD5
          · simp
        · rintro acc H5 s5 hD5 hl5 rfl
          refine ⟨_, rfl, _, rfl, _, rfl, _, _, rfl, rfl, _, _, rfl, rfl, .inr ⟨by omega, by omega⟩, ?_⟩
          refine ⟨D, _, _, _, _, _, _, _, by rw [st]; rfl, s3.trans (t14.trans s5), ?_⟩
          rw [hD5, st]
          unfold trL
          rw [zipW, List.map_map]
          rfl
    · rintro σ H3 ⟨bb, v7, v8, v9, v10, v11, v12, v13, rfl, s3, hbb⟩
      have hbk : ps.foldl (lwStep one) ([1], 1) = lwBlk ps one := rfl
      rw [hbk] at hbb ⊢
      have hin : Inv1 p ((lwBlk ps one).2 % p) := lw_inv hp1 ok' hqm
      have hbd := inv_bd hin
      refine ⟨_, rfl, _, rfl, _, rfl, .inl ⟨_, rfl, _, rfl, _, _, rfl, rfl, hp.1, p, _, rfl, hp.2, hin, fun H4 s4 => ?_⟩⟩
      refine ⟨_, _, rfl, rfl, .inr ⟨by omega, by omega⟩, ?_⟩
      have hm : -(1000 * 100) ≤ value * invM p ((lwBlk ps one).2 % p) ∧ value * invM p ((lwBlk ps one).2 % p) ≤ 1000 * 100 := by
        have i1 : 0 ≤ invM p ((lwBlk ps one).2 % p) := by omega
        have i2 : invM p ((lwBlk ps one).2 % p) ≤ 100 := by omega
        constructor
        · have := Int.mul_le_mul_of_nonneg_right (show -1000 ≤ value by omega) i1
          omega
        · have := Int.mul_le_mul_of_nonneg_right (show value ≤ 1000 by omega) i1
          omega
      have hf4 : H4 f = some (.lst ((d.foldl (lwOut p ps) (List.replicate ps.length 0)).map .int)) := s4 _ _ (s3 _ _ hf1)
      have hb4 := s4 _ _ hbb
      refine ⟨_, rfl, _, rfl, f, bb, _, _, rfl, .of hf4, .of hb4, fun D hD => ?_⟩
      refine lc_ac (walk_zip rfl) (List.zip (d.foldl (lwOut p ps) (List.replicate ps.length 0)) (lwBlk ps one).1) (by simp) hD
        (fun d acc _ => acc = d.map fun q => V.int ((q.1 + (value * invM p ((lwBlk ps one).2 % p)) * q.2) % p)) rfl (fun H5 s5 => ⟨sameL s5 (.of hf4), sameL s5 (.of hb4)⟩) ?_ ?_
      · rintro d5 q5 r5 x acc H5 H6 e5 s5 hD5 hl5 rfl ⟨T, x1, y1, rfl, hT5, rfl, e1, e2⟩
        have hz := getMid d5 q5 r5
        rw [← e5, List.getElem?_zip_eq_some] at hz
        obtain ⟨z1, z2⟩ := hz
        obtain rfl := mapAt z1 e1
        obtain rfl := mapAt z2 e2
        refine ⟨T, _, rfl, .of upd_same, rfl, _, _, rfl, _, _, rfl, rfl, rfl, yesT ?_⟩
        refine ⟨_, rfl, _, rfl, _, rfl, _, _, rfl, rfl, .inl ⟨by omega, by omega⟩, _, _, rfl, rfl, .inl ⟨_, rfl, _, rfl, _, _, rfl, rfl, hp.1, ?_⟩⟩
        have h900 : d5.length < 1000 := by
          have e6 := congrArg List.length e5
          have := List.length_zip (l₁ := d.foldl (lwOut p ps) (List.replicate ps.length 0)) (l₂ := (lwBlk ps one).1)
          have h7 := lw_len one ps ([1], 1)
          rw [hbk] at h7
          simp at h7
          rw [this] at e6
          simp at e6
          omega
        have hTD : D ≠ T := ne_of_none hD5 hT5
        refine Lc.put hD (sameAt s5 (s5.free hT5)) ?_ hl5 h900 ?_
        · rw [upd_ne hTD]
          exact hD5
        · simp
      · rintro acc H5 s5 hD5 hl5 rfl
        have st : (d ++ [(one, value)]).foldl (lwOut p ps) (List.replicate ps.length 0) = lwOut p ps (d.foldl (lwOut p ps) (List.replicate ps.length 0)) (one, value) := by
          rw [List.foldl_append]
          rfl
        refine ⟨D, _, _, _, _, _, _, _, _, _, _, _, rfl, s1.trans (s3.trans (s4.trans s5)), ?_⟩
        rw [hD5, st]
        unfold lwOut
        rw [zipW, List.map_map]
        rfl
  · rintro σ H1 ⟨f, v3, v4, v5, v6, v7, v8, v9, v10, v11, v12, v13, rfl, s1, hf1⟩
    refine ⟨_, rfl, f, _, rfl, .inl ⟨.of hf1, fun t ht => ?_⟩⟩
    exact k _ t (s1.trans (sameNew ht)) (.of upd_same)
end
end NL
/-! L7: the law's own mail -/
namespace NL
open PySem PySem.Spec PyProof.Rows L2
theorem ptsM_v {p : Int} {sh : List Int} {m : Mail} (hp : p ≤ 100) (h : MailOk p sh m) (pl : Nat) : ∀ q ∈ ptsM pl m, -1000 < q.2 ∧ q.2 < 1000 := fun q hq => by
  unfold ptsM at hq
  obtain ⟨r, hr, rfl⟩ := List.mem_map.mp hq
  show -1000 < r.2.getD pl 0 ∧ r.2.getD pl 0 < 1000
  rw [List.getD_eq_getElem?_getD]
  cases e : r.2[pl]? with
  | none => simp
  | some y =>
    have := h.sg r hr y (List.mem_of_getElem? e)
    simp
    omega
section
variable {P : Program} {w : World} {K : Frag} {mg : Str → Option Value} {base : Heap}
def sp__law_reading (K : Frag) : Sp := fun vs H Q _ => ∃ (p : Int) (a : Addr) (sh : List Int) (b : Addr) (us : List V) (m : Mail), vs = [.int p, .ref a, .ref b] ∧ SqT K H b us ∧ MailAt K H p a sh us m ∧ RetT K (readM p sh m) H Q
abbrev tx__law_reading : Stmt := top 80
abbrev NN__law_reading : List Str := ["_law_prime_so", "_law_shares_here", "_law_pairs", "_law_found", "_law_place", "_law_need"]
theorem scp__law_reading : FnScope NN__law_reading ["_law_prime_so", "_law_shares_here", "_law_pairs"] (defScope tx__law_reading) := ⟨rfl, rfl, rfl, by decide +kernel, rfl, by decide +kernel, by decide +kernel⟩
theorem cal__law_reading (T : Txt K mg) : Cal P w K mg base CX0 3 "_law_reading" (sp__law_reading K) := by
  obtain ⟨fd, F⟩ := T.d__law_reading
  refine ⟨_, fd, ["_law_prime_so", "_law_shares_here", "_law_pairs"], F.ok scp__law_reading (fun vs H Q E h => ?_) (fun cdv A outer s H vs Q E hr h => ?_), T.g__law_reading, F.kp, F.bindsN fun _ _ _ _ _ _ us hl => match us, hl with | [_, _, _], _ => rfl⟩
  · obtain ⟨p, a, sh, b, us, m, rfl, _⟩ := h
    rfl
  obtain ⟨p, a, sh, b, us, m, rfl, hT, hM, k⟩ := h
  refine ⟨_, PSs.nox (pss_cons (ps_set (i := 3) scp__law_reading.nd rfl (.inl rfl) (pe_tup pa_nil))
      (pss_cons (ps_for PassesOwn.never rfl (pi_enum (by rfl) T.z_enumerate (pa_cons (pe_cal (cal__law_needs T) hr (by decide) pass0 (pa_cons (pv 1) pa_nil)) pa_nil)) (pg_tup rfl (pgs_cons (pg_name (i := 4) scp__law_reading.nd rfl (.inl rfl)) (pgs_cons (pg_name (i := 5) scp__law_reading.nd rfl (.inl rfl)) pgs_nil)))
      (pss_one (ps_if (pt_cmpR op_le (pv 5) (pe_callB call_len_seq (by rfl) T.z_len PySem.boot_len (pa_cons (pv 2) pa_nil)) (nomark _)) (pss_one (ps_set (i := 3) scp__law_reading.nd rfl (.inl rfl) (pe_op op_catA (pv 3) (pe_cal (cal__law_block T) hr (by decide) pass0 (pa_cons (pv 0) (pa_cons (pe_slice sl_list (pe_cal (cal__law_points T) hr (by decide) pass0 (pa_cons (pv 2) (pa_cons (pv 4) pa_nil))) po_none (po_some (pv 5))) pa_nil)))))) pss_nil)))
      (pss_one (ps_ret (pv 3))))), ?_⟩
  obtain ⟨hn1, hn2⟩ := hM.nlen
  have h8 := hM.hs.len.2
  have hpb := hM.hp.bd
  have hul : us.length = m.length := hM.pt.len
  refine ⟨le1000 (by simp), fun f hf => ?_⟩
  have s0 := sameNew (o := .tup []) hf
  have hM1 := hM.mono (sameT s0)
  refine ⟨_, rfl, a, sh, rfl, hM1.sq, h8, hM.hs.bd, fun H1 nl s1 hnl0 hnl => ?_⟩
  refine ⟨nl, _, rfl, .of hnl, ?_⟩
  refine for_suf (walk_enum (xs := (needM sh).map .int)) (needM sh) (by simp) (fun d _ σ H' => ∃ f v4 v5, σ = [some (.int p), some (.ref a), some (.ref b), some (.ref f), v4, v5] ∧ Same H H' ∧ H' nl = some (.lst ((needM sh).map .int)) ∧ SqT K H' f ((rdS p m d).1.map .int)) ?_ ?_ ?_ ?_
  · exact ⟨f, _, _, rfl, s0.trans s1, hnl, sameT s1 _ _ (.of upd_same)⟩
  · rintro d r σ H2 ⟨f, v4, v5, rfl, s2, hnl2, _⟩
    exact .of hnl2
  · rintro d n r x σ H2 H3 e ⟨f, v4, v5, rfl, s2, hnl2, hf2⟩ ⟨T, x1, y1, rfl, hT2, rfl, e1, e2⟩
    cases e1
    rw [e] at e2
    cases mapGet e2
    have hnb := needM_bd sh n (by rw [e]; simp)
    have hdl : d.length < (needM sh).length := by rw [e]; simp
    have sT := sameNew (o := .tup [.int (d.length : Int), .int n]) hT2
    have s3 := s2.trans sT
    have hM3 := hM.mono (sameT s3)
    have hstep : rdS p m (d ++ [n]) = (if n ≤ m.length then (rdS p m d).1 ++ thrM p ((ptsM d.length m).take n.toNat) else (rdS p m d).1, d.length + 1) := by
      rw [rdS_snoc]
      unfold rdStep
      rw [rdS_ix]
    refine ⟨T, _, rfl, .of upd_same, rfl, _, _, rfl, _, _, rfl, rfl, ?_⟩
    refine ⟨_, rfl, _, rfl, b, us, rfl, .inr (sameT s3 _ _ hT), _, _, rfl, rfl, _, rfl, ?_⟩
    rw [hul]
    by_cases c : n ≤ (m.length : Int)
    · rw [decide_eq_true c]
      refine iteT ?_
      refine ⟨_, rfl, _, rfl, _, rfl, _, rfl, b, d.length, us, m, rfl, .inl (sameT s3 _ _ hT), hM3.pt, fun q hq => ?_, by have := hM.len; omega, fun H4 pp ws s4 hpp0 hpp hW => ?_⟩
      · have := hM.ok.len q hq
        omega
      refine ⟨_, rfl, n, rfl, pp, _, rfl, .of hpp, fun l1 h1 => ?_⟩
      rw [cutTo _ (by omega)]
      have s5 : Same H4 _ := sameNew (o := .lst (ws.take n.toNat)) h1
      refine ⟨p, l1, _, (ptsM d.length m).take n.toNat, rfl, .of upd_same, (PtsI.mono (sameT s5) hW).take _, by omega, ((ptsM_b hM.hs hM.ok _ hM.len).take _).ok hM.hp, fun q hq => ptsM_v (by omega) hM.ok _ q (List.mem_of_mem_take hq), fun H6 q s6 hq => ?_⟩
      have s36 := s4.trans (s5.trans s6)
      have hl1 := rdS_len hM.ok hM.len d
      have hl2 := thr_len p (ptsM_nd hM.ok d.length n.toNat)
      refine catA_all (sameT s36 _ _ (sameT sT _ _ hf2)) hq ?_ fun H7 q7 s7 hq7 => ?_
      · rw [sizeLine_eq]
        simp [hl2, ptsM_len]
        have := hM.len
        omega
      · refine ⟨q7, some (.int d.length), some (.int n), rfl, s3.trans (s36.trans s7), s7 _ _ (s36 _ _ (sT _ _ hnl2)), ?_⟩
        rw [hstep, if_pos c, List.map_append]
        exact hq7
    · rw [decide_eq_false c]
      refine iteF ?_
      refine ⟨f, some (.int d.length), some (.int n), rfl, s3, sT _ _ hnl2, ?_⟩
      rw [hstep, if_neg c]
      exact sameT sT _ _ hf2
  · rintro σ H2 ⟨f, v4, v5, rfl, s2, hnl2, hf2⟩
    exact ⟨_, rfl, k H2 f s2 hf2⟩
def sp__law_suspects (K : Frag) : Sp := fun vs H Q _ => ∃ (p : Int) (a : Addr) (sh : List Int) (b : Addr) (us : List V) (m : Mail), vs = [.int p, .ref a, .ref b] ∧ SqT K H b us ∧ MailAt K H p a sh us m ∧ RetT K (susM p sh m) H Q
abbrev tx__law_suspects : Stmt := top 81
abbrev NN__law_suspects : List Str := ["_law_prime_so", "_law_shares_here", "_law_pairs", "_law_found", "_law_number", "_law_signs", "_law_rest", "_law_pair"]
theorem scp__law_suspects : FnScope NN__law_suspects ["_law_prime_so", "_law_shares_here", "_law_pairs"] (defScope tx__law_suspects) := ⟨rfl, rfl, rfl, by decide +kernel, rfl, by decide +kernel, by decide +kernel⟩
theorem cal__law_suspects (T : Txt K mg) : Cal P w K mg base CX0 5 "_law_suspects" (sp__law_suspects K) := by
  obtain ⟨fd, F⟩ := T.d__law_suspects
  refine ⟨_, fd, ["_law_prime_so", "_law_shares_here", "_law_pairs"], F.ok scp__law_suspects (fun vs H Q E h => ?_) (fun cdv A outer s H vs Q E hr h => ?_), T.g__law_suspects, F.kp, F.bindsN fun _ _ _ _ _ _ us hl => match us, hl with | [_, _, _], _ => rfl⟩
  · obtain ⟨p, a, sh, b, us, m, rfl, _⟩ := h
    rfl
  obtain ⟨p, a, sh, b, us, m, rfl, hT, hM, k⟩ := h
  refine ⟨_, PSs.nox (pss_cons (ps_if (pt_cmpR (op_eqD (hu64 hr)) (pe_cal (cal__law_unfit T) hr (by decide) pass0 (pa_cons (pv 0) (pa_cons (pv 1) (pa_cons (pv 2) pa_nil)))) (pe_lst pa_nil) (nomark _)) (pss_one (ps_ret (pe_tup pa_nil))) pss_nil)
      (pss_cons (ps_set (i := 3) scp__law_suspects.nd rfl (.inl rfl) (pe_lst pa_nil))
      (pss_cons (ps_for PassesOwn.never rfl (pi_tup (pv 2)) (pg_tup rfl (pgs_cons (pg_name (i := 4) scp__law_suspects.nd rfl (.inr rfl)) (pgs_cons (pg_name (i := 5) scp__law_suspects.nd rfl (.inl rfl)) pgs_nil)))
      (pss_cons (ps_setLc (own := [("_law_pair", 7)]) (g := gName 7) (i := 6) rfl scp__law_suspects.nd rfl rfl (sw_true rfl rfl rfl (by decide +kernel)) (pi_tup (pv 2)) (blkOk_by (N := NN__law_suspects) (sc := defScope tx__law_suspects) (by decide +kernel)) (fun _ _ _ _ _ => (pg_name (i := 7) scp__law_suspects.nd rfl (.inl rfl))) (fun _ _ _ _ _ => (pts_one (pt_cmpR op_ne (pe_ix (r := rIxT K) ix_tup (pv 7) pe_int (fun _ _ => rfl)) (pv 4) (nomark _)))) (fun _ _ _ _ _ => (pv 7)))
      (pss_one (ps_if (pt_cmpR (op_eqD (hu64 hr)) (pe_cal (cal__law_unfit T) hr (by decide) pass0 (pa_cons (pv 0) (pa_cons (pv 1) (pa_cons (pv 6) pa_nil)))) (pe_lst pa_nil) (nomark _)) (pss_one (ps_expr (pe_bm PySem.F.plainAttrs_list PySem.F.slot_list_append PySem.F.type_list_append mt_append (pv 3) (pa_cons (pv 4) pa_nil)))) pss_nil))))
      (pss_one (ps_ret (pe_callTy call_tuple_of (by rfl) T.z_tuple (by decide +kernel) (pa_cons (pv 3) pa_nil))))))), ?_⟩
  have hul : us.length = m.length := hM.pt.len
  refine ⟨_, rfl, _, rfl, _, rfl, p, a, sh, b, us, m, rfl, .inl hT, hM, fun ns hns H1 l s1 hl0 hl => ?_⟩
  refine ⟨le1000 (by simp), fun e1 he1 => ?_⟩
  have hle1 : l ≠ e1 := ne_of_none hl he1
  refine eqL (ns := ns) (ms := []) (.of (by rw [upd_ne hle1]; exact hl)) (.of upd_same) ?_
  have s2 := s1.trans (sameNew (o := .lst []) he1)
  refine ⟨_, rfl, ?_⟩
  refine ite2 (fun c => ?_) (fun c => ?_)
  · have hok : okM p sh m = true := hns.mp (of_decide_eq_true c)
    refine ⟨le1000 (by simp), fun e2 he2 => ?_⟩
    refine k _ e2 (s2.trans (sameNew he2)) (.of ?_)
    unfold susM
    rw [hok, if_pos rfl, upd_same]
    rfl
  · have hok : ¬ okM p sh m = true := fun z => c (decide_eq_true (hns.mpr z))
    have hsus : susM p sh m = (m.filter fun q => okM p sh (wo m q.1)).map (·.1) := by
      unfold susM
      rw [if_neg hok]
      rfl
    rw [hsus] at k
    refine ⟨le1000 (by simp), fun f hf => ?_⟩
    have s3 := s2.trans (sameNew (o := .lst []) hf)
    have hf0 : H f = none := s2.free hf
    refine ⟨_, rfl, b, rfl, ⟨_, sameT s3 _ _ hT⟩, ?_⟩
    refine for_suf (walk_tup (xs := us)) m hul.symm (fun d _ σ H' => ∃ v4 v5 v6 v7, σ = [some (.int p), some (.ref a), some (.ref b), some (.ref f), v4, v5, v6, v7] ∧ Same H H' ∧ H' f = some (.lst (((d.filter fun q => okM p sh (wo m q.1)).map (·.1)).map .int))) ?_ ?_ ?_ ?_
    · exact ⟨_, _, _, _, rfl, s3, upd_same⟩
    · rintro d r σ H2 ⟨v4, v5, v6, v7, rfl, s4, _⟩
      exact sameT s4 _ _ hT
    · rintro d q r x σ H2 H3 e ⟨v4, v5, v6, v7, rfl, s4, hf2⟩ ⟨rfl, hx⟩
      have hM2 := hM.mono (sameT s4)
      obtain ⟨bq, cq, rfl, hq, hc⟩ := hM2.pt.get hx (by rw [e]; exact getMid d q r)
      have hdl : d.length < 100 := by
        have := hM.len
        rw [e] at this
        simp at this
        omega
      refine ⟨bq, _, rfl, hq, rfl, _, _, rfl, _, _, rfl, rfl, ?_⟩
      refine ⟨_, rfl, b, rfl, ⟨_, sameT s4 _ _ hT⟩, fun D hD => ?_⟩
      refine lc_ac (walk_tup (xs := us)) m hul.symm hD (fun d acc H' => PtsM K H' acc (d.filter fun r => decide (r.1 ≠ q.1))) .nil (fun H5 s5 => sameT (s4.trans s5) _ _ hT) ?_ ?_
      · rintro d5 q5 r5 x5 acc H5 H6 e5 s5 hD5 hl5 hA ⟨rfl, hx5⟩
        obtain ⟨b5, c5, rfl, hq5, hc5⟩ := (PtsM.mono (sameT s5) hM2.pt).get hx5 (by rw [e5]; exact getMid d5 q5 r5)
        have hdl5 : d5.length < 1000 := by
          have := hM.len
          rw [e5] at this
          simp at this
          omega
        refine ⟨rfl, ?_⟩
        refine ⟨_, rfl, b5, _, _, _, rfl, rfl, hq5, at0 _ _, _, rfl, rfl, _, rfl, ?_⟩
        by_cases c5' : q5.1 = q.1
        · rw [decide_eq_true (congrArg V.int c5')]
          refine iteF (Lc.skip s5 hD5 hl5 ?_)
          rw [List.filter_append, List.filter_cons_of_neg (by simpa using c5')]
          simpa using hA
        · have c6 : ¬ (V.int q5.1 = V.int q.1) := fun z => c5' (V.int.inj z)
          rw [decide_eq_false c6]
          refine iteT ⟨_, rfl, Lc.put hD s5 hD5 hl5 hdl5 ?_⟩
          rw [List.filter_append, List.filter_cons_of_pos (by simpa using c5')]
          have tk := tkLst (K := K) (o := .lst (acc ++ [.ref b5])) hD5
          exact (PtsM.mono tk hA).app (.one ⟨b5, c5, rfl, tk _ _ hq5, tk _ _ hc5⟩)
      · rintro acc H5 s5 hD5 hl5 hA
        have hM5 : MailAt K _ p a sh acc (wo m q.1) := (hM2.mono (sameT s5)).wo q.1 hA
        refine ⟨_, rfl, _, rfl, _, rfl, p, a, sh, D, acc, wo m q.1, rfl, .inr (.of hD5), hM5, fun ns' hns' H7 l7 s7 hl7 hl7' => ?_⟩
        refine ⟨le1000 (by simp), fun e8 he8 => ?_⟩
        have hle8 : l7 ≠ e8 := ne_of_none hl7' he8
        refine eqL (ns := ns') (ms := []) (.of (by rw [upd_ne hle8]; exact hl7')) (.of upd_same) ?_
        have s8 := s5.trans (s7.trans (sameNew (o := .lst []) he8))
        have hf8 := s8 _ _ hf2
        refine ⟨_, rfl, ?_⟩
        by_cases c8 : ns' = []
        · rw [decide_eq_true c8]
          have hok8 := hns'.mp c8
          refine iteT ?_
          refine ⟨_, rfl, .inl ⟨rfl, _, .of hf8⟩, _, rfl, f, _, _, rfl, rfl, hf8, small1000 ?_, ?_⟩
          · have := List.length_filter_le (fun q => okM p sh (wo m q.1)) d
            simp only [List.length_map]
            omega
          · refine ⟨_, _, _, _, rfl, sameAt (s4.trans s8) hf0, ?_⟩
            rw [upd_same, List.filter_append, List.filter_cons_of_pos (by simpa using hok8)]
            simp
        · rw [decide_eq_false c8]
          have hok8 : ¬ okM p sh (wo m q.1) = true := fun z => c8 (hns'.mpr z)
          refine iteF ⟨_, _, _, _, rfl, s4.trans s8, ?_⟩
          rw [List.filter_append, List.filter_cons_of_neg (by simpa using hok8)]
          simpa using hf8
    · rintro σ H2 ⟨v4, v5, v6, v7, rfl, s4, hf2⟩
      exact ⟨_, rfl, f, _, rfl, .inl ⟨.of hf2, fun t ht => k _ t (s4.trans (sameNew ht)) (.of upd_same)⟩⟩
end
end NL
/-! L8: the law's own desk -/
namespace NL
open PySem PySem.Spec PyProof.Rows L2
abbrev kB : Key := Sum.inr (lit "by")
abbrev kS : Key := Sum.inr (lit "shares")
abbrev kT : Key := Sum.inr (lit "letters")
abbrev kP : Key := Sum.inr (lit "past")
theorem b1 : ¬ kB = kS := by decide +kernel
theorem b2 : ¬ kB = kT := by decide +kernel
theorem b3 : ¬ kB = kP := by decide +kernel
theorem b4 : ¬ kS = kT := by decide +kernel
theorem b5 : ¬ kS = kP := by decide +kernel
theorem b6 : ¬ kT = kP := by decide +kernel
theorem own_keys (c l a r : V) : valV (mergeK [] [(kB, c), (kS, l), (kT, a), (kP, r)]) kB = some c ∧ valV (mergeK [] [(kB, c), (kS, l), (kT, a), (kP, r)]) kS = some l ∧ valV (mergeK [] [(kB, c), (kS, l), (kT, a), (kP, r)]) kT = some a ∧ valV (mergeK [] [(kB, c), (kS, l), (kT, a), (kP, r)]) kP = some r := by
  have e : mergeK [] [(kB, c), (kS, l), (kT, a), (kP, r)] = putK (putK (putK (putK [] kB c) kS l) kT a) kP r := rfl
  rw [e]
  refine ⟨?_, ?_, ?_, ?_⟩
  · rw [valV_put, if_neg b3, valV_put, if_neg b2, valV_put, if_neg b1, valV_put, if_pos rfl]
  · rw [valV_put, if_neg b5, valV_put, if_neg b4, valV_put, if_pos rfl]
  · rw [valV_put, if_neg b6, valV_put, if_pos rfl]
  · rw [valV_put, if_pos rfl]
/-- mail as a tuple of pairs -/
def NowE (K : Frag) (H : Hp) (v : V) (m : Mail) : Prop := ∃ c ms, v = .ref c ∧ SqT K H c ms ∧ PtsM K H ms m
theorem NowE.mono {K : Frag} {H H' : Hp} (t : TK K H H') {v : V} {m : Mail} (h : NowE K H v m) : NowE K H' v m := let ⟨c, ms, e, q, r⟩ := h; ⟨c, ms, e, t _ _ q, PtsM.mono t r⟩
structure OIn (K : Frag) (H : Hp) (ow : Addr) (p : Int) (sh : List Int) (ls : List (List Int)) (past : List Mail) (kvs : List (Key × V)) (a b cp : Addr) (us pvs : List V) : Prop where
  d : H ow = some (.dK kvs)
  len : kvs.length ≤ 100
  vB : valV kvs kB = some (.int p)
  vS : valV kvs kS = some (.ref a)
  vT : valV kvs kT = some (.ref b)
  vP : valV kvs kP = some (.ref cp)
  sq : SqT K H a (sh.map .int)
  lt : SqT K H b us
  la : All2 (LetR K H) us ls
  pt : H cp = some (.lst pvs)
  pa : All2 (NowE K H) pvs past
/-- the law's own dict, the list of its past -/
def OAt (K : Frag) (H : Hp) (ow cp : Addr) (p : Int) (sh : List Int) (ls : List (List Int)) (past : List Mail) : Prop := ∃ kvs a b us pvs, OIn K H ow p sh ls past kvs a b cp us pvs
theorem OIn.fr {K : Frag} {S : List Addr} {H H' : Hp} {ow cp a b : Addr} {p : Int} {sh : List Int} {ls : List (List Int)} {past : List Mail} {kvs : List (Key × V)} {us pvs : List V} (h : OIn K H ow p sh ls past kvs a b cp us pvs) (f : Fr S H H') (h1 : ow ∉ S) (h2 : cp ∉ S) : OIn K H' ow p sh ls past kvs a b cp us pvs :=
  { h with d := f.at h.d h1, sq := f.tk _ _ h.sq, lt := f.tk _ _ h.lt, la := h.la.imp fun _ _ q => q.mono f.tk, pt := f.at h.pt h2, pa := h.pa.imp fun _ _ q => q.mono f.tk }
theorem OAt.fr {K : Frag} {S : List Addr} {H H' : Hp} {ow cp : Addr} {p : Int} {sh : List Int} {ls : List (List Int)} {past : List Mail} (h : OAt K H ow cp p sh ls past) (f : Fr S H H') (h1 : ow ∉ S) (h2 : cp ∉ S) : OAt K H' ow cp p sh ls past :=
  let ⟨kvs, a, b, us, pvs, q⟩ := h; ⟨kvs, a, b, us, pvs, q.fr f h1 h2⟩
theorem OIn.same {K : Frag} {H H' : Hp} {ow cp a b : Addr} {p : Int} {sh : List Int} {ls : List (List Int)} {past : List Mail} {kvs : List (Key × V)} {us pvs : List V} (h : OIn K H ow p sh ls past kvs a b cp us pvs) (s : Same H H') : OIn K H' ow p sh ls past kvs a b cp us pvs := h.fr (Fr.same (S := []) s) (by simp) (by simp)
theorem OAt.same {K : Frag} {H H' : Hp} {ow cp : Addr} {p : Int} {sh : List Int} {ls : List (List Int)} {past : List Mail} (h : OAt K H ow cp p sh ls past) (s : Same H H') : OAt K H' ow cp p sh ls past := h.fr (Fr.same (S := []) s) (by simp) (by simp)
section
variable {K : Frag} {H : Hp} {ow cp a b : Addr} {p : Int} {sh : List Int} {ls : List (List Int)} {past : List Mail} {kvs : List (Key × V)} {us pvs : List V}
theorem OIn.gB (h : OIn K H ow p sh ls past kvs a b cp us pvs) : DGet H ow (.str (lit "by")) (some (.int p)) := by
  have := DGet.k (k := kB) h.d
  rw [h.vB] at this
  exact this
theorem OIn.gS (h : OIn K H ow p sh ls past kvs a b cp us pvs) : DGet H ow (.str (lit "shares")) (some (.ref a)) := by
  have := DGet.k (k := kS) h.d
  rw [h.vS] at this
  exact this
theorem OIn.gT (h : OIn K H ow p sh ls past kvs a b cp us pvs) : DGet H ow (.str (lit "letters")) (some (.ref b)) := by
  have := DGet.k (k := kT) h.d
  rw [h.vT] at this
  exact this
theorem OIn.gP (h : OIn K H ow p sh ls past kvs a b cp us pvs) : DGet H ow (.str (lit "past")) (some (.ref cp)) := by
  have := DGet.k (k := kP) h.d
  rw [h.vP] at this
  exact this
end
/-- steps: nothing, then the stair -/
def stepsM (sh : List Int) : List Int := 0 :: stairM sh
theorem steps_len (sh : List Int) : (stepsM sh).length = sh.length + 1 := congrArg (· + 1) (stairS_len sh)
theorem steps_at {sh : List Int} {n : Nat} (h : n ≤ sh.length) : (stepsM sh)[n]? = some (reachM sh n) := by
  have : n < (stepsM sh).length := by rw [steps_len]; omega
  unfold reachM
  rw [List.getD_eq_getElem?_getD]
  show (stepsM sh)[n]? = some ((stepsM sh)[n]?.getD 0)
  rw [List.getElem?_eq_getElem this]
  rfl
theorem steps_split (sh : List Int) : stepsM sh = (stepsM sh).dropLast ++ [reachM sh sh.length] := by
  have h1 : (stepsM sh) ≠ [] := by simp [stepsM]
  have h2 := List.dropLast_concat_getLast h1
  have h3 := steps_at (sh := sh) (n := sh.length) (Nat.le_refl _)
  have h4 : (stepsM sh).getLast h1 = reachM sh sh.length := by
    rw [List.getLast_eq_getElem]
    have := steps_len sh
    have e : (stepsM sh)[(stepsM sh).length - 1]? = some (reachM sh sh.length) := by rw [this]; exact h3
    rw [List.getElem?_eq_getElem (by omega)] at e
    exact Option.some.inj e
  rw [← h4]
  exact h2.symm
theorem last_cut (xs : List V) (x : V) : cutV (xs ++ [x]) (some (-1)) none = [x] ∧ HT.sIx (xs ++ [x]).length 0 (some (-1)) = xs.length := by
  have e : HT.sIx (xs ++ [x]).length 0 (some (-1)) = xs.length := by
    unfold HT.sIx
    simp only [List.length_append, List.length_cons, List.length_nil]
    rw [if_pos (by decide)]
    omega
  refine ⟨?_, e⟩
  unfold cutV
  rw [e, HT.sIx_none, List.drop_left]
  simp
theorem steps2_at {sh : List Int} {n : Nat} (h : n ≤ sh.length) : (stepsM sh ++ [reachM sh sh.length])[n + 1]? = some (reachM sh n + moreM sh n) := by
  unfold moreM
  by_cases c : n < sh.length
  · rw [if_pos c, List.getElem?_append_left (by rw [steps_len]; omega), steps_at (by omega)]
    congr 1
    omega
  · rw [if_neg c, List.getElem?_append_right (by rw [steps_len]; omega), steps_len, show n = sh.length by omega]
    simp
def askW : List Str := ["known", "more", "read", "mail", "suspects", "deeds"]
def askM (p : Int) (sh : List Int) (past : List Mail) (w : Str) : Str := ((aloneA p sh past w).map (·.1)).getD "no"
section
variable {P : Program} {w : World} {K : Frag} {mg : Str → Option Value} {base : Heap}
def sp__law_now (K : Frag) : Sp := fun vs H Q _ => ∃ (ow cp : Addr) (p : Int) (sh : List Int) (ls : List (List Int)) (past : List Mail), vs = [.ref ow] ∧ OAt K H ow cp p sh ls past ∧ past ≠ [] ∧ ∀ c ms, SqT K H c ms → PtsM K H ms (cur past) → Q (.ref c) H
abbrev tx__law_now : Stmt := top 83
abbrev NN__law_now : List Str := ["_law_own"]
theorem scp__law_now : FnScope NN__law_now ["_law_own"] (defScope tx__law_now) := ⟨rfl, rfl, rfl, by decide +kernel, rfl, by decide +kernel, by decide +kernel⟩
theorem cal__law_now (T : Txt K mg) : Cal P w K mg base CX0 1 "_law_now" (sp__law_now K) := by
  obtain ⟨fd, F⟩ := T.d__law_now
  refine ⟨_, fd, ["_law_own"], F.ok scp__law_now (fun vs H Q E h => ?_) (fun cdv A outer s H vs Q E hr h => ?_), T.g__law_now, F.kp, F.bindsN fun _ _ _ _ _ _ us hl => match us, hl with | [_], _ => rfl⟩
  · obtain ⟨ow, cp, p, sh, ls, past, rfl, _⟩ := h
    rfl
  obtain ⟨ow, cp, p, sh, ls, past, rfl, ⟨kvs, a, b, us, pvs, O⟩, hne, k⟩ := h
  refine ⟨_, PSs.nox (pss_one (ps_ret (pe_ix ix_list (pe_dget (hu_of hr) (pv 0) pe_str (fun _ _ => rfl)) (pe_un un_neg pe_int) (fun _ _ => rfl)))), ?_⟩
  have hsp : past = past.dropLast ++ [cur past] := by
    unfold cur
    rw [← List.dropLast_concat_getLast hne]
    simp
  have hpa := O.pa
  rw [hsp] at hpa
  obtain ⟨us0, u, e, _, c, ms, rfl, hc, hm⟩ := hpa.last
  refine ⟨_, rfl, ow, _, rfl, O.gP, _, rfl, cp, _, _, _, rfl, rfl, .of O.pt, ?_, k c ms hc hm⟩
  rw [e]
  exact atLast _ _
def sp__law_reach_of (K : Frag) : Sp := fun vs H Q _ => ∃ (ow cp : Addr) (p : Int) (sh : List Int) (ls : List (List Int)) (past : List Mail), vs = [.ref ow] ∧ OAt K H ow cp p sh ls past ∧ past ≠ [] ∧ ShOk sh ∧ (cur past).length ≤ sh.length ∧ ∀ H', Same H H' → Q (.int (reachM sh (cur past).length)) H'
abbrev tx__law_reach_of : Stmt := top 84
abbrev NN__law_reach_of : List Str := ["_law_own"]
theorem scp__law_reach_of : FnScope NN__law_reach_of ["_law_own"] (defScope tx__law_reach_of) := ⟨rfl, rfl, rfl, by decide +kernel, rfl, by decide +kernel, by decide +kernel⟩
theorem cal__law_reach_of (T : Txt K mg) : Cal P w K mg base CX0 2 "_law_reach_of" (sp__law_reach_of K) := by
  obtain ⟨fd, F⟩ := T.d__law_reach_of
  refine ⟨_, fd, ["_law_own"], F.ok scp__law_reach_of (fun vs H Q E h => ?_) (fun cdv A outer s H vs Q E hr h => ?_), T.g__law_reach_of, F.kp, F.bindsN fun _ _ _ _ _ _ us hl => match us, hl with | [_], _ => rfl⟩
  · obtain ⟨ow, cp, p, sh, ls, past, rfl, _⟩ := h
    rfl
  obtain ⟨ow, cp, p, sh, ls, past, rfl, hO, hne, hs, hlen, k⟩ := h
  refine ⟨_, PSs.nox (pss_one (ps_ret (pe_ix ix_tup (pe_op op_catA (pe_tup (pa_cons pe_int pa_nil)) (pe_cal (cal__law_stair T) hr (by decide) pass0 (pa_cons (pe_dget (hu_of hr) (pv 0) pe_str (fun _ _ => rfl)) pa_nil))) (pe_callB call_len_seq (by rfl) T.z_len PySem.boot_len (pa_cons (pe_cal (cal__law_now T) hr (by decide) pass0 (pa_cons (pv 0) pa_nil)) pa_nil)) (fun _ _ => rfl)))), ?_⟩
  have h8 := hs.len.2
  refine ⟨le1000 (by simp), fun t ht => ?_⟩
  have s1 := sameNew (o := .tup [V.int 0]) ht
  obtain ⟨kvs, a, b, us, pvs, O⟩ := hO.same s1
  refine ⟨_, rfl, ow, _, rfl, O.gS, a, sh, rfl, O.sq, by omega, fun H2 q s2 hq => ?_⟩
  refine catA_all (xs := [V.int 0]) (sameT s2 _ _ (.of upd_same)) hq (by rw [sizeLine_eq]; simp; rw [show (stairM sh).length = sh.length from stairS_len sh]; omega) fun H3 u s3 hu => ?_
  have hu : SqT K H3 u ((stepsM sh).map .int) := hu
  have hO3 := hO.same ((s1.trans s2).trans s3)
  refine ⟨_, rfl, ow, cp, p, sh, ls, past, rfl, hO3, hne, fun c ms hc hm => ?_⟩
  have e : ms.length = (cur past).length := hm.len
  refine ⟨c, ms, rfl, .inr hc, u, _, _, _, rfl, rfl, hu, ?_, k H3 ((s1.trans s2).trans s3)⟩
  rw [e]
  refine atI_nat ?_
  rw [List.getElem?_map, steps_at hlen]
  rfl
def sp__law_asked (K : Frag) : Sp := fun vs H Q _ => ∃ (ow cp : Addr) (p : Int) (sh : List Int) (ls : List (List Int)) (past : List Mail) (w : Str), vs = [.ref ow, .str w] ∧ OAt K H ow cp p sh ls past ∧ DOk p sh past ∧ w ∈ askW ∧ ∀ H', Same H H' → Q (.str (askM p sh past w)) H'
abbrev tx__law_asked : Stmt := top 85
abbrev NN__law_asked : List Str := ["_law_own", "_law_line", "_law_pairs", "_law_steps", "_law_number", "_law_signs"]
theorem scp__law_asked : FnScope NN__law_asked ["_law_own", "_law_line"] (defScope tx__law_asked) := ⟨rfl, rfl, rfl, by decide +kernel, rfl, by decide +kernel, by decide +kernel⟩
theorem cal__law_asked (T : Txt K mg) : Cal P w K mg base CX0 6 "_law_asked" (sp__law_asked K) := by
  obtain ⟨fd, F⟩ := T.d__law_asked
  refine ⟨_, fd, ["_law_own", "_law_line"], F.ok scp__law_asked (fun vs H Q E h => ?_) (fun cdv A outer s H vs Q E hr h => ?_), T.g__law_asked, F.kp, F.bindsN fun _ _ _ _ _ _ us hl => match us, hl with | [_, _], _ => rfl⟩
  · obtain ⟨ow, cp, p, sh, ls, past, w, rfl, _⟩ := h
    rfl
  obtain ⟨ow, cp, p, sh, ls, past, w, rfl, hO, hD, hw, k⟩ := h
  refine ⟨_, PSs.nox (pss_cons (ps_set (i := 2) scp__law_asked.nd rfl (.inl rfl) (pe_cal (cal__law_now T) hr (by decide) pass0 (pa_cons (pv 0) pa_nil)))
      (pss_cons (ps_if (pt_cmpR op_eq (pv 1) pe_str (nomark _)) (pss_one (ps_ret (pe_callTy call_str_int (by rfl) T.z_str (by decide +kernel) (pa_cons (pe_cal (cal__law_reach_of T) hr (by decide) pass0 (pa_cons (pv 0) pa_nil)) pa_nil)))) pss_nil)
      (pss_cons (ps_if (pt_cmpR op_eq (pv 1) pe_str (nomark _)) (pss_cons (ps_set (i := 3) scp__law_asked.nd rfl (.inl rfl) (pe_op op_catA (pe_tup (pa_cons pe_int pa_nil)) (pe_cal (cal__law_stair T) hr (by decide) pass0 (pa_cons (pe_dget (hu_of hr) (pv 0) pe_str (fun _ _ => rfl)) pa_nil))))
      (pss_one (ps_ret (pe_callTy call_str_int (by rfl) T.z_str (by decide +kernel) (pa_cons (pe_op op_sub (pe_ix ix_tup (pe_op op_catA (pv 3) (pe_slice sl_tupA (pv 3) (po_some (pe_un un_neg pe_int)) po_none)) (pe_op op_add (pe_callB call_len_seq (by rfl) T.z_len PySem.boot_len (pa_cons (pv 2) pa_nil)) pe_int) (fun _ _ => rfl)) (pe_ix ix_tup (pv 3) (pe_callB call_len_seq (by rfl) T.z_len PySem.boot_len (pa_cons (pv 2) pa_nil)) (fun _ _ => rfl))) pa_nil))))) pss_nil)
      (pss_cons (ps_if (pt_cmpR op_eq (pv 1) pe_str (nomark _)) (pss_cons (ps_if (pt_cmpR (op_neD (hu64 hr)) (pe_cal (cal__law_unfit T) hr (by decide) pass0 (pa_cons (pe_dget (hu_of hr) (pv 0) pe_str (fun _ _ => rfl)) (pa_cons (pe_dget (hu_of hr) (pv 0) pe_str (fun _ _ => rfl)) (pa_cons (pv 2) pa_nil)))) (pe_lst pa_nil) (nomark _)) (pss_one (ps_ret pe_str)) pss_nil)
      (pss_one (ps_ret (pe_cal (cal__law_row_of T) hr (by decide) pass0 (pa_cons (pe_cal (cal__law_reading T) hr (by decide) pass0 (pa_cons (pe_dget (hu_of hr) (pv 0) pe_str (fun _ _ => rfl)) (pa_cons (pe_dget (hu_of hr) (pv 0) pe_str (fun _ _ => rfl)) (pa_cons (pv 2) pa_nil)))) pa_nil))))) pss_nil)
      (pss_cons (ps_if (pt_cmpR op_eq (pv 1) pe_str (nomark _)) (pss_one (ps_ret (pe_cal (cal__law_row_of T) hr (by decide) pass0 (pa_cons (pe_callTy call_tuple_of (by rfl) T.z_tuple (by decide +kernel) (pa_cons (pe_lc (own := [("_law_number", 4), ("_law_signs", 5)]) (g := gTup K 2 (gCons (gName 4) (gCons (gName 5) gNil))) (tt := tYes) rfl scp__law_asked.nd (pi_tup (pv 2)) (blkOk_by (N := NN__law_asked) (sc := defScope tx__law_asked) (by decide +kernel)) (fun _ _ _ _ _ => (pg_tup rfl (pgs_cons (pg_name (i := 4) scp__law_asked.nd rfl (.inl rfl)) (pgs_cons (pg_name (i := 5) scp__law_asked.nd rfl (.inl rfl)) pgs_nil)))) (fun _ _ _ _ _ => pts_nil) (fun _ _ _ _ _ => (pv 4))) pa_nil)) pa_nil)))) pss_nil)
      (pss_cons (ps_if (pt_cmpR op_eq (pv 1) pe_str (nomark _)) (pss_one (ps_ret (pe_cal (cal__law_row_of T) hr (by decide) pass0 (pa_cons (pe_cal (cal__law_suspects T) hr (by decide) pass0 (pa_cons (pe_dget (hu_of hr) (pv 0) pe_str (fun _ _ => rfl)) (pa_cons (pe_dget (hu_of hr) (pv 0) pe_str (fun _ _ => rfl)) (pa_cons (pv 2) pa_nil)))) pa_nil)))) pss_nil)
      (pss_one (ps_ret (pe_callTy call_str_int (by rfl) T.z_str (by decide +kernel) (pa_cons (pe_op op_sub (pe_callB call_len_seq (by rfl) T.z_len PySem.boot_len (pa_cons (pe_dget (hu_of hr) (pv 0) pe_str (fun _ _ => rfl)) pa_nil)) pe_int) pa_nil)))))))))), ?_⟩
  have hne := hD.ok.ne
  have hc := hD.ok.cur
  have hlen := hc.len
  have h8 := hD.hs.len.2
  have hp := hD.hp
  refine ⟨_, rfl, ow, cp, p, sh, ls, past, rfl, hO, hne, fun c ms hcs hm => ?_⟩
  have hml : ms.length = (cur past).length := hm.len
  obtain ⟨kvs, a, b, us, pvs, O⟩ := id hO
  have hMA : MailAt K H p a sh ms (cur past) := ⟨O.sq, hm, hp, hD.hs, hc.ok, by omega⟩
  refine ⟨_, rfl, rfl, _, rfl, ?_⟩
  by_cases c1 : w = lit "known"
  · refine iteTb (decide_eq_true (congrArg V.str c1)) ?_
    unfold askM at k
    rw [show aloneA p sh past w = some (istr (reachM sh (cur past).length), past) from if_pos c1] at k
    refine ⟨_, rfl, ow, cp, p, sh, ls, past, rfl, hO, hne, hD.hs, hlen, fun H1 s1 => ?_⟩
    have hb := reachM_bd hD.hs (cur past).length
    exact ⟨_, rfl, log_bd (by omega) (by omega), k H1 s1⟩
  refine iteFb (decide_eq_false fun z => c1 (V.str.inj z)) ?_
  refine ⟨_, rfl, rfl, _, rfl, ?_⟩
  by_cases c2 : w = lit "more"
  · refine iteTb (decide_eq_true (congrArg V.str c2)) ?_
    unfold askM at k
    rw [show aloneA p sh past w = some (istr (moreM sh (cur past).length), past) from (if_neg c1).trans (if_pos c2)] at k
    refine ⟨le1000 (by simp), fun t ht => ?_⟩
    have s1 := sameNew (o := .tup [V.int 0]) ht
    have O1 := O.same s1
    refine ⟨_, rfl, ow, _, rfl, O1.gS, a, sh, rfl, O1.sq, by omega, fun H2 q s2 hq => ?_⟩
    refine catA_all (xs := [V.int 0]) (sameT s2 _ _ (.of upd_same)) hq (by rw [sizeLine_eq]; simp; rw [show (stairM sh).length = sh.length from stairS_len sh]; omega) fun H3 u s3 hu => ?_
    have hu : SqT K H3 u ((stepsM sh).map .int) := hu
    have hsl := steps_len sh
    have s13 := (s1.trans s2).trans s3
    have hsp : (stepsM sh).map V.int = (stepsM sh).dropLast.map V.int ++ [V.int (reachM sh sh.length)] := by
      have := congrArg (List.map V.int) (steps_split sh)
      rw [List.map_append] at this
      exact this
    obtain ⟨lc1, lc2⟩ := last_cut ((stepsM sh).dropLast.map V.int) (V.int (reachM sh sh.length))
    rw [← hsp] at lc1 lc2
    refine ⟨_, rfl, _, rfl, _, rfl, _, rfl, u, _, rfl, hu, ?_, ?_⟩
    · rintro ⟨z, _⟩
      exfalso
      have z' : HT.sIx ((stepsM sh).map V.int).length 0 (some (-1)) = 0 := z
      have := hD.hs.len.1
      rw [lc2] at z'
      simp at z'
      rw [hsl] at z'
      omega
    intro _ v hv
    have e1 : cutV ((stepsM sh).map V.int) (some (-1)) none = [V.int (reachM sh sh.length)] := lc1
    have s4 := sameNew (o := .tup (cutV ((stepsM sh).map V.int) (some (-1)) none)) hv
    refine catA_all (ys := [V.int (reachM sh sh.length)]) (sameT s4 _ _ hu) (.of (by rw [upd_same]; exact congrArg (fun l => some (HO.tup l)) e1)) (by rw [sizeLine_eq, List.length_map]; simp; omega) fun H5 x s5 hx => ?_
    refine ⟨_, rfl, c, ms, rfl, .inr (sameT ((s13.trans s4).trans s5) _ _ hcs), _, _, rfl, rfl, ?_⟩
    have hx : SqT K H5 x ((stepsM sh ++ [reachM sh sh.length]).map .int) := by rw [List.map_append]; exact hx
    refine ⟨x, _, _, .int (reachM sh (cur past).length + moreM sh (cur past).length), rfl, rfl, hx, ?_, _, rfl, _, rfl, c, ms, rfl, .inr (sameT ((s13.trans s4).trans s5) _ _ hcs), u, _, _, .int (reachM sh (cur past).length), rfl, rfl, sameT (s4.trans s5) _ _ hu, ?_, _, _, rfl, rfl, ?_⟩
    · rw [hml]
      refine atI_nat (j := (cur past).length + 1) ?_
      rw [List.getElem?_map, steps2_at hlen]
      rfl
    · rw [hml]
      refine atI_nat ?_
      rw [List.getElem?_map, steps_at hlen]
      rfl
    · have hb := more_bd hD.hs (cur past).length
      have e2 : reachM sh (cur past).length + moreM sh (cur past).length - reachM sh (cur past).length = moreM sh (cur past).length := by omega
      refine ⟨_, rfl, ?_, ?_⟩
      · rw [e2]
        exact log_bd (by omega) (by omega)
      · rw [e2]
        exact k H5 ((s13.trans s4).trans s5)
  refine iteFb (decide_eq_false fun z => c2 (V.str.inj z)) ?_
  refine ⟨_, rfl, rfl, _, rfl, ?_⟩
  by_cases c3 : w = lit "read"
  · refine iteTb (decide_eq_true (congrArg V.str c3)) ?_
    unfold askM at k
    rw [show aloneA p sh past w = (if okM p sh (cur past) = true then some (rowM (readM p sh (cur past)), past) else none) from (if_neg c1).trans ((if_neg c2).trans (if_pos c3))] at k
    refine ⟨_, rfl, ow, _, rfl, O.gB, _, rfl, ow, _, rfl, O.gS, _, rfl, p, a, sh, c, ms, cur past, rfl, .inl hcs, hMA, fun ns hns H1 l1 s1 hl0 hl1 => ?_⟩
    refine ⟨le1000 (by simp), fun e he => ?_⟩
    have hle : l1 ≠ e := ne_of_none hl1 he
    have s2 := s1.trans (sameNew (o := .lst []) he)
    refine neL (ns := ns) (ms := []) (.of (by rw [upd_ne hle]; exact hl1)) (.of upd_same) ⟨_, rfl, ?_⟩
    by_cases co : okM p sh (cur past) = true
    · rw [if_pos co] at k
      have e0 := hns.mpr co
      refine iteFb (by rw [e0]; rfl) ?_
      have O2 := O.same s2
      refine ⟨_, rfl, ow, _, rfl, O2.gB, _, rfl, ow, _, rfl, O2.gS, _, rfl, p, a, sh, c, ms, cur past, rfl, sameT s2 _ _ hcs, hMA.same s2, fun H3 q3 s3 hq3 => ?_⟩
      have ht := read_ok hp hD.hs hc
      exact ⟨q3, _, rfl, hq3, ht, fun H4 s4 => k H4 ((s2.trans s3).trans s4)⟩
    · rw [if_neg co] at k
      refine iteTb ?_ (k _ s2)
      cases ns with
      | nil => exact absurd (hns.mp rfl) co
      | cons n r => rfl
  refine iteFb (decide_eq_false fun z => c3 (V.str.inj z)) ?_
  refine ⟨_, rfl, rfl, _, rfl, ?_⟩
  by_cases c4 : w = lit "mail"
  · refine iteTb (decide_eq_true (congrArg V.str c4)) ?_
    unfold askM at k
    rw [show aloneA p sh past w = some (rowM ((cur past).map (·.1)), past) from (if_neg c1).trans ((if_neg c2).trans ((if_neg c3).trans (if_pos c4)))] at k
    refine ⟨_, rfl, c, rfl, ⟨_, hcs⟩, fun D hD0 => ?_⟩
    refine lc_ac (walk_tup (xs := ms)) (cur past) hm.len.symm hD0 (fun d acc _ => acc = d.map fun q => V.int q.1) rfl (fun H1 s => sameT s _ _ hcs) ?_ ?_
    · rintro d' q r' x acc H1 H2 e s hD1 hl1 rfl ⟨rfl, hx⟩
      obtain ⟨b', c', rfl, hq, _⟩ := (PtsM.mono (sameT s) hm).get hx (by rw [e]; exact getMid d' q r')
      refine ⟨b', _, rfl, hq, rfl, _, _, rfl, _, _, rfl, rfl, rfl, yesT ⟨_, rfl, ?_⟩⟩
      refine Lc.put hD0 s hD1 hl1 (by rw [e] at hlen; simp at hlen; omega) ?_
      simp
    · rintro acc H1 s hD1 hl1 rfl
      have ht := nums_ok hD.hs hc
      refine ⟨D, _, rfl, .inl ⟨.of hD1, fun q hq => ?_⟩⟩
      refine ⟨q, (cur past).map (·.1), rfl, by rw [List.map_map]; exact .of upd_same, ht, fun H2 s2 => ?_⟩
      exact k H2 (s.trans ((sameNew hq).trans s2))
  refine iteFb (decide_eq_false fun z => c4 (V.str.inj z)) ?_
  refine ⟨_, rfl, rfl, _, rfl, ?_⟩
  by_cases c5 : w = lit "suspects"
  · refine iteTb (decide_eq_true (congrArg V.str c5)) ?_
    unfold askM at k
    rw [show aloneA p sh past w = some (rowM (susM p sh (cur past)), past) from (if_neg c1).trans ((if_neg c2).trans ((if_neg c3).trans ((if_neg c4).trans (if_pos c5))))] at k
    refine ⟨_, rfl, ow, _, rfl, O.gB, _, rfl, ow, _, rfl, O.gS, _, rfl, p, a, sh, c, ms, cur past, rfl, hcs, hMA, fun H3 q3 s3 hq3 => ?_⟩
    have ht := sus_ok hD.hs hc
    exact ⟨q3, _, rfl, hq3, ht, fun H4 s4 => k H4 (s3.trans s4)⟩
  refine iteFb (decide_eq_false fun z => c5 (V.str.inj z)) ?_
  have c6 : w = lit "deeds" := by
    simp only [askW, List.mem_cons, List.not_mem_nil, or_false] at hw
    rcases hw with hw | hw | hw | hw | hw | hw
    · exact absurd hw c1
    · exact absurd hw c2
    · exact absurd hw c3
    · exact absurd hw c4
    · exact absurd hw c5
    · exact hw
  unfold askM at k
  rw [show aloneA p sh past w = some (istr ((past.length : Int) - 1), past) from (if_neg c1).trans ((if_neg c2).trans ((if_neg c3).trans ((if_neg c4).trans ((if_neg c5).trans (if_pos c6)))))] at k
  have hl := hD.len
  have hpl := O.pa.len
  refine ⟨_, rfl, ow, _, rfl, O.gP, cp, pvs, rfl, .inl (.of O.pt), _, _, rfl, rfl, ?_⟩
  rw [hpl]
  exact ⟨_, rfl, log_bd (by omega) (by omega), k H fun _ _ e => e⟩
end
end NL
/-! M6: lines of words -/
namespace NL
open PySem
theorem lit_bl : lit " " = SX.S [32] := by decide +kernel
theorem lit_nl : lit "\n" = SX.S [10] := by decide +kernel
theorem tl_S (w : Str) : SX.S w.cps.toList = w := by
  cases w
  simp [SX.S]
theorem map_tl_S (ws : List Str) : (ws.map fun w => w.cps.toList).map SX.S = ws := by
  rw [List.map_map]
  conv => rhs; rw [← List.map_id ws]
  exact List.map_congr_left fun w _ => tl_S w
/-- joined by a sign -/
theorem join_is (c : Nat) (ws : List Str) : Txt.join (SX.S [c]) ws = SX.S (TL.joinL [c] (ws.map fun w => w.cps.toList)) := by
  have e := SX.join_S [c] (ws.map fun w => w.cps.toList)
  rwa [map_tl_S] at e
theorem split_join {c : Nat} (hc : c < 256) {ws : List Str} (hne : ws ≠ []) (h : ∀ w ∈ ws, c ∉ w.cps.toList) : Txt.split (Txt.join (SX.S [c]) ws) (SX.S [c]) = ws := by
  rw [join_is, SX.split_S (by simp) (by simpa using hc), SX.spl_join (by simpa using hne) (fun p hp => by
    obtain ⟨w, hw, rfl⟩ := List.mem_map.mp hp
    exact h w hw), map_tl_S]
theorem join_one (c : Nat) (w : Str) : Txt.join (SX.S [c]) [w] = w := by
  rw [join_is]
  exact tl_S w
theorem split_one {c : Nat} (hc : c < 256) {w : Str} (h : c ∉ w.cps.toList) : Txt.split w (SX.S [c]) = [w] := by
  have := split_join hc (ws := [w]) (by simp) (by simpa using h)
  rwa [join_one] at this
theorem joinL_mem {c x : Nat} : ∀ {ps : List (List Nat)}, x ∈ TL.joinL [c] ps → x = c ∨ ∃ p ∈ ps, x ∈ p
  | [], h => by cases h
  | [p], h => .inr ⟨p, by simp, h⟩
  | p :: q :: r, h => by
    have h : x ∈ p ++ ([c] ++ TL.joinL [c] (q :: r)) := h
    rcases List.mem_append.mp h with h | h
    · exact .inr ⟨p, by simp, h⟩
    · rcases List.mem_append.mp h with h | h
      · exact .inl (by simpa using h)
      · rcases joinL_mem h with h | ⟨p', hp, hx⟩
        · exact .inl h
        · exact .inr ⟨p', List.mem_cons_of_mem _ hp, hx⟩
theorem joinL_len (c : Nat) : ∀ ps : List (List Nat), (TL.joinL [c] ps).length ≤ (ps.map (·.length)).sum + ps.length
  | [] => by simp [TL.joinL]
  | [p] => by simp [TL.joinL]
  | p :: q :: r => by
    have h := joinL_len c (q :: r)
    have e : TL.joinL [c] (p :: q :: r) = p ++ ([c] ++ TL.joinL [c] (q :: r)) := rfl
    rw [e]
    simp only [List.length_append, List.map_cons, List.sum_cons, List.length_cons, List.length_nil] at h ⊢
    omega
theorem joinL_app (c : Nat) {qs : List (List Nat)} (hq : qs ≠ []) : ∀ ps : List (List Nat), TL.joinL [c] (ps ++ [TL.joinL [c] qs]) = TL.joinL [c] (ps ++ qs)
  | [] => rfl
  | [p] => by
    cases qs with
    | nil => exact absurd rfl hq
    | cons q qs => rfl
  | p :: p' :: r => by
    have ih := joinL_app c hq (p' :: r)
    show p ++ ([c] ++ TL.joinL [c] (p' :: r ++ [TL.joinL [c] qs])) = p ++ ([c] ++ TL.joinL [c] (p' :: r ++ qs))
    rw [ih]
/-- a word of a line -/
structure WordOk (w : Str) : Prop where
  bl : 32 ∉ w.cps.toList
  nl : 10 ∉ w.cps.toList
  len : w.length ≤ 10
  tm : Tame w
theorem len_tl (z : Str) : z.cps.toList.length = z.length := by
  cases z
  rfl
theorem sum_le10 {ws : List Str} (h : ∀ w ∈ ws, WordOk w) : ((ws.map fun w => w.cps.toList).map (·.length)).sum ≤ 10 * ws.length := by
  induction ws with
  | nil => simp
  | cons w ws ih =>
    have h1 := (h w List.mem_cons_self).len
    have h2 := ih fun v hv => h v (List.mem_cons_of_mem _ hv)
    rw [List.map_cons, List.map_cons, List.sum_cons, len_tl, List.length_cons]
    omega
theorem join_len {ws : List Str} (h : ∀ w ∈ ws, WordOk w) : (Txt.join (SX.S [32]) ws).length ≤ 11 * ws.length := by
  rw [join_is, SX.S_len]
  have h1 := joinL_len 32 (ws.map fun w => w.cps.toList)
  have h2 := sum_le10 h
  rw [List.length_map] at h1
  omega
theorem join_nl {ws : List Str} (h : ∀ w ∈ ws, WordOk w) : 10 ∉ (Txt.join (SX.S [32]) ws).cps.toList := by
  rw [join_is]
  intro m
  have m : 10 ∈ TL.joinL [32] (ws.map fun w => w.cps.toList) := by simpa [SX.S] using m
  rcases joinL_mem m with e | ⟨p, hp, hx⟩
  · cases e
  · obtain ⟨w, hw, rfl⟩ := List.mem_map.mp hp
    exact (h w hw).nl hx
theorem join_rows {ws : List Str} (hne : ws ≠ []) (h : ∀ w ∈ ws, WordOk w) : Txt.split (Txt.join (lit " ") ws) (lit " ") = ws := by
  rw [lit_bl]
  exact split_join (by decide) hne fun w hw => (h w hw).bl
theorem line_rows {ws : List Str} (hne : ws ≠ []) (h : ∀ w ∈ ws, WordOk w) : rowsM (Txt.join (lit " ") ws) = [ws] := by
  have e : Txt.split (Txt.join (lit " ") ws) (lit "\n") = [Txt.join (lit " ") ws] := by
    rw [lit_bl, lit_nl]
    exact split_one (by decide) (join_nl h)
  show (Txt.split (Txt.join (lit " ") ws) (lit "\n")).map _ = _
  rw [e]
  show [Txt.split (Txt.join (lit " ") ws) (lit " ")] = [ws]
  rw [join_rows hne h]
theorem line_ok {ws : List Str} (hne : ws ≠ []) (h : ∀ w ∈ ws, WordOk w) (hl : ws.length ≤ 60) : TextOk (Txt.join (lit " ") ws) := by
  have e : Txt.split (Txt.join (lit " ") ws) (lit "\n") = [Txt.join (lit " ") ws] := by
    rw [lit_bl, lit_nl]
    exact split_one (by decide) (join_nl h)
  have hlen := join_len h
  rw [← lit_bl] at hlen
  have hz : (Txt.join (lit " ") ws).length + 2 ≤ sizeLine := le1000 (by omega)
  refine ⟨⟨hz, ?_, fun l hm => ?_⟩, fun r hr => ?_⟩
  · show (Txt.split (Txt.join (lit " ") ws) (lit "\n")).length ≤ 900
    rw [e]
    simp
  · have hm : l ∈ Txt.split (Txt.join (lit " ") ws) (lit "\n") := hm
    rw [e, List.mem_singleton] at hm
    rw [hm]
    exact hz
  · rw [line_rows hne h, List.mem_singleton] at hr
    rw [hr]
    exact fun w hw => ⟨Nat.le_trans (h w hw).len (by decide), (h w hw).tm⟩
/-- the words of numbers -/
def signW (ns : List Int) : List Str := if ns = [] then [wNone] else ns.map istr
theorem istr_word {n : Int} (h0 : 0 ≤ n) (h1 : n < 500) : WordOk (istr n) := by
  obtain ⟨a, _, b, _, c⟩ := istr_ok h0 h1
  have hf : ∀ x, x ∈ figs → x ≠ 32 ∧ x ≠ 10 := by decide
  refine ⟨fun m => (hf _ (b _ m)).1 rfl, fun m => (hf _ (b _ m)).2 rfl, by omega, fun hb => ⟨n, ?_⟩⟩
  unfold numM at c
  rw [if_pos hb] at c
  exact c
theorem fix_word {w : Str} (h : decide (32 ∉ w.cps.toList ∧ 10 ∉ w.cps.toList ∧ w.length ≤ 10 ∧ numB w = false) = true) : WordOk w := by
  obtain ⟨a, b, c, d⟩ := of_decide_eq_true h
  exact ⟨a, b, c, fun q => by rw [d] at q; cases q⟩
theorem signW_ok {ns : List Int} (h : ∀ n ∈ ns, 0 ≤ n ∧ n < 500) : (∀ w ∈ signW ns, WordOk w) ∧ signW ns ≠ [] ∧ (signW ns).length ≤ ns.length + 1 := by
  unfold signW
  by_cases c : ns = []
  · rw [if_pos c]
    exact ⟨fun w hw => by rw [List.mem_singleton.mp hw]; exact fix_word (by decide +kernel), by simp, by simp⟩
  · rw [if_neg c]
    refine ⟨fun w hw => ?_, by simpa using c, by simp⟩
    obtain ⟨n, hn, rfl⟩ := List.mem_map.mp hw
    exact istr_word (h n hn).1 (h n hn).2
theorem rowM_words (ns : List Int) : rowM ns = Txt.join (lit " ") (signW ns) := by
  unfold rowM signW
  by_cases c : ns = []
  · rw [if_pos c, if_pos c, lit_bl, join_one]
    rfl
  · rw [if_neg c, if_neg c]
theorem rdN_ints {most : Nat} {ns : List Int} (h : ∀ n ∈ ns, 0 ≤ n ∧ n < 500) (hl : ns.length ≤ most) : rdN most (ns.map istr) = .ok ns := by
  have e : (ns.map istr).map numM = ns.map some := by
    rw [List.map_map]
    exact List.map_congr_left fun n hn => (istr_ok (h n hn).1 (h n hn).2).2.2.2.2
  have := rdN_app most (ns.map istr) ns [] e (by simpa using hl)
  rw [List.append_nil] at this
  rw [this]
  cases most - (ns.map istr).length <;> simp [rdN]
theorem istr_ne {n : Int} (h0 : 0 ≤ n) (h1 : n < 500) : istr n ≠ wNone := fun e => by
  have := (istr_ok h0 h1).2.2.2.2
  rw [e, show numM wNone = none by decide +kernel] at this
  cases this
theorem rdSome_signs {most : Nat} {ns : List Int} (h : ∀ n ∈ ns, 0 ≤ n ∧ n < 500) (hl : ns.length ≤ most) : readSome most (signW ns) = .ok ns := by
  unfold signW
  cases ns with
  | nil => simp [readSome]
  | cons n ns =>
    rw [if_neg (by simp)]
    have hn := h n List.mem_cons_self
    have e := rdN_ints h hl
    rw [List.map_cons] at e ⊢
    unfold readSome
    simp only
    rw [if_neg (istr_ne hn.1 hn.2)]
    exact e
theorem rdNs_ints {most : Nat} {ns : List Int} (h : ∀ n ∈ ns, 0 ≤ n ∧ n < 500) (hl : ns.length ≤ most) (hne : ns ≠ []) : readNs most (ns.map istr) = .ok ns := by
  cases ns with
  | nil => exact absurd rfl hne
  | cons n ns => exact rdN_ints h hl
/-! the three lines -/
def comeL (n : Int) (ns : List Int) : Str := Txt.join (lit " ") [wCome, istr n, wColon, rowM ns]
theorem comeL_is {n : Int} {ns : List Int} (h : ∀ n ∈ ns, 0 ≤ n ∧ n < 500) : comeL n ns = Txt.join (lit " ") ([wCome, istr n, wColon] ++ signW ns) := by
  unfold comeL
  rw [rowM_words, lit_bl, join_is, join_is, join_is, List.map_append]
  have := joinL_app 32 (qs := (signW ns).map fun w => w.cps.toList) (by simpa using (signW_ok h).2.1) ([wCome, istr n, wColon].map fun w => w.cps.toList)
  rw [← this]
  rfl
theorem come_line {n : Int} {ns : List Int} (h0 : 0 ≤ n) (h1 : n < 500) (h : ∀ n ∈ ns, 0 ≤ n ∧ n < 500) (hl : ns.length ≤ 12) : TextOk (comeL n ns) ∧ rowsM (comeL n ns) = [[wCome, istr n, wColon] ++ signW ns] ∧ parseM ([wCome, istr n, wColon] ++ signW ns) = some (.come n ns) := by
  obtain ⟨a, b, c⟩ := signW_ok h
  have hw : ∀ w ∈ [wCome, istr n, wColon] ++ signW ns, WordOk w := fun w hw => by
    rcases List.mem_append.mp hw with hw | hw
    · simp only [List.mem_cons, List.not_mem_nil, or_false] at hw
      rcases hw with rfl | rfl | rfl
      · exact fix_word (by decide +kernel)
      · exact istr_word h0 h1
      · exact fix_word (by decide +kernel)
    · exact a w hw
  have hne : [wCome, istr n, wColon] ++ signW ns ≠ [] := by simp
  rw [comeL_is h]
  refine ⟨line_ok hne hw (by simp; omega), line_rows hne hw, ?_⟩
  exact parse_c5 (istr_ok h0 h1).2.2.2.2 rfl (rdSome_signs h hl)
def dropL (n : Int) : Str := lit "drop " ++ istr n
theorem dropL_is (n : Int) : dropL n = Txt.join (lit " ") [wDrop, istr n] := by
  unfold dropL
  rw [lit_bl, join_is, show lit "drop " = SX.S (wDrop.cps.toList ++ [32]) by decide +kernel]
  conv => lhs; rw [← tl_S (istr n)]
  rw [SX.S_cat, List.append_assoc]
  rfl
theorem drop_line {n : Int} (h0 : 0 ≤ n) (h1 : n < 500) : TextOk (dropL n) ∧ rowsM (dropL n) = [[wDrop, istr n]] ∧ parseM [wDrop, istr n] = some (.drop n) := by
  have hw : ∀ w ∈ [wDrop, istr n], WordOk w := fun w hw => by
    simp only [List.mem_cons, List.not_mem_nil, or_false] at hw
    rcases hw with rfl | rfl
    · exact fix_word (by decide +kernel)
    · exact istr_word h0 h1
  rw [dropL_is]
  refine ⟨line_ok (by simp) hw (by simp), line_rows (by simp) hw, parse_d1 ?_⟩
  exact rdNs_ints (ns := [n]) (by simpa using ⟨h0, h1⟩) (by simp) (by simp)
theorem alone_line {w : Str} (h : w ∈ aloneL) : TextOk w ∧ rowsM w = [[w]] ∧ parseM [w] = some (.alone w) := by
  have hw : ∀ v ∈ [w], WordOk v := fun v hv => by
    rw [List.mem_singleton.mp hv]
    have : aloneL.all (fun w => decide (32 ∉ w.cps.toList ∧ 10 ∉ w.cps.toList ∧ w.length ≤ 10 ∧ numB w = false)) = true := by decide +kernel
    exact fix_word (List.all_eq_true.mp this w h)
  have e : Txt.join (lit " ") [w] = w := by rw [lit_bl, join_one]
  have h1 := line_ok (ws := [w]) (by simp) hw (by simp)
  have h2 := line_rows (ws := [w]) (by simp) hw
  rw [e] at h1 h2
  exact ⟨h1, h2, parse_a1 h⟩
/-- the text of a desk -/
def deskL (p : Int) (sh : List Int) : Str := istr p ++ lit "\n" ++ rowM sh
theorem desk_text {p : Int} {sh : List Int} (hp : Prm p) (hs : ShOk sh) : TextOk (deskL p sh) ∧ rowsM (deskL p sh) = [[istr p], sh.map istr] := by
  have hpb := hp.bd
  have hsb : ∀ n ∈ sh, 0 ≤ n ∧ n < 500 := fun n hn => by have := hs.bd n hn; omega
  have h1 := hs.len
  have hne : sh ≠ [] := fun e => by rw [e] at h1; simp at h1
  have hW : ∀ w ∈ sh.map istr, WordOk w := fun w hw => by
    obtain ⟨n, hn, rfl⟩ := List.mem_map.mp hw
    exact istr_word (hsb n hn).1 (hsb n hn).2
  have hP : WordOk (istr p) := istr_word (by omega) (by omega)
  have hr : rowM sh = Txt.join (lit " ") (sh.map istr) := by rw [rowM_words]; unfold signW; rw [if_neg hne]
  have hj : deskL p sh = Txt.join (SX.S [10]) [istr p, rowM sh] := by
    unfold deskL
    rw [join_is, lit_nl]
    conv => lhs; rw [← tl_S (istr p), ← tl_S (rowM sh)]
    rw [SX.S_cat, SX.S_cat, List.append_assoc]
    rfl
  have hn2 : 10 ∉ (rowM sh).cps.toList := by rw [hr, lit_bl]; exact join_nl hW
  have hsp : Txt.split (deskL p sh) (lit "\n") = [istr p, rowM sh] := by
    rw [hj, lit_nl]
    refine split_join (by decide) (by simp) fun w hw => ?_
    simp only [List.mem_cons, List.not_mem_nil, or_false] at hw
    rcases hw with rfl | rfl
    · exact hP.nl
    · exact hn2
  have e1 : Txt.split (istr p) (lit " ") = [istr p] := by rw [lit_bl]; exact split_one (by decide) hP.bl
  have e2 : Txt.split (rowM sh) (lit " ") = sh.map istr := by rw [hr]; exact join_rows (by simpa using hne) hW
  have hrows : rowsM (deskL p sh) = [[istr p], sh.map istr] := by
    show (Txt.split (deskL p sh) (lit "\n")).map (fun l => Txt.split l (lit " ")) = _
    rw [hsp]
    show [Txt.split (istr p) (lit " "), Txt.split (rowM sh) (lit " ")] = _
    rw [e1, e2]
  have hl2 : (rowM sh).length ≤ 88 := by
    have := join_len hW
    rw [← lit_bl, ← hr, List.length_map] at this
    omega
  have hl1 := hP.len
  have hl : (deskL p sh).length ≤ 200 := by
    rw [hj, join_is, SX.S_len]
    have := joinL_len 10 ([istr p, rowM sh].map fun w => w.cps.toList)
    simp only [List.map_cons, List.map_nil, List.sum_cons, List.sum_nil, List.length_cons, List.length_nil, len_tl] at this ⊢
    omega
  refine ⟨⟨⟨le1000 (by omega), ?_, fun l hm => ?_⟩, fun r hr' => ?_⟩, hrows⟩
  · show (Txt.split (deskL p sh) (lit "\n")).length ≤ 900
    rw [hsp]
    simp
  · have hm : l ∈ Txt.split (deskL p sh) (lit "\n") := hm
    rw [hsp] at hm
    simp only [List.mem_cons, List.not_mem_nil, or_false] at hm
    rcases hm with rfl | rfl
    · exact le1000 (by omega)
    · exact le1000 (by omega)
  · rw [hrows] at hr'
    simp only [List.mem_cons, List.not_mem_nil, or_false] at hr'
    rcases hr' with rfl | rfl
    · intro w hw
      rw [List.mem_singleton.mp hw]
      exact ⟨by omega, hP.tm⟩
    · exact fun w hw => ⟨Nat.le_trans (hW w hw).len (by decide), (hW w hw).tm⟩
theorem lay_ok {sh : List Int} (hs : ShOk sh) : layB sh = true := by
  have h1 := hs.len
  unfold layB
  rw [Bool.and_eq_true, Bool.and_eq_true]
  refine ⟨decide_eq_true (by omega), List.all_eq_true.mpr fun n hn => decide_eq_true (hs.bd n hn), decide_eq_true hs.sum⟩
theorem ok_lay {sh : List Int} (h : layB sh = true) : ShOk sh := by
  unfold layB at h
  rw [Bool.and_eq_true, Bool.and_eq_true] at h
  obtain ⟨h1, h2, h3⟩ := h
  have h1 := of_decide_eq_true h1
  exact ⟨by omega, fun n hn => of_decide_eq_true (List.all_eq_true.mp h2 n hn), of_decide_eq_true h3⟩
theorem desk_ini {p : Int} {sh : List Int} (hp : Prm p) (hs : ShOk sh) : iniM (rowsM (deskL p sh)) = .ok p sh := by
  have hpb := hp.bd
  have hsb : ∀ n ∈ sh, 0 ≤ n ∧ n < 500 := fun n hn => by have := hs.bd n hn; omega
  have h1 := hs.len
  have hne : sh ≠ [] := fun e => by rw [e] at h1; simp at h1
  rw [(desk_text hp hs).2]
  have e1 : readNs 1 [istr p] = .ok [p] := rdNs_ints (ns := [p]) (by simp; omega) (by simp) (by simp)
  have e2 : readNs 8 (sh.map istr) = .ok sh := rdNs_ints hsb h1.2 hne
  simp [iniM, e1, e2, hp, lay_ok hs]
end NL
/-! M7: what a drawn line is answered -/
namespace NL
open PySem
theorem say_come {p : Int} {sh : List Int} {past : List Mail} {n : Int} {ns : List Int} (h0 : 0 ≤ n) (h1 : n < 500) (h : ∀ n ∈ ns, 0 ≤ n ∧ n < 500) (hl : ns.length ≤ 12) :
    sayA p sh past (comeL n ns) = if comeB p sh (cur past) n ns = true then (istr (reachM sh ((cur past).length + 1)), past ++ [srtM (cur past ++ [(n, ns)])]) else ("no", past) := by
  obtain ⟨_, e1, e2⟩ := come_line h0 h1 h hl
  unfold sayA
  rw [e1]
  show (((parseM ([wCome, istr n, wColon] ++ signW ns)).bind (ansCmd p sh past)).getD ("no", past)) = _
  rw [e2]
  show ((if comeB p sh (cur past) n ns = true then some (istr (reachM sh ((cur past).length + 1)), past ++ [srtM (cur past ++ [(n, ns)])]) else none).getD ("no", past)) = _
  split <;> rfl
theorem say_drop {p : Int} {sh : List Int} {past : List Mail} {n : Int} (h0 : 0 ≤ n) (h1 : n < 500) :
    sayA p sh past (dropL n) = if n ∈ (cur past).map (·.1) then (rowM (letM (cur past) n), past ++ [wo (cur past) n]) else ("no", past) := by
  obtain ⟨_, e1, e2⟩ := drop_line h0 h1
  unfold sayA
  rw [e1]
  show (((parseM [wDrop, istr n]).bind (ansCmd p sh past)).getD ("no", past)) = _
  rw [e2]
  show ((if n ∈ (cur past).map (·.1) then some (rowM (letM (cur past) n), past ++ [wo (cur past) n]) else none).getD ("no", past)) = _
  split <;> rfl
theorem say_alone {p : Int} {sh : List Int} {past : List Mail} {w : Str} (h : w ∈ aloneL) : sayA p sh past w = (aloneA p sh past w).getD ("no", past) := by
  obtain ⟨_, e1, e2⟩ := alone_line h
  unfold sayA
  rw [e1]
  show (((parseM [w]).bind (ansCmd p sh past)).getD ("no", past)) = _
  rw [e2]
  rfl
theorem say_undo {p : Int} {sh : List Int} {past : List Mail} : sayA p sh past (lit "undo") = undoA past := by
  rw [say_alone (by decide +kernel)]
  unfold aloneA
  rw [if_neg (by decide +kernel), if_neg (by decide +kernel), if_neg (by decide +kernel), if_neg (by decide +kernel), if_neg (by decide +kernel), if_neg (by decide +kernel)]
  rfl
theorem say_ask {p : Int} {sh : List Int} {past : List Mail} {w : Str} (h : w ∈ askW) : sayA p sh past w = (askM p sh past w, past) := by
  have hw : w ∈ aloneL := by
    have : askW.all (fun w => decide (w ∈ aloneL)) = true := by decide +kernel
    exact of_decide_eq_true (List.all_eq_true.mp this w h)
  rw [say_alone hw]
  unfold askM
  have : ∀ x, aloneA p sh past w = some x → x.2 = past := fun x hx => by
    unfold aloneA at hx
    simp only [askW, List.mem_cons, List.not_mem_nil, or_false] at h
    by_cases c1 : w = lit "known"
    · rw [if_pos c1] at hx
      cases hx
      rfl
    rw [if_neg c1] at hx
    by_cases c2 : w = lit "more"
    · rw [if_pos c2] at hx
      cases hx
      rfl
    rw [if_neg c2] at hx
    by_cases c3 : w = lit "read"
    · rw [if_pos c3] at hx
      split at hx
      · cases hx
        rfl
      · cases hx
    rw [if_neg c3] at hx
    by_cases c4 : w = lit "mail"
    · rw [if_pos c4] at hx
      cases hx
      rfl
    rw [if_neg c4] at hx
    by_cases c5 : w = lit "suspects"
    · rw [if_pos c5] at hx
      cases hx
      rfl
    rw [if_neg c5] at hx
    by_cases c6 : w = lit "deeds"
    · rw [if_pos c6] at hx
      cases hx
      rfl
    rcases h with h | h | h | h | h | h
    · exact absurd h c1
    · exact absurd h c2
    · exact absurd h c3
    · exact absurd h c4
    · exact absurd h c5
    · exact absurd h c6
  cases e : aloneA p sh past w with
  | none => rfl
  | some x =>
    have := this x e
    obtain ⟨a, b⟩ := x
    have this : b = past := this
    rw [this]
    rfl
/-- a line drawn, what is due, the past behind it -/
structure DeedR (p : Int) (sh : List Int) (past : List Mail) (line due : Str) (past' : List Mail) : Prop where
  tx : TextOk line
  say : sayA p sh past line = (due, past')
  ok : PastOk p sh past'
  len : past'.length ≤ past.length + 1
theorem there_nil {m : Mail} {n : Int} : (m.filter fun r => decide (r.1 = n)) = [] ↔ ¬ n ∈ m.map (·.1) := by
  rw [List.filter_eq_nil_iff, List.mem_map]
  constructor
  · rintro h ⟨q, hq, e⟩
    exact h q hq (decide_eq_true e)
  · intro h q hq e
    exact h ⟨q, hq, of_decide_eq_true e⟩
theorem undo_deed {p : Int} {sh : List Int} {past : List Mail} (h : PastOk p sh past) : DeedR p sh past (lit "undo") (undoA past).1 (undoA past).2 := by
  refine ⟨(alone_line (by decide +kernel)).1, say_undo, ?_, ?_⟩
  · unfold undoA
    split
    · exact h.take (by omega)
    · exact h
  · unfold undoA
    split
    · simp
      omega
    · simp
theorem drop_no {p : Int} {sh : List Int} {past : List Mail} (h : PastOk p sh past) {n : Int} (h0 : 0 ≤ n) (h1 : n < 500) (hn : ¬ n ∈ (cur past).map (·.1)) : DeedR p sh past (dropL n) "no" past :=
  ⟨(drop_line h0 h1).1, by rw [say_drop h0 h1, if_neg hn], h, by omega⟩
theorem drop_yes {p : Int} {sh : List Int} {past : List Mail} (h : PastOk p sh past) {n : Int} (h0 : 0 ≤ n) (h1 : n < 500) (hn : n ∈ (cur past).map (·.1)) : DeedR p sh past (dropL n) (rowM (letM (cur past) n)) (past ++ [wo (cur past) n]) :=
  ⟨(drop_line h0 h1).1, by rw [say_drop h0 h1, if_pos hn], h.add (h.cur.filter _), by simp⟩
/-- signs of a drawn letter -/
structure SgnOk (p : Int) (sh : List Int) (n : Int) (ns : List Int) : Prop where
  n0 : 0 ≤ n
  n1 : n ≤ sh.length
  len : n < sh.length → (ns.length : Int) = sh.sum
  l12 : ns.length ≤ 12
  bd : ∀ i ∈ ns, 0 ≤ i ∧ i ≤ p
theorem come_no {p : Int} {sh : List Int} {past : List Mail} (hp : p ≤ 100) (hs : sh.length ≤ 8) (h : PastOk p sh past) {n : Int} {ns : List Int} (hg : SgnOk p sh n ns) (hn : n ∈ (cur past).map (·.1) ∨ n = sh.length ∨ ∃ i ∈ ns, p ≤ i) : DeedR p sh past (comeL n ns) "no" past := by
  have h0 := hg.n0
  have h1 := hg.n1
  have hb : ∀ i ∈ ns, 0 ≤ i ∧ i < 500 := fun i hi => by have := hg.bd i hi; omega
  refine ⟨(come_line h0 (by omega) hb hg.l12).1, ?_, h, by omega⟩
  rw [say_come h0 (by omega) hb hg.l12, if_neg]
  intro z
  unfold comeB at z
  rw [Bool.and_eq_true, Bool.and_eq_true, Bool.and_eq_true] at z
  obtain ⟨⟨⟨z1, z2⟩, z3⟩, z4⟩ := z
  have z1 := of_decide_eq_true z1
  rcases hn with hn | hn | ⟨i, hi, hpi⟩
  · rw [decide_eq_true hn] at z2
    cases z2
  · omega
  · have := of_decide_eq_true (List.all_eq_true.mp z3 i hi)
    omega
theorem come_yes {p : Int} {sh : List Int} {past : List Mail} (hp : p ≤ 100) (hs : sh.length ≤ 8) (h : PastOk p sh past) {n : Int} {ns : List Int} (hg : SgnOk p sh n ns) (h2 : ¬ n ∈ (cur past).map (·.1)) (h3 : n ≠ sh.length) (h4 : ∀ i ∈ ns, i < p) :
    DeedR p sh past (comeL n ns) (istr (reachM sh ((cur past).length + 1))) (past ++ [srtM (cur past ++ [(n, ns)])]) := by
  have h0 := hg.n0
  have h1 := hg.n1
  have hb : ∀ i ∈ ns, 0 ≤ i ∧ i < 500 := fun i hi => by have := hg.bd i hi; omega
  refine ⟨(come_line h0 (by omega) hb hg.l12).1, ?_, h.add (h.cur.add ⟨h0, by omega⟩ h2 (hg.len (by omega)) fun i hi => ⟨(hg.bd i hi).1, h4 i hi⟩), by simp⟩
  rw [say_come h0 (by omega) hb hg.l12, if_pos]
  unfold comeB signsB
  rw [decide_eq_true (show 0 ≤ n ∧ n ≤ (sh.length : Int) - 1 by omega), decide_eq_false h2, decide_eq_true (hg.len (by omega)), List.all_eq_true.mpr fun i hi => decide_eq_true (by have := hg.bd i hi; have := h4 i hi; omega)]
  rfl
theorem max_ge {p : Int} (hp : 0 < p) : ∀ (ns : List Int) (a : Int), p ≤ PySem.W.maxOf a ns ↔ p ≤ a ∨ ∃ i ∈ ns, p ≤ i
  | [], a => by
    show p ≤ a ↔ _
    simp
  | n :: ns, a => by
    have e : PySem.W.maxOf a (n :: ns) = PySem.W.maxOf (if decide (a < n) = true then n else a) ns := rfl
    rw [e, max_ge hp ns]
    by_cases c : a < n
    · rw [if_pos (decide_eq_true c)]
      constructor
      · rintro (h | ⟨i, hi, h⟩)
        · exact .inr ⟨n, by simp, h⟩
        · exact .inr ⟨i, by simp [hi], h⟩
      · rintro (h | ⟨i, hi, h⟩)
        · exact .inl (by omega)
        · rcases List.mem_cons.mp hi with rfl | hi
          · exact .inl h
          · exact .inr ⟨i, hi, h⟩
    · rw [if_neg (by simpa using c)]
      constructor
      · rintro (h | ⟨i, hi, h⟩)
        · exact .inl h
        · exact .inr ⟨i, by simp [hi], h⟩
      · rintro (h | ⟨i, hi, h⟩)
        · exact .inl h
        · rcases List.mem_cons.mp hi with rfl | hi
          · exact .inl (by omega)
          · exact .inr ⟨i, hi, h⟩
theorem rowM_len {ns : List Int} (h : ∀ n ∈ ns, 0 ≤ n ∧ n < 500) (hl : ns.length ≤ 12) : (rowM ns).length ≤ 143 := by
  rw [rowM_words, lit_bl]
  obtain ⟨a, _, c⟩ := signW_ok h
  have := join_len a
  omega
end NL
/-! L9: a deed drawn -/
namespace NL
open PySem PySem.Spec PyProof.Rows L2
theorem tSeq_to {t u : TS} {D : Ends} {σ : L2.St} {H : Hp} (G : L2.St → Hp → Prop) (h : ∀ σ' H', G σ' H' → u D σ' H') (r : ∀ N : L2.St → Hp → Prop, (∀ σ' H', G σ' H' → N σ' H') → t { D with nx := N } σ H) : tSeq t u D σ H := r (u D) h
def LsOk (p : Int) (sh : List Int) (ls : List (List Int)) : Prop := ls.length = sh.length ∧ ∀ ns ∈ ls, (ns.length : Int) = sh.sum ∧ Sg p ns
theorem own_ne {K : Frag} {H : Hp} {ow cp st c l : Addr} {p : Int} {sh : List Int} {ls : List (List Int)} {past : List Mail} {n : Nat} (hO : OAt K H ow cp p sh ls past) (hp : past ≠ []) (hL : LSt K H st c l n) : ow ≠ l ∧ ow ≠ c ∧ cp ≠ st ∧ cp ≠ l ∧ cp ≠ c := by
  obtain ⟨kvs, a, b, us, pvs, O⟩ := hO
  obtain ⟨kvs', cs, ls', a', L⟩ := hL
  have hne : ∀ ns : List Int, 0 < ns.length → pvs ≠ ns.map V.int := fun ns hpos e => by
    have hpa := O.pa
    cases past with
    | nil => exact hp rfl
    | cons m t =>
      cases ns with
      | nil => cases hpos
      | cons i ns =>
        rw [e, List.map_cons] at hpa
        cases hpa with
        | cons q _ =>
          obtain ⟨_, _, e', _⟩ := q
          cases e'
  refine ⟨ne_of O.d L.hl (by intro z; cases z), ne_of O.d L.hc (by intro z; cases z), ne_of O.pt L.d (by intro z; cases z), ne_of O.pt L.hl fun z => ?_, ne_of O.pt L.hc fun z => ?_⟩
  · exact hne ls' (by have := L.eq; have := L.pos; omega) (HO.lst.inj z)
  · exact hne cs L.pos (HO.lst.inj z)
theorem sIx_m1 (n d : Nat) : HT.sIx n d (some (-1)) = (-1 + (n : Int)).toNat := by
  unfold HT.sIx
  exact if_pos (by decide)
theorem undo_cut (xs : List V) (x : V) : cutV (xs ++ [x]) none (some (-1)) = xs := by
  unfold cutV
  have e : HT.sIx (xs ++ [x]).length (xs ++ [x]).length (some (-1)) = xs.length := by
    unfold HT.sIx
    simp only [List.length_append, List.length_cons, List.length_nil]
    rw [if_pos (by decide)]
    omega
  rw [e]
  show List.take (xs.length - 0) (List.drop 0 (xs ++ [x])) = xs
  simp
/-- put another past -/
theorem OIn.put {K : Frag} {H : Hp} {ow cp cp2 a b : Addr} {p : Int} {sh : List Int} {ls : List (List Int)} {past past2 : List Mail} {kvs : List (Key × V)} {us pvs pvs2 : List V} (O : OIn K H ow p sh ls past kvs a b cp us pvs) (hpt : H cp2 = some (.lst pvs2)) (hpa : All2 (NowE K H) pvs2 past2) :
    OIn K (upd H ow (.dK (putK kvs kP (.ref cp2)))) ow p sh ls past2 (putK kvs kP (.ref cp2)) a b cp2 us pvs2 := by
  have f : Fr [ow] H (upd H ow (.dK (putK kvs kP (.ref cp2)))) := frUpd (by simp) O.d (fun z => z)
  have hne : cp2 ≠ ow := ne_of hpt O.d (by intro z; cases z)
  refine { d := upd_same, len := ?_, vB := ?_, vS := ?_, vT := ?_, vP := ?_, sq := f.tk _ _ O.sq, lt := f.tk _ _ O.lt, la := O.la.imp fun _ _ q => q.mono f.tk, pt := ?_, pa := hpa.imp fun _ _ q => q.mono f.tk }
  · rw [put_lenS O.vP]
    exact O.len
  · rw [valV_put, if_neg b3]
    exact O.vB
  · rw [valV_put, if_neg b5]
    exact O.vS
  · rw [valV_put, if_neg b6]
    exact O.vT
  · rw [valV_put, if_pos rfl]
  · rw [upd_ne hne]
    exact hpt
theorem cat_snoc {K : Frag} {H : Hp} {us : List V} {past : List Mail} {v : V} {m : Mail} (h : All2 (NowE K H) us past) (q : NowE K H v m) : All2 (NowE K H) (us ++ [v]) (past ++ [m]) := h.app (.one q)
section
variable {P : Program} {w : World} {K : Frag} {mg : Str → Option Value} {base : Heap}
def sp__law_deed (K : Frag) : Sp := fun vs H Q _ => ∃ (st c0 l ow cp : Addr) (n : Nat) (p : Int) (sh : List Int) (ls : List (List Int)) (past : List Mail), vs = [.ref st, .ref ow] ∧ LSt K H st c0 l n ∧ n ≤ 900000 ∧ OAt K H ow cp p sh ls past ∧ DOk p sh past ∧ LsOk p sh ls ∧ ow ≠ st ∧
  ∀ H' t cp' line due past', Fr [st, l, ow] H H' → LSt K H' st c0 l (n + 5) → OAt K H' ow cp' p sh ls past' → SqT K H' t [.str line, .str due] → DeedR p sh past line due past' → Q (.ref t) H'
abbrev tx__law_deed : Stmt := top 86
abbrev NN__law_deed : List Str := ["_law_state", "_law_own", "_law_pairs", "_law_choice", "_law_number", "_law_there", "_law_signs", "_law_line", "_law_pair"]
theorem scp__law_deed : FnScope NN__law_deed ["_law_state", "_law_own"] (defScope tx__law_deed) := ⟨rfl, rfl, rfl, by decide +kernel, rfl, by decide +kernel, by decide +kernel⟩
theorem cal__law_deed (T : Txt K mg) : Cal P w K mg base CX0 4 "_law_deed" (sp__law_deed K) := by
  obtain ⟨fd, F⟩ := T.d__law_deed
  refine ⟨_, fd, ["_law_state", "_law_own"], F.ok scp__law_deed (fun vs H Q E h => ?_) (fun cdv A outer s H vs Q E hr h => ?_), T.g__law_deed, F.kp, F.bindsN fun _ _ _ _ _ _ us hl => match us, hl with | [_, _], _ => rfl⟩
  · obtain ⟨st, c0, l, ow, cp, n, p, sh, ls, past, rfl, _⟩ := h
    rfl
  obtain ⟨st, c0, l, ow, cp, n, p, sh, ls, past, rfl, hL, hn, hO, hD, hls, hos, k⟩ := h
  refine ⟨_, PSs.nox (pss_cons (ps_par (i := 2) (j := 3) (by rfl) scp__law_deed.nd rfl rfl (by decide) rfl rfl (pa_cons (pe_cal (cal__law_now T) hr (by decide) pass0 (pa_cons (pv 1) pa_nil)) (pa_cons (pe_cal (cal__law_draw T) hr (by decide) pass0 (pa_cons (pv 0) (pa_cons pe_int pa_nil))) pa_nil)) (by rfl))
      (pss_cons (ps_set (i := 4) scp__law_deed.nd rfl (.inr rfl) (pe_cal (cal__law_draw T) hr (by decide) pass0 (pa_cons (pv 0) (pa_cons (pe_op op_add (pe_callB call_len_seq (by rfl) T.z_len PySem.boot_len (pa_cons (pe_dget (hu_of hr) (pv 1) pe_str (fun _ _ => rfl)) pa_nil)) pe_int) pa_nil))))
      (pss_cons (ps_setLc (own := [("_law_pair", 8)]) (g := gName 8) (i := 5) rfl scp__law_deed.nd rfl rfl (sw_true rfl rfl rfl (by decide +kernel)) (pi_tup (pv 2)) (blkOk_by (N := NN__law_deed) (sc := defScope tx__law_deed) (by decide +kernel)) (fun _ _ _ _ _ => (pg_name (i := 8) scp__law_deed.nd rfl (.inl rfl))) (fun _ _ _ _ _ => (pts_one (pt_cmpR op_eq (pe_ix (r := rIxT K) ix_tup (pv 8) pe_int (fun _ _ => rfl)) (pv 4) (nomark _)))) (fun _ _ _ _ _ => (pv 8)))
      (pss_cons (ps_if (pt_cmpR op_lt (pv 3) pe_int (nomark _)) (pss_cons (ps_set (i := 6) scp__law_deed.nd rfl (.inl rfl) (pe_ifExp (pt_cmpR op_lt (pv 4) (pe_callB call_len_seq (by rfl) T.z_len PySem.boot_len (pa_cons (pe_dget (hu_of hr) (pv 1) pe_str (fun _ _ => rfl)) pa_nil)) (nomark _)) (pe_ix ix_tup (pe_dget (hu_of hr) (pv 1) pe_str (fun _ _ => rfl)) (pv 4) (fun _ _ => rfl)) (pe_tup (pa_cons pe_int pa_nil))))
      (pss_cons (ps_if (PW.pt (pw_and (pt_cmpR (op_neD (hu64 hr)) (pv 6) (pe_tup pa_nil) (nomark _)) (pw_and1 (pt_cmpR op_eq (pe_cal (cal__law_draw T) hr (by decide) pass0 (pa_cons (pv 0) (pa_cons pe_int pa_nil))) pe_int (nomark _))))) (pss_one (ps_set (i := 6) scp__law_deed.nd rfl (.inl rfl) (pe_op op_catA (pe_slice sl_tupA (pv 6) po_none (po_some (pe_un un_neg pe_int))) (pe_tup (pa_cons (pe_cal (cal__law_draw T) hr (by decide) pass0 (pa_cons (pv 0) (pa_cons (pe_op op_add (pe_dget (hu_of hr) (pv 1) pe_str (fun _ _ => rfl)) pe_int) pa_nil))) pa_nil))))) pss_nil)
      (pss_cons (ps_set (i := 7) scp__law_deed.nd rfl (.inl rfl) (pe_join pe_str (pe_lst (pa_cons pe_str (pa_cons (pe_callTy call_str_int (by rfl) T.z_str (by decide +kernel) (pa_cons (pv 4) pa_nil)) (pa_cons pe_str (pa_cons (pe_cal (cal__law_row_of T) hr (by decide) pass0 (pa_cons (pv 6) pa_nil)) pa_nil)))))))
      (pss_cons (ps_if (PW.pt (pw_or (pt_cmpR (op_neD (hu64 hr)) (pv 5) (pe_lst pa_nil) (nomark _)) (pw_or (pt_cmpR op_eq (pv 4) (pe_callB call_len_seq (by rfl) T.z_len PySem.boot_len (pa_cons (pe_dget (hu_of hr) (pv 1) pe_str (fun _ _ => rfl)) pa_nil)) (nomark _)) (pw_or1 (pt_cmpR op_ge (pe_callB (cr_maxT rfl (hu64 hr)) (by rfl) T.z_max (by decide +kernel) (pa_cons (pe_op op_catA (pe_tup (pa_cons pe_int pa_nil)) (pv 6)) pa_nil)) (pe_dget (hu_of hr) (pv 1) pe_str (fun _ _ => rfl)) (nomark _)))))) (pss_one (ps_ret (pe_tup (pa_cons (pv 7) (pa_cons pe_str pa_nil))))) pss_nil)
      (pss_cons (ps_dput (hu_of hr) (pv 1) pe_str (pe_op op_cat (pe_dget (hu_of hr) (pv 1) pe_str (fun _ _ => rfl)) (pe_lst (pa_cons (pe_callTy call_tuple_of (by rfl) T.z_tuple (by decide +kernel) (pa_cons (pe_callB (cr_sortedM (hu64 hr)) (by rfl) T.z_sorted (by decide +kernel) (pa_cons (pe_op op_catA (pv 2) (pe_tup (pa_cons (pe_tup (pa_cons (pv 4) (pa_cons (pv 6) pa_nil))) pa_nil))) pa_nil)) pa_nil)) pa_nil))) rfl)
      (pss_one (ps_ret (pe_tup (pa_cons (pv 7) (pa_cons (pe_callTy call_str_int (by rfl) T.z_str (by decide +kernel) (pa_cons (pe_cal (cal__law_reach_of T) hr (by decide) pass0 (pa_cons (pv 1) pa_nil)) pa_nil)) pa_nil)))))))))) pss_nil)
      (pss_cons (ps_if (pt_cmpR op_lt (pv 3) pe_int (nomark _)) (pss_cons (ps_if (pt_cmpR (op_eqD (hu64 hr)) (pv 5) (pe_lst pa_nil) (nomark _)) (pss_one (ps_ret (pe_tup (pa_cons (pe_op op_add_str pe_str (pe_callTy call_str_int (by rfl) T.z_str (by decide +kernel) (pa_cons (pv 4) pa_nil))) (pa_cons pe_str pa_nil))))) pss_nil)
      (pss_cons (ps_dput (hu_of hr) (pv 1) pe_str (pe_op op_cat (pe_dget (hu_of hr) (pv 1) pe_str (fun _ _ => rfl)) (pe_lst (pa_cons (pe_callTy call_tuple_of (by rfl) T.z_tuple (by decide +kernel) (pa_cons (pe_lc (own := [("_law_pair", 8)]) (g := gName 8) rfl scp__law_deed.nd (pi_tup (pv 2)) (blkOk_by (N := NN__law_deed) (sc := defScope tx__law_deed) (by decide +kernel)) (fun _ _ _ _ _ => (pg_name (i := 8) scp__law_deed.nd rfl (.inl rfl))) (fun _ _ _ _ _ => (pts_one (pt_cmpR op_ne (pe_ix (r := rIxT K) ix_tup (pv 8) pe_int (fun _ _ => rfl)) (pv 4) (nomark _)))) (fun _ _ _ _ _ => (pv 8))) pa_nil)) pa_nil))) rfl)
      (pss_one (ps_ret (pe_tup (pa_cons (pe_op op_add_str pe_str (pe_callTy call_str_int (by rfl) T.z_str (by decide +kernel) (pa_cons (pv 4) pa_nil))) (pa_cons (pe_cal (cal__law_row_of T) hr (by decide) pass0 (pa_cons (pe_ix ix_tup (pe_ix ix_list (pv 5) pe_int (fun _ _ => rfl)) pe_int (fun _ _ => rfl)) pa_nil)) pa_nil))))))) pss_nil)
      (pss_cons (ps_if (pt_cmpR op_eq (pe_callB call_len_seq (by rfl) T.z_len PySem.boot_len (pa_cons (pe_dget (hu_of hr) (pv 1) pe_str (fun _ _ => rfl)) pa_nil)) pe_int (nomark _)) (pss_one (ps_ret (pe_tup (pa_cons pe_str (pa_cons pe_str pa_nil))))) pss_nil)
      (pss_cons (ps_dput (hu_of hr) (pv 1) pe_str (pe_slice sl_list (pe_dget (hu_of hr) (pv 1) pe_str (fun _ _ => rfl)) po_none (po_some (pe_un un_neg pe_int))) rfl)
      (pss_one (ps_ret (pe_tup (pa_cons pe_str (pa_cons pe_str pa_nil)))))))))))), ?_⟩
  have hne := hD.ok.ne
  have hc := hD.ok.cur
  have hlen := hc.len
  have h8 := hD.hs.len.2
  have h1l := hD.hs.len.1
  have hsum := hD.hs.sum
  have hp := hD.hp
  have hpb := hp.bd
  have hpl := hD.len
  obtain ⟨ne1, ne2, ne3, ne4, ne5⟩ := own_ne hO hne hL
  have nOw : ow ∉ [st, l] := by simp [hos, ne1]
  have nCp : cp ∉ [st, l] := by simp [ne3, ne4]
  refine ⟨_, rfl, ow, cp, p, sh, ls, past, rfl, hO, hne, fun c ms hcs hm => ?_⟩
  have hml : ms.length = (cur past).length := hm.len
  refine ⟨_, rfl, st, c0, l, n, 6, rfl, hL, by omega, by decide, by decide, fun H1 ch F1 L1 ch0 ch1 => ⟨_, _, rfl, ?_⟩⟩
  obtain ⟨kvs, a, b, us, pvs, O1⟩ := hO.fr F1 nOw nCp
  refine ⟨_, rfl, _, rfl, ow, _, rfl, O1.gS, a, _, rfl, .inr O1.sq, _, _, rfl, rfl, st, c0, l, n + 1, _, rfl, L1, by omega, by rw [List.length_map]; omega, by rw [List.length_map]; omega, fun H2 nm F2 L2' nm0 nm1 => ?_⟩
  rw [List.length_map] at nm1
  have F12 := F1.trans F2
  have O2 := O1.fr F2 nOw nCp
  have hc2 := F12.tk _ _ hcs
  have hm2 := PtsM.mono F12.tk hm
  refine ⟨_, rfl, c, rfl, ⟨_, hc2⟩, fun D hD0 => ?_⟩
  refine lc_ac (walk_tup (xs := ms)) (cur past) hml.symm hD0 (fun d acc H' => PtsM K H' acc (d.filter fun r => decide (r.1 = nm))) .nil (fun H5 s5 => sameT s5 _ _ hc2) ?_ ?_
  · rintro d5 q5 r5 x5 acc H5 H6 e5 s5 hD5 hl5 hA ⟨rfl, hx5⟩
    obtain ⟨b5, c5, rfl, hq5, hc5⟩ := (PtsM.mono (sameT s5) hm2).get hx5 (by rw [e5]; exact getMid d5 q5 r5)
    have hdl5 : d5.length < 1000 := by
      rw [e5] at hlen
      simp at hlen
      omega
    refine ⟨rfl, ?_⟩
    refine ⟨_, rfl, b5, _, _, _, rfl, rfl, hq5, at0 _ _, _, rfl, rfl, _, rfl, ?_⟩
    by_cases c5' : q5.1 = nm
    · refine iteTb (decide_eq_true (congrArg V.int c5')) ⟨_, rfl, Lc.put hD0 s5 hD5 hl5 hdl5 ?_⟩
      rw [List.filter_append, List.filter_cons_of_pos (by simpa using c5')]
      have tk := tkLst (K := K) (o := .lst (acc ++ [.ref b5])) hD5
      exact (PtsM.mono tk hA).app (.one ⟨b5, c5, rfl, tk _ _ hq5, tk _ _ hc5⟩)
    · refine iteFb (decide_eq_false fun z => c5' (V.int.inj z)) (Lc.skip s5 hD5 hl5 ?_)
      rw [List.filter_append, List.filter_cons_of_neg (by simpa using c5')]
      simpa using hA
  rintro acc H3 s3 hD3 hl3 hA
  have hA : PtsM K H3 acc ((cur past).filter fun r => decide (r.1 = nm)) := hA
  have F3 : Fr [st, l] H H3 := F12.trans (Fr.same s3)
  have O3 := O2.same s3
  have L3 := L2'.same s3
  have hc3 := sameT s3 _ _ hc2
  have hm3 := PtsM.mono (sameT s3) hm2
  have k' : ∀ H' t cp' line due past', Fr [st, l, ow] H3 H' → LSt K H' st c0 l (n + 5) → OAt K H' ow cp' p sh ls past' → SqT K H' t [.str line, .str due] → DeedR p sh past line due past' → Q (.ref t) H' :=
    fun H' t cp' line due past' f => k H' t cp' line due past' ((F3.sub (by simp)).trans f)
  have f3 : ∀ {H'}, Fr [st, l] H3 H' → Fr [st, l, ow] H3 H' := fun f => f.sub (by simp)
  have nm5 : nm < 500 := by omega
  refine ⟨_, rfl, _, _, rfl, rfl, _, rfl, ?_⟩
  by_cases c1 : ch < 3
  · refine iteTb (decide_eq_true c1) ?_
    refine tSeq_to (fun σ' H' => ∃ s0 sg v7 v8, σ' = [some (.ref st), some (.ref ow), some (.ref c), some (.int ch), some (.int nm), some (.ref D), some (.ref s0), v7, v8] ∧ Same H3 H' ∧ SqT K H' s0 (sg.map V.int) ∧ SgnOk p sh nm sg) ?rest1 ?make1
    case make1 =>
      intro N hN
      refine ⟨_, rfl, _, rfl, ow, _, rfl, O3.gS, a, _, rfl, .inr O3.sq, _, _, rfl, rfl, _, rfl, ?_⟩
      rw [List.length_map]
      by_cases c2 : nm < (sh.length : Int)
      · refine iteTb (decide_eq_true c2) ?_
        obtain ⟨j, rfl⟩ : ∃ j : Nat, nm = (j : Int) := ⟨nm.toNat, by omega⟩
        have hj : j < ls.length := by rw [hls.1]; omega
        obtain ⟨v, hv, s0, rfl, hs0⟩ := O3.la.getR (List.getElem?_eq_getElem hj)
        obtain ⟨g1, g2⟩ := hls.2 _ (List.getElem_mem hj)
        refine ⟨_, rfl, ow, _, rfl, O3.gT, _, rfl, b, _, _, _, rfl, rfl, O3.lt, atI_nat (j := j) hv, hN _ _ ⟨s0, ls[j], _, _, rfl, fun _ _ e => e, hs0, ⟨nm0, by omega, fun _ => g1, by omega, fun i hi => by have := g2 i hi; omega⟩⟩⟩
      · refine iteFb (decide_eq_false c2) ?_
        refine ⟨le1000 (by simp), fun s0 hs0 => hN _ _ ⟨s0, [1], _, _, rfl, sameNew hs0, .of upd_same, ⟨nm0, by omega, fun z => absurd z c2, by simp, fun i hi => ?_⟩⟩⟩
        rw [List.mem_singleton.mp hi]
        omega
    rintro σ4 H4 ⟨s0, sg, v7, v8, rfl, s4, hs0, hg⟩
    have L4 := L3.same s4
    have O4 := O3.same s4
    refine tSeq_to (fun σ' H' => ∃ s0 sg v7 v8, σ' = [some (.ref st), some (.ref ow), some (.ref c), some (.int ch), some (.int nm), some (.ref D), some (.ref s0), v7, v8] ∧ Fr [st, l] H4 H' ∧ LSt K H' st c0 l (n + 4) ∧ SqT K H' s0 (sg.map V.int) ∧ SgnOk p sh nm sg) ?rest2 ?make2
    case make2 =>
      intro N hN
      refine ⟨_, rfl, le1000 (by simp), fun e he => ?_⟩
      have t1 := sameNew (o := .tup []) he
      refine neT (ns := sg) (ms := []) (sameT t1 _ _ hs0) (.of upd_same) ⟨_, rfl, ?_⟩
      by_cases c2 : sg = []
      · refine iteFb (by rw [c2]; rfl) (iteF ?_)
        exact hN _ _ ⟨s0, sg, _, _, rfl, Fr.same t1, (L4.same t1).mono (by omega), sameT t1 _ _ hs0, hg⟩
      · refine iteTb (by rw [decide_eq_false c2]; rfl) ?_
        refine ⟨_, rfl, st, c0, l, n + 2, 5, rfl, L4.same t1, by omega, by decide, by decide, fun H5 r5 F5 L5 r50 r51 => ?_⟩
        refine ⟨rfl, _, rfl, ?_⟩
        have F45 : Fr [st, l] H4 H5 := (Fr.same t1).trans F5
        by_cases c3 : r5 = 0
        · refine iteTb (decide_eq_true (congrArg V.int c3)) ?_
          obtain ⟨sg', x, rfl⟩ : ∃ sg' x, sg = sg' ++ [x] := ⟨sg.dropLast, sg.getLast c2, (List.dropLast_concat_getLast c2).symm⟩
          have O5 := O4.fr F45 nOw nCp
          have hs5 := F45.tk _ _ hs0
          have hcut : cutV ((sg' ++ [x]).map V.int) none (some (-1)) = sg'.map V.int := by rw [List.map_append]; exact undo_cut _ _
          have fin : ∀ H6 q, Same H5 H6 → SqT K H6 q (sg'.map V.int) → _ := fun (H6 : Hp) (q : Addr) (s6 : Same H5 H6) (hq : SqT K H6 q (sg'.map V.int)) => (⟨s6, hq⟩ : Same H5 H6 ∧ SqT K H6 q (sg'.map V.int))
          refine ⟨_, rfl, _, rfl, _, rfl, s0, _, rfl, hs5, ?_, ?_⟩
          · rintro ⟨_, z⟩
            exfalso
            have z' : HT.sIx ((sg' ++ [x]).map V.int).length ((sg' ++ [x]).map V.int).length (some (-1)) = ((sg' ++ [x]).map V.int).length := z
            rw [sIx_m1] at z'
            simp only [List.length_map, List.length_append, List.length_cons, List.length_nil] at z'
            omega
          intro _ q hq
          have t6 := sameNew (o := .tup (cutV ((sg' ++ [x]).map V.int) none (some (-1)))) hq
          have O6 := O5.same t6
          refine ⟨_, rfl, _, rfl, ow, _, rfl, O6.gB, _, _, rfl, rfl, st, c0, l, n + 3, _, rfl, L5.same t6, by omega, by omega, by omega, fun H7 r7 F7 L7 r70 r71 => ?_⟩
          refine ⟨le1000 (by simp), fun u hu => ?_⟩
          have t8 := sameNew (o := .tup [V.int r7]) hu
          have hq8 : SqT K (upd H7 u (.tup [V.int r7])) q (sg'.map V.int) := sameT t8 _ _ (F7.tk _ _ (.of (by rw [upd_same, hcut])))
          have hl12 := hg.l12
          simp only [List.length_append, List.length_cons, List.length_nil] at hl12
          refine catA_all (ys := [V.int r7]) hq8 (.of upd_same) (by rw [sizeLine_eq]; simp; omega) fun H9 z s9 hz => ?_
          refine hN _ _ ⟨z, sg' ++ [r7], _, _, rfl, (F45.trans ((Fr.same t6).trans F7)).trans (Fr.same (t8.trans s9)), ((L7.same t8).same s9), by rw [List.map_append]; exact hz, ⟨hg.n0, hg.n1, fun z => ?_, by simp; omega, fun i hi => ?_⟩⟩
          · have := hg.len z
            simp at this ⊢
            omega
          · rcases List.mem_append.mp hi with hi | hi
            · exact hg.bd i (List.mem_append_left _ hi)
            · rw [List.mem_singleton.mp hi]
              omega
        · refine iteFb (decide_eq_false fun z => c3 (V.int.inj z)) ?_
          exact hN _ _ ⟨s0, sg, _, _, rfl, F45, L5.mono (by omega), F45.tk _ _ hs0, hg⟩
    clear hg hs0
    rintro σ5 H5 ⟨s0, sg, v7, v8, rfl, F5, L5, hs0, hg⟩
    have F35 : Fr [st, l] H3 H5 := (Fr.same s4).trans F5
    have hb5 : ∀ i ∈ sg, 0 ≤ i ∧ i < 500 := fun i hi => by have := hg.bd i hi; omega
    have hl12 := hg.l12
    refine ⟨⟨_, rfl⟩, _, rfl, _, rfl, log_bd (by omega) (by omega), _, rfl, s0, sg, rfl, hs0, ⟨by omega, hb5⟩, fun H6 s6 => ?_⟩
    refine ⟨le1000 (by simp), fun lq hlq => ?_⟩
    have t7 := sameNew (o := .lst [V.str (lit "come"), V.str (Str.ofString (toString nm)), V.str (lit ":"), V.str (rowM sg)]) hlq
    refine ⟨_, lq, [wCome, istr nm, wColon, rowM sg], rfl, rfl, .inl (.of upd_same), ?_, ?_⟩
    · have h1 := rowM_len hb5 hl12
      have h2 := (istr_ok nm0 nm5).1
      have h3 : (lit " ").length = 1 := by decide +kernel
      have h4 : wCome.length = 4 := by decide +kernel
      have h5 : wColon.length = 1 := by decide +kernel
      simp only [List.map_cons, List.map_nil, List.sum_cons, List.sum_nil, List.length_cons, List.length_nil]
      rw [h3, h4, h5]
      omega
    generalize hH7 : upd H6 lq (.lst [V.str (lit "come"), V.str (Str.ofString (toString nm)), V.str (lit ":"), V.str (rowM sg)]) = H7 at *
    have s57 : Same H5 H7 := s6.trans t7
    have F37 : Fr [st, l] H3 H7 := F35.trans (Fr.same s57)
    have L7 := L5.same s57
    have O7 := O3.fr F37 nOw nCp
    have hs7 := sameT s57 _ _ hs0
    have refuse : ∀ H', Same H7 H' → (nm ∈ (cur past).map (·.1) ∨ nm = sh.length ∨ ∃ i ∈ sg, p ≤ i) → ∀ t, H' t = none → Q (.ref t) (upd H' t (.tup [.str (comeL nm sg), .str (lit "no")])) := fun H' s' hno t ht => by
      have s'' := s'.trans (sameNew (o := .tup [V.str (comeL nm sg), V.str (lit "no")]) ht)
      exact k' _ t cp _ _ past (f3 (F37.trans (Fr.same s''))) ((L7.same s'').mono (by omega)) ⟨_, _, _, _, _, O7.same s''⟩ (.of upd_same) (come_no (by omega) h8 hD.ok hg hno)
    refine ⟨_, rfl, le1000 (by simp), fun e he => ?_⟩
    have t8 := sameNew (o := .lst []) he
    have hD7 : H7 D = some (.lst acc) := F37.at hD3 (by
      obtain ⟨g1, g2, g3⟩ := L2'.fresh hD0
      simp [g1, g3])
    refine neMnil (.of (t8 _ _ hD7)) (PtsM.mono (F37.tk.trans (sameT t8)) hA) (.of upd_same) ⟨_, rfl, ?_⟩
    by_cases d1 : ((cur past).filter fun r => decide (r.1 = nm)) = []
    case neg =>
      refine iteTb (by rw [decide_eq_false d1]; rfl) (iteT ?_)
      exact ⟨_, rfl, le1000 (by simp), fun t ht => refuse _ t8 (.inl (Classical.not_not.mp fun z => d1 (there_nil.mpr z))) t ht⟩
    refine iteFb (by rw [decide_eq_true d1]; rfl) ?_
    have O8 := O7.same t8
    refine ⟨_, rfl, _, rfl, ow, _, rfl, O8.gS, a, _, rfl, .inr O8.sq, rfl, _, rfl, ?_⟩
    rw [List.length_map]
    by_cases d2 : nm = (sh.length : Int)
    case pos =>
      refine iteTb (decide_eq_true (congrArg V.int d2)) (iteT ?_)
      exact ⟨_, rfl, le1000 (by simp), fun t ht => refuse _ t8 (.inr (.inl d2)) t ht⟩
    refine iteFb (decide_eq_false fun z => d2 (V.int.inj z)) ?_
    refine ⟨le1000 (by simp), fun z0 hz0 => ?_⟩
    have t9 := t8.trans (sameNew (o := .tup [V.int 0]) hz0)
    refine ⟨_, rfl, ?_⟩
    refine catA_all (xs := [V.int 0]) (.of upd_same) (sameT t9 _ _ hs7) (by rw [sizeLine_eq]; simp; omega) fun H10 z s10 hz => ?_
    have t10 := t9.trans s10
    have O10 := O7.same t10
    refine ⟨z, 0, sg, rfl, hz, _, rfl, ow, _, rfl, O10.gB, _, _, rfl, rfl, _, rfl, ?_⟩
    have hmax := max_ge (p := p) (by omega) sg 0
    by_cases d3 : p ≤ PySem.W.maxOf 0 sg
    case pos =>
      refine iteTb (decide_eq_true d3) ?_
      refine ⟨_, rfl, le1000 (by simp), fun t ht => refuse _ t10 (.inr (.inr ?_)) t ht⟩
      rcases hmax.mp d3 with h | h
      · omega
      · exact h
    refine iteFb (decide_eq_false d3) ?_
    have hlt : ∀ i ∈ sg, i < p := fun i hi => by
      by_cases c : i < p
      · exact c
      · exact absurd (hmax.mpr (.inr ⟨i, hi, by omega⟩)) d3
    have hnot : ¬ nm ∈ (cur past).map (·.1) := there_nil.mp d1
    have hyes := come_yes (by omega) h8 hD.ok hg hnot d2 hlt
    -- the letter comes
    have F310 : Fr [st, l] H3 H10 := F37.trans (Fr.same t10)
    have hc10 := F310.tk _ _ hc3
    have hm10 := PtsM.mono F310.tk hm3
    have hs10 := sameT t10 _ _ hs7
    refine ⟨_, rfl, ow, _, rfl, O10.gP, _, rfl, _, rfl, _, rfl, le1000 (by simp), fun q hq => ⟨le1000 (by simp), fun q2 hq2 => ?_⟩⟩
    have u1 := (sameNew (o := .tup [V.int nm, V.ref s0]) hq).trans (sameNew (o := .tup [V.ref q]) hq2)
    have hm11 := PtsM.mono (sameT u1) hm10
    refine catA_all (ys := [V.ref q]) (sameT u1 _ _ hc10) (.of upd_same) (by rw [sizeLine_eq]; simp; omega) fun H12 u s12 hu => ?_
    have hm12 := PtsM.mono (sameT s12) hm11
    have hq12 : PairM K H12 (.ref q) (nm, sg) := ⟨q, s0, rfl, sameT s12 _ _ (sameT (sameNew hq2) _ _ (.of upd_same)), sameT (u1.trans s12) _ _ hs10⟩
    obtain ⟨zf, zs⟩ := zip_fst hm12
    have hall : ∀ b ∈ List.zip ms (cur past) ++ [(V.ref q, (nm, sg))], PairM K H12 b.1 b.2 := fun b hb => by
      rcases List.mem_append.mp hb with hb | hb
      · exact zip_pairs hm12 b hb
      · rw [List.mem_singleton.mp hb]
        exact hq12
    refine ⟨u, List.zip ms (cur past) ++ [(V.ref q, (nm, sg))], rfl, .inr (by rw [List.map_append, zf]; exact hu), fun b hb => dpM (hall b hb), by simp [hml]; omega, fun cs l2 hperm hpw hl2 => ?_⟩
    have hcs2 : cs.map (·.2) = srtM (cur past ++ [(nm, sg)]) := by
      refine srt_unique ?_ ?_ ?_
      · have := hperm.map (·.2)
        rw [List.map_append, zs] at this
        exact this
      · exact (hc.ok.snoc ⟨nm0, by omega⟩ hnot (hg.len (by omega)) fun i hi => ⟨(hg.bd i hi).1, hlt i hi⟩).nd
      · exact List.pairwise_map.mpr hpw
    refine ⟨l2, _, rfl, .inl ⟨.of upd_same, fun tt htt => ⟨le1000 (by simp), fun zz hzz => ?_⟩⟩⟩
    have u2 := (sameNew (o := .lst (cs.map (·.1))) hl2).trans ((sameNew (o := .tup (cs.map (·.1))) htt).trans (sameNew (o := .lst [V.ref tt]) hzz))
    have u12 := u1.trans (s12.trans u2)
    have O13 := O10.same u12
    have hms : PtsM K _ (cs.map (·.1)) (cs.map (·.2)) := PtsM.mono (sameT u2) (all2_of cs fun b hb => hall b (hperm.subset hb))
    rw [hcs2] at hms
    have hpvl := O13.pa.len
    refine ⟨cp, zz, _, _, rfl, rfl, O13.pt, upd_same, le1000 (by simp; omega), fun cp2 hcp2 => ?_⟩
    have u3 := sameNew (o := .lst (pvs ++ [V.ref tt])) hcp2
    have O14 := O13.same u3
    refine ⟨_, rfl, ow, _, rfl, DPut.k (k := kP) O14.d (small1000 (by have := O14.len; omega)), ?_⟩
    have hN14 : NowE K _ (.ref tt) (srtM (cur past ++ [(nm, sg)])) := ⟨tt, cs.map (·.1), rfl, sameT u3 _ _ (sameT (sameNew hzz) _ _ (.of upd_same)), PtsM.mono (sameT u3) hms⟩
    have O15 := O14.put (cp2 := cp2) (pvs2 := pvs ++ [V.ref tt]) upd_same (cat_snoc O14.pa hN14)
    have FF : Fr [st, l, ow] H3 _ := (f3 (F310.trans (Fr.same (u12.trans u3)))).trans (Fr.sub (frUpd (S := [ow]) (o := .dK (putK kvs kP (.ref cp2))) (by simp) O14.d (fun z => z)) (by simp))
    have L15 := ((L7.same (t10.trans (u12.trans u3))).upd (f := ow) (o := .dK (putK kvs kP (.ref cp2))) hos ne2 ne1)
    have hcl : (cur (past ++ [srtM (cur past ++ [(nm, sg)])])).length = (cur past).length + 1 := by
      rw [cur_app, (srt_perm _).length_eq]
      simp
    refine ⟨_, rfl, _, rfl, ow, cp2, p, sh, ls, _, rfl, ⟨_, _, _, _, _, O15⟩, by simp, hD.hs, ?_, fun H16 s16 => ?_⟩
    · rw [hcl]
      have h1 := hyes.ok.cur.len
      rw [hcl] at h1
      exact h1
    rw [hcl]
    have hb := reachM_bd hD.hs ((cur past).length + 1)
    refine ⟨_, rfl, log_bd (by omega) (by omega), le1000 (by simp), fun t ht => ?_⟩
    have s17 := s16.trans (sameNew (o := .tup [V.str (comeL nm sg), V.str (istr (reachM sh ((cur past).length + 1)))]) ht)
    exact k' _ t cp2 _ _ _ (FF.trans (Fr.same s17)) ((L15.same s17).mono (by omega)) ⟨_, _, _, _, _, O15.same s17⟩ (.of upd_same) hyes
  refine iteFb (decide_eq_false c1) ?_
  refine ⟨_, rfl, _, _, rfl, rfl, _, rfl, ?_⟩
  have szD : (lit "drop ").length + (istr nm).length ≤ sizeLine := by
    have h2 := (istr_ok nm0 nm5).1
    have h3 : (lit "drop ").length = 5 := by decide +kernel
    exact le1000 (by omega)
  by_cases c2 : ch < 5
  · refine iteTb (decide_eq_true c2) ?_
    refine ⟨_, rfl, le1000 (by simp), fun e he => ?_⟩
    have t4 := sameNew (o := .lst []) he
    refine eqMnil (.of (t4 _ _ hD3)) (PtsM.mono (sameT t4) hA) (.of upd_same) ⟨_, rfl, ?_⟩
    have O4 := O3.same t4
    by_cases d1 : ((cur past).filter fun r => decide (r.1 = nm)) = []
    · refine iteTb (decide_eq_true d1) ?_
      refine ⟨_, rfl, _, rfl, log_bd (by omega) (by omega), _, _, rfl, rfl, szD, le1000 (by simp), fun t ht => ?_⟩
      have s5 := t4.trans (sameNew (o := .tup [V.str (dropL nm), V.str (lit "no")]) ht)
      exact k' _ t cp _ _ past (Fr.same s5) ((L3.same s5).mono (by omega)) ⟨_, _, _, _, _, O3.same s5⟩ (.of upd_same) (drop_no hD.ok nm0 nm5 (there_nil.mp d1))
    refine iteFb (decide_eq_false d1) ?_
    have hin : nm ∈ (cur past).map (·.1) := Classical.not_not.mp fun z => d1 (there_nil.mpr z)
    have hyes := drop_yes hD.ok nm0 nm5 hin
    have hc4 := sameT t4 _ _ hc3
    have hm4 := PtsM.mono (sameT t4) hm3
    refine ⟨_, rfl, ow, _, rfl, O4.gP, _, rfl, c, rfl, ⟨_, hc4⟩, fun E0' hE0 => ?_⟩
    refine lc_ac (walk_tup (xs := ms)) (cur past) hml.symm hE0 (fun d acc H' => PtsM K H' acc (d.filter fun r => decide (r.1 ≠ nm))) .nil (fun H5 s5 => sameT s5 _ _ hc4) ?_ ?_
    · rintro d5 q5 r5 x5 acc5 H5 H6 e5 s5 hD5 hl5 hA5 ⟨rfl, hx5⟩
      obtain ⟨b5, c5, rfl, hq5, hc5⟩ := (PtsM.mono (sameT s5) hm4).get hx5 (by rw [e5]; exact getMid d5 q5 r5)
      have hdl5 : d5.length < 1000 := by
        rw [e5] at hlen
        simp at hlen
        omega
      refine ⟨rfl, ?_⟩
      refine ⟨_, rfl, b5, _, _, _, rfl, rfl, hq5, at0 _ _, _, rfl, rfl, _, rfl, ?_⟩
      by_cases c5' : q5.1 = nm
      · refine iteFb (by rw [decide_eq_true (congrArg V.int c5')]; rfl) (Lc.skip s5 hD5 hl5 ?_)
        rw [List.filter_append, List.filter_cons_of_neg (by simpa using c5')]
        simpa using hA5
      · refine iteTb (by rw [decide_eq_false fun z => c5' (V.int.inj z)]; rfl) ⟨_, rfl, Lc.put hE0 s5 hD5 hl5 hdl5 ?_⟩
        rw [List.filter_append, List.filter_cons_of_pos (by simpa using c5')]
        have tk := tkLst (K := K) (o := .lst (acc5 ++ [.ref b5])) hD5
        exact (PtsM.mono tk hA5).app (.one ⟨b5, c5, rfl, tk _ _ hq5, tk _ _ hc5⟩)
    rintro acc5 H5 s5 hE5 hl5 hA5
    have hA5 : PtsM K H5 acc5 (wo (cur past) nm) := hA5
    refine ⟨E0', _, rfl, .inl ⟨.of hE5, fun tt htt => ⟨le1000 (by simp), fun zz hzz => ?_⟩⟩⟩
    have u2 := (sameNew (o := .tup acc5) htt).trans (sameNew (o := .lst [V.ref tt]) hzz)
    have s35 := t4.trans (s5.trans u2)
    have O13 := O3.same s35
    have hpvl := O13.pa.len
    refine ⟨cp, zz, _, _, rfl, rfl, O13.pt, upd_same, le1000 (by simp; omega), fun cp2 hcp2 => ?_⟩
    have u3 := sameNew (o := .lst (pvs ++ [V.ref tt])) hcp2
    have O14 := O13.same u3
    refine ⟨_, rfl, ow, _, rfl, DPut.k (k := kP) O14.d (small1000 (by have := O14.len; omega)), ?_⟩
    have hN14 : NowE K _ (.ref tt) (wo (cur past) nm) := ⟨tt, acc5, rfl, sameT u3 _ _ (sameT (sameNew hzz) _ _ (.of upd_same)), PtsM.mono (sameT (u2.trans u3)) hA5⟩
    have O15 := O14.put (cp2 := cp2) (pvs2 := pvs ++ [V.ref tt]) upd_same (cat_snoc O14.pa hN14)
    have fO := frUpd (S := [ow]) (o := .dK (putK kvs kP (.ref cp2))) (by simp) O14.d (fun z => z)
    have FF : Fr [st, l, ow] H3 _ := (Fr.same (s35.trans u3)).trans (Fr.sub fO (by simp))
    have L15 := ((L3.same (s35.trans u3)).upd (f := ow) (o := .dK (putK kvs kP (.ref cp2))) hos ne2 ne1)
    have hD15 := fO.at ((s35.trans u3) _ _ hD3) (show D ∉ [ow] by
      have := ne_of hD3 O3.d (by intro z; cases z)
      simpa using this)
    have hA15 := PtsM.mono ((sameT (s35.trans u3)).trans fO.tk) hA
    obtain ⟨q0, r0, hq0⟩ : ∃ q0 r0, ((cur past).filter fun r => decide (r.1 = nm)) = q0 :: r0 := by
      cases e : (cur past).filter fun r => decide (r.1 = nm) with
      | nil => exact absurd e d1
      | cons x y => exact ⟨x, y, rfl⟩
    have hlet : letM (cur past) nm = q0.2 := by
      unfold letM
      rw [hq0]
      rfl
    have htell := let_tell hp hD.hs hc hin
    rw [hlet] at htell hyes
    rw [hq0] at hA15
    cases hA15 with
    | cons r _ =>
    obtain ⟨b6, c6, rfl, hq6, hc6⟩ := r
    refine ⟨_, rfl, _, rfl, log_bd (by omega) (by omega), _, _, rfl, rfl, szD, ?_⟩
    refine ⟨_, rfl, D, _, _, _, rfl, rfl, .of hD15, at0 _ _, b6, _, _, _, rfl, rfl, hq6, atI_nat (j := 1) rfl, c6, _, rfl, hc6, htell, fun H16 s16 => ?_⟩
    refine ⟨le1000 (by simp), fun t ht => ?_⟩
    have s17 := s16.trans (sameNew (o := .tup [V.str (dropL nm), V.str (rowM q0.2)]) ht)
    exact k' _ t cp2 _ _ _ (FF.trans (Fr.same s17)) ((L15.same s17).mono (by omega)) ⟨_, _, _, _, _, O15.same s17⟩ (.of upd_same) hyes
  refine iteFb (decide_eq_false c2) ?_
  have hpvl := O3.pa.len
  refine ⟨_, rfl, ow, _, rfl, O3.gP, cp, _, rfl, .inl (.of O3.pt), rfl, _, rfl, ?_⟩
  have hund := undo_deed hD.ok
  have hpos := List.length_pos_iff.mpr hne
  by_cases d1 : past.length = 1
  · refine iteTb (decide_eq_true (congrArg V.int (by omega))) ?_
    refine ⟨le1000 (by simp), fun t ht => ?_⟩
    have s5 := sameNew (o := .tup [V.str (lit "undo"), V.str (lit "nothing")]) ht
    have e : undoA past = (lit "nothing", past) := if_neg (by omega)
    rw [e] at hund
    exact k' _ t cp _ _ _ (Fr.same s5) ((L3.same s5).mono (by omega)) ⟨_, _, _, _, _, O3.same s5⟩ (.of upd_same) hund
  · refine iteFb (decide_eq_false fun z => d1 (by have := V.int.inj z; omega)) ?_
    have e : undoA past = (lit "done", past.take (past.length - 1)) := if_pos (by omega)
    rw [e] at hund
    obtain ⟨us0, u, hpv, hall0, _⟩ := All2.last (pre := past.dropLast) (m := cur past) (by rw [← hD.ok.split]; exact O3.pa)
    refine ⟨_, rfl, ow, _, rfl, O3.gP, _, rfl, _, rfl, cp, _, rfl, .of O3.pt, fun cp2 hcp2 => ?_⟩
    have hcut : cutV pvs none (some (-1)) = us0 := by rw [hpv]; exact undo_cut _ _
    have u3 := sameNew (o := .lst (cutV pvs none (some (-1)))) hcp2
    have O14 := O3.same u3
    refine ⟨_, rfl, ow, _, rfl, DPut.k (k := kP) O14.d (small1000 (by have := O14.len; omega)), ?_⟩
    have hdl : past.dropLast = past.take (past.length - 1) := List.dropLast_eq_take
    have O15 := O14.put (cp2 := cp2) (pvs2 := us0) (past2 := past.take (past.length - 1)) (by rw [upd_same, hcut]) (by rw [← hdl]; exact hall0.imp fun _ _ q => q.mono (sameT u3))
    have FF : Fr [st, l, ow] H3 _ := (Fr.same u3).trans (Fr.sub (frUpd (S := [ow]) (o := .dK (putK kvs kP (.ref cp2))) (by simp) O14.d (fun z => z)) (by simp))
    have L15 := ((L3.same u3).upd (f := ow) (o := .dK (putK kvs kP (.ref cp2))) hos ne2 ne1)
    refine ⟨le1000 (by simp), fun t ht => ?_⟩
    have s17 := sameNew (o := .tup [V.str (lit "undo"), V.str (lit "done")]) ht
    exact k' _ t cp2 _ _ _ (FF.trans (Fr.same s17)) ((L15.same s17).mono (by omega)) ⟨_, _, _, _, _, O15.same s17⟩ (.of upd_same) hund
end
end NL
/-! R9: repr of data; defs that show data; a text many times -/
namespace NL
open PySem PySem.Spec PyProof.Rows L2
section
variable {X : Cx}
theorem call_reprD (hg : X.A.guards = some []) (hu : X.A.units + 64 < cLine) : CallR X (.builtin "repr") (fun xs H Q => ∃ a d, xs = [V.ref a] ∧ Dp X.K H (.ref a) d ∧ d.showable = true ∧ d.hasDict = false ∧ d.depth ≤ 60 ∧ d.shown.length ≤ sizeLine ∧ Q (.str d.shown) H) := by
  intro pins s σ H xs us Q I r h
  obtain ⟨a, d, rfl, hd, h1, h2, h3, h4, q⟩ := h
  rw [Vals.ref1 r]
  obtain ⟨as, rd⟩ := Dp.reads I d _ _ hd (show RelV (.ref a) (.ref a) from rfl)
  exact repr_of_reads' rd h1 (PyData.noDict_hsm h2) hg (by omega) (fun _ _ e => e) (fun h' u tk hk => ⟨.str d.shown, H, I.kept hk, ⟨_, rfl⟩, q⟩) h4
def rMulS : R2 := fun x y H Q => ∃ (z : Str) (n : Int), x = .str z ∧ y = .int n ∧ 1 < n ∧ n < 100 ∧ 0 < z.length ∧ z.length ≤ 100 ∧ (⟨(List.replicate n.toNat z.cps).foldl (· ++ ·) #[]⟩ : Str).length ≤ sizeLine ∧ Q (.str ⟨(List.replicate n.toNat z.cps).foldl (· ++ ·) #[]⟩) H
theorem op_mul_str : OpR X (binaryOp .Mult) rMulS := by
  intro pins s σ H x y v u Q I rx ry h
  obtain ⟨z, n, rfl, rfl, h1, h2, h3, h4, h5, q⟩ := h
  obtain ⟨t, rfl⟩ := rx
  obtain ⟨t', rfl⟩ := ry
  have e1 : ¬ n < 1 := by omega
  have e2 : (n == 1 || z.length == 0) = false := by
    rw [Bool.or_eq_false_iff]
    exact ⟨beq_eq_false_iff_ne.mpr (by omega), beq_eq_false_iff_ne.mpr (by omega)⟩
  have hm : z.length * n.toNat ≤ 100 * 100 := Nat.mul_le_mul h4 (by omega)
  have hsz : z.length * n.toNat ≤ sizeLine := Nat.le_trans hm (by rw [sizeLine_eq]; decide)
  refine P.mul_str ?_ (fun _ _ => ?_) (fun _ _ => ?_) ?_
  · rw [Bool.or_eq_false_iff]
    exact ⟨decide_eq_false (by omega), decide_eq_false (by omega)⟩
  · have : 100 ≤ (2 ^ 63 - 1 : Int) / n := by
      rw [Int.le_ediv_iff_mul_le (by omega)]
      omega
    omega
  · unfold Builtin.Str.tooLong
    exact decide_eq_false (by omega)
  · rw [if_neg e1, if_neg (by rw [e2]; exact Bool.false_ne_true)]
    exact ⟨h5, .str _, H, I.tok _, ⟨_, rfl⟩, q⟩
end
/-- a def that keeps its promise where no repr is under way -/
structure FnOkG (P : Program) (w : World) (K : Frag) (mg : Str → Option Value) (base : Heap) (CX : CXT) (k : Nat) (g : Addr) (fd : FuncData) (ps : List Str) (sp : Sp) : Prop where
  len : ∀ xs H Q E, sp xs H Q E → xs.length = ps.length
  run : ∀ (A : Around) (outer : List Env) (s : Shared) (H : Hp) (args : Args) (us : List Value) (xs : List V) (Q : VK) (E : XK), Room k A → A.guards = some [] → Env0 P w K mg base A outer s H → BindsTo s fd args (ps.zip us) → Vals xs us → sp xs H Q E →
    codeAny (model P w) A (.call (.ref g) args) (CR CX outer P w H s Q E) s
section
variable {P : Program} {w : World} {K : Frag} {mg : Str → Option Value} {base : Heap}
/-- the rule for such a def: as FunD.ok, with the caller's guards told -/
theorem okG {x qual : Str} {params : Arguments} {body : List Stmt} {scope : Scope} {dvs : List V} {kws : List (Str × V)} {g : Addr} {fd : FuncData} {CX : CXT} {N ps : List Str} {k : Nat} {sp : Sp} (F : FunD K x qual params body scope dvs kws g fd) (S : FnScope N ps scope) (len : ∀ xs H Q E, sp xs H Q E → xs.length = ps.length)
    (walk : ∀ (cdv : Value) (A : Around) (outer : List Env) (s : Shared) (H : Hp) (xs : List V) (Q : VK) (E : XK), Room k (A.deeper (envOfC qual scope s.heap.objs.size g cdv)) → A.guards = some [] → sp xs H Q E →
      ∃ t, PSs (cxOf CX P w K mg base N qual scope g cdv A outer s H E) body t ∧ t { nx := fun _ H' => Q .non H', rt := Q } (start N xs) H) : FnOkG P w K mg base CX (k + 1) g fd ps sp := by
  obtain ⟨oc, od, dV, kV, doc, pm, an, cdv, ct, osl, rfl, place, code, _⟩ := F.ex
  constructor
  · exact len
  · intro A outer s H args us xs Q E room guard env bind vals prom
    have old : ∀ b o, base.get? b = some o → s.heap.get? b = some o := fun b o e => (env.bs b o e).1
    have inK := env.mod.kin.keeps old
    apply codeAny_call_function room.depth (inK _ _ place) rfl S.co S.gen rfl (PySem.W.codeRec_of inK code)
    apply bind
    apply wpAny_newFunctionEnv_cells S.kind
    · rintro ⟨m, v⟩ q
      rcases S.par m (List.of_mem_zip q).1 with q | q
      · exact .inl q
      · exact .inr ⟨q, PySem.W.cellsFrom_some _ _ _ (.inl q)⟩
    · rintro ev rfl s1 made
      refine ⟨(env.mod.nolimit.keeps old).keeps made.toInCall.keep, codeAny_func ?_⟩
      obtain ⟨t, steps, done⟩ := walk cdv A outer s H xs Q E (room.deeper _) guard prom
      refine wpAny_mono (steps.run [] s1 _ H _ (inv_start S room.hd env (len _ _ _ _ prom) vals made) done) ?_ fun _ _ q => q
      intro fl s' q
      cases fl with
      | next =>
        obtain ⟨_, H', J, q⟩ := q
        exact ⟨.non, H', J.os, J.bare, J.base, J.hok, rfl, q⟩
      | ret u =>
        obtain ⟨v, _, H', J, rel, q⟩ := q
        exact ⟨v, H', J.os, J.bare, J.base, J.hok, rel, q⟩
      | _ =>
        obtain ⟨_, _, _, q⟩ := q
        exact q.elim
/-- a def of the module of that kind, by its name -/
structure CalG (P : Program) (w : World) (K : Frag) (mg : Str → Option Value) (base : Heap) (CX : CXT) (k : Nat) (x : Str) (sp : Sp) : Prop where
  ex : ∃ (f : Addr) (fd : FuncData) (ps : List Str), FnOkG P w K mg base CX k f fd ps sp ∧ mg x = some (.ref f) ∧ PySem.W.keepIn K (.ref f) = true ∧ Binds K fd ps []
end
section
variable {X : Cx} {CX : CXT} {k j : Nat} {x : Str} {sp : Sp} {E : XK} {p pos : Pos} {e : Expr} {es : List Expr} {t : TA}
theorem pe_calG (c : CalG X.prog X.w X.K X.mg X.base CX k x sp) (hr : Room j X.A) (hk : k ≤ j) (guard : X.A.guards = some []) (hx : Passes CX X E) (ha : PA X (e :: es) t) (hg : Gl X x := by rfl)
    (hdb : (x == ("__debug__" : Str)) = false := by decide) (he : starEach (e :: es) X.env = (false, eval e X.env) :: starEach es X.env := by rfl) (hpl : (backTo pos (starEach es X.env)).any (·.1) = false := by rfl) :
    PE X (.Call (.Name x p) (e :: es) [] pos) (tCall sp [] E t) := by
  obtain ⟨f, fd, ps, F, named, kp, b⟩ := c.ex
  constructor
  intro pins s σ H Q I h
  apply wpAny_Call_Name_kw
  refine ld_glob I hg named ?_ hdb
  refine PySem.W.callWith_K (h₀ := X.base) I.ok.mod.kin kp (thn (ha.run pos pins s σ H _ I h) ?_) he hpl
  rintro us s1 ⟨xs, H1, J, rel, q⟩
  have fits : (us ++ []).length = ps.length := by
    rw [List.append_nil, ← rel.length, ← F.len _ _ _ _ q, List.append_nil]
  refine ⟨J.kIn, wpAny_call (codeAny_mono (F.run X.A X.stack s1 H1 ⟨us, []⟩ (us ++ []) (xs ++ []) Q E (hr.mono hk) guard J.env0 (b s1 us J.kIn fits) (rel.append .nil) q) ?_)⟩
  rintro (e' | fl) s' z
  · exact hx pins σ H1 s1 e' s' J z
  · cases fl with
    | ret u => exact J.after z
    | _ => exact False.elim z
end
/-! sizes of what is shown -/
theorem shown_ints : ∀ ns : List Int, PyData.shownAll (ns.map PyData.int) = ns.map istr
  | [] => rfl
  | n :: ns => by
    show PyData.shown (.int n) :: PyData.shownAll (ns.map PyData.int) = _
    rw [shown_ints ns]
    rfl
theorem piled_ints {ns : List Int} (h : ∀ n ∈ ns, 0 ≤ n ∧ n < 500) : piled (ns.map istr) ≤ 5 * ns.length := by
  induction ns with
  | nil => exact Nat.le_refl _
  | cons n ns ih =>
    have h1 := ih fun m hm => h m (List.mem_cons_of_mem _ hm)
    have h2 := (istr_ok (h n List.mem_cons_self).1 (h n List.mem_cons_self).2).1
    rw [List.map_cons, piled_cons, List.length_cons]
    omega
theorem tup_len (ts : List Str) : (tupleText ts).length ≤ piled ts + 3 := by
  unfold tupleText
  rw [strLen_append, strLen_append]
  have h1 : ("(" : Str).length = 1 := by decide +kernel
  have h2 : ((if ts.length == 1 then ",)" else ")" : String) : Str).length ≤ 2 := by split <;> decide +kernel
  have h3 : (Str.join ", " ts).length ≤ piled ts := by
    cases ts with
    | nil => exact Nat.zero_le _
    | cons a b =>
      have := join_length_add (a :: b) (by simp)
      omega
  omega
theorem shown_let {ns : List Int} (h : ∀ n ∈ ns, 0 ≤ n ∧ n < 500) : (PyData.shown (.tuple (ns.map .int))).length ≤ 5 * ns.length + 3 := by
  have e : PyData.shown (.tuple (ns.map .int)) = tupleText (ns.map istr) := by
    show tupleText (PyData.shownAll (ns.map PyData.int)) = _
    rw [shown_ints]
  rw [e]
  have := tup_len (ns.map istr)
  have := piled_ints h
  omega
theorem shownM {q : Int × List Int} (h0 : 0 ≤ q.1 ∧ q.1 < 500) (h : ∀ n ∈ q.2, 0 ≤ n ∧ n < 500) (hl : q.2.length ≤ 12) : (encM q).shown.length ≤ 73 := by
  have e : (encM q).shown = tupleText [istr q.1, PyData.shown (.tuple (q.2.map .int))] := rfl
  rw [e]
  have h1 := tup_len [istr q.1, PyData.shown (.tuple (q.2.map .int))]
  have h2 := (istr_ok h0.1 h0.2).1
  have h3 := shown_let h
  rw [piled_cons, piled_cons, piled_nil] at h1
  omega
theorem shown_all : ∀ (ds : List PyData), PyData.shownAll ds = ds.map PyData.shown
  | [] => rfl
  | d :: ds => congrArg (PyData.shown d :: ·) (shown_all ds)
def encMs (m : Mail) : PyData := .tuple (m.map encM)
theorem shownMs {p : Int} {sh : List Int} {m : Mail} (hp : Prm p) (hs : ShOk sh) (h : CurOk p sh m) : (encMs m).shown.length ≤ 700 := by
  have e : (encMs m).shown = tupleText ((m.map encM).map PyData.shown) := by
    show tupleText (PyData.shownAll (m.map encM)) = _
    rw [shown_all]
  rw [e]
  have h1 := tup_len ((m.map encM).map PyData.shown)
  have hl := h.len
  have h8 := hs.len.2
  have hpb := hp.bd
  have hsum := hs.sum
  have : ∀ m' : Mail, (∀ q ∈ m', q ∈ m) → piled ((m'.map encM).map PyData.shown) ≤ 75 * m'.length := by
    intro m' hm'
    induction m' with
    | nil => exact Nat.le_refl _
    | cons q m' ih =>
      have h2 := ih fun r hr => hm' r (List.mem_cons_of_mem _ hr)
      have hq := hm' q List.mem_cons_self
      have h3 := h.ok.num q hq
      have h4 := h.ok.len q hq
      have h5 := shownM (q := q) (by omega) (fun n hn => by have := h.ok.sg q hq n hn; omega) (by omega)
      rw [List.map_cons, List.map_cons, piled_cons, List.length_cons]
      omega
  have := this m fun q hq => hq
  omega
theorem showI : ∀ {ns : List Int}, (∀ n ∈ ns, 0 ≤ n ∧ n < 500) → PyData.showableAll (ns.map PyData.int) = true
  | [], _ => rfl
  | n :: ns, h => by
    show (decide (n.natAbs.log2 < 1920) && PyData.showableAll (ns.map PyData.int)) = true
    rw [showI fun m hm => h m (List.mem_cons_of_mem _ hm), decide_eq_true (istr_ok (h n List.mem_cons_self).1 (h n List.mem_cons_self).2).2.1]
    rfl
theorem nodI : ∀ ns : List Int, PyData.hasDictAll (ns.map PyData.int) = false
  | [] => rfl
  | n :: ns => by
    show (false || PyData.hasDictAll (ns.map PyData.int)) = false
    rw [nodI ns]
    rfl
theorem showMs : ∀ {m : Mail}, (∀ q ∈ m, 0 ≤ q.1 ∧ q.1 < 500 ∧ ∀ n ∈ q.2, 0 ≤ n ∧ n < 500) → PyData.showableAll (m.map encM) = true
  | [], _ => rfl
  | q :: m, h => by
    obtain ⟨h1, h2, h3⟩ := h q List.mem_cons_self
    show ((decide (q.1.natAbs.log2 < 1920) && (PyData.showableAll (q.2.map PyData.int) && true)) && PyData.showableAll (m.map encM)) = true
    rw [showMs fun r hr => h r (List.mem_cons_of_mem _ hr), showI h3, decide_eq_true (istr_ok h1 h2).2.1]
    rfl
theorem nodMs : ∀ m : Mail, PyData.hasDictAll (m.map encM) = false
  | [] => rfl
  | q :: m => by
    show ((false || (PyData.hasDictAll (q.2.map PyData.int) || false)) || PyData.hasDictAll (m.map encM)) = false
    rw [nodMs m, nodI]
    rfl
end NL
/-! L10: a desk led right -/
namespace NL
open PySem PySem.Spec PyProof.Rows L2
theorem nil_of {σ : L2.St} {H : Hp} {Q : List V → Hp → Prop} (h : Q [] H) : tNil σ H Q := h
theorem con_of {σ : L2.St} {H : Hp} {v : V} {t : TA} {Q : List V → Hp → Prop} (h : t σ H fun xs H2 => Q (v :: xs) H2) : tCons (tC v) t σ H Q := h
theorem Fr.drop {S T : List Addr} {H H1 H2 : Hp} (f : Fr S H H1) (g : Fr T H1 H2) (h : ∀ b ∈ T, b ∈ S ∨ H b = none) : Fr S H H2 := fun b o e q => g _ _ (f _ _ e q) fun m => (h b m).elim q fun n => by
  rw [n] at e
  cases e
theorem DAt.fr {K : Frag} {S : List Addr} {H H' : Hp} {d r : Addr} {p : Int} {sh : List Int} {past : List Mail} (h : DAt K H d r p sh past) (f : Fr S H H') (h1 : d ∉ S) (h2 : r ∉ S) : DAt K H' d r p sh past :=
  let ⟨⟨dx, e⟩, q⟩ := h; ⟨⟨dx, f.at e h1⟩, q.mono f h2⟩
theorem desk_ne {K : Frag} {H : Hp} {d r st c l ow cp : Addr} {p : Int} {sh : List Int} {ls : List (List Int)} {past past' : List Mail} {n : Nat} (hD : DAt K H d r p sh past) (hO : OAt K H ow cp p sh ls past') (hL : LSt K H st c l n) :
    (d ≠ st ∧ d ≠ l ∧ d ≠ ow) ∧ (r ≠ st ∧ r ≠ l ∧ r ≠ ow ∧ r ≠ c ∧ r ≠ cp) := by
  obtain ⟨⟨dx, hd⟩, ⟨rx, la, t, us, R⟩⟩ := hD
  obtain ⟨kvs, a, b, us', pvs, O⟩ := hO
  obtain ⟨kvs', cs, ls', a', L⟩ := hL
  exact ⟨⟨ne_of hd L.d (by intro z; cases z), ne_of hd L.hl (by intro z; cases z), ne_of hd O.d (by intro z; cases z)⟩, ne_of R.ob L.d (by intro z; cases z), ne_of R.ob L.hl (by intro z; cases z), ne_of R.ob O.d (by intro z; cases z), ne_of R.ob L.hc (by intro z; cases z), ne_of R.ob O.pt (by intro z; cases z)⟩
/-! texts by looking -/
def tameB (w : Str) : Bool := decide (w.length ≤ 600) && (!numB w || (PySem.intText? w).isSome)
def textB (z : Str) : Bool := decide (z.length ≤ 900) && decide ((Txt.split z "\n").length ≤ 900) && ((Txt.split z "\n").all fun l => decide (l.length ≤ 900)) && ((rowsM z).all fun ws => ws.all tameB)
theorem text_of {z : Str} (h : textB z = true) : TextOk z := by
  unfold textB at h
  rw [Bool.and_eq_true, Bool.and_eq_true, Bool.and_eq_true] at h
  obtain ⟨⟨⟨h1, h2⟩, h3⟩, h4⟩ := h
  have h1 := of_decide_eq_true h1
  refine ⟨⟨le1000 (by omega), of_decide_eq_true h2, fun l hl => le1000 (by have := of_decide_eq_true (List.all_eq_true.mp h3 l hl); omega)⟩, fun ws hws w hw => ?_⟩
  have h5 := List.all_eq_true.mp (List.all_eq_true.mp h4 ws hws) w hw
  unfold tameB at h5
  rw [Bool.and_eq_true] at h5
  refine ⟨of_decide_eq_true h5.1, fun hb => ?_⟩
  have h6 := h5.2
  rw [hb] at h6
  exact Option.isSome_iff_exists.mp h6
def noB (z : Str) : Bool := match rowsM z with
  | [ws] => (parseM ws).isNone
  | _ => true
theorem say_none {p : Int} {sh : List Int} {past : List Mail} {z : Str} (h : noB z = true) : sayA p sh past z = (lit "no", past) := by
  unfold noB at h
  unfold sayA sayM
  revert h
  generalize rowsM z = rows
  intro h
  cases rows with
  | nil => rfl
  | cons a t =>
    cases t with
    | nil =>
      have h : (parseM a).isNone = true := h
      rw [Option.isNone_iff_eq_none] at h
      show ((parseM a).bind (ansCmd p sh past)).getD (lit "no", past) = _
      rw [h]
      rfl
    | cons b t => rfl
def oddsL : List Str := ["", "Read", "read ", "come 0", "come 0 :", "come : 1", "drop", "drop 0 0", "undo 1", "known 0", "mail\n", "drop 00", "come 00 : none"]
theorem odds_ok : oddsL.all (fun z => textB z && noB z) = true := by decide +kernel
theorem odd_ok {z : Str} (h : z ∈ oddsL) : TextOk z ∧ noB z = true := by
  have := List.all_eq_true.mp odds_ok z h
  rw [Bool.and_eq_true] at this
  exact ⟨text_of this.1, this.2⟩
theorem ask_text {w : Str} (h : w ∈ askW) : TextOk w := by
  have : askW.all textB = true := by decide +kernel
  exact text_of (List.all_eq_true.mp this w h)
theorem sum_bd (k : Int) : ∀ ns : List Int, (∀ n ∈ ns, 0 ≤ n ∧ n ≤ 8) → 0 ≤ ns.sum ∧ ns.sum ≤ 8 * ns.length
  | [], _ => by simp
  | n :: ns, h => by
    have h1 := sum_bd k ns fun m hm => h m (List.mem_cons_of_mem _ hm)
    have h2 := h n List.mem_cons_self
    simp
    omega
section
variable {K : Frag} {H : Hp}
theorem noNon (T : True) : NoText K H .non := ⟨_, .base .non, kit_ty (by decide +kernel)⟩
theorem noInt (n : Int) : NoText K H (.int n) := ⟨_, .base (.int n), kit_ty (by decide +kernel)⟩
theorem noBl (b : Bool) : NoText K H (.bl b) := ⟨_, .base (.bl b), kit_ty (by decide +kernel)⟩
theorem noTup {a : Addr} {xs : List V} (h : SqT K H a xs) : NoText K H (.ref a) := ⟨_, tyTup h, kit_ty (by decide +kernel)⟩
theorem noLst {a : Addr} {xs : List V} (h : H a = some (.lst xs)) : NoText K H (.ref a) := ⟨_, .base (.lst h), kit_ty (by decide +kernel)⟩
theorem say_sp {dk r : Addr} {p : Int} {sh : List Int} {past past' : List Mail} {z due : Str} {Q : VK} {E : XK} (hD : DAt K H dk r p sh past) (hO : DOk p sh past) (tx : TextOk z) (e : sayA p sh past z = (due, past')) (q : ∀ H', Fr [r] H H' → DAt K H' dk r p sh past' → Q (.str due) H') : sp_Desk_say K [.ref dk, .str z] H Q E :=
  ⟨dk, r, p, sh, past, .str z, rfl, hD, hO, .inl ⟨z, rfl, tx, fun H' f R => by
    rw [e] at R ⊢
    exact q H' f (hD.to f R)⟩⟩
theorem say_not {dk r : Addr} {p : Int} {sh : List Int} {past : List Mail} {v : V} {Q : VK} {E : XK} (hD : DAt K H dk r p sh past) (hO : DOk p sh past) (no : NoText K H v) (q : ∀ H', Same H H' → Q (.str (lit "no")) H') : sp_Desk_say K [.ref dk, v] H Q E :=
  ⟨dk, r, p, sh, past, v, rfl, hD, hO, .inr ⟨no, q⟩⟩
/-- all that stands in the loop -/
structure Loop (K : Frag) (H H' : Hp) (st c l ow cp dk r od : Addr) (n : Nat) (p : Int) (sh : List Int) (ls : List (List Int)) (past : List Mail) : Prop where
  fr : Fr [st, l] H H'
  L : LSt K H' st c l n
  O : OAt K H' ow cp p sh ls past
  D : DAt K H' dk r p sh past
  ok : DOk p sh past
  od : H' od = some (.lst (oddsL.map .str))
structure Away (H : Hp) (st c l ow dk r od : Addr) : Prop where
  fo : H ow = none
  rr : H r = none
  os : ow ≠ st
  dn : dk ≠ st ∧ dk ≠ l ∧ dk ≠ ow
  rn : r ≠ st ∧ r ≠ l ∧ r ≠ ow ∧ r ≠ c
  on : od ≠ st ∧ od ≠ l ∧ od ≠ ow ∧ od ≠ r
variable {H' H'' : Hp} {st c l ow cp dk r od : Addr} {n : Nat} {p : Int} {sh : List Int} {ls : List (List Int)} {past past' : List Mail}
theorem Loop.same (h : Loop K H H' st c l ow cp dk r od n p sh ls past) (s : Same H' H'') : Loop K H H'' st c l ow cp dk r od n p sh ls past :=
  ⟨h.fr.trans (Fr.same s), h.L.same s, h.O.same s, h.D.same s, h.ok, s _ _ h.od⟩
theorem Loop.say (h : Loop K H H' st c l ow cp dk r od n p sh ls past) (a : Away H st c l ow dk r od) (f : Fr [r] H' H'') (D : DAt K H'' dk r p sh past) : Loop K H H'' st c l ow cp dk r od n p sh ls past := by
  have h1 : cp ≠ r := (desk_ne h.D h.O h.L).2.2.2.2.2.symm
  refine ⟨h.fr.drop f fun b hb => .inr ?_, h.L.fr f fun b hb => ?_, h.O.fr f ?_ ?_, D, h.ok, f.at h.od ?_⟩
  · rw [List.mem_singleton.mp hb]
    exact a.rr
  · rw [List.mem_singleton.mp hb]
    exact ⟨a.rn.1, a.rn.2.2.2, a.rn.2.1⟩
  · simpa using a.rn.2.2.1.symm
  · simpa using h1
  · simpa using a.on.2.2.2
theorem Loop.draw (h : Loop K H H' st c l ow cp dk r od n p sh ls past) (a : Away H st c l ow dk r od) (f : Fr [st, l] H' H'') {m : Nat} (L : LSt K H'' st c l m) : Loop K H H'' st c l ow cp dk r od m p sh ls past := by
  obtain ⟨o1, o2, o3, o4, o5⟩ := own_ne h.O h.ok.ok.ne h.L
  exact ⟨h.fr.trans f, L, h.O.fr f (by simp [a.os, o1]) (by simp [o3, o4]), h.D.fr f (by simp [a.dn.1, a.dn.2.1]) (by simp [a.rn.1, a.rn.2.1]), h.ok, f.at h.od (by simp [a.on.1, a.on.2.1])⟩
end
end NL
/-! L11: _law_right -/
namespace NL
open PySem PySem.Spec PyProof.Rows L2
theorem need_sum {sh : List Int} (hs : ShOk sh) : ∃ many : Nat, (needM sh).sum = (many : Int) ∧ many ≤ 96 := by
  have h1 := needM_len sh hs.bd
  have h2 := hs.sum
  have h8 := hs.len.2
  obtain ⟨h3, h4⟩ := sum_bd 0 (needM sh) fun n hn => by have := needM_bd sh n hn; omega
  exact ⟨(needM sh).sum.toNat, by omega, by omega⟩
section
variable {P : Program} {w : World} {K : Frag} {mg : Str → Option Value} {base : Heap}
def sp__law_right (K : Frag) : Sp := fun vs H Q _ => ∃ (st c l : Addr) (n : Nat), vs = [.ref st] ∧ LSt K H st c l n ∧ n ≤ 100000 ∧ ∀ H', Fr [st, l] H H' → LSt K H' st c l (n + 1000) → Q (.bl true) H'
abbrev tx__law_right : Stmt := top 87
abbrev NN__law_right : List Str := ["_law_state", "_law_prime_so", "_law_shares_here", "_law_letters_so", "_law_own", "_law_desk", "_law_odds", "_law_again", "_law_line", "_law_due", "_law_odd", "_law_deeds"]
theorem scp__law_right : FnScope NN__law_right ["_law_state"] (defScope tx__law_right) := ⟨rfl, rfl, rfl, by decide +kernel, rfl, by decide +kernel, by decide +kernel⟩
theorem cal__law_right (T : Txt K mg) : CalG P w K mg base CX0 12 "_law_right" (sp__law_right K) := by
  obtain ⟨fd, F⟩ := T.d__law_right
  refine ⟨_, fd, ["_law_state"], okG F scp__law_right (fun vs H Q E h => ?_) (fun cdv A outer s H vs Q E hr hg h => ?_), T.g__law_right, F.kp, F.bindsN fun _ _ _ _ _ _ us hl => match us, hl with | [_], _ => rfl⟩
  · obtain ⟨st, c, l, n, rfl, _⟩ := h
    rfl
  obtain ⟨st, c, l, n, rfl, hL, hn, k⟩ := h
  refine ⟨_, PSs.nox (pss_cons (ps_par (i := 1) (j := 2) (by rfl) scp__law_right.nd rfl rfl (by decide) rfl rfl (pa_cons (pe_cal (cal__law_prime T) hr (by decide) pass0 (pa_cons (pv 0) pa_nil)) (pa_cons (pe_cal (cal__law_shares T) hr (by decide) pass0 (pa_cons (pv 0) (pa_cons pe_int pa_nil))) pa_nil)) (by rfl))
      (pss_cons (ps_set (i := 3) scp__law_right.nd rfl (.inl rfl) (pe_cal (cal__law_letters T) hr (by decide) pass0 (pa_cons (pv 1) (pa_cons (pv 2) (pa_cons (pe_cal (cal__law_message T) hr (by decide) pass0 (pa_cons (pv 0) (pa_cons (pv 1) (pa_cons (pe_callB (cr_sum rfl) (by rfl) T.z_sum (by decide +kernel) (pa_cons (pe_cal (cal__law_needs T) hr (by decide) pass0 (pa_cons (pv 2) pa_nil)) pa_nil)) pa_nil)))) pa_nil)))))
      (pss_cons (ps_set (i := 4) scp__law_right.nd rfl (.inl rfl) (pe_disp (pps_cons pe_str (pv 1) (pps_cons pe_str (pv 2) (pps_cons pe_str (pv 3) (pps_cons pe_str (pe_lst (pa_cons (pe_tup pa_nil) pa_nil)) pps_nil)))) (by rfl) (by rfl) (fun z => by cases z) (by decide)))
      (pss_cons (ps_set (i := 5) scp__law_right.nd rfl (.inl rfl) (pe_new (new_Desk T) hr (by decide) (passes_call (E := fun _ _ _ => False) (takes0 (X := _)) (fun _ _ _ _ h => h)) (pa_cons (pe_op op_add_str (pe_op op_add_str (pe_callTy call_str_int (by rfl) T.z_str (by decide +kernel) (pa_cons (pv 1) pa_nil)) pe_str) (pe_cal (cal__law_row_of T) hr (by decide) pass0 (pa_cons (pv 2) pa_nil))) pa_nil)))
      (pss_cons (ps_set (i := 6) scp__law_right.nd rfl (.inl rfl) (pe_lst (pa_cons pe_str (pa_cons pe_str (pa_cons pe_str (pa_cons pe_str (pa_cons pe_str (pa_cons pe_str (pa_cons pe_str (pa_cons pe_str (pa_cons pe_str (pa_cons pe_str pa_nil))))))))))))
      (pss_cons (ps_set (i := 6) scp__law_right.nd rfl (.inl rfl) (pe_op op_cat (pv 6) (pe_lst (pa_cons pe_str (pa_cons pe_str (pa_cons pe_str pa_nil))))))
      (pss_cons (ps_for PassesOwn.never rfl (pi_range1 (by rfl) T.z_range (pa_cons (pe_op op_add pe_int (pe_cal (cal__law_draw T) hr (by decide) pass0 (pa_cons (pv 0) (pa_cons pe_int pa_nil)))) pa_nil)) (pg_name (i := 7) scp__law_right.nd rfl (.inl rfl))
      (pss_cons (ps_asg (pe_cal (cal__law_deed T) hr (by decide) pass0 (pa_cons (pv 0) (pa_cons (pv 4) pa_nil))) (pg_tup rfl (pgs_cons (pg_name (i := 8) scp__law_right.nd rfl (.inl rfl)) (pgs_cons (pg_name (i := 9) scp__law_right.nd rfl (.inl rfl)) pgs_nil))))
      (pss_cons (ps_if (pt_cmpR op_ne (pe_cam (pv 5) T.cls_Desk (cal_Desk_say T) hr (by decide) pass0 (pa_cons (pv 8) pa_nil)) (pv 9) (nomark _)) (pss_one (ps_ret pe_bl)) pss_nil)
      (pss_cons (ps_for PassesOwn.never rfl (pi_tup (pe_tup (pa_cons pe_str (pa_cons pe_str (pa_cons pe_str (pa_cons pe_str (pa_cons pe_str (pa_cons pe_str pa_nil)))))))) (pg_name (i := 8) scp__law_right.nd rfl (.inl rfl))
      (pss_one (ps_if (pt_cmpR op_ne (pe_cam (pv 5) T.cls_Desk (cal_Desk_say T) hr (by decide) pass0 (pa_cons (pv 8) pa_nil)) (pe_cal (cal__law_asked T) hr (by decide) pass0 (pa_cons (pv 4) (pa_cons (pv 8) pa_nil))) (nomark _)) (pss_one (ps_ret pe_bl)) pss_nil)))
      (pss_one (ps_if (PW.pt (pw_or (pt_cmpR op_ne (pe_cam (pv 5) T.cls_Desk (cal_Desk_say T) hr (by decide) pass0 (pa_cons (pe_cal (cal__law_of T) hr (by decide) pass0 (pa_cons (pv 0) (pa_cons (pv 6) pa_nil))) pa_nil)) pe_str (nomark _)) (pw_or1 (pt_cmpR op_ne (pe_callB (call_reprD hg (hu64 hr)) (by rfl) T.z_repr (by decide +kernel) (pa_cons (pe_cam0 (pe_pro (pv 5) T.cls_Desk (cal_Desk_receiver T) hr (by decide) pass0) T.cls_Receiver (cal_Receiver_mail T) hr (by decide) pass0) pa_nil)) (pe_callB (call_reprD hg (hu64 hr)) (by rfl) T.z_repr (by decide +kernel) (pa_cons (pe_cal (cal__law_now T) hr (by decide) pass0 (pa_cons (pv 4) pa_nil)) pa_nil)) (nomark _))))) (pss_one (ps_ret pe_bl)) pss_nil))))))
      (pss_cons (ps_for PassesOwn.never rfl (pi_tup (pe_tup (pa_cons pe_non (pa_cons pe_int (pa_cons pe_bl (pa_cons (pe_tup pa_nil) (pa_cons (pe_lst (pa_cons pe_str pa_nil)) pa_nil))))))) (pg_name (i := 10) scp__law_right.nd rfl (.inl rfl))
      (pss_one (ps_if (pt_cmpR op_ne (pe_cam (pv 5) T.cls_Desk (cal_Desk_say T) hr (by decide) pass0 (pa_cons (pv 10) pa_nil)) pe_str (nomark _)) (pss_one (ps_ret pe_bl)) pss_nil)))
      (pss_cons (ps_if (pt_cmpR op_ne (pe_callB (call_reprD hg (hu64 hr)) (by rfl) T.z_repr (by decide +kernel) (pa_cons (pe_lst (pa_cons (pe_pro (pe_pro (pv 5) T.cls_Desk (cal_Desk_receiver T) hr (by decide) pass0) T.cls_Receiver (cal_Receiver_prime T) hr (by decide) pass0) (pa_cons (pe_pro (pe_pro (pv 5) T.cls_Desk (cal_Desk_receiver T) hr (by decide) pass0) T.cls_Receiver (cal_Receiver_laying T) hr (by decide) pass0) pa_nil))) pa_nil)) (pe_callB (call_reprD hg (hu64 hr)) (by rfl) T.z_repr (by decide +kernel) (pa_cons (pe_lst (pa_cons (pv 1) (pa_cons (pv 2) pa_nil))) pa_nil)) (nomark _)) (pss_one (ps_ret pe_bl)) pss_nil)
      (pss_cons (ps_set (i := 11) scp__law_right.nd rfl (.inl rfl) (pe_op op_sub (pe_callB call_len_seq (by rfl) T.z_len PySem.boot_len (pa_cons (pe_dget (hu_of hr) (pv 4) pe_str (fun _ _ => rfl)) pa_nil)) pe_int))
      (pss_one (ps_ret (pe_or (pe_cmpR op_eq (pv 11) pe_int (nomark _)) (pe_one (pe_and (pe_cmpR op_isN (pe_undo1 (pe_pro (pv 5) T.cls_Desk (cal_Desk_receiver T) hr (by decide) pass0) T hr (by decide) (passes_call (E := fun _ _ _ => False) (takes0 (X := _)) (fun _ _ _ _ h => h)) (pa_cons (pv 11) pa_nil)) pe_non (nomark _)) (pe_one (pe_cmpR op_eq (pe_cam (pv 5) T.cls_Desk (cal_Desk_say T) hr (by decide) pass0 (pa_cons pe_str pa_nil)) pe_str (nomark _)))))))))))))))))), ?_⟩
  refine ⟨_, rfl, st, c, l, n, rfl, hL, by omega, fun H1 p F1 L1 hp => ?_⟩
  have hpb := hp.bd
  refine ⟨_, rfl, st, c, l, n + 1, 6, rfl, by decide, by decide, L1, by omega, fun H2 a sh F2 L2' ha hs hl6 => ⟨_, _, rfl, ?_⟩⟩
  have h8 := hs.len.2
  have hsb : ∀ n ∈ sh, 0 ≤ n ∧ n < 500 := fun n hn => by have := hs.bd n hn; omega
  obtain ⟨many, hmany, hm96⟩ := need_sum hs
  refine ⟨_, rfl, _, rfl, _, rfl, _, rfl, _, rfl, a, sh, rfl, ha, h8, hs.bd, fun H3 nl s3 hnl0 hnl => ?_⟩
  refine ⟨nl, needM sh, rfl, .of hnl, st, c, l, n + 1 + 20, many, p, by rw [hmany]; rfl, by omega, by omega, by omega, L2'.same s3, by omega, fun H4 tm mg' F4 L4 htm hml hsg => ?_⟩
  have ha4 := F4.tk _ _ (sameT s3 _ _ ha)
  refine ⟨p, a, tm, sh, mg', rfl, ha4, htm, hs, by omega, by omega, hsg, fun H5 tl us ls s5 htl hla hll hls => ?_⟩
  have F5 : Fr [st, l] H H5 := ((F1.trans F2).trans (Fr.same s3)).trans (F4.trans (Fr.same s5))
  have L5 := L4.same s5
  have ha5 := sameT s5 _ _ ha4
  -- the law's own dict
  refine fun ow how => ?_
  have t1 := sameNew (o := .dK []) how
  refine ⟨_, rfl, _, rfl, _, rfl, le1000 (by simp), fun e he => ⟨le1000 (by simp), fun cp hcp => ?_⟩⟩
  have t2 := (sameNew (o := .tup []) he).trans (sameNew (o := .lst [V.ref e]) hcp)
  have howd := t2 _ _ (show (upd H5 ow (.dK [])) ow = some (.dK []) from upd_same)
  refine ⟨howd, [(kB, .int p), (kS, .ref a), (kT, .ref tl), (kP, .ref cp)], rfl, by simp, ?_⟩
  obtain ⟨e1, e2, e3, e4⟩ := own_keys (.int p) (.ref a) (.ref tl) (.ref cp)
  have hcpow : cp ≠ ow := ne_of (show (upd (upd (upd H5 ow (.dK [])) e (.tup [])) cp (.lst [V.ref e])) cp = some (.lst [V.ref e]) from upd_same) howd (by intro z; cases z)
  have s6 : Same H5 (upd (upd (upd (upd H5 ow (.dK [])) e (.tup [])) cp (.lst [V.ref e])) ow (.dK (mergeK [] [(kB, .int p), (kS, .ref a), (kT, .ref tl), (kP, .ref cp)]))) := sameAt (t1.trans t2) how
  have tk6 : TK K (upd (upd (upd H5 ow (.dK [])) e (.tup [])) cp (.lst [V.ref e])) _ := (frUpd (S := [ow]) (o := .dK (mergeK [] [(kB, .int p), (kS, .ref a), (kT, .ref tl), (kP, .ref cp)])) (by simp) howd (fun z => z)).tk
  have O6 : OAt K (upd (upd (upd (upd H5 ow (.dK [])) e (.tup [])) cp (.lst [V.ref e])) ow (.dK (mergeK [] [(kB, .int p), (kS, .ref a), (kT, .ref tl), (kP, .ref cp)]))) ow cp p sh ls [[]] :=
    ⟨_, a, tl, us, [.ref e], ⟨upd_same, Nat.le_trans (merge_len _ _) (by simp), e1, e2, e3, e4, sameT s6 _ _ ha5, sameT s6 _ _ htl, hla.imp (fun _ _ q => q.mono (sameT s6)), (by rw [upd_ne hcpow, upd_same]),
      .one ⟨e, [], rfl, tk6 _ _ (sameT (sameNew hcp) _ _ (.of upd_same)), .nil⟩⟩⟩
  have L6 := L5.same s6
  have F6 : Fr [st, l] H _ := F5.trans (Fr.same s6)
  have hosL : ow ≠ st := (L5.fresh how).1
  have howH : H ow = none := F5.free how (by
    have := L5.fresh how
    simp [this.1, this.2.2])
  generalize hH6 : upd (upd (upd (upd H5 ow (.dK [])) e (.tup [])) cp (.lst [V.ref e])) ow (.dK (mergeK [] [(kB, .int p), (kS, .ref a), (kT, .ref tl), (kP, .ref cp)])) = H6 at *
  have ha6 := sameT s6 _ _ ha5
  -- the desk
  have hpi := istr_ok (n := p) (by omega) (by omega)
  refine ⟨_, rfl, _, rfl, hpi.2.1, _, _, rfl, rfl, le1000 (by
    have h3 : (lit "\n").length = 1 := by decide +kernel
    have := hpi.1
    show (istr p).length + (lit "\n").length ≤ 1000
    omega), _, rfl, a, sh, rfl, ha6, ⟨by omega, hsb⟩, fun H7 s7 => ?_⟩
  have hrl : (rowM sh).length ≤ 143 := rowM_len hsb (by omega)
  refine ⟨_, _, rfl, rfl, le1000 (by
    have h3 : (lit "\n").length = 1 := by decide +kernel
    have := hpi.1
    have e : ((Str.ofString (toString p)) ++ (lit "\n")).length = (istr p).length + (lit "\n").length := strLen_append _ _
    rw [e]
    omega), fun dk dx hdk hdx hdne => ?_⟩
  have smk := sameMake (C := He.ga K "Desk") hdk hdx
  refine ⟨dk, dx, _, rfl, upd_same, .inl ⟨deskL p sh, rfl, (desk_text hp hs).1, ?_⟩⟩
  rw [desk_ini hp hs]
  refine fun H8 r f8 hrm D8 => ⟨rfl, ?_⟩
  have s8 : Same H7 H8 := sameFr smk hdk f8
  have s68 := s7.trans s8
  have O8 := O6.same s68
  have L8 := L6.same s68
  have F8 : Fr [st, l] H H8 := F6.trans (Fr.same s68)
  have ha8 := sameT s68 _ _ ha6
  have hdkH : H dk = none := by
    have hx : H6 dk = none := s7.free hdk
    have := L6.fresh hx
    exact F6.free hx (by simp [this.1, this.2.2])
  have hrH : H r = none := by
    have hx7 : H7 r = none := smk.free hrm
    have hx : H6 r = none := s7.free hx7
    have := L6.fresh hx
    exact F6.free hx (by simp [this.1, this.2.2])
  obtain ⟨⟨d1, d2, d3⟩, r1, r2, r3, r4, _⟩ := desk_ne D8 O8 L8
  -- the odd lines
  refine ⟨le1000 (by simp), fun o1 ho1 => ?_⟩
  have u1 := sameNew (o := .lst [V.str (lit ""), V.str (lit "Read"), V.str (lit "read "), V.str (lit "come 0"), V.str (lit "come 0 :"), V.str (lit "come : 1"), V.str (lit "drop"), V.str (lit "drop 0 0"), V.str (lit "undo 1"), V.str (lit "known 0")]) ho1
  refine ⟨_, rfl, le1000 (by simp), fun o2 ho2 => ⟨o1, o2, _, _, rfl, rfl, (sameNew ho2) _ _ upd_same, upd_same, le1000 (by simp), fun od hod => ?_⟩⟩
  have u3 := u1.trans ((sameNew (o := .lst [V.str (lit "mail\n"), V.str (lit "drop 00"), V.str (lit "come 00 : none")]) ho2).trans (sameNew (o := .lst (oddsL.map V.str)) hod))
  have O9 := O8.same u3
  have L9 := L8.same u3
  have D9 := D8.same u3
  have F9 : Fr [st, l] H _ := F8.trans (Fr.same u3)
  obtain ⟨o1', o2', o3'⟩ := (L8.same u1).same (sameNew (o := .lst [V.str (lit "mail\n"), V.str (lit "drop 00"), V.str (lit "come 00 : none")]) ho2) |>.fresh hod
  have how9 : od ≠ ow := by
    obtain ⟨kvs, x1, x2, x3, x4, O⟩ := (O8.same u1).same (sameNew (o := .lst [V.str (lit "mail\n"), V.str (lit "drop 00"), V.str (lit "come 00 : none")]) ho2)
    exact (ne_of_none O.d hod).symm
  have hor9 : od ≠ r := by
    obtain ⟨_, ⟨x1, x2, x3, x4, R⟩⟩ := (D8.same u1).same (sameNew (o := .lst [V.str (lit "mail\n"), V.str (lit "drop 00"), V.str (lit "come 00 : none")]) ho2)
    exact (ne_of_none R.ob hod).symm
  have aw : Away H st c l ow dk r od := ⟨howH, hrH, hosL, ⟨d1, d2, d3⟩, ⟨r1, r2, r3, r4⟩, o1', o3', how9, hor9⟩
  have Lp9 : Loop K H _ st c l ow cp dk r od (n + 1 + 20 + many) p sh ls [[]] := ⟨F9, L9, O9, D9, ⟨⟨by simp, fun m hm => by rw [List.mem_singleton.mp hm]; exact CurOk.nil p sh⟩, hs, hp, by simp⟩, upd_same⟩
  refine ⟨_, rfl, st, c, l, _, 9, rfl, L9, by omega, by decide, by decide, fun H10 r10 F10 L10 r100 r101 => ⟨_, _, rfl, rfl, _, rfl, by omega, by omega, ?_⟩⟩
  have Lp10 := Lp9.draw aw F10 L10
  have F10' := F10
  clear Lp9 F9 L9 O9 D9 F10 L10
  refine for_suf walk_range (List.range (8 + r10).toNat) (by simp) (fun d _ σ H' => ∃ (cp : Addr) (past : List Mail) (v7 v8 v9 v10 v11 : Option V), σ = [some (.ref st), some (.int p), some (.ref a), some (.ref tl), some (.ref ow), some (.ref dk), some (.ref od), v7, v8, v9, v10, v11] ∧ Loop K H H' st c l ow cp dk r od (n + 1 + 20 + many + 1 + 6 * d.length) p sh ls past ∧ past.length ≤ 1 + d.length ∧ SqT K H' a (sh.map .int)) ?_ ?_ ?_ ?_
  · exact ⟨cp, [[]], _, _, _, _, _, rfl, Lp10, by simp, F10'.tk _ _ (sameT u3 _ _ ha8)⟩
  · intro d r' σ H' _
    trivial
  · rintro d b r' x σ H11 H12 e ⟨cp, past, v7, v8, v9, v10, v11, rfl, Lp, hpl, haL⟩ ⟨rfl, rfl⟩
    have hdl : d.length < 17 := by
      have := congrArg List.length e
      simp at this
      omega
    refine ⟨_, rfl, _, rfl, st, c, l, ow, cp, _, p, sh, ls, past, rfl, Lp.L, by omega, Lp.O, Lp.ok, ⟨hll, hls⟩, hosL, fun H13 t cp2 line due past2 F13 L13 O13 ht hDR => ?_⟩
    refine ⟨t, _, rfl, ht, rfl, _, _, rfl, _, _, rfl, rfl, ?_⟩
    have D13 := Lp.D.fr F13 (by simp [d1, d2, d3]) (by simp [r1, r2, r3])
    have od13 := F13.at Lp.od (by simp [o1', o3', how9])
    have fr13 : Fr [st, l] H H13 := Lp.fr.drop F13 fun b hb => by
      simp only [List.mem_cons, List.not_mem_nil, or_false] at hb
      rcases hb with rfl | rfl | rfl
      · exact .inl (by simp)
      · exact .inl (by simp)
      · exact .inr howH
    have ha13 := F13.tk _ _ haL
    have ok2 : DOk p sh past2 := ⟨hDR.ok, hs, hp, by have := hDR.len; omega⟩
    obtain ⟨⟨ddx, hd13⟩, _⟩ := id D13
    refine ⟨_, rfl, dk, ddx, _, rfl, hd13, df_no r (by decide +kernel), _, rfl, nil_of (say_sp D13 Lp.ok hDR.tx hDR.say fun H14 f14 D14 => ?_)⟩
    refine ⟨_, rfl, rfl, _, rfl, iteFb (by simp) ?_⟩
    have Lp14 : Loop K H H14 st c l ow cp2 dk r od (n + 1 + 20 + many + 1 + 6 * d.length + 5) p sh ls past2 := by
      have h1 : cp2 ≠ r := (desk_ne D13 O13 L13).2.2.2.2.2.symm
      refine ⟨fr13.drop f14 fun b hb => .inr ?_, L13.fr f14 fun b hb => ?_, O13.fr f14 ?_ ?_, D14, ok2, f14.at od13 ?_⟩
      · rw [List.mem_singleton.mp hb]
        exact hrH
      · rw [List.mem_singleton.mp hb]
        exact ⟨r1, r4, r2⟩
      · simpa using r3.symm
      · simpa using h1
      · simpa using hor9
    have ha14 := f14.tk _ _ ha13
    clear D13 od13 fr13 L13 O13 D14 hd13 Lp
    -- the questions
    refine ⟨le1000 (by simp), fun tw htw => ⟨tw, rfl, ⟨_, .of upd_same⟩, ?_⟩⟩
    have sw := sameNew (o := .tup (askW.map V.str)) htw
    refine for_suf (walk_tup (xs := askW.map V.str)) askW (by simp) (fun d' _ σ H' => ∃ (v8 : Option V), σ = [some (.ref st), some (.int p), some (.ref a), some (.ref tl), some (.ref ow), some (.ref dk), some (.ref od), some (.int (0 + (d.length : Int))), v8, some (.str due), v10, v11] ∧ Loop K H H' st c l ow cp2 dk r od (n + 1 + 20 + many + 1 + 6 * d.length + 5) p sh ls past2 ∧ SqT K H' a (sh.map .int) ∧ SqT K H' tw (askW.map .str)) ?_ ?_ ?_ ?_
    · exact ⟨_, rfl, Lp14.same sw, sameT sw _ _ ha14, .of upd_same⟩
    · rintro d' r' σ H' ⟨v8, rfl, _, _, hq⟩
      exact hq
    · rintro d' w r' x σ H15 H16 e' ⟨v8, rfl, Lp15, ha15, hq15⟩ ⟨rfl, hx⟩
      rw [e'] at hx
      cases mapGet hx
      have hw : w ∈ askW := by rw [e']; simp
      obtain ⟨⟨ddx, hd15⟩, _⟩ := id Lp15.D
      refine ⟨_, rfl, dk, ddx, _, rfl, hd15, df_no r (by decide +kernel), _, rfl, nil_of (say_sp Lp15.D ok2 (ask_text hw) (say_ask hw) fun H17 f17 D17 => ?_)⟩
      have Lp17 := Lp15.say aw f17 D17
      refine ⟨_, rfl, _, rfl, ow, cp2, p, sh, ls, past2, w, rfl, Lp17.O, ok2, hw, fun H18 s18 => ⟨rfl, _, rfl, iteFb (by simp) ?_⟩⟩
      exact ⟨_, rfl, Lp17.same s18, sameT s18 _ _ (f17.tk _ _ ha15), sameT s18 _ _ (f17.tk _ _ hq15)⟩
    · rintro σ H15 ⟨v8, rfl, Lp15, ha15, _⟩
      obtain ⟨⟨ddx, hd15⟩, _⟩ := id Lp15.D
      refine ⟨_, rfl, dk, ddx, _, rfl, hd15, df_no r (by decide +kernel), _, rfl, _, rfl, st, c, l, od, _, oddsL, rfl, Lp15.L, by omega, Lp15.od, o3', by decide, by decide, fun H18 z F18 L18 hz => ?_⟩
      have Lp18 := Lp15.draw aw F18 L18
      refine nil_of (say_sp Lp18.D ok2 (odd_ok hz).1 (say_none (odd_ok hz).2) fun H19 f19 D19 => ⟨rfl, _, rfl, iteFb (by simp) ?_⟩)
      have Lp19 := Lp18.say aw f19 D19
      have ha19 := f19.tk _ _ (F18.tk _ _ ha15)
      obtain ⟨⟨ddx, hd19⟩, ⟨rx, la, tt, ru, R19⟩⟩ := id Lp19.D
      have hcur := ok2.ok.cur
      have hcl := hcur.len
      have hnum : ∀ q ∈ cur past2, 0 ≤ q.1 ∧ q.1 < 500 ∧ ∀ n ∈ q.2, 0 ≤ n ∧ n < 500 := fun q hq => by
        have h1 := hcur.ok.num q hq
        exact ⟨by omega, by omega, fun n hn => by have := hcur.ok.sg q hq n hn; omega⟩
      have hshow : (encMs (cur past2)).showable = true := showMs hnum
      have hnod : (encMs (cur past2)).hasDict = false := nodMs _
      have hdep : (encMs (cur past2)).depth ≤ 60 := by
        have := dep_Ms (cur past2)
        simp only [encMs, PyData.depth]
        omega
      have hsz : (encMs (cur past2)).shown.length ≤ sizeLine := le1000 (Nat.le_trans (shownMs hp hs hcur) (by decide))
      refine ⟨_, rfl, dk, ddx, _, rfl, hd19, dk, r, p, sh, past2, rfl, Lp19.D, r, rx, _, rfl, R19.ob, rf_no _ _ _ (by decide +kernel), r, p, sh, past2, rfl, ⟨rx, la, tt, ru, R19⟩, ok2.ok, fun c1 ms1 hm1 => ?_⟩
      refine ⟨c1, encMs (cur past2), rfl, .tup hm1.1 (dpMs hm1.2.1), hshow, hnod, hdep, hsz, ?_⟩
      refine ⟨_, rfl, ow, cp2, p, sh, ls, past2, rfl, Lp19.O, ok2.ok.ne, fun c2 ms2 hc2 hm2 => ?_⟩
      refine ⟨c2, encMs (cur past2), rfl, .tup hc2 (dpMs hm2), hshow, hnod, hdep, hsz, rfl, _, rfl, iteFb (by simp) ?_⟩
      refine ⟨cp2, past2, _, _, _, _, _, rfl, ?_, by have := hDR.len; simp; omega, ha19⟩
      have e6 : n + 1 + 20 + many + 1 + 6 * (d ++ [b]).length = n + 1 + 20 + many + 1 + 6 * d.length + 5 + 1 := by simp; omega
      rw [e6]
      exact Lp19
  · rintro σ H11 ⟨cp, past, v7, v8, v9, v10, v11, rfl, Lp, hpl, haL⟩
    rw [List.length_range] at hpl Lp
    -- lines that are no texts
    refine ⟨le1000 (by simp), fun z1 hz1 => ⟨le1000 (by simp), fun z2 hz2 => ⟨le1000 (by simp), fun tw htw => ⟨tw, rfl, ⟨_, .of upd_same⟩, ?_⟩⟩⟩⟩
    have w1 := sameNew (o := .tup []) hz1
    have w2 := sameNew (o := .lst [V.str (lit "read")]) hz2
    have w3 := sameNew (o := .tup [V.non, V.int 5, V.bl true, V.ref z1, V.ref z2]) htw
    have hz2r : z2 ≠ r := by
      obtain ⟨_, ⟨x1, x2, x3, x4, R⟩⟩ := id (Lp.D.same w1)
      exact (ne_of_none R.ob hz2).symm
    refine for_suf (walk_tup (xs := [V.non, V.int 5, V.bl true, V.ref z1, V.ref z2])) [V.non, V.int 5, V.bl true, V.ref z1, V.ref z2] rfl (fun d' _ σ H' => ∃ (v10 : Option V), σ = [some (.ref st), some (.int p), some (.ref a), some (.ref tl), some (.ref ow), some (.ref dk), some (.ref od), v7, v8, v9, v10, v11] ∧ Loop K H H' st c l ow cp dk r od (n + 1 + 20 + many + 1 + 6 * (8 + r10).toNat) p sh ls past ∧ SqT K H' a (sh.map .int) ∧ SqT K H' tw [V.non, V.int 5, V.bl true, V.ref z1, V.ref z2] ∧ SqT K H' z1 [] ∧ H' z2 = some (.lst [V.str (lit "read")])) ?_ ?_ ?_ ?_
    · exact ⟨_, rfl, Lp.same (w1.trans (w2.trans w3)), sameT (w1.trans (w2.trans w3)) _ _ haL, .of upd_same, sameT (w2.trans w3) _ _ (.of upd_same), w3 _ _ upd_same⟩
    · rintro d' r' σ H' ⟨v10, rfl, _, _, hq, _⟩
      exact hq
    · rintro d' v r' x σ H15 H16 e' ⟨v10, rfl, Lp15, ha15, hq15, hz15, hl15⟩ ⟨rfl, hx⟩
      rw [e', getMid] at hx
      cases hx
      have hv : v ∈ [V.non, V.int 5, V.bl true, V.ref z1, V.ref z2] := by rw [e']; simp
      have hno : NoText K H16 v := by
        simp only [List.mem_cons, List.not_mem_nil, or_false] at hv
        rcases hv with rfl | rfl | rfl | rfl | rfl
        · exact noNon trivial
        · exact noInt 5
        · exact noBl true
        · exact noTup hz15
        · exact noLst hl15
      obtain ⟨⟨ddx, hd15⟩, _⟩ := id Lp15.D
      refine ⟨_, rfl, dk, ddx, _, rfl, hd15, df_no r (by decide +kernel), _, rfl, nil_of (say_not Lp15.D Lp15.ok hno fun H17 s17 => ⟨rfl, _, rfl, iteFb (by simp) ?_⟩)⟩
      exact ⟨_, rfl, Lp15.same s17, sameT s17 _ _ ha15, sameT s17 _ _ hq15, sameT s17 _ _ hz15, s17 _ _ hl15⟩
    · rintro σ H15 ⟨v10, rfl, Lp15, ha15, _, _, _⟩
      have hD := Lp15.D
      obtain ⟨⟨ddx, hd15⟩, ⟨rx, la, tt, ru, R15⟩⟩ := id hD
      have hsh : (PyData.list [.int p, .tuple (sh.map .int)]).showable = true := by
        show (decide (p.natAbs.log2 < 1920) && (PyData.showableAll (sh.map PyData.int) && true)) = true
        rw [showI hsb, decide_eq_true hpi.2.1]
        rfl
      have hnd : (PyData.list [.int p, .tuple (sh.map .int)]).hasDict = false := by
        show (false || (PyData.hasDictAll (sh.map PyData.int) || false)) = false
        rw [nodI]
        rfl
      have hde : (PyData.list [.int p, .tuple (sh.map .int)]).depth ≤ 60 := by
        simp [PyData.depth, PyData.depthAll, PySem.W.depth_ints]
      have hsz : (PyData.list [.int p, .tuple (sh.map .int)]).shown.length ≤ sizeLine := by
        have e : (PyData.list [.int p, .tuple (sh.map .int)]).shown = (("[" : Str) ++ ("" : Str) ++ istr p ++ (", " : Str) ++ PyData.shown (.tuple (sh.map .int))) ++ ("]" : Str) := rfl
        rw [e]
        have h1 := shown_let hsb
        have h2 := hpi.1
        have h3 : ("[" : Str).length = 1 := by decide +kernel
        have h4 : ("" : Str).length = 0 := by decide +kernel
        have h5 : (", " : Str).length = 2 := by decide +kernel
        have h6 : ("]" : Str).length = 1 := by decide +kernel
        rw [strLen_append, strLen_append, strLen_append, strLen_append, strLen_append]
        exact le1000 (by omega)
      refine ⟨_, rfl, dk, ddx, _, rfl, hd15, dk, r, p, sh, past, rfl, hD, r, rx, _, rfl, R15.ob, r, p, sh, past, rfl, ⟨rx, la, tt, ru, R15⟩, ?_⟩
      refine ⟨_, rfl, dk, ddx, _, rfl, hd15, dk, r, p, sh, past, rfl, hD, r, rx, _, rfl, R15.ob, r, p, sh, past, rfl, ⟨rx, la, tt, ru, R15⟩, fun la' hla' => ?_⟩
      refine ⟨le1000 (by simp), fun q1 hq1 => ?_⟩
      have s1 := sameNew (o := .lst [V.int p, V.ref la']) hq1
      refine ⟨q1, .list [.int p, .tuple (sh.map .int)], rfl, .lst (.of upd_same) (.cons (.int p) (.cons (dpT (sameT s1 _ _ hla')) .nil)), hsh, hnd, hde, hsz, ?_⟩
      refine ⟨_, rfl, _, rfl, le1000 (by simp), fun q2 hq2 => ?_⟩
      have s2 := sameNew (o := .lst [V.int p, V.ref a]) hq2
      refine ⟨q2, .list [.int p, .tuple (sh.map .int)], rfl, .lst (.of upd_same) (.cons (.int p) (.cons (dpT (sameT (s1.trans s2) _ _ ha15)) .nil)), hsh, hnd, hde, hsz, ?_⟩
      refine ⟨rfl, _, rfl, iteFb (by simp) ?_⟩
      have Lp16 := Lp15.same (s1.trans s2)
      obtain ⟨kvs, x1, x2, x3, pvs, O16⟩ := id Lp16.O
      have hpv := O16.pa.len
      refine ⟨_, rfl, ow, _, rfl, O16.gP, cp, pvs, rfl, .inl (.of O16.pt), _, _, rfl, rfl, ?_⟩
      refine ⟨_, rfl, rfl, _, rfl, ?_⟩
      have hpos := List.length_pos_iff.mpr Lp16.ok.ok.ne
      have hle : n + 1 + 20 + many + 1 + 6 * (8 + r10).toNat ≤ n + 1000 := by omega
      by_cases c1 : past.length = 1
      · refine iteTb (decide_eq_true (congrArg V.int (by omega))) ?_
        exact k _ Lp16.fr (Lp16.L.mono hle)
      · refine iteFb (decide_eq_false fun z => c1 (by have := V.int.inj z; omega)) ?_
        obtain ⟨⟨ddx, hd16⟩, ⟨rx, la, tt, ru, R16⟩⟩ := id Lp16.D
        refine ⟨_, rfl, dk, ddx, _, rfl, hd16, dk, r, p, sh, past, rfl, Lp16.D, r, rx, _, rfl, R16.ob, rf_no _ _ _ (by decide +kernel), _, rfl, r, p, past.length - 1, sh, past, ?_, ⟨rx, la, tt, ru, R16⟩, by omega, .inl ⟨by omega, fun H17 f17 R17 => ?_⟩⟩
        · have e : ((pvs.length : Nat) : Int) - 1 = ((past.length - 1 : Nat) : Int) := by omega
          show [V.ref r, V.int (((pvs.length : Nat) : Int) - 1)] = _
          rw [e]
        have e1 : past.length - (past.length - 1) = 1 := by omega
        rw [e1] at R17
        have D17 := Lp16.D.to f17 R17
        have ok17 : DOk p sh (past.take 1) := ⟨Lp16.ok.ok.take (Nat.le_refl 1), hs, hp, by rw [List.length_take]; omega⟩
        refine ⟨rfl, _, rfl, iteTb (by rfl) ?_⟩
        obtain ⟨⟨ddx, hd17⟩, _⟩ := id D17
        have hund : undoA (past.take 1) = (lit "nothing", past.take 1) := if_neg (by rw [List.length_take]; omega)
        refine ⟨_, rfl, dk, ddx, _, rfl, hd17, df_no r (by decide +kernel), con_of (nil_of (say_sp (z := lit "undo") D17 ok17 (alone_line (by decide +kernel)).1 (say_undo.trans hund) fun H18 f18 D18 => ⟨rfl, ?_⟩))⟩
        have hfr : Fr [st, l] H H18 := (Lp16.fr.drop f17 fun b hb => .inr (by rw [List.mem_singleton.mp hb]; exact hrH)).drop f18 fun b hb => .inr (by rw [List.mem_singleton.mp hb]; exact hrH)
        have hL18 := (Lp16.L.fr f17 fun b hb => by rw [List.mem_singleton.mp hb]; exact ⟨r1, r4, r2⟩).fr f18 fun b hb => by rw [List.mem_singleton.mp hb]; exact ⟨r1, r4, r2⟩
        have k' := k H18 hfr (hL18.mono hle)
        rw [decide_eq_true rfl]
        exact k'
end
end NL
/-! R10: several clauses 'except X as n' -/
namespace NL
open PySem PySem.Spec PyProof.Rows L2
/-- the ends behind a suite whose name is unbound again -/
def gone (i : Nat) (D : Ends) : Ends := { nx := fun σ' H' => D.nx (σ'.set i none) H', rt := D.rt, bk := fun σ' H' => D.bk (σ'.set i none) H', ct := fun σ' H' => D.ct (σ'.set i none) H' }
def wMas (K : Frag) (Wout : WX) (N : List Str) (i : Nat) (D : Ends) : List (Value × (Addr → Value → Option Addr → TS)) → WX
  | [] => Wout
  | (c, ts) :: rest => fun cls d σ H => ∃ b, PySem.W.exmOne K cls c = some b ∧ (b = true → ∀ a, H a = none → σ.length = N.length → ts a cls d (gone i D) (σ.set i (some (.ref a))) H) ∧ (b = false → wMas K Wout N i D rest cls d σ H)
inductive HasOk (X : Cx) (n : Str) : List ExceptHandler → List (Value × (Addr → Value → Option Addr → TS)) → Prop
  | nil : HasOk X n [] []
  | cons {x : Str} {c : Value} {ts : Addr → Value → Option Addr → TS} {b₀ : Stmt} {suite : List Stmt} {np hpos : Pos} {hds : List ExceptHandler} {l : List (Value × (Addr → Value → Option Addr → TS))} (hc : Names X x c)
      (hsu : ∀ (a : Addr) (ob : Obj) (cls : Value) (d : Option Addr) (pn : List (Addr × Obj)), Zc cls d ob → (∃ vs, ob.data = .fields vs) → PSs (X.suite a ((a, ob) :: pn)) (b₀ :: suite) (ts a cls d)) (rest : HasOk X n hds l) :
      HasOk X n (.ExceptHandler (some (.Name x np)) (some n) (b₀ :: suite) hpos :: hds) ((c, ts) :: l)
section
variable {X : Cx} {n : Str} {i : Nat} {body : List Stmt} {h₀ : ExceptHandler} {hds : List ExceptHandler} {l : List (Value × (Addr → Value → Option Addr → TS))} {pos : Pos} {tb : WX → TS} {Wout : WX}
theorem ps_try_mas (hst : X.stack = X.env :: X.outer) (hfm : X.env.frame = some X.env.locals) (hN : X.N.Nodup) (hi : X.N[i]? = some n) (hln : X.env.kindOf n = some .local) (tkW : Takes X Wout)
    (hbd : ∀ (W : WX) (pn : List (Addr × Obj)) (xe : Value → Shared → Prop), Takes (X.tr pn xe) W → PassesOwn (model X.prog X.w) X.A X.env xe → PSs (X.tr pn xe) body (tb W))
    (hhs : HasOk X n (h₀ :: hds) l) : PS X (.Try body (h₀ :: hds) [] [] pos) (fun D σ H => tb (wMas X.K Wout X.N i D l) D σ H) := by
  refine ⟨fun pins s σ H D I0 hw => ?_⟩
  have ok0 := I0.ok
  have frm : X.A.frames = some (X.env :: X.outer) := by rw [ok0.frames, hst]
  have hloc : Loc X.env.scope n := .inl hln
  refine wpAny_Try_except ?_
  refine wpAny_mono ((hbd (wMas X.K Wout X.N i D l) (X.pn ++ pins) (fun e t₁ => wpAny (model X.prog X.w) X.A (noteFrame e X.env) (fun _ t₂ => wpAny (model X.prog X.w) X.A (setFlight e none) (fun _ t₃ =>
    wpAny (model X.prog X.w) X.A (handleBy e X.env (h₀ :: hds)) (SP X pins D) X.xe t₃) X.xe t₂) X.xe t₁) (fun u s' xx => ?_) PassesOwn.looking).run [] s σ H D (I0.toTry _) hw) (fun f t1 hsp => ?_) (fun e t1 he => he)
  · obtain ⟨a, B, sB, pins', σ', H', cls, d, rfl, J', nb, up, sky, na, os, ag, wish⟩ := xx
    have JB : Inv X pins σ' H' sB := J'.ofTry ok0
    have skyB : Sky B (X.env :: X.outer) a (Zc cls d) X.env.locals s'.heap := by rw [← hst]; exact sky
    show wpAny (model X.prog X.w) X.A (noteFrame (.ref a) X.env) _ _ _
    refine Sky.land Zc.steady frm hfm skyB fun g3 fl3 up3 => ?_
    have J3 : Inv X pins σ' H' { s' with heap := g3 } := JB.landed nb fl3.1 (up.trans up3) os ag
    obtain ⟨ob3, vs3, he3, hz3, hd3⟩ := fl3.there
    have nfr : a ∉ frs (X.env :: X.outer) := fun hm => by
      obtain ⟨_, o', e', hnf⟩ := fl3.2.2.1.mem hm
      rw [he3] at e'
      cases e'
      exact hnf _ hd3
    have nLoc : a ≠ X.env.locals := fun z => nfr (List.mem_filterMap.mpr ⟨X.env, List.mem_cons_self, by rw [hfm, z]⟩)
    have nFs : a ∉ X.fs := fun hm => by
      obtain ⟨en, hen, q⟩ := List.mem_filterMap.mp hm
      exact nfr (List.mem_filterMap.mpr ⟨en, List.mem_cons_of_mem _ hen, q⟩)
    have S3 := J3.suite he3 hd3 na nLoc nFs
    have go : ∀ {hds' : List ExceptHandler} {l' : List (Value × (Addr → Value → Option Addr → TS))}, HasOk X n hds' l' → wMas X.K Wout X.N i D l' cls d σ' H' →
        wpAny (model X.prog X.w) X.A (handleBy (.ref a) X.env hds') (SP X pins D) X.xe { s' with heap := g3 } := by
      intro hds' l' hk
      induction hk with
      | nil =>
        intro wish
        refine wpAny_handleBy_nil ?_
        obtain ⟨k1, k2, k3, ob, vs, TT, oT, ts', he, hz, hd, h1, hr⟩ := id fl3
        unfold PySem.passOn
        refine wpAny_bind (wpAny_field he hd h1 ?_)
        rw [if_neg (show ¬ ((Value.ref TT == Value.none) = true) from by simp)]
        have fin : wpAny (model X.prog X.w) X.A (setFlight (.ref a) X.env.frame) (fun _ t4 => wpAny (model X.prog X.w) X.A (throw (.ref a) : Sem Flow) (SP X pins D) X.xe t4) X.xe { s' with heap := g3 } := by
          rw [hfm]
          refine HandSPX.setFlight_upZ fl3 fun g4 hg4 up4 => wpAny_throw (tkW _ _ ?_)
          exact ⟨a, B, sB, pins, σ', H', cls, d, rfl, JB, nb, (up.trans up3).trans up4, .inr (.inr (by rw [hst]; exact hg4)), na, os, ag, wish⟩
        first
          | exact wpAny_bind (wpAny_pure (wpAny_bind fin))
          | exact wpAny_bind fin
      | @cons x c ts b₀ suite np hpos hds2 l2 hc hsu rest ih =>
        intro wish
        obtain ⟨b, hb1, hyes, hno⟩ := wish
        refine wpAny_handleBy_cons (codeAny_handlers_test ?_) (by intro q; cases q)
        have LT : PySem.W.Looks (model X.prog X.w) g3 (typeOf (.ref a)) cls := fun A Q E s k q => wpAny_typeOf_ref (k _ _ he3) (by rw [hz3.1]; exact q)
        have LM := PySem.W.exm_one (M := model X.prog X.w) (J3.kIn) LT hb1
        have look : ∀ {Q : Value → Shared → Prop} {E : Value → Shared → Prop}, Q c { s' with heap := g3 } → wpAny (model X.prog X.w) (X.A.mark (some (.ref a))) (eval (.Name x np) X.env) Q E { s' with heap := g3 } := fun {Q E} q => by
          obtain ⟨hg, hdbg, hm | ⟨hm, hv, hnn⟩⟩ := hc
          · exact ld_glob (X := X.suite a ((a, ob3) :: (X.pn ++ pins))) S3 hg hm q hdbg
          · exact ld_blt (X := X.suite a ((a, ob3) :: (X.pn ++ pins))) S3 hg hm hv q hnn hdbg
        refine look (LM.here ?_)
        cases b with
        | true =>
          refine codeAny_handlers_suite_as ?_
          refine HandSPX.lands_againZ fl3 fun g4 fl4 up4 => ?_
          have J4 : Inv X pins σ' H' { s' with heap := g4 } := JB.landed nb fl4.1 ((up.trans up3).trans up4) os ag
          obtain ⟨ob4, vs4, he4, hz4, hd4⟩ := fl4.there
          have S4 := J4.suite he4 hd4 na nLoc nFs
          refine store_ok (X := X.suite a ((a, ob4) :: (X.pn ++ pins))) (v := .ref a) S4 hN hi hloc rfl (fun t5 S5 => ?_) (.inr hln)
          refine wpAny_mono ((hsu a ob4 cls d (X.pn ++ pins) hz4 ⟨_, hd4⟩).run [] t5 _ H' _ S5 (hyes rfl a na J4.len)) (fun f t6 hsp => ?_) (fun _ _ z => False.elim z)
          have end_ : ∀ {σ6 : L2.St} {H6 : Hp} {Q : Shared → Prop}, Inv (X.suite a ((a, ob4) :: (X.pn ++ pins))) [] σ6 H6 t6 → (∀ t7, Inv X pins (σ6.set i none) H6 t7 → Q t7) →
              wpAny (model X.prog X.w) X.A (do bindName X.env n .none; unbindBehindTheSuite X.env n hpos) (fun _ t7 => Q t7) X.xe t6 := fun {σ6 H6 Q} S6 hq => gone_ok (S6.unsuite ok0) hN hi hln hq
          cases f with
          | next => exact let ⟨_, _, S6, q6⟩ := hsp; end_ S6 fun t7 J7 => ⟨_, _, J7, q6⟩
          | brk => exact let ⟨_, _, S6, q6⟩ := hsp; end_ S6 fun t7 J7 => ⟨_, _, J7, q6⟩
          | cont => exact let ⟨_, _, S6, q6⟩ := hsp; end_ S6 fun t7 J7 => ⟨_, _, J7, q6⟩
          | ret u => exact let ⟨_, _, _, S6, r6, q6⟩ := hsp; end_ S6 fun t7 J7 => ⟨_, _, _, J7, r6, q6⟩
        | false =>
          show wpAny _ X.A (handleBy (.ref a) X.env hds2) _ _ _
          exact ih (hno rfl)
    exact go hhs wish
  · cases f with
    | next => exact let ⟨σ', H', JB, q⟩ := hsp; wpAny_execs_nil ⟨σ', H', JB.ofTry ok0, q⟩
    | brk => exact let ⟨σ', H', JB, q⟩ := hsp; ⟨σ', H', JB.ofTry ok0, q⟩
    | cont => exact let ⟨σ', H', JB, q⟩ := hsp; ⟨σ', H', JB.ofTry ok0, q⟩
    | ret u => exact let ⟨v, σ', H', JB, rv, q⟩ := hsp; ⟨v, σ', H', JB.ofTry ok0, rv, q⟩
end
end NL
/-! L12: what is heard of a desk that is refused -/
namespace NL
open PySem PySem.Spec PyProof.Rows L2
inductive Due
  | text (l w : Option Int)
  | prime (p : Int)
  | laying (ns : List Int)
def ov : Option Int → V
  | none => .non
  | some n => .int n
def od : Option Int → PyData
  | none => .none
  | some n => .int n
def DueR (K : Frag) (H : Hp) (v : V) : Due → Prop
  | .text l w => ∃ c, v = .ref c ∧ SqT K H c [.str (lit "text"), ov l, ov w]
  | .prime p => ∃ c, v = .ref c ∧ SqT K H c [.str (lit "prime"), .int p]
  | .laying ns => ∃ c e, v = .ref c ∧ SqT K H c [.str (lit "laying"), .ref e] ∧ SqT K H e (ns.map .int)
theorem DueR.mono {K : Frag} {H H' : Hp} (t : TK K H H') {v : V} : ∀ {d : Due}, DueR K H v d → DueR K H' v d
  | .text _ _, ⟨c, e, q⟩ => ⟨c, e, t _ _ q⟩
  | .prime _, ⟨c, e, q⟩ => ⟨c, e, t _ _ q⟩
  | .laying _, ⟨c, e, h, q, r⟩ => ⟨c, e, h, t _ _ q, t _ _ r⟩
def dueD : Due → PyData
  | .text l w => .tuple [.str (lit "text"), od l, od w]
  | .prime p => .tuple [.str (lit "prime"), .int p]
  | .laying ns => .tuple [.str (lit "laying"), .tuple (ns.map .int)]
theorem ov_dp {K : Frag} {H : Hp} : ∀ o, Dp K H (ov o) (od o)
  | none => .non
  | some n => .int n
theorem DueR.dp {K : Frag} {H : Hp} {v : V} : ∀ {d : Due}, DueR K H v d → Dp K H v (dueD d)
  | .text _ _, ⟨c, e, q⟩ => by
    rw [e]
    exact .tup q (.cons (.str _) (.cons (ov_dp _) (.cons (ov_dp _) .nil)))
  | .prime _, ⟨c, e, q⟩ => by
    rw [e]
    exact .tup q (.cons (.str _) (.cons (.int _) .nil))
  | .laying _, ⟨c, e, h, q, r⟩ => by
    rw [h]
    exact .tup q (.cons (.str _) (.cons (dpT r) .nil))
theorem due_eqv : ∀ d : Due, PyData.eqv (dueD d) (dueD d) = true
  | .text l w => by
    cases l <;> cases w <;> simp [dueD, od, PyData.eqv, PyData.eqvAll]
  | .prime p => by simp [dueD, PyData.eqv, PyData.eqvAll]
  | .laying ns => by simp [dueD, PyData.eqv, PyData.eqvAll, eqv_ints]
theorem sk1 : PyData.strOk (lit "text") = true := by decide +kernel
theorem sk2 : PyData.strOk (lit "prime") = true := by decide +kernel
theorem sk3 : PyData.strOk (lit "laying") = true := by decide +kernel
theorem due_sh : ∀ d : Due, SeqAt.shaped (dueD d) = true
  | .text l w => by
    cases l <;> cases w <;> simp [dueD, od, sk1, SeqAt.shaped, PyData.canLay0, PyData.canLayAll0, PyData.depth, PyData.depthAll]
  | .prime p => by simp [dueD, sk2, sk3, SeqAt.shaped, PyData.canLay0, PyData.canLayAll0, PyData.depth, PyData.depthAll]
  | .laying ns => by simp [dueD, sk2, sk3, SeqAt.shaped, PyData.canLay0, PyData.canLayAll0, PyData.depth, PyData.depthAll, can_ints, PySem.W.depth_ints]
theorem neDue {K : Frag} {H : Hp} {v u : V} {d : Due} {Q : VK} (h1 : DueR K H v d) (h2 : DueR K H u d) (q : Q (.bl false) H) : rNeD K v u H Q :=
  ⟨dueD d, dueD d, h1.dp, h2.dp, due_sh d, due_sh d, by rw [due_eqv]; exact q⟩
/-- what the caught exceptions give -/
def EHeard (K : Frag) (Q : VK) : XK := fun cls d H' =>
  (∃ dd l w, cls = .ref (He.ga K "BadText") ∧ d = some dd ∧ H' dd = some (.xd [("word", w), ("line", l)]) ∧ ∀ t, H' t = none → Q (.ref t) (upd H' t (.tup [.str (lit "text"), l, w]))) ∨
  (∃ dd v, cls = .ref (He.ga K "BadPrime") ∧ d = some dd ∧ H' dd = some (.xd [("given", v)]) ∧ ∀ t, H' t = none → Q (.ref t) (upd H' t (.tup [.str (lit "prime"), v]))) ∨
  ∃ dd v, cls = .ref (He.ga K "BadLaying") ∧ d = some dd ∧ H' dd = some (.xd [("given", v)]) ∧ ∀ t, H' t = none → Q (.ref t) (upd H' t (.tup [.str (lit "laying"), v]))
def THeard (K : Frag) : (XK → Hp → VK → Prop) → Hp → VK → Prop := fun tl H Q => tl (EHeard K Q) H (fun v H1 => [v].length ≤ sizeLine ∧ ∀ l, H1 l = none → Q (.ref l) (upd H1 l (.lst [v])))
abbrev tx__law_heard : Stmt := top 82
abbrev NN__law_heard : List Str := ["_law_call", "error"]
theorem scp__law_heard : FnScope NN__law_heard ["_law_call"] (defScope tx__law_heard) := ⟨rfl, rfl, rfl, by decide +kernel, rfl, by decide +kernel, by decide +kernel⟩
section
variable {X : Cx}
theorem heard_gives (T : Txt X.K X.mg) {g : Addr} {cdg : Value} {q : Str} : LamX.GivesTo X NN__law_heard "_law_heard" (defScope tx__law_heard) g cdg (defBody tx__law_heard) "_law_call" q (THeard X.K) := by
  intro f c' s H Q tl act hc h
  refine ⟨_, pss_one (ps_try_mas (X := (cxOf C8.CX0 X.prog X.w X.K X.mg X.base NN__law_heard "_law_heard" (defScope tx__law_heard) g cdg X.A X.stack s H C8.E0).nox) (i := 1) (Wout := fun _ _ _ _ => False)
    (tb := fun W D σ H => ∃ Ech : XK, (∀ cls d σ' H', Ech cls d H' → W cls d σ' H') ∧ σ[0]? = some (some (.ref f)) ∧ H c' = some (LamX.CodeO c' q) ∧ tl Ech H (fun v H1 => [v].length ≤ sizeLine ∧ ∀ l, H1 l = none → D.rt (.ref l) (upd H1 l (.lst [v]))))
    (l := [(.ref (He.ga X.K "BadText"), fun a cls d => tRet (tTup (tCons (tC (.str "text")) (tCons (tXf a cls d (He.ga X.K "BadText") "line" (tVar 1)) (tCons (tXf a cls d (He.ga X.K "BadText") "word" (tVar 1)) tNil))))),
      (.ref (He.ga X.K "BadPrime"), fun a cls d => tRet (tTup (tCons (tC (.str "prime")) (tCons (tXf a cls d (He.ga X.K "BadPrime") "given" (tVar 1)) tNil)))),
      (.ref (He.ga X.K "BadLaying"), fun a cls d => tRet (tTup (tCons (tC (.str "laying")) (tCons (tXf a cls d (He.ga X.K "BadLaying") "given" (tVar 1)) tNil))))])
    rfl rfl scp__law_heard.nd rfl rfl LamX.takes0 (fun W pn xe tk _ => ?_)
    (.cons ⟨rfl, by decide, .inl T.g_BadText⟩ (fun a ob cls d pn hz hf => pss_one (ps_ret (pe_tup (pa_cons pe_str (pa_cons (pe_xf T.xf_BadText T.xn_BadText_line hz hf (pv 1)) (pa_cons (pe_xf T.xf_BadText T.xn_BadText_word hz hf (pv 1)) pa_nil))))))
      (.cons ⟨rfl, by decide, .inl T.g_BadPrime⟩ (fun a ob cls d pn hz hf => pss_one (ps_ret (pe_tup (pa_cons pe_str (pa_cons (pe_xf T.xf_BadPrime T.xn_BadPrime_given hz hf (pv 1)) pa_nil)))))
        (.cons ⟨rfl, by decide, .inl T.g_BadLaying⟩ (fun a ob cls d pn hz hf => pss_one (ps_ret (pe_tup (pa_cons pe_str (pa_cons (pe_xf T.xf_BadLaying T.xn_BadLaying_given hz hf (pv 1)) pa_nil))))) .nil)))), ?_⟩
  · refine ⟨fun pins s' σ H' D I h' => ?_⟩
    obtain ⟨Ech, hW, h1, h2, h3⟩ := h'
    exact (pss_one (ps_ret (pe_lst (pa_cons (act W pn xe Ech _ _ tk hW) pa_nil)))).run pins s' σ H' D I ⟨h1, h2, h3⟩
  · refine ⟨EHeard X.K Q, fun cls d σ' H' hE => ?_, rfl, hc, h⟩
    have at1 : ∀ a, σ'.length = NN__law_heard.length → (σ'.set 1 (some (V.ref a)))[1]? = some (some (.ref a)) := fun a hl => by
      rw [List.getElem?_set_self]
      rw [hl]
      decide
    rcases hE with ⟨dd, l, w, rfl, rfl, hd, k⟩ | ⟨dd, v, rfl, rfl, hd, k⟩ | ⟨dd, v, rfl, rfl, hd, k⟩
    · refine ⟨true, T.xh_BadText_BadText, fun _ a ha hl => ?_, (fun z => by cases z)⟩
      exact ⟨_, at1 a hl, rfl, rfl, dd, _, l, rfl, hd, rfl, _, at1 a hl, rfl, rfl, dd, _, w, rfl, hd, rfl, le1000 (by simp), k⟩
    · refine ⟨false, T.xh_BadPrime_BadText, (fun z => by cases z), fun _ => ⟨true, T.xh_BadPrime_BadPrime, fun _ a ha hl => ?_, (fun z => by cases z)⟩⟩
      exact ⟨_, at1 a hl, rfl, rfl, dd, _, v, rfl, hd, rfl, le1000 (by simp), k⟩
    · refine ⟨false, T.xh_BadLaying_BadText, (fun z => by cases z), fun _ => ⟨false, T.xh_BadLaying_BadPrime, (fun z => by cases z), fun _ => ⟨true, T.xh_BadLaying_BadLaying, fun _ a ha hl => ?_, (fun z => by cases z)⟩⟩⟩
      exact ⟨_, at1 a hl, rfl, rfl, dd, _, v, rfl, hd, rfl, le1000 (by simp), k⟩
end
end NL
/-! L13: texts that make no desk -/
namespace NL
open PySem PySem.Spec PyProof.Rows L2
def RowR (K : Frag) (H : Hp) (v : V) (q : V × Due) : Prop := ∃ b c, v = .ref b ∧ SqT K H b [q.1, c] ∧ DueR K H c q.2
theorem RowR.mono {K : Frag} {H H' : Hp} (t : TK K H H') {v : V} {q : V × Due} (h : RowR K H v q) : RowR K H' v q := let ⟨b, c, e, s, d⟩ := h; ⟨b, c, e, t _ _ s, d.mono t⟩
theorem row_text {K : Frag} {H : Hp} {b c : Addr} {x : V} {l w : Option Int} (hc : H c = none) (hb : (upd H c (.tup [.str (lit "text"), ov l, ov w])) b = none) : RowR K (upd (upd H c (.tup [.str (lit "text"), ov l, ov w])) b (.tup [x, .ref c])) (.ref b) (x, .text l w) ∧ Same H (upd (upd H c (.tup [.str (lit "text"), ov l, ov w])) b (.tup [x, .ref c])) :=
  ⟨⟨b, .ref c, rfl, .of upd_same, c, rfl, sameT (sameNew hb) _ _ (.of upd_same)⟩, (sameNew hc).trans (sameNew hb)⟩
theorem row_prime {K : Frag} {H : Hp} {b c : Addr} {x : V} {p : Int} (hc : H c = none) (hb : (upd H c (.tup [.str (lit "prime"), .int p])) b = none) : RowR K (upd (upd H c (.tup [.str (lit "prime"), .int p])) b (.tup [x, .ref c])) (.ref b) (x, .prime p) ∧ Same H (upd (upd H c (.tup [.str (lit "prime"), .int p])) b (.tup [x, .ref c])) :=
  ⟨⟨b, .ref c, rfl, .of upd_same, c, rfl, sameT (sameNew hb) _ _ (.of upd_same)⟩, (sameNew hc).trans (sameNew hb)⟩
theorem row_lay {K : Frag} {H : Hp} {b c e : Addr} {x : V} (he : H e = none) (hc : (upd H e (.tup [.int 7])) c = none) (hb : (upd (upd H e (.tup [.int 7])) c (.tup [.str (lit "laying"), .ref e])) b = none) :
    RowR K (upd (upd (upd H e (.tup [.int 7])) c (.tup [.str (lit "laying"), .ref e])) b (.tup [x, .ref c])) (.ref b) (x, .laying [7]) ∧ Same H (upd (upd (upd H e (.tup [.int 7])) c (.tup [.str (lit "laying"), .ref e])) b (.tup [x, .ref c])) :=
  ⟨⟨b, .ref c, rfl, .of upd_same, c, e, rfl, sameT (sameNew hb) _ _ (.of upd_same), sameT ((sameNew hc).trans (sameNew hb)) _ _ (.of upd_same)⟩, (sameNew he).trans ((sameNew hc).trans (sameNew hb))⟩
def RowsAt (K : Frag) (H : Hp) (l : Addr) (rs : List (V × Due)) : Prop := ∃ vs, H l = some (.lst vs) ∧ All2 (RowR K H) vs rs
/-- what a text is refused with -/
def dueI : Ini → Due
  | .text l w => .text (some l) (some w)
  | .prime p => .prime p
  | .laying ns => .laying ns
  | .ok p _ => .prime p
def notOk : Ini → Bool
  | .ok _ _ => false
  | _ => true
def z9 : Str := lit "11\n" ++ ⟨(List.replicate (8 : Int).toNat (lit "0 ").cps).foldl (· ++ ·) #[]⟩ ++ lit "0"
def rowsS : List (Str × Ini) := [("", .text 0 0), ("11", .text 1 0), ("11 1\n1", .text 0 1), ("11\nnone", .text 1 0), ("11\n1\n", .text 2 0), ("011\n1", .text 0 0), ("12\n7", .prime 12), ("11\n7", .laying [7]), (z9, .text 1 8), ("11\n1 x\n1", .text 1 1)]
theorem rowsS_ok : rowsS.all (fun q => textB q.1 && (decide (iniM (rowsM q.1) = q.2) && notOk q.2)) = true := by decide +kernel
def rowsD : List (V × Due) := (V.non, Due.text none none) :: rowsS.map fun q => (V.str q.1, dueI q.2)
/-- the table of the code objects that the lambda is made from -/
abbrev qL : Str := (envOfC "_law_refused_right" (defScope (top 88)) 0 0 .none).qual ++ "<lambda>"
abbrev TL88 (K : Frag) : List (Addr × Str) := [((He.cT K ("_law_refused_right", none)).2, qL)]
theorem extTK {K : Frag} {H H' : Hp} (e : LamX.ExtN H H') : TK K H H' := fun a xs h => by
  rcases h with (h | ⟨o, h⟩) | h
  · exact .inl (.inl (e _ _ h fun ps z => by cases z))
  · exact .inl (.inr ⟨o, e _ _ h fun ps z => by cases z⟩)
  · exact .inr h
section
variable {X : Cx} {c P : Addr} {j : Nat} {params : Arguments} {scope : Scope} {p p1 p2 p3 lpos pos : Pos}
theorem pe_heard (T : Txt X.K X.mg) (TB : LamX.TabB X.base X.mg c P) (hcode : X.env.code = .ref c) (hr : Room j X.A) (hj : 10 ≤ j) (hN : X.N[1]? = some ("_law_sheet" : Str)) (L : LamX.LamS X.env.scope scope) (hd : scope.names.lookup ("Desk" : Str) = some .globalImplicit) (hs : scope.names.lookup ("_law_sheet" : Str) = some .free)
    (hdef : defaultsOf params X.env = ([], [])) (hbind : ∀ (q : Str) (cl : List (Str × Addr)) (pm cv ctv : Value), bindArgs (PySem.W.kla_fn "<lambda>" q params (.Call (.Name "Desk" p1) [.Name "_law_sheet" p2] [] p3) scope cl pm cv ctv) ⟨[], []⟩ = pure [])
    (hg : Gl X "_law_heard") {K0 : Frag} (hK : X.K = K0) {q0 : Str} (hq : X.env.qual ++ "<lambda>" = q0) :
    PE X (.Call (.Name "_law_heard" p) [.Lambda params (.Call (.Name "Desk" p1) [.Name "_law_sheet" p2] [] p3) scope lpos] [] pos) (LamX.tLam [(P, q0)] (THeard K0) (fun E => tMake (He.ga K0 "Desk") (sp_Desk_init K0) [] E (tCons (tVar 1) tNil))) := by
  subst hK
  subst hq
  obtain ⟨fd, F⟩ := T.d__law_heard
  have hb : Binds X.K fd ["_law_call"] [] := F.bindsN fun _ _ _ _ _ _ us hl => match us, hl with | [_], _ => rfl
  obtain ⟨oc, od, dV, kV, doc, pm, an, cdv, ct, osl, rfl, lk, hcd, _, _⟩ := F.ex
  refine LamX.pe_lamcall (k := 8) hg T.g__law_heard F.kp lk hcd hb scp__law_heard rfl (.inl rfl) (heard_gives T) TB hcode (List.mem_singleton.mpr rfl) (fun q hq _ => by rw [List.mem_singleton.mp hq]) (hr.mono hj) L hdef hbind (fun A outer s H E f c' hr' => ?_)
  exact pe_new (X := LamX.lamCx X A outer s H E scope f c') (new_Desk T) hr' (by decide) (passes_call (takes_of rfl rfl rfl rfl) (fun _ _ _ _ h => h)) (pa_cons (pe_var (i := 1) hN (.inr (.inr hs))) pa_nil) hd
end
end NL
/-! L14: _law_refused_right -/
namespace NL
open PySem PySem.Spec PyProof.Rows L2
abbrev tx__law_refused_right : Stmt := top 88
abbrev NN__law_refused_right : List Str := ["_law_rows", "_law_sheet", "_law_due"]
theorem scp__law_refused_right : FnScope NN__law_refused_right [] (defScope tx__law_refused_right) := ⟨rfl, rfl, rfl, by decide +kernel, rfl, by decide +kernel, by decide +kernel⟩
/-- the names of the comprehension, of the lambda in it -/
def blk88 : List (Str × NameKind) := [(".0", .local), ("_law_sheet", .cell), ("_law_due", .local), ("_law_heard", .globalImplicit)]
def scL88 : Scope := { kind := .function, names := [("_law_sheet", .free), ("Desk", .globalImplicit)], isGenerator := false, isCoroutine := false }
theorem lam88 (sc : Scope) (h : sc.names = blk88) : LamX.LamS sc scL88 := by
  obtain ⟨k, n, g, co, mo⟩ := sc
  have h : n = blk88 := h
  subst h
  refine ⟨rfl, rfl, rfl, fun y hy => ?_, fun y hy e => ?_⟩
  · simp only [scL88, List.mem_cons, List.not_mem_nil, or_false] at hy
    rcases hy with rfl | rfl
    · exact ⟨by decide, by decide⟩
    · exact ⟨by decide, by decide⟩
  · simp only [scL88, List.mem_cons, List.not_mem_nil, or_false] at hy
    rcases hy with rfl | rfl
    · exact .inl (show blk88.lookup (lit "_law_sheet") = some NameKind.cell by decide +kernel)
    · cases e
theorem All2.app2 {α β : Type} {R : α → β → Prop} {as : List α} {bs : List β} (h : All2 R as bs) {a a' : α} {b b' : β} (r : R a b) (r' : R a' b') : All2 R (as ++ [a, a']) (bs ++ [b, b']) := h.app (.cons r (.cons r' .nil))
section
variable {P : Program} {w : World} {K : Frag} {mg : Str → Option Value} {base : Heap}
def sp__law_refused_right (K : Frag) : Sp := fun vs H Q _ => vs = [] ∧ LamX.Tabs (TL88 K) H ∧ ∀ H', Q (.bl true) H'
theorem cal__law_refused_right (T : Txt K mg) (TB0 : LamX.TabB base mg (He.cT K ("_law_refused_right", none)).1 (He.cT K ("_law_refused_right", none)).2) : Cal P w K mg base CX0 11 "_law_refused_right" (sp__law_refused_right K) := by
  obtain ⟨fd, F⟩ := T.d__law_refused_right
  have hb : Binds K fd [] [] := F.bindsN fun _ _ _ _ _ _ us hl => match us, hl with | [], _ => rfl
  obtain ⟨oc, od, dV, kV, doc, pm, an, cdv, ct, osl, rfl, lk, hcd, _, _⟩ := F.ex
  obtain ⟨c, rfl⟩ := He.codeIn_ref hcd
  have hc : (He.cT K ("_law_refused_right", none)).1 = c := He.codeOf_eq (p := ("_law_refused_right", none)) lk rfl
  have TB : LamX.TabB base mg c (He.cT K ("_law_refused_right", none)).2 := by
    rw [← hc]
    exact TB0
  refine ⟨_, _, [], fn_of lk hcd scp__law_refused_right (fun vs H Q E h => ?_) (fun A outer s H vs Q E hr h => ?_), T.g__law_refused_right, F.kp, hb⟩
  · obtain ⟨rfl, _⟩ := h
    rfl
  obtain ⟨rfl, hT, k⟩ := h
  refine ⟨_, PSs.nox (pss_cons (ps_set (i := 0) scp__law_refused_right.nd rfl (.inl rfl) (pe_lst (pa_cons (pe_tup (pa_cons pe_non (pa_cons (pe_tup (pa_cons pe_str (pa_cons pe_non (pa_cons pe_non pa_nil)))) pa_nil))) (pa_cons (pe_tup (pa_cons pe_str (pa_cons (pe_tup (pa_cons pe_str (pa_cons pe_int (pa_cons pe_int pa_nil)))) pa_nil))) (pa_cons (pe_tup (pa_cons pe_str (pa_cons (pe_tup (pa_cons pe_str (pa_cons pe_int (pa_cons pe_int pa_nil)))) pa_nil))) pa_nil)))))
      (pss_cons (ps_set (i := 0) scp__law_refused_right.nd rfl (.inl rfl) (pe_op op_cat (pv 0) (pe_lst (pa_cons (pe_tup (pa_cons pe_str (pa_cons (pe_tup (pa_cons pe_str (pa_cons pe_int (pa_cons pe_int pa_nil)))) pa_nil))) (pa_cons (pe_tup (pa_cons pe_str (pa_cons (pe_tup (pa_cons pe_str (pa_cons pe_int (pa_cons pe_int pa_nil)))) pa_nil))) pa_nil)))))
      (pss_cons (ps_set (i := 0) scp__law_refused_right.nd rfl (.inl rfl) (pe_op op_cat (pv 0) (pe_lst (pa_cons (pe_tup (pa_cons pe_str (pa_cons (pe_tup (pa_cons pe_str (pa_cons pe_int (pa_cons pe_int pa_nil)))) pa_nil))) (pa_cons (pe_tup (pa_cons pe_str (pa_cons (pe_tup (pa_cons pe_str (pa_cons pe_int (pa_cons pe_int pa_nil)))) pa_nil))) pa_nil)))))
      (pss_cons (ps_set (i := 0) scp__law_refused_right.nd rfl (.inl rfl) (pe_op op_cat (pv 0) (pe_lst (pa_cons (pe_tup (pa_cons pe_str (pa_cons (pe_tup (pa_cons pe_str (pa_cons pe_int pa_nil))) pa_nil))) (pa_cons (pe_tup (pa_cons pe_str (pa_cons (pe_tup (pa_cons pe_str (pa_cons (pe_tup (pa_cons pe_int pa_nil)) pa_nil))) pa_nil))) pa_nil)))))
      (pss_cons (ps_set (i := 0) scp__law_refused_right.nd rfl (.inl rfl) (pe_op op_cat (pv 0) (pe_lst (pa_cons (pe_tup (pa_cons (pe_op op_add_str (pe_op op_add_str pe_str (pe_op op_mul_str pe_str pe_int)) pe_str) (pa_cons (pe_tup (pa_cons pe_str (pa_cons pe_int (pa_cons pe_int pa_nil)))) pa_nil))) (pa_cons (pe_tup (pa_cons pe_str (pa_cons (pe_tup (pa_cons pe_str (pa_cons pe_int (pa_cons pe_int pa_nil)))) pa_nil))) pa_nil)))))
      (pss_one (ps_ret (pe_cmpR (op_eqD (hu64 hr)) (pe_lc (own := [("_law_sheet", 1), ("_law_due", 2)]) (g := gTup K 2 (gCons (gName 1) (gCons (gName 2) gNil))) rfl scp__law_refused_right.nd (pi_list (pv 0)) (blkOk_by (N := NN__law_refused_right) (sc := defScope tx__law_refused_right) (by decide +kernel)) (fun _ _ _ _ _ => (pg_tup rfl (pgs_cons (pg_name (i := 1) scp__law_refused_right.nd rfl (.inr rfl)) (pgs_cons (pg_name (i := 2) scp__law_refused_right.nd rfl (.inl rfl)) pgs_nil)))) (fun s1 H1 C1 cl1 fp1 => (pts_one (pt_cmpR (r := rNeD K) (op_neD (hu64 hr)) (pe_heard (K0 := K) (q0 := qL) (j := 10) T TB rfl hr (by decide) rfl (lam88 _ rfl) rfl rfl rfl (fun _ _ _ _ _ => rfl) (by rfl) rfl rfl) (pv 2) (nomark _)))) (fun _ _ _ _ _ => (pv 1))) (pe_lst pa_nil) (nomark _))))))))), ?_⟩
  refine tSeq_to (fun σ' H' => ∃ l, σ' = [some (.ref l), none, none] ∧ Same H H' ∧ RowsAt K H' l (rowsD.take 3)) ?r3 ?m3
  case m3 =>
    intro N hN
    refine ⟨le1000 (by simp), fun c1 h1 => ⟨le1000 (by simp), fun b1 k1 => ⟨le1000 (by simp), fun c2 h2 => ⟨le1000 (by simp), fun b2 k2 => ⟨le1000 (by simp), fun c3 h3 => ⟨le1000 (by simp), fun b3 k3 => ⟨le1000 (by simp), fun lq hq => ?_⟩⟩⟩⟩⟩⟩⟩
    obtain ⟨x1, t1⟩ := row_text (K := K) (x := (rowsD.getD 0 (.non, .prime 0)).1) (l := (((none : Option Int), (none : Option Int))).1) (w := (((none : Option Int), (none : Option Int))).2) h1 k1
    obtain ⟨x2, t2⟩ := row_text (K := K) (x := (rowsD.getD 1 (.non, .prime 0)).1) (l := ((some (0 : Int), some (0 : Int))).1) (w := ((some (0 : Int), some (0 : Int))).2) h2 k2
    obtain ⟨x3, t3⟩ := row_text (K := K) (x := (rowsD.getD 2 (.non, .prime 0)).1) (l := ((some (1 : Int), some (0 : Int))).1) (w := ((some (1 : Int), some (0 : Int))).2) h3 k3
    have tl := sameNew (o := .lst [V.ref b1, V.ref b2, V.ref b3]) hq
    exact hN _ _ ⟨lq, rfl, (t1.trans (t2.trans (t3.trans tl))), _, upd_same, .cons (x1.mono (sameT (t2.trans (t3.trans tl)))) (.cons (x2.mono (sameT (t3.trans tl))) (.cons (x3.mono (sameT tl)) .nil))⟩
  rintro σ3 H3 ⟨l, rfl, s0, vs, hl, hA⟩
  refine tSeq_to (fun σ' H' => ∃ l, σ' = [some (.ref l), none, none] ∧ Same H H' ∧ RowsAt K H' l (rowsD.take 5)) ?r5 ?m5
  case m5 =>
    intro N hN
    refine ⟨_, rfl, le1000 (by simp), fun c1 h1 => ⟨le1000 (by simp), fun b1 k1 => ⟨le1000 (by simp), fun c2 h2 => ⟨le1000 (by simp), fun b2 k2 => ⟨le1000 (by simp), fun lq hq => ?_⟩⟩⟩⟩⟩
    obtain ⟨x1, t1⟩ := row_text (K := K) (x := (rowsD.getD 3 (.non, .prime 0)).1) (l := ((some (0 : Int), some (1 : Int))).1) (w := ((some (0 : Int), some (1 : Int))).2) h1 k1
    obtain ⟨x2, t2⟩ := row_text (K := K) (x := (rowsD.getD 4 (.non, .prime 0)).1) (l := ((some (1 : Int), some (0 : Int))).1) (w := ((some (1 : Int), some (0 : Int))).2) h2 k2
    have tl := sameNew (o := .lst [V.ref b1, V.ref b2]) hq
    have ta := (t1.trans (t2.trans tl))
    refine ⟨l, lq, _, _, rfl, rfl, ta _ _ hl, upd_same, le1000 (by simp [hA.len, rowsD, rowsS]), fun l3 hl3 => ?_⟩
    have t3 := sameNew (o := .lst (vs ++ [V.ref b1, V.ref b2])) hl3
    exact hN _ _ ⟨l3, rfl, s0.trans (ta.trans t3), _, upd_same, (hA.imp fun _ _ q => q.mono (sameT (ta.trans t3))).app2 (x1.mono (sameT ((t2.trans tl).trans t3))) (x2.mono (sameT (tl.trans t3)))⟩
  clear s0 hl hA
  rintro σ5 H5 ⟨l, rfl, s0, vs, hl, hA⟩
  refine tSeq_to (fun σ' H' => ∃ l, σ' = [some (.ref l), none, none] ∧ Same H H' ∧ RowsAt K H' l (rowsD.take 7)) ?r7 ?m7
  case m7 =>
    intro N hN
    refine ⟨_, rfl, le1000 (by simp), fun c1 h1 => ⟨le1000 (by simp), fun b1 k1 => ⟨le1000 (by simp), fun c2 h2 => ⟨le1000 (by simp), fun b2 k2 => ⟨le1000 (by simp), fun lq hq => ?_⟩⟩⟩⟩⟩
    obtain ⟨x1, t1⟩ := row_text (K := K) (x := (rowsD.getD 5 (.non, .prime 0)).1) (l := ((some (2 : Int), some (0 : Int))).1) (w := ((some (2 : Int), some (0 : Int))).2) h1 k1
    obtain ⟨x2, t2⟩ := row_text (K := K) (x := (rowsD.getD 6 (.non, .prime 0)).1) (l := ((some (0 : Int), some (0 : Int))).1) (w := ((some (0 : Int), some (0 : Int))).2) h2 k2
    have tl := sameNew (o := .lst [V.ref b1, V.ref b2]) hq
    have ta := (t1.trans (t2.trans tl))
    refine ⟨l, lq, _, _, rfl, rfl, ta _ _ hl, upd_same, le1000 (by simp [hA.len, rowsD, rowsS]), fun l3 hl3 => ?_⟩
    have t3 := sameNew (o := .lst (vs ++ [V.ref b1, V.ref b2])) hl3
    exact hN _ _ ⟨l3, rfl, s0.trans (ta.trans t3), _, upd_same, (hA.imp fun _ _ q => q.mono (sameT (ta.trans t3))).app2 (x1.mono (sameT ((t2.trans tl).trans t3))) (x2.mono (sameT (tl.trans t3)))⟩
  clear s0 hl hA
  rintro σ7 H7 ⟨l, rfl, s0, vs, hl, hA⟩
  refine tSeq_to (fun σ' H' => ∃ l, σ' = [some (.ref l), none, none] ∧ Same H H' ∧ RowsAt K H' l (rowsD.take 9)) ?r9 ?m9
  case m9 =>
    intro N hN
    refine ⟨_, rfl, le1000 (by simp), fun c1 h1 => ⟨le1000 (by simp), fun b1 k1 => ⟨le1000 (by simp), fun e2 g2 => ⟨le1000 (by simp), fun c2 h2 => ⟨le1000 (by simp), fun b2 k2 => ⟨le1000 (by simp), fun lq hq => ?_⟩⟩⟩⟩⟩⟩
    obtain ⟨x1, t1⟩ := row_prime (K := K) (x := (rowsD.getD 7 (.non, .prime 0)).1) (p := 12) h1 k1
    obtain ⟨x2, t2⟩ := row_lay (K := K) (x := (rowsD.getD 8 (.non, .prime 0)).1) g2 h2 k2
    have tl := sameNew (o := .lst [V.ref b1, V.ref b2]) hq
    have ta := (t1.trans (t2.trans tl))
    refine ⟨l, lq, _, _, rfl, rfl, ta _ _ hl, upd_same, le1000 (by simp [hA.len, rowsD, rowsS]), fun l3 hl3 => ?_⟩
    have t3 := sameNew (o := .lst (vs ++ [V.ref b1, V.ref b2])) hl3
    exact hN _ _ ⟨l3, rfl, s0.trans (ta.trans t3), _, upd_same, (hA.imp fun _ _ q => q.mono (sameT (ta.trans t3))).app2 (x1.mono (sameT ((t2.trans tl).trans t3))) (x2.mono (sameT (tl.trans t3)))⟩
  clear s0 hl hA
  rintro σ9 H9 ⟨l, rfl, s0, vs, hl, hA⟩
  refine tSeq_to (fun σ' H' => ∃ l, σ' = [some (.ref l), none, none] ∧ Same H H' ∧ RowsAt K H' l (rowsD.take 11)) ?r11 ?m11
  case m11 =>
    intro N hN
    refine ⟨_, rfl, _, _, rfl, rfl, by decide, by decide, by decide +kernel, by decide +kernel, le1000 (by decide +kernel), _, _, rfl, rfl, le1000 (by decide +kernel), _, _, rfl, rfl, le1000 (by decide +kernel), le1000 (by simp), fun c1 h1 => ⟨le1000 (by simp), fun b1 k1 => ⟨le1000 (by simp), fun c2 h2 => ⟨le1000 (by simp), fun b2 k2 => ⟨le1000 (by simp), fun lq hq => ?_⟩⟩⟩⟩⟩
    obtain ⟨x1, t1⟩ := row_text (K := K) (x := (rowsD.getD 9 (.non, .prime 0)).1) (l := ((some (1 : Int), some (8 : Int))).1) (w := ((some (1 : Int), some (8 : Int))).2) h1 k1
    obtain ⟨x2, t2⟩ := row_text (K := K) (x := (rowsD.getD 10 (.non, .prime 0)).1) (l := ((some (1 : Int), some (1 : Int))).1) (w := ((some (1 : Int), some (1 : Int))).2) h2 k2
    have tl := sameNew (o := .lst [V.ref b1, V.ref b2]) hq
    have ta := (t1.trans (t2.trans tl))
    refine ⟨l, lq, _, _, rfl, rfl, ta _ _ hl, upd_same, le1000 (by simp [hA.len, rowsD, rowsS]), fun l3 hl3 => ?_⟩
    have t3 := sameNew (o := .lst (vs ++ [V.ref b1, V.ref b2])) hl3
    exact hN _ _ ⟨l3, rfl, s0.trans (ta.trans t3), _, upd_same, (hA.imp fun _ _ q => q.mono (sameT (ta.trans t3))).app2 (x1.mono (sameT ((t2.trans tl).trans t3))) (x2.mono (sameT (tl.trans t3)))⟩
  clear s0 hl hA
  rintro σ11 H11 ⟨l, rfl, s0, vs, hl, hA⟩
  have hA : All2 (RowR K H11) vs rowsD := hA
  have hT11 : LamX.Tabs (TL88 K) H11 := hT.ext s0
  refine ⟨_, rfl, l, rfl, ⟨_, .of hl⟩, fun D hD => ?_⟩
  have sD := sameNew (o := .lst []) hD
  refine lc_suf (walk_list (xs := vs)) rowsD hA.len.symm (fun _ _ H' => LamX.ExtN (upd H11 D (.lst [])) H' ∧ LamX.Tabs (TL88 K) H') ⟨LamX.ExtN.refl _, hT11.ext sD⟩ (fun _ _ H' h => .of (h.1 _ _ (sD _ _ hl) fun ps z => by cases z)) ?_ ?_
  · rintro d q r x H1 H2 e ⟨eN, hT1⟩ ⟨rfl, hx⟩
    obtain ⟨b, cv, rfl, hb1, hd1⟩ := (hA.imp fun _ _ q => q.mono ((sameT (K := K) sD).trans (extTK eN))).get hx (by rw [e]; exact getMid d q r)
    refine ⟨b, _, rfl, hb1, rfl, _, _, rfl, _, _, rfl, rfl, rfl, hT1, fun H3 eN3 hT3 => ?_⟩
    refine ⟨_, rfl, fun y dy hy hdy hney => ⟨y, dy, q.1, rfl, upd_same, ?_⟩⟩
    have sm := sameMake (C := He.ga K "Desk") hy hdy
    have stop : ∀ H4 t o, Same H3 H4 → H4 t = none → Same H3 (upd H4 t o) ∧ TK K H2 (upd H4 t o) ∧ LamX.ExtN (upd H11 D (.lst [])) (upd H4 t o) ∧ LamX.Tabs (TL88 K) (upd H4 t o) := fun H4 t o s4 ht => by
      have s5 := s4.trans (sameNew (o := o) ht)
      exact ⟨s5, (extTK eN3).trans (sameT s5), (eN.trans eN3).trans (LamX.ExtN.of s5), hT3.ext s5⟩
    have hq : q ∈ rowsD := by rw [e]; simp
    rcases List.mem_cons.mp hq with rfl | hq
    · refine .inr ⟨noNon trivial, fun H4 dd f h0 hdd => .inl ⟨dd, _, _, rfl, rfl, hdd, fun t ht => ?_⟩⟩
      obtain ⟨_, k1, k2, k3⟩ := stop H4 t (.tup [.str (lit "text"), .non, .non]) (sm.trans f.toSame) ht
      exact ⟨_, rfl, neDue (d := .text none none) ⟨t, rfl, .of upd_same⟩ (hd1.mono k1) ⟨_, rfl, iteFb rfl ⟨k2, k3⟩⟩⟩
    · obtain ⟨⟨z, i⟩, hs, rfl⟩ := List.mem_map.mp hq
      have chk := List.all_eq_true.mp rowsS_ok _ hs
      rw [Bool.and_eq_true, Bool.and_eq_true] at chk
      obtain ⟨c1, c2, c3⟩ := chk
      have c2 : iniM (rowsM z) = i := of_decide_eq_true c2
      refine .inl ⟨z, rfl, text_of c1, ?_⟩
      rw [c2]
      cases i with
      | ok p sh => cases c3
      | text l w =>
        refine fun H4 dd f h0 hdd => .inl ⟨dd, _, _, rfl, rfl, hdd, fun t ht => ?_⟩
        obtain ⟨_, k1, k2, k3⟩ := stop H4 t (.tup [.str (lit "text"), .int l, .int w]) (sm.trans f.toSame) ht
        exact ⟨_, rfl, neDue (d := .text (some l) (some w)) ⟨t, rfl, .of upd_same⟩ (hd1.mono k1) ⟨_, rfl, iteFb rfl ⟨k2, k3⟩⟩⟩
      | prime p =>
        refine fun H4 dd f h0 hdd => .inr (.inl ⟨dd, _, rfl, rfl, hdd, fun t ht => ?_⟩)
        obtain ⟨_, k1, k2, k3⟩ := stop H4 t (.tup [.str (lit "prime"), .int p]) (sm.trans f.toSame) ht
        exact ⟨_, rfl, neDue (d := .prime p) ⟨t, rfl, .of upd_same⟩ (hd1.mono k1) ⟨_, rfl, iteFb rfl ⟨k2, k3⟩⟩⟩
      | laying ns =>
        refine fun H4' tt s4 htt H4 dd f h0 hdd => .inr (.inr ⟨dd, _, rfl, rfl, hdd, fun t ht => ?_⟩)
        obtain ⟨k0, k1, k2, k3⟩ := stop H4 t (.tup [.str (lit "laying"), .ref tt]) (sm.trans (s4.trans f.toSame)) ht
        exact ⟨_, rfl, neDue (d := .laying ns) ⟨t, tt, rfl, .of upd_same, sameT (f.toSame.trans (sameNew ht)) _ _ htt⟩ (hd1.mono k1) ⟨_, rfl, iteFb rfl ⟨k2, k3⟩⟩⟩
  · rintro H' ⟨eN, _⟩
    have hD' : H' D = some (.lst []) := eN _ _ upd_same fun ps z => by cases z
    refine ⟨le1000 (by simp), fun e he => ?_⟩
    refine eqL (ns := []) (ms := []) (.of ((sameNew he) _ _ hD')) (.of upd_same) ?_
    exact k _

end
end NL
/-! L15: the law -/
namespace NL
open PySem PySem.Spec PyProof.Rows L2
/-! the answers of the written lines, by counting -/
def insM (x : Int × List Int) : Mail → Mail
  | [] => [x]
  | y :: r => if x.1 < y.1 then x :: y :: r else y :: insM x r
theorem ins_perm (x : Int × List Int) : ∀ m : Mail, (insM x m).Perm (m ++ [x])
  | [] => .refl _
  | y :: r => by
    unfold insM
    split
    · exact (List.perm_append_singleton x (y :: r)).symm
    · exact (ins_perm x r).cons y
theorem ins_srt (x : Int × List Int) : ∀ m : Mail, m.Pairwise (fun a b => a.1 < b.1) → (insM x m).Pairwise (fun a b => a.1 ≤ b.1)
  | [], _ => by simp [insM]
  | y :: r, h => by
    rw [List.pairwise_cons] at h
    unfold insM
    split
    · rename_i c
      rw [List.pairwise_cons, List.pairwise_cons]
      refine ⟨fun z hz => ?_, fun z hz => by have := h.1 z hz; omega, h.2.imp fun {a b} h => by omega⟩
      rcases List.mem_cons.mp hz with rfl | hz
      · omega
      · have := h.1 z hz
        omega
    · rename_i c
      rw [List.pairwise_cons]
      refine ⟨fun z hz => ?_, ins_srt x r h.2⟩
      rcases List.mem_append.mp ((ins_perm x r).subset hz) with hz | hz
      · have := h.1 z hz
        omega
      · rw [List.mem_singleton.mp hz]
        omega
def ansB (p : Int) (sh : List Int) (past : List Mail) : Cmd → Option (Str × List Mail)
  | .come n ns => if comeB p sh (cur past) n ns = true then some (istr (reachM sh ((cur past).length + 1)), past ++ [insM (n, ns) (cur past)]) else none
  | .drop n => if n ∈ (cur past).map (·.1) then some (rowM (letM (cur past) n), past ++ [wo (cur past) n]) else none
  | .alone w => aloneA p sh past w
def sayB (p : Int) (sh : List Int) (past : List Mail) (z : Str) : Str × List Mail := (match rowsM z with
  | [ws] => (parseM ws).bind (ansB p sh past)
  | _ => none).getD (lit "no", past)
theorem come_bd {p : Int} {sh : List Int} {m : Mail} {n : Int} {ns : List Int} (h : comeB p sh m n ns = true) : (0 ≤ n ∧ n < sh.length) ∧ ¬ n ∈ m.map (·.1) ∧ (ns.length : Int) = sh.sum ∧ ∀ i ∈ ns, 0 ≤ i ∧ i < p := by
  unfold comeB at h
  rw [Bool.and_eq_true, Bool.and_eq_true, Bool.and_eq_true] at h
  obtain ⟨⟨⟨h1, h2⟩, h3⟩, h4⟩ := h
  have h1 := of_decide_eq_true h1
  refine ⟨⟨h1.1, by omega⟩, fun z => ?_, of_decide_eq_true h4, fun i hi => ?_⟩
  · rw [decide_eq_true z] at h2
    cases h2
  · have := of_decide_eq_true (List.all_eq_true.mp h3 i hi)
    omega
theorem ans_eq {p : Int} {sh : List Int} {past : List Mail} (h : PastOk p sh past) : ansCmd p sh past = ansB p sh past := by
  funext c
  cases c with
  | come n ns =>
    show (if _ then _ else _) = (if _ then _ else _)
    by_cases c : comeB p sh (cur past) n ns = true
    · obtain ⟨b1, b2, b3, b4⟩ := come_bd c
      have hnd := (h.cur.ok.snoc b1 b2 b3 b4).nd
      rw [if_pos c, if_pos c, srt_unique (ins_perm (n, ns) (cur past)) hnd (ins_srt _ _ h.cur.srt)]
    · rw [if_neg c, if_neg c]
  | drop n => rfl
  | alone w => rfl
theorem say_eq {p : Int} {sh : List Int} {past : List Mail} (h : PastOk p sh past) (z : Str) : sayA p sh past z = sayB p sh past z := by
  unfold sayA sayB sayM
  have ef := ans_eq h
  revert ef
  generalize ansCmd p sh past = fC
  rintro rfl
  generalize rowsM z = rows
  cases rows with
  | nil => rfl
  | cons a t => cases t <;> rfl
theorem alone_ok {p : Int} {sh : List Int} {past : List Mail} (h : PastOk p sh past) {w : Str} {q : Str × List Mail} (e : aloneA p sh past w = some q) : PastOk p sh q.2 ∧ q.2.length ≤ past.length + 1 := by
  have hund := undo_deed (p := p) (sh := sh) h
  unfold aloneA at e
  have same : ∀ {a : Str} {q : Str × List Mail}, some (a, past) = some q → PastOk p sh q.2 ∧ q.2.length ≤ past.length + 1 := fun e => by
    cases e
    exact ⟨h, Nat.le_succ _⟩
  split at e
  · exact same e
  split at e
  · exact same e
  split at e
  · split at e
    · exact same e
    · cases e
  split at e
  · exact same e
  split at e
  · exact same e
  split at e
  · exact same e
  cases e
  exact ⟨hund.ok, hund.len⟩
theorem say_ok {p : Int} {sh : List Int} {past : List Mail} (h : PastOk p sh past) (z : Str) : PastOk p sh (sayA p sh past z).2 ∧ (sayA p sh past z).2.length ≤ past.length + 1 := by
  unfold sayA
  cases e : sayM p sh past (rowsM z) with
  | none => exact ⟨h, by simp⟩
  | some q =>
    show PastOk p sh q.2 ∧ q.2.length ≤ past.length + 1
    unfold sayM at e
    split at e
    · obtain ⟨c, _, e2⟩ := Option.bind_eq_some_iff.mp e
      cases c with
      | come n ns =>
        have e2 : (if comeB p sh (cur past) n ns = true then some (istr (reachM sh ((cur past).length + 1)), past ++ [srtM (cur past ++ [(n, ns)])]) else none) = some q := e2
        split at e2
        · rename_i c
          obtain ⟨b1, b2, b3, b4⟩ := come_bd c
          cases e2
          exact ⟨h.add (h.cur.add b1 b2 b3 b4), by simp⟩
        · cases e2
      | drop n =>
        have e2 : (if n ∈ (cur past).map (·.1) then some (rowM (letM (cur past) n), past ++ [wo (cur past) n]) else none) = some q := e2
        split at e2
        · cases e2
          exact ⟨h.add (h.cur.filter _), by simp⟩
        · cases e2
      | alone w => exact alone_ok h e2
    · cases e
def talkB (p : Int) (sh : List Int) : List Mail → List (Str × Str) → Bool
  | _, [] => true
  | past, (z, d) :: r => textB z && (decide ((sayB p sh past z).1 = d) && talkB p sh (sayB p sh past z).2 r)
def talkL : List (Str × Str) := [("read", "none"), ("mail", "none"), ("more", "1"), ("come 0 : 5 1", "1"), ("read", "5"), ("more", "2"), ("come 2 : 5 3", "3"), ("read", "5 0 1"), ("more", "0"), ("come 1 : 5 9", "3"), ("read", "no"), ("suspects", "0 1 2"), ("drop 1", "5 9"),
  ("read", "5 0 1"), ("undo", "done"), ("undo", "done"), ("come 1 : 5 2", "3"), ("suspects", "none"), ("read", "5 0 1"), ("deeds", "3")]
theorem talk_ok : talkB 11 [1, 1, 0] [[]] talkL = true := by decide +kernel
theorem desk_110 : textB (lit "11\n1 1 0") = true ∧ iniM (rowsM (lit "11\n1 1 0")) = .ok 11 [1, 1, 0] := by decide +kernel
theorem name_to {i : Nat} {v : V} {σ : L2.St} {H : Hp} {N : L2.St → Hp → Prop} (h : N (σ.set i (some v)) H) : gName i v σ H N := h
def LineR (K : Frag) (H : Hp) (v : V) (q : Str × Str) : Prop := ∃ b, v = .ref b ∧ SqT K H b [.str q.1, .str q.2]
theorem line_mk {K : Frag} {H : Hp} {b : Addr} {q : Str × Str} (_ : H b = none) : LineR K (upd H b (.tup [.str q.1, .str q.2])) (.ref b) q := ⟨b, rfl, .of upd_same⟩
theorem LineR.mono {K : Frag} {H H' : Hp} (t : TK K H H') {v : V} {q : Str × Str} (h : LineR K H v q) : LineR K H' v q := let ⟨b, e, s⟩ := h; ⟨b, e, t _ _ s⟩
section
variable {P : Program} {w : World} {K : Frag} {mg : Str → Option Value} {base : Heap}
def sp_law (K : Frag) : Sp := fun vs H Q _ => ∃ (a : Addr) (ns : List Int), vs = [.ref a] ∧ SqL K H a (ns.map .int) ∧ ns.length ≤ 63 ∧ H (He.cT K ("_law_refused_right", none)).2 = some (.tbl #[]) ∧ ∀ H', Q (.bl true) H'
abbrev tx_law : Stmt := top 89
abbrev NN_law : List Str := ["_law_script", "_law_state", "_law_turn", "_law_desk", "_law_rows", "_law_line", "_law_due"]
theorem scp_law : FnScope NN_law ["_law_script"] (defScope tx_law) := ⟨rfl, rfl, rfl, by decide +kernel, rfl, by decide +kernel, by decide +kernel⟩
theorem law_okG {fd : FuncData} (T : Txt K mg) (F : FunD K "law" "law" (defArgs (top 89)) (defBody (top 89)) (defScope (top 89)) [] [] (He.ga K "law") fd) (TB0 : LamX.TabB base mg (He.cT K ("_law_refused_right", none)).1 (He.cT K ("_law_refused_right", none)).2) : FnOkG P w K mg base CX0 14 (He.ga K "law") fd ["_law_script"] (sp_law K) := by
  refine okG F scp_law (fun vs H Q E h => ?_) (fun cdv A outer s H vs Q E hr hg h => ?_)
  · obtain ⟨a, ns, rfl, _⟩ := h
    rfl
  obtain ⟨a, ns, rfl, hs, hl, hP, k⟩ := h
  refine ⟨_, PSs.nox (pss_cons (ps_set (i := 1) scp_law.nd rfl (.inl rfl) (pe_cal (cal__law_begin T) hr (by decide) pass0 (pa_cons (pv 0) pa_nil)))
      (pss_cons (ps_for PassesOwn.never rfl (pi_range1 (by rfl) T.z_range (pa_cons (pe_op op_add pe_int (pe_callB (call_min2 rfl) (by rfl) T.z_min (by decide +kernel) (pa_cons (pe_callB call_len_seq (by rfl) T.z_len PySem.boot_len (pa_cons (pv 0) pa_nil)) (pa_cons pe_int pa_nil)))) pa_nil)) (pg_name (i := 2) scp_law.nd rfl (.inl rfl))
      (pss_one (ps_if (pt_not (pt_val (pe_calG (cal__law_right T) hr (by decide) hg pass0 (pa_cons (pv 1) pa_nil)))) (pss_one (ps_ret pe_bl)) pss_nil)))
      (pss_cons (ps_set (i := 3) scp_law.nd rfl (.inr rfl) (pe_new (new_Desk T) hr (by decide) (passes_call (E := fun _ _ _ => False) (takes0 (X := _)) (fun _ _ _ _ h => h)) (pa_cons pe_str pa_nil)))
      (pss_cons (ps_set (i := 4) scp_law.nd rfl (.inl rfl) (pe_lst (pa_cons (pe_tup (pa_cons pe_str (pa_cons pe_str pa_nil))) (pa_cons (pe_tup (pa_cons pe_str (pa_cons pe_str pa_nil))) (pa_cons (pe_tup (pa_cons pe_str (pa_cons pe_str pa_nil))) (pa_cons (pe_tup (pa_cons pe_str (pa_cons pe_str pa_nil))) (pa_cons (pe_tup (pa_cons pe_str (pa_cons pe_str pa_nil))) pa_nil)))))))
      (pss_cons (ps_set (i := 4) scp_law.nd rfl (.inl rfl) (pe_op op_cat (pv 4) (pe_lst (pa_cons (pe_tup (pa_cons pe_str (pa_cons pe_str pa_nil))) (pa_cons (pe_tup (pa_cons pe_str (pa_cons pe_str pa_nil))) (pa_cons (pe_tup (pa_cons pe_str (pa_cons pe_str pa_nil))) (pa_cons (pe_tup (pa_cons pe_str (pa_cons pe_str pa_nil))) pa_nil)))))))
      (pss_cons (ps_set (i := 4) scp_law.nd rfl (.inl rfl) (pe_op op_cat (pv 4) (pe_lst (pa_cons (pe_tup (pa_cons pe_str (pa_cons pe_str pa_nil))) (pa_cons (pe_tup (pa_cons pe_str (pa_cons pe_str pa_nil))) (pa_cons (pe_tup (pa_cons pe_str (pa_cons pe_str pa_nil))) (pa_cons (pe_tup (pa_cons pe_str (pa_cons pe_str pa_nil))) pa_nil)))))))
      (pss_cons (ps_set (i := 4) scp_law.nd rfl (.inl rfl) (pe_op op_cat (pv 4) (pe_lst (pa_cons (pe_tup (pa_cons pe_str (pa_cons pe_str pa_nil))) (pa_cons (pe_tup (pa_cons pe_str (pa_cons pe_str pa_nil))) (pa_cons (pe_tup (pa_cons pe_str (pa_cons pe_str pa_nil))) (pa_cons (pe_tup (pa_cons pe_str (pa_cons pe_str pa_nil))) pa_nil)))))))
      (pss_cons (ps_set (i := 4) scp_law.nd rfl (.inl rfl) (pe_op op_cat (pv 4) (pe_lst (pa_cons (pe_tup (pa_cons pe_str (pa_cons pe_str pa_nil))) (pa_cons (pe_tup (pa_cons pe_str (pa_cons pe_str pa_nil))) (pa_cons (pe_tup (pa_cons pe_str (pa_cons pe_str pa_nil))) pa_nil))))))
      (pss_one (ps_ret (pe_and (pe_cmpR (op_eqD (hu64 hr)) (pe_lc (own := [("_law_line", 5), ("_law_due", 6)]) (g := gTup K 2 (gCons (gName 5) (gCons (gName 6) gNil))) rfl scp_law.nd (pi_list (pv 4)) (blkOk_by (N := NN_law) (sc := defScope tx_law) (by decide +kernel)) (fun _ _ _ _ _ => (pg_tup rfl (pgs_cons (pg_name (i := 5) scp_law.nd rfl (.inl rfl)) (pgs_cons (pg_name (i := 6) scp_law.nd rfl (.inl rfl)) pgs_nil)))) (fun _ _ _ _ _ => (pts_one (pt_cmpR op_ne (pe_cam (pv 3) T.cls_Desk (cal_Desk_say T) hr (by decide) pass0 (pa_cons (pv 5) pa_nil)) (pv 6) (nomark _)))) (fun _ _ _ _ _ => (pv 5))) (pe_lst pa_nil) (nomark _)) (pe_one (pe_cal0 (cal__law_refused_right T TB0) hr (by decide) pass0))))))))))))), ?_⟩
  refine ⟨_, rfl, a, ns, rfl, hs, hl, fun H1 st c l s1 L1 hst0 hc0 hl0 => ?_⟩
  have hP1 := s1 _ _ hP
  have nP : ∀ {H' : Hp}, LSt K H' st c l 0 → H' (He.cT K ("_law_refused_right", none)).2 = some (.tbl #[]) → (He.cT K ("_law_refused_right", none)).2 ∉ [st, l] := fun L e => by
    obtain ⟨kvs, cs, ls, a', q⟩ := L
    have h1 := ne_of e q.d (by intro z; cases z)
    have h2 := ne_of e q.hl (by intro z; cases z)
    simp [h1, h2]
  have nP := nP L1 hP1
  refine ⟨_, rfl, a, _, rfl, .inl (sameL s1 hs), _, _, rfl, _, _, rfl, rfl, _, rfl, ?_, ?_, ?_⟩
  · split <;> omega
  · rw [List.length_map]
    split <;> omega
  rw [List.length_map]
  have hm : 0 ≤ (if (5 : Int) < ((ns.length : Nat) : Int) then (5 : Int) else ((ns.length : Nat) : Int)) ∧ (if (5 : Int) < ((ns.length : Nat) : Int) then (5 : Int) else ((ns.length : Nat) : Int)) ≤ 5 := by split <;> omega
  generalize (if (5 : Int) < ((ns.length : Nat) : Int) then (5 : Int) else ((ns.length : Nat) : Int)) = m at *
  refine for_suf walk_range (List.range (2 + m).toNat) (by simp) (fun d _ σ H' => ∃ v2 : Option V, σ = [some (.ref a), some (.ref st), v2, none, none, none, none] ∧ LSt K H' st c l (0 + 1000 * d.length) ∧ H' (He.cT K ("_law_refused_right", none)).2 = some (.tbl #[])) ?_ ?_ ?_ ?_
  · exact ⟨_, rfl, L1, hP1⟩
  · intro d r σ H' _
    trivial
  · rintro d b r x σ H2 H3 e ⟨v2, rfl, L2', hP2⟩ ⟨rfl, rfl⟩
    have hdl : d.length < 8 := by
      have := congrArg List.length e
      simp at this
      omega
    refine ⟨_, rfl, st, c, l, _, rfl, L2', by omega, fun H4 f4 L4 => ⟨_, rfl, iteFb rfl ?_⟩⟩
    refine ⟨_, rfl, ?_, f4.at hP2 nP⟩
    have e2 : 0 + 1000 * (d ++ [b]).length = 0 + 1000 * d.length + 1000 := by simp; omega
    rw [e2]
    exact L4
  rintro σ H7 ⟨v2, rfl, _, hP7⟩
  refine fun dk dx hdk hdx hdne => ?_
  have smk := sameMake (C := He.ga K "Desk") hdk hdx
  refine ⟨dk, dx, _, rfl, upd_same, .inl ⟨lit "11\n1 1 0", rfl, text_of desk_110.1, ?_⟩⟩
  rw [desk_110.2]
  refine fun H8 r f8 hr0 D8 => ⟨rfl, ?_⟩
  have s78 : Same H7 H8 := sameFr smk hdk f8
  have hP8 := s78 _ _ hP7
  refine name_to ?_
  dsimp only
  refine tSeq_to (t := tAsg (tLst _) (gName 4)) (fun σ' H' => ∃ lr, σ' = [some (.ref a), some (.ref st), v2, some (.ref dk), some (.ref lr), none, none] ∧ Same H8 H' ∧ ∃ vs, H' lr = some (.lst vs) ∧ All2 (LineR K H') vs (talkL.take 5)) ?r5 ?m5
  case m5 =>
    intro N hN
    refine ⟨le1000 (by simp), fun b1 h1 => ⟨le1000 (by simp), fun b2 h2 => ⟨le1000 (by simp), fun b3 h3 => ⟨le1000 (by simp), fun b4 h4 => ⟨le1000 (by simp), fun b5 h5 => ⟨le1000 (by simp), fun lq hq => ?_⟩⟩⟩⟩⟩⟩
    have t1 := sameNew (o := .tup [V.str (talkL.getD 0 ("", "")).1, V.str (talkL.getD 0 ("", "")).2]) h1
    have t2 := sameNew (o := .tup [V.str (talkL.getD 1 ("", "")).1, V.str (talkL.getD 1 ("", "")).2]) h2
    have t3 := sameNew (o := .tup [V.str (talkL.getD 2 ("", "")).1, V.str (talkL.getD 2 ("", "")).2]) h3
    have t4 := sameNew (o := .tup [V.str (talkL.getD 3 ("", "")).1, V.str (talkL.getD 3 ("", "")).2]) h4
    have t5 := sameNew (o := .tup [V.str (talkL.getD 4 ("", "")).1, V.str (talkL.getD 4 ("", "")).2]) h5
    have tl := sameNew (o := .lst [V.ref b1, V.ref b2, V.ref b3, V.ref b4, V.ref b5]) hq
    exact hN _ _ ⟨lq, rfl, (t1.trans (t2.trans (t3.trans (t4.trans (t5.trans tl))))), _, upd_same, .cons (LineR.mono (sameT (t2.trans (t3.trans (t4.trans (t5.trans tl))))) (line_mk (q := talkL.getD 0 ("", "")) h1)) (.cons (LineR.mono (sameT (t3.trans (t4.trans (t5.trans tl)))) (line_mk (q := talkL.getD 1 ("", "")) h2)) (.cons (LineR.mono (sameT (t4.trans (t5.trans tl))) (line_mk (q := talkL.getD 2 ("", "")) h3)) (.cons (LineR.mono (sameT (t5.trans tl)) (line_mk (q := talkL.getD 3 ("", "")) h4)) (.cons (LineR.mono (sameT tl) (line_mk (q := talkL.getD 4 ("", "")) h5)) .nil))))⟩
  rintro σ5 G5 ⟨lr, rfl, s8, vs, hlr, hA⟩
  refine tSeq_to (fun σ' H' => ∃ lr, σ' = [some (.ref a), some (.ref st), v2, some (.ref dk), some (.ref lr), none, none] ∧ Same H8 H' ∧ ∃ vs, H' lr = some (.lst vs) ∧ All2 (LineR K H') vs (talkL.take 9)) ?r9 ?m9
  case m9 =>
    intro N hN
    refine ⟨_, rfl, le1000 (by simp), fun b1 h1 => ⟨le1000 (by simp), fun b2 h2 => ⟨le1000 (by simp), fun b3 h3 => ⟨le1000 (by simp), fun b4 h4 => ⟨le1000 (by simp), fun lq hq => ?_⟩⟩⟩⟩⟩
    have t1 := sameNew (o := .tup [V.str (talkL.getD 5 ("", "")).1, V.str (talkL.getD 5 ("", "")).2]) h1
    have t2 := sameNew (o := .tup [V.str (talkL.getD 6 ("", "")).1, V.str (talkL.getD 6 ("", "")).2]) h2
    have t3 := sameNew (o := .tup [V.str (talkL.getD 7 ("", "")).1, V.str (talkL.getD 7 ("", "")).2]) h3
    have t4 := sameNew (o := .tup [V.str (talkL.getD 8 ("", "")).1, V.str (talkL.getD 8 ("", "")).2]) h4
    have tl := sameNew (o := .lst [V.ref b1, V.ref b2, V.ref b3, V.ref b4]) hq
    have ta := (t1.trans (t2.trans (t3.trans (t4.trans tl))))
    refine ⟨lr, lq, _, _, rfl, rfl, ta _ _ hlr, upd_same, le1000 (by simp [hA.len, talkL]), fun l3 hl3 => ?_⟩
    have t9 := sameNew (o := .lst (vs ++ [V.ref b1, V.ref b2, V.ref b3, V.ref b4])) hl3
    exact hN _ _ ⟨l3, rfl, s8.trans (ta.trans t9), _, upd_same, (hA.imp fun _ _ q => q.mono (sameT (ta.trans t9))).app (.cons (LineR.mono (sameT t9) (LineR.mono (sameT (t2.trans (t3.trans (t4.trans tl)))) (line_mk (q := talkL.getD 5 ("", "")) h1))) (.cons (LineR.mono (sameT t9) (LineR.mono (sameT (t3.trans (t4.trans tl))) (line_mk (q := talkL.getD 6 ("", "")) h2))) (.cons (LineR.mono (sameT t9) (LineR.mono (sameT (t4.trans tl)) (line_mk (q := talkL.getD 7 ("", "")) h3))) (.cons (LineR.mono (sameT t9) (LineR.mono (sameT tl) (line_mk (q := talkL.getD 8 ("", "")) h4))) .nil))))⟩
  clear s8 hlr hA
  rintro σ9 G9 ⟨lr, rfl, s8, vs, hlr, hA⟩
  refine tSeq_to (fun σ' H' => ∃ lr, σ' = [some (.ref a), some (.ref st), v2, some (.ref dk), some (.ref lr), none, none] ∧ Same H8 H' ∧ ∃ vs, H' lr = some (.lst vs) ∧ All2 (LineR K H') vs (talkL.take 13)) ?r13 ?m13
  case m13 =>
    intro N hN
    refine ⟨_, rfl, le1000 (by simp), fun b1 h1 => ⟨le1000 (by simp), fun b2 h2 => ⟨le1000 (by simp), fun b3 h3 => ⟨le1000 (by simp), fun b4 h4 => ⟨le1000 (by simp), fun lq hq => ?_⟩⟩⟩⟩⟩
    have t1 := sameNew (o := .tup [V.str (talkL.getD 9 ("", "")).1, V.str (talkL.getD 9 ("", "")).2]) h1
    have t2 := sameNew (o := .tup [V.str (talkL.getD 10 ("", "")).1, V.str (talkL.getD 10 ("", "")).2]) h2
    have t3 := sameNew (o := .tup [V.str (talkL.getD 11 ("", "")).1, V.str (talkL.getD 11 ("", "")).2]) h3
    have t4 := sameNew (o := .tup [V.str (talkL.getD 12 ("", "")).1, V.str (talkL.getD 12 ("", "")).2]) h4
    have tl := sameNew (o := .lst [V.ref b1, V.ref b2, V.ref b3, V.ref b4]) hq
    have ta := (t1.trans (t2.trans (t3.trans (t4.trans tl))))
    refine ⟨lr, lq, _, _, rfl, rfl, ta _ _ hlr, upd_same, le1000 (by simp [hA.len, talkL]), fun l3 hl3 => ?_⟩
    have t9 := sameNew (o := .lst (vs ++ [V.ref b1, V.ref b2, V.ref b3, V.ref b4])) hl3
    exact hN _ _ ⟨l3, rfl, s8.trans (ta.trans t9), _, upd_same, (hA.imp fun _ _ q => q.mono (sameT (ta.trans t9))).app (.cons (LineR.mono (sameT t9) (LineR.mono (sameT (t2.trans (t3.trans (t4.trans tl)))) (line_mk (q := talkL.getD 9 ("", "")) h1))) (.cons (LineR.mono (sameT t9) (LineR.mono (sameT (t3.trans (t4.trans tl))) (line_mk (q := talkL.getD 10 ("", "")) h2))) (.cons (LineR.mono (sameT t9) (LineR.mono (sameT (t4.trans tl)) (line_mk (q := talkL.getD 11 ("", "")) h3))) (.cons (LineR.mono (sameT t9) (LineR.mono (sameT tl) (line_mk (q := talkL.getD 12 ("", "")) h4))) .nil))))⟩
  clear s8 hlr hA
  rintro σ13 G13 ⟨lr, rfl, s8, vs, hlr, hA⟩
  refine tSeq_to (fun σ' H' => ∃ lr, σ' = [some (.ref a), some (.ref st), v2, some (.ref dk), some (.ref lr), none, none] ∧ Same H8 H' ∧ ∃ vs, H' lr = some (.lst vs) ∧ All2 (LineR K H') vs (talkL.take 17)) ?r17 ?m17
  case m17 =>
    intro N hN
    refine ⟨_, rfl, le1000 (by simp), fun b1 h1 => ⟨le1000 (by simp), fun b2 h2 => ⟨le1000 (by simp), fun b3 h3 => ⟨le1000 (by simp), fun b4 h4 => ⟨le1000 (by simp), fun lq hq => ?_⟩⟩⟩⟩⟩
    have t1 := sameNew (o := .tup [V.str (talkL.getD 13 ("", "")).1, V.str (talkL.getD 13 ("", "")).2]) h1
    have t2 := sameNew (o := .tup [V.str (talkL.getD 14 ("", "")).1, V.str (talkL.getD 14 ("", "")).2]) h2
    have t3 := sameNew (o := .tup [V.str (talkL.getD 15 ("", "")).1, V.str (talkL.getD 15 ("", "")).2]) h3
    have t4 := sameNew (o := .tup [V.str (talkL.getD 16 ("", "")).1, V.str (talkL.getD 16 ("", "")).2]) h4
    have tl := sameNew (o := .lst [V.ref b1, V.ref b2, V.ref b3, V.ref b4]) hq
    have ta := (t1.trans (t2.trans (t3.trans (t4.trans tl))))
    refine ⟨lr, lq, _, _, rfl, rfl, ta _ _ hlr, upd_same, le1000 (by simp [hA.len, talkL]), fun l3 hl3 => ?_⟩
    have t9 := sameNew (o := .lst (vs ++ [V.ref b1, V.ref b2, V.ref b3, V.ref b4])) hl3
    exact hN _ _ ⟨l3, rfl, s8.trans (ta.trans t9), _, upd_same, (hA.imp fun _ _ q => q.mono (sameT (ta.trans t9))).app (.cons (LineR.mono (sameT t9) (LineR.mono (sameT (t2.trans (t3.trans (t4.trans tl)))) (line_mk (q := talkL.getD 13 ("", "")) h1))) (.cons (LineR.mono (sameT t9) (LineR.mono (sameT (t3.trans (t4.trans tl))) (line_mk (q := talkL.getD 14 ("", "")) h2))) (.cons (LineR.mono (sameT t9) (LineR.mono (sameT (t4.trans tl)) (line_mk (q := talkL.getD 15 ("", "")) h3))) (.cons (LineR.mono (sameT t9) (LineR.mono (sameT tl) (line_mk (q := talkL.getD 16 ("", "")) h4))) .nil))))⟩
  clear s8 hlr hA
  rintro σ17 G17 ⟨lr, rfl, s8, vs, hlr, hA⟩
  refine tSeq_to (fun σ' H' => ∃ lr, σ' = [some (.ref a), some (.ref st), v2, some (.ref dk), some (.ref lr), none, none] ∧ Same H8 H' ∧ ∃ vs, H' lr = some (.lst vs) ∧ All2 (LineR K H') vs (talkL.take 20)) ?r20 ?m20
  case m20 =>
    intro N hN
    refine ⟨_, rfl, le1000 (by simp), fun b1 h1 => ⟨le1000 (by simp), fun b2 h2 => ⟨le1000 (by simp), fun b3 h3 => ⟨le1000 (by simp), fun lq hq => ?_⟩⟩⟩⟩
    have t1 := sameNew (o := .tup [V.str (talkL.getD 17 ("", "")).1, V.str (talkL.getD 17 ("", "")).2]) h1
    have t2 := sameNew (o := .tup [V.str (talkL.getD 18 ("", "")).1, V.str (talkL.getD 18 ("", "")).2]) h2
    have t3 := sameNew (o := .tup [V.str (talkL.getD 19 ("", "")).1, V.str (talkL.getD 19 ("", "")).2]) h3
    have tl := sameNew (o := .lst [V.ref b1, V.ref b2, V.ref b3]) hq
    have ta := (t1.trans (t2.trans (t3.trans tl)))
    refine ⟨lr, lq, _, _, rfl, rfl, ta _ _ hlr, upd_same, le1000 (by simp [hA.len, talkL]), fun l3 hl3 => ?_⟩
    have t9 := sameNew (o := .lst (vs ++ [V.ref b1, V.ref b2, V.ref b3])) hl3
    exact hN _ _ ⟨l3, rfl, s8.trans (ta.trans t9), _, upd_same, (hA.imp fun _ _ q => q.mono (sameT (ta.trans t9))).app (.cons (LineR.mono (sameT t9) (LineR.mono (sameT (t2.trans (t3.trans tl))) (line_mk (q := talkL.getD 17 ("", "")) h1))) (.cons (LineR.mono (sameT t9) (LineR.mono (sameT (t3.trans tl)) (line_mk (q := talkL.getD 18 ("", "")) h2))) (.cons (LineR.mono (sameT t9) (LineR.mono (sameT tl) (line_mk (q := talkL.getD 19 ("", "")) h3))) .nil)))⟩
  clear s8 hlr hA
  rintro σ20 G20 ⟨lr, rfl, s8, vs, hlr, hA⟩
  have hA : All2 (LineR K G20) vs talkL := hA
  have D9 := D8.same s8
  have hP9 := s8 _ _ hP8
  obtain ⟨_, ⟨rx, la, tt, ru, R9⟩⟩ := id D9
  have rP : r ≠ (He.cT K ("_law_refused_right", none)).2 := ne_of R9.ob hP9 (by intro z; cases z)
  have rl : r ≠ lr := ne_of R9.ob hlr (by intro z; cases z)
  refine ⟨_, rfl, lr, rfl, ⟨_, .of hlr⟩, fun D hD => ?_⟩
  have sD := sameNew (o := .lst []) hD
  have rD : r ≠ D := ne_of_none R9.ob hD
  have hs3 : ShOk [1, 1, 0] := ⟨by decide, by decide, by decide⟩
  have hp11 : Prm 11 := .inl rfl
  refine lc_suf (walk_list (xs := vs)) talkL hA.len.symm (fun d rest H' => ∃ past, Fr [r] (upd G20 D (.lst [])) H' ∧ DAt K H' dk r 11 [1, 1, 0] past ∧ PastOk 11 [1, 1, 0] past ∧ past.length ≤ 1 + d.length ∧ talkB 11 [1, 1, 0] past rest = true) ?_ ?_ ?_ ?_
  · exact ⟨[[]], Fr.refl _ _, D9.same sD, ⟨by simp, fun m hm => by rw [List.mem_singleton.mp hm]; exact CurOk.nil _ _⟩, by simp, talk_ok⟩
  · rintro d rest H' ⟨past, F, _⟩
    exact .of (F.at (sD _ _ hlr) (by simpa using rl.symm))
  · rintro d q rest x H1' H2 e ⟨past, F, D2, ok2, hpl, htk⟩ ⟨rfl, hx⟩
    obtain ⟨b, rfl, hb⟩ := (hA.imp fun _ _ q => q.mono ((sameT (K := K) sD).trans F.tk)).get hx (by rw [e]; exact getMid d q rest)
    obtain ⟨z, due⟩ := q
    unfold talkB at htk
    rw [Bool.and_eq_true, Bool.and_eq_true] at htk
    obtain ⟨k1, k2, k3⟩ := htk
    have k2 : (sayB 11 [1, 1, 0] past z).1 = due := of_decide_eq_true k2
    have hdl : d.length < 20 := by
      have := congrArg List.length e
      simp [talkL] at this
      omega
    obtain ⟨o1, o2⟩ := say_ok ok2 z
    have hsay : sayA 11 [1, 1, 0] past z = (due, (sayB 11 [1, 1, 0] past z).2) := by
      rw [say_eq ok2, ← k2]
    rw [say_eq ok2] at o1 o2
    obtain ⟨⟨ddx, hd2⟩, _⟩ := id D2
    refine ⟨b, _, rfl, hb, rfl, _, _, rfl, _, _, rfl, rfl, rfl, ?_⟩
    refine ⟨_, rfl, dk, ddx, _, rfl, hd2, df_no r (by decide +kernel), _, rfl, nil_of (say_sp D2 ⟨ok2, hs3, hp11, by omega⟩ (text_of k1) hsay fun H3 f3 D3 => ⟨_, rfl, rfl, _, rfl, iteFb (by simp) ?_⟩)⟩
    exact ⟨_, F.trans f3, D3, o1, by simp; omega, k3⟩
  · rintro H' ⟨past, F, _⟩
    have hD' : H' D = some (.lst []) := F.at upd_same (by simpa using rD.symm)
    have hP' := F.at (sD _ _ hP9) (by simpa using rP.symm)
    refine ⟨le1000 (by simp), fun e he => ?_⟩
    refine eqL (ns := []) (ms := []) (.of ((sameNew he) _ _ hD')) (.of upd_same) ⟨_, rfl, iteTb rfl ?_⟩
    refine ⟨rfl, fun p hp => ?_, fun H'' => k H''⟩
    rw [List.mem_singleton.mp hp]
    exact LamX.TabS.nil ((sameNew he) _ _ hP')
end
end NL
/-! R11: a law's end over FnOkG: the script is told as it stands, one empty table may grow -/
namespace NL
open PySem PySem.Spec PyProof.Rows L2
/-- the script's object; a table that holds nothing -/
abbrev scrO (us : List Value) : Obj := { cls := .type "list", data := .seq us.toArray }
abbrev tab0 : Obj := { cls := .none, data := .fields #[] }
/-- what the law's call finds: the script at r, the code object c with its table t -/
structure Stage (K : Frag) (mg : Str → Option Value) (h : Heap) (r : Addr) (us : List Value) (zs : List Int) (c t : Addr) : Prop where
  mod : L2.Mod K mg h
  main : ∃ (m : Addr) (o : Obj), mg "__builtins__" = some (.ref m) ∧ m ≠ builtinsNs ∧ h.get? m = some o ∧ o.cls = .type "module" ∧ o.dict = some builtinsNs ∧ o.data = .plain
  code : PySem.W.CodeHd h c t
  tab : h.get? t = some tab0
  out : K.lookup t = none
  scr : h.get? r = some (scrO us)
  nums : IntsAre us zs
  few : zs.length ≤ sizeLine
/-- what the law is told of: the table; the script, unless the written part has it -/
def told (K : Frag) (r t : Addr) (us : List Value) (zs : List Int) : Hp := fun b => match K.lookup b with
  | some _ => none
  | none => if b = t then some (.tbl #[]) else if b = r then some (.frz (scrO us) (.lst (zs.map V.int))) else none
section
variable {K : Frag} {mg : Str → Option Value} {h : Heap} {r c t b : Addr} {us : List Value} {zs : List Int} {o : Obj}
theorem told_K (e : K.lookup b = some o) : told K r t us zs b = none := by
  unfold told
  rw [e]
theorem told_none (h1 : b ≠ t) (h2 : b ≠ r) : told K r t us zs b = none := by
  unfold told
  cases K.lookup b with
  | some _ => rfl
  | none => exact (if_neg h1).trans (if_neg h2)
namespace Stage
variable (S : Stage K mg h r us zs c t)
include S
theorem rt : r ≠ t := fun e => by
  have q := (e ▸ S.scr).symm.trans S.tab
  cases q
theorem told_t : told K r t us zs t = some (.tbl #[]) := by
  unfold told
  rw [S.out]
  exact if_pos rfl
theorem told_r (e : K.lookup r = none) : told K r t us zs r = some (.frz (scrO us) (.lst (zs.map V.int))) := by
  unfold told
  rw [e]
  exact (if_neg S.rt).trans (if_pos rfl)
/-- the three kinds of places -/
theorem kinds (b : Addr) : told K r t us zs b = none ∨ b = t ∨ b = r ∧ K.lookup r = none := by
  by_cases h1 : b = t
  · exact .inr (.inl h1)
  by_cases h2 : b = r
  · cases q : K.lookup b with
    | some o => exact .inl (told_K q)
    | none => exact .inr (.inr ⟨h2, h2 ▸ q⟩)
  · exact .inl (told_none h1 h2)
theorem ok {P : Program} {w : World} : HOk P w (told K r t us zs) h := fun b u e => by
  rcases S.kinds b with q | rfl | ⟨rfl, q⟩
  · cases q.symm.trans e
  · cases S.told_t.symm.trans e
    exact S.tab
  · cases (S.told_r q).symm.trans e
    exact ⟨S.scr, by rw [List.length_map]; exact S.few, us, _, vals_ints S.nums, S.scr⟩
/-- what has other data stays in the base -/
theorem stay (e : h.get? b = some o) (n1 : o.data ≠ tab0.data) (n2 : o.data ≠ (scrO us).data) : (hidT h (told K r t us zs)).get? b = some o :=
  hidT_get e (told_none (fun q => n1 (congrArg Obj.data (Option.some.inj ((q ▸ e).symm.trans S.tab)))) fun q => n2 (congrArg Obj.data (Option.some.inj ((q ▸ e).symm.trans S.scr))))
theorem ns {m : Str → Option Value} (e : h.Ns b m) : (hidT h (told K r t us zs)).Ns b m := by
  obtain ⟨o, es, n, e, d, q⟩ := e
  exact ⟨o, es, n, S.stay e (fun z => by cases d.symm.trans z) (fun z => by cases d.symm.trans z), d, q⟩
theorem base : L2.Mod K mg (hidT h (told K r t us zs)) where
  kin := fun b o e => hidT_get (S.mod.kin b o e) (told_K e)
  glob := S.ns S.mod.glob
  blt := S.mod.blt.imp fun _ q => ⟨S.ns q.1, q.2⟩
  nolimit := S.mod.nolimit.imp fun _ q => ⟨S.ns q.1, q.2⟩
theorem table : LamX.TabB (hidT h (told K r t us zs)) mg c t where
  code := by
    obtain ⟨o, vs, f1, f2, f3, f4, f5, f6, f7, e, hc, hd, hp, more⟩ := S.code
    refine ⟨o, vs, f1, f2, f3, f4, f5, f6, f7, S.stay e (fun z => ?_) (fun z => by cases hd.symm.trans z), hc, hd, hp, more⟩
    cases hd.symm.trans z
    cases hp
  bm := by
    obtain ⟨m, o, e1, e2, e3, e4, e5, e6⟩ := S.main
    refine ⟨m, o, e1, e2, fun q => ?_, fun q => ?_, S.stay e3 (fun z => by cases e6.symm.trans z) (fun z => by cases e6.symm.trans z), e4, e5, e6⟩
    · obtain ⟨_, _, _, e, d, _⟩ := S.mod.glob
      cases (q ▸ e3).symm.trans e
      cases e6.symm.trans d
    · cases (q ▸ e3).symm.trans S.tab
      cases e6
  gP := fun q => by
    obtain ⟨_, _, _, e, d, _⟩ := S.mod.glob
    cases (q ▸ e).symm.trans S.tab
    cases d
theorem told_script : SqL K (told K r t us zs) r (zs.map V.int) := by
  cases q : K.lookup r with
  | none => exact .inl (.inr ⟨_, S.told_r q⟩)
  | some o =>
    cases (S.mod.kin r o q).symm.trans S.scr
    exact .inr ⟨_, us.toArray, _, q, rfl, rfl, rfl, by rw [List.size_toArray, S.nums.length]; exact S.few, by simpa using vals_ints S.nums⟩
/-- behind the call: all is as it was, the table has grown -/
theorem after {P : Program} {w : World} {H' : Hp} {h' : Heap} (U : Un (frs []) [] (told K r t us zs) H' h h') (O : HOk P w H' h') : OldK h h' := by
  have off : ∀ {b : Addr} {o : Obj}, b ≠ t → h.get? b = some o → h'.get? b = some o := fun {b o} nb e => by
    rcases S.kinds b with q | q | ⟨rfl, q⟩
    · exact U.keep b o e q (List.not_mem_nil) (List.not_mem_nil)
    · exact absurd q nb
    · cases e.symm.trans S.scr
      exact (O _ _ (U.frzs _ _ _ (S.told_r q))).1
  obtain ⟨more, hm⟩ := U.tbls t #[] S.told_t
  have ht : h'.get? t = some { cls := .none, data := .fields (#[] ++ more) } := O _ _ hm
  constructor
  · intro b o e
    by_cases q : b = t
    · subst q
      cases e.symm.trans S.tab
      exact .inr (.inl ⟨(S.code.tab S.tab).isCodeTable, rfl, #[], more, rfl, ht⟩)
    · exact .inl (off q e)
  · intro b o e
    by_cases q : b = t
    · exact ⟨_, q ▸ ht⟩
    · exact ⟨o, off q e⟩
end Stage
end
/-- the law's call -/
theorem law_callG {P : Program} {w : World} {K : Frag} {mg : Str → Option Value} {CX : CXT} {k : Nat} {f r c t : Addr} {us : List Value} {zs : List Int} {fd : FuncData} {x : Str} {sp : Sp} {s : Shared} (S : Stage K mg s.heap r us zs c t) (hg : s.gens = #[]) (room : Room k callerA)
    (F : FnOkG P w K mg (hidT s.heap (told K r t us zs)) CX k f fd [x] sp) (bind : BindsTo s fd ⟨[.ref r], []⟩ [(x, .ref r)]) (prom : sp [.ref r] (told K r t us zs) (fun v _ => v = .bl true) fun _ _ _ => False)
    (calm : ∀ e s', CX [] (told K r t us zs) s (fun _ _ _ => False) e s' → False) :
    codeAny (model P w) callerA (.call (.ref f) ⟨[.ref r], []⟩) (fun a s' => a = .ok (.ret (.bool true)) ∧ OldK s.heap s'.heap ∧ s'.os = s.os ∧ AllBare s'.gens) s := by
  have env : Env0 P w K mg (hidT s.heap (told K r t us zs)) callerA [] s (told K r t us zs) :=
    { frames := rfl, mod := S.base, bs := fun _ _ e => of_hidT e, bsz := Nat.le_of_eq (hidT_size _ _), funs := trivial, frf := fun _ q => absurd q List.not_mem_nil, hok := S.ok, bare := .of_eq hg }
  refine codeAny_mono (F.run callerA [] s _ _ [.ref r] [.ref r] _ _ room rfl env bind (.cons rfl .nil) prom) ?_
  rintro (e | fl) s' q
  · exact (calm e s' q).elim
  · cases fl with
    | ret u =>
      obtain ⟨v, H', same, bare, U, O, rel, rfl⟩ := q
      cases (show u = .bool true from rel)
      exact ⟨rfl, S.after U O, same, bare⟩
    | _ => exact False.elim q
/-- what the head gives of such a law at the heap h -/
structure LawAtG (l : PySem.W.OpenLaw) (w : World) (K : Frag) (k : Nat) (x : Str) (mg : Str → Option Value) (f : Addr) (h : Heap) (fd : FuncData) (c t : Addr) (sp : Sp) : Prop where
  kin : K.In h
  code : PySem.W.CodeHd h c t
  tab : h.get? t = some tab0
  out : K.lookup t = none
  bind : ∀ (s : Shared) (u : Value), BindsTo s fd ⟨[u], []⟩ [(x, u)]
  prom : ∀ (H : Hp) (r : Addr) (zs : List Int), zs.length ≤ 63 → H t = some (.tbl #[]) → SqL K H r (zs.map V.int) → sp [.ref r] H (fun v _ => v = .bl true) fun _ _ _ => False
  fn : ∀ base : Heap, L2.Mod K mg base → LamX.TabB base mg c t → FnOkG l.prog w K mg base CX0 k f fd [x] sp
theorem walkG {l : PySem.W.OpenLaw} {k : Nat} {q : Program} {loose : List Str} {X : (Str → Option Value) → Heap → Prop} {Y : World → Heap → Prop} {d : DefRec} {x : Str} (hn : l.most = some 63) (plain : d.params.defaults = []) (room : Room k callerA)
    (at_ : ∀ (w : World) (mg : Str → Option Value) (f : Addr) (h : Heap), Y w h → h.Ns mainGlobals mg → mg d.name = some (.ref f) → ∃ K fd c t sp, LawAtG l w K k x mg f h fd c t sp) :
    PySem.W.WalkO q loose X Y l.row.toRowW d [] (fun f vs => PySem.call f vs) := by
  refine Att.attach_callB hn plain fun w _ s mg mb f _ _ _ _ r us zs G y _ _ _ named scr nums len _ hg => ?_
  obtain ⟨K, fd, c, t, sp, L⟩ := at_ w mg f _ y G.T.g named
  have S : Stage K mg s.heap r us zs c t :=
    { mod := ⟨L.kin, G.T.g, ⟨mb, G.T.b, G.T.builtins⟩, G.T.nolimit⟩, main := G.T.bmain, code := L.code, tab := L.tab, out := L.out, scr := scr, nums := nums, few := Nat.le_trans len (by decide) }
  exact law_callG S hg room (L.fn _ S.base S.table) (L.bind _ _) (L.prom _ _ _ len S.told_t S.told_script) fun _ _ z => z
end NL
/-! R12: the head's look: own addresses, getters of properties, own exceptions -/
namespace NL
open PySem PySem.Spec PyProof.Rows L2
/-! ### which addresses are looked at -/
def vRef : Value → List Addr
  | .ref a => [a]
  | _ => []
/-- what a dict's values name -/
def dRef (g : Addr → Option Obj) (a : Addr) : List Addr := match g a with
  | some ⟨_, _, .dict es _, _⟩ => es.toList.flatMap fun e => vRef e.val
  | _ => []
/-- a function's code and defaults; a class's dict; a property's parts -/
def oRef (g : Addr → Option Obj) (a : Addr) : List Addr := match g a with
  | some ⟨_, _, .func fd, _⟩ => vRef fd.code ++ vRef fd.defaults
  | some ⟨_, _, .cls cd, _⟩ => [cd.ns]
  | some ⟨.type n, _, .fields vs, _⟩ => (match decide (n = "property") with
    | true => vs.toList.flatMap vRef
    | false => [])
  | _ => []
def asN (g : Addr → Option Obj) : List Addr :=
  let a1 := dRef g mainGlobals
  let a2 := a1.flatMap (oRef g)
  let a3 := a2.flatMap (dRef g)
  let a4 := a3.flatMap (oRef g)
  let a5 := a4.flatMap (oRef g)
  mainGlobals :: cStatics :: (a1 ++ (a2 ++ (a3 ++ (a4 ++ a5))))
abbrev frN (g : Addr → Option Obj) : Frag := He.frT g (asN g)
/-! ### properties -/
/-- the getter of the property p.2 of the class p.1 -/
def gAd (K : Frag) (p : Str × Str) : Addr := match PySem.W.findIn K (.ref (He.ga K p.1)) p.2 with
  | some (some (.ref q)) => (match PySem.W.recIn K q "property" with
    | some (.ref g :: _) => g
    | _ => 0)
  | _ => 0
def propB (K : Frag) (p : Str × Str) : Bool := match PySem.W.findIn K (.ref (He.ga K p.1)) p.2 with
  | some (some (.ref q)) => He.eqO (PySem.W.specialIn K (.ref q) "__get__") (some (some (.builtin "property.__get__"))) && (decide (PySem.W.takesIn K (.ref q) = some true) && (match PySem.W.recIn K q "property" with
    | some (.ref _ :: _) => true
    | _ => false))
  | _ => false
theorem propB_ok {K : Frag} {p : Str × Str} (h : propB K p = true) : ∃ q, PropOf K (He.ga K p.1) p.2 q (gAd K p) := by
  unfold propB at h
  cases e : PySem.W.findIn K (.ref (He.ga K p.1)) p.2 with
  | none =>
    rw [e] at h
    cases h
  | some r =>
    rw [e] at h
    cases r with
    | none => cases h
    | some u =>
      cases u with
      | ref q =>
        obtain ⟨h1, h2⟩ := He.ba (show (He.eqO (PySem.W.specialIn K (.ref q) "__get__") (some (some (.builtin "property.__get__"))) && (decide (PySem.W.takesIn K (.ref q) = some true) && (match PySem.W.recIn K q "property" with
          | some (.ref _ :: _) => true
          | _ => false))) = true from h)
        obtain ⟨h3, h4⟩ := He.ba h2
        refine ⟨q, e, He.eqO_ok h1, of_decide_eq_true h3, ?_⟩
        cases z : PySem.W.recIn K q "property" with
        | none =>
          rw [z] at h4
          cases h4
        | some l =>
          rw [z] at h4
          cases l with
          | nil => cases h4
          | cons y rest =>
            cases y with
            | ref g =>
              refine ⟨rest, ?_⟩
              have eg : gAd K p = g := by
                unfold gAd
                rw [e]
                show (match PySem.W.recIn K q "property" with
                  | some (.ref g :: _) => g
                  | _ => 0) = g
                rw [z]
              rw [eg]
            | _ => cases h4
      | _ => cases h
/-- a getter: where it stands, its name, qualified name, parameters, body, scope -/
structure DefP where
  at_ : Str × Str
  name : Str
  qual : Str
  params : Arguments
  body : List Stmt
  scope : Scope
def DefP.val (d : DefP) : He.FnW := some (d.name, d.qual, d.params, .stmts d.body, d.scope, mainGlobals, [], builtinsNs)
def fnP (K : Frag) (d : DefP) : He.FnW := match K.lookup (gAd K d.at_) with
  | some ⟨_, _, .func fd, _⟩ => some (fd.name, fd.qualname, fd.params, fd.body, fd.scope, fd.globals, fd.closure, fd.builtins)
  | _ => none
def DefP.ok (K : Frag) (d : DefP) : Bool := PySem.W.keepIn K (.ref (gAd K d.at_)) && (match K.lookup (gAd K d.at_) with
  | some ⟨_, _, .func fd, _⟩ => PySem.W.codeIn K fd.code d.qual && (He.dflB K fd.defaults [] && He.kwdB K fd.kwdefaults [])
  | _ => false)
theorem DefP.funD {K : Frag} {d : DefP} (e : fnP K d = d.val) (c : d.ok K = true) : ∃ fd, FunD K d.name d.qual d.params d.body d.scope [] [] (gAd K d.at_) fd := by
  obtain ⟨kp, c2⟩ := He.ba c
  unfold fnP at e
  cases q : K.lookup (gAd K d.at_) with
  | none =>
    rw [q] at c2
    cases c2
  | some o =>
    obtain ⟨oc, od, dt, osl⟩ := o
    rw [q] at c2 e
    cases dt with
    | func fd =>
      obtain ⟨n1, n2, n3, n4, n5, n6, n7, n8, n9, n10, n11, n12, n13, n14, n15⟩ := fd
      have e2 : (some (n1, n2, n3, n4, n5, n6, n7, n15) : He.FnW) = some (d.name, d.qual, d.params, .stmts d.body, d.scope, mainGlobals, [], builtinsNs) := e
      simp only [Option.some.injEq, Prod.mk.injEq] at e2
      obtain ⟨h1, h2, h3, h4, h5, h6, h7, h8⟩ := e2
      subst h1 h2 h3 h4 h5 h6 h7 h8
      have c3 : (PySem.W.codeIn K n13 d.qual && (He.dflB K n8 [] && He.kwdB K n9 [])) = true := c2
      obtain ⟨k1, k2⟩ := He.ba c3
      obtain ⟨k3, k4⟩ := He.ba k2
      exact ⟨_, ⟨oc, od, n8, n9, n10, n11, n12, n13, n14, osl, rfl, q, k1, He.dflB_ok k3, He.kwdB_ok k4⟩, kp⟩
    | _ => cases c2
/-! ### own exceptions -/
def oxB (K : Frag) (C : Addr) (new : String) (tl : List Value → Bool) : Bool := match K.lookup C with
  | some ⟨.type n, _, .cls cd, sl⟩ => (match cd.mro, sl.toList with
    | .ref C' :: bm, [_, _, _, _, some (.builtin m), _] => decide (n = "type") && (decide (C' = C) && (decide (m = new) && (cd.hasDict && (!cd.hasDel && tl bm))))
    | _, _ => false)
  | _ => false
theorem oxB_ok {K : Frag} {C : Addr} {new : String} {tl : List Value → Bool} (h : oxB K C new tl = true) :
    ∃ nm q N bs bm sn sub ab col dd k0 k1 k2 k3 k5, K.lookup C = some (excClassObj nm q C N bs bm true sn sub ab col dd k0 k1 k2 k3 k5 new) ∧ tl bm = true := by
  unfold oxB at h
  split at h
  · rename_i n dd cd sl ho
    split at h
    · rename_i C' bm k0 k1 k2 k3 m k5 hm hs
      obtain ⟨h1, h⟩ := He.ba h
      obtain ⟨h2, h⟩ := He.ba h
      obtain ⟨h3, h⟩ := He.ba h
      obtain ⟨h4, h⟩ := He.ba h
      obtain ⟨h5, h6⟩ := He.ba h
      have e1 := of_decide_eq_true h1
      have e2 := of_decide_eq_true h2
      have e3 := of_decide_eq_true h3
      obtain ⟨nm, bs, mro, ns, qn, hd, sn, sub, ab, col, del⟩ := cd
      dsimp only at hm h4 h5
      have e5 : del = false := by
        cases del with
        | false => rfl
        | true => cases h5
      subst e1 e2 e3 hm h4 e5
      have hsl : sl = #[k0, k1, k2, k3, some (.builtin m), k5] := by
        obtain ⟨l⟩ := sl
        simp only at hs
        rw [hs]
      subst hsl
      exact ⟨nm, qn, ns, bs, bm, sn, sub, ab, col, dd, k0, k1, k2, k3, k5, ho, h6⟩
    · cases h
  · cases h
def oxR (K : Frag) (C : Addr) : Bool := He.eqO (PySem.W.findIn K (.ref C) "__setattr__") (some (some (.builtin "object.__setattr__"))) && (decide (PySem.W.subIn K (.ref C) (.type "BaseException") = some true) &&
  (decide (PySem.W.typeIn K (.ref C) = some (.type "type")) && PySem.W.keepIn K (.ref C)))
def oexcB (K : Frag) (C : Addr) : Bool := oxB K C "ValueError.__new__" PySem.HandSPX.refsVE && oxR K C
def oexrB (K : Frag) (C : Addr) : Bool := oxB K C "RuntimeError.__new__" (fun bm => decide (bm = reTail)) && oxR K C
theorem oexcB_ok {K : Frag} {C : Addr} (h : oexcB K C = true) : OexC K C := by
  obtain ⟨h1, h⟩ := He.ba h
  obtain ⟨h2, h⟩ := He.ba h
  obtain ⟨h3, h⟩ := He.ba h
  obtain ⟨h4, h5⟩ := He.ba h
  exact ⟨oxB_ok h1, He.eqO_ok h2, of_decide_eq_true h3, of_decide_eq_true h4, h5⟩
theorem oexrB_ok {K : Frag} {C : Addr} (h : oexrB K C = true) : OexR K C := by
  obtain ⟨h1, h⟩ := He.ba h
  obtain ⟨h2, h⟩ := He.ba h
  obtain ⟨h3, h⟩ := He.ba h
  obtain ⟨h4, h5⟩ := He.ba h
  obtain ⟨nm, q, N, bs, bm, sn, sub, ab, col, dd, k0, k1, k2, k3, k5, e, z⟩ := oxB_ok h1
  have z := of_decide_eq_true z
  subst z
  exact ⟨⟨nm, q, N, bs, sn, sub, ab, col, dd, k0, k1, k2, k3, k5, e⟩, He.eqO_ok h2, of_decide_eq_true h3, of_decide_eq_true h4, h5⟩
def fclB (r : Option PySem.W.CFound) (n : String) : Bool := match r with
  | some (.val (.builtin m)) => decide (m = n)
  | _ => false
theorem fclB_ok {r : Option PySem.W.CFound} {n : String} (h : fclB r n = true) : r = some (.val (.builtin n)) := by
  unfold fclB at h
  split at h
  · rw [of_decide_eq_true h]
  · cases h
theorem allId {l : List Bool} (h : l.all id = true) (i : Nat) {b : Bool} (e : l[i]? = some b := by rfl) : b = true := List.all_eq_true.mp h b (List.mem_of_getElem? e)
/-! ### the Hook -/
abbrev AlN : Type := He.AlX × List He.FnW
structure SaysN (fa : List He.Fa) (fn : List He.DefD) (fp : List DefP) (tf : List He.Defn) (ex : Frag → List Bool) (w : World) (h : Heap) (K : Frag) : Prop where
  d : He.SaysD fa fn K
  ex : (ex K).all id = true
  p : fp.map (fnP K) = fp.map DefP.val
  hd : ∀ p ∈ tf, PySem.W.codeHdIn K (He.cT K p).1 (He.cT K p).2 = true
  out : ∀ p ∈ tf, K.lookup (He.cT K p).2 = none
  empty : ∀ p ∈ tf, h.get? (He.cT K p).2 = some { cls := .none, data := .fields #[] }
def obsN (fa : List He.Fa) (fn : List He.DefD) (fp : List DefP) (tf : List He.Defn) (ex : Frag → List Bool) (g : Addr → Option Obj) (K : Frag) : AlN := ((He.obsT fa fn [] K, (ex K).all id && He.tabsB g tf K), fp.map (fnP K))
def valN (fn : List He.DefD) (fp : List DefP) (w : World) : AlN := (He.valX fn [] w, fp.map DefP.val)
theorem saysN_of {fa : List He.Fa} {fn : List He.DefD} {fp : List DefP} {tf : List He.Defn} {ex : Frag → List Bool} {w : World} {h : Heap} {as : List Addr} (e : obsN fa fn fp tf ex h.get? (He.frT h.get? as) = valN fn fp w) : SaysN fa fn fp tf ex w h (He.frT h.get? as) := by
  have e1 : He.obsT fa fn [] (He.frT h.get? as) = He.valT fn [] w := congrArg (fun z : AlN => z.1.1) e
  have e2 : ((ex (He.frT h.get? as)).all id && He.tabsB h.get? tf (He.frT h.get? as)) = true := congrArg (fun z : AlN => z.1.2) e
  have e3 : fp.map (fnP (He.frT h.get? as)) = fp.map DefP.val := congrArg (fun z : AlN => z.2) e
  obtain ⟨h1, h2⟩ := He.ba e2
  have key : ∀ p ∈ tf, PySem.W.codeHdIn (He.frT h.get? as) (He.cT (He.frT h.get? as) p).1 (He.cT (He.frT h.get? as) p).2 = true ∧ ∃ o, h.get? (He.cT (He.frT h.get? as) p).2 = some o ∧ He.emptyTab o = true := fun p hp => by
    obtain ⟨h3, h4⟩ := He.ba (List.all_eq_true.mp h2 p hp)
    refine ⟨h3, ?_⟩
    cases q : h.get? (He.cT (He.frT h.get? as) p).2 with
    | none =>
      rw [q] at h4
      cases h4
    | some o =>
      rw [q] at h4
      exact ⟨o, rfl, h4⟩
  exact ⟨congrArg (fun z : He.AlT => z.1) e1, h1, e3, fun p hp => (key p hp).1, fun p hp => by
    obtain ⟨_, o, q, z⟩ := key p hp
    exact He.frT_none q z, fun p hp => by
    obtain ⟨_, o, q, z⟩ := key p hp
    rw [q, He.emptyTab_eq z]⟩
def hookN (fa : List He.Fa) (fn : List He.DefD) (fp : List DefP) (tf : List He.Defn) (ex : Frag → List Bool) : PySem.W.Hook where
  α := AlN
  obs := fun s => obsN fa fn fp tf ex s.heap.get? (frN s.heap.get?)
  val := fun w => valN fn fp w
  says := fun w h => ∃ K : Frag, K.In h ∧ SaysN fa fn fp tf ex w h K
  of := fun _ _ e => ⟨_, He.frT_in, saysN_of e⟩
  keeps := fun _ _ _ ⟨K, hK, c⟩ k => ⟨K, PySem.W.Frag.In.keeps hK k, ⟨c.d, c.ex, c.p, c.hd, c.out, fun p hp => k _ _ (c.empty p hp)⟩⟩
theorem obsN_eq {fa : List He.Fa} {fn : List He.DefD} {fp : List DefP} {tf : List He.Defn} {ex : Frag → List Bool} {g : Addr → Option Obj} {s : Shared} (h : ∀ a, g a = s.heap.get? a) : obsN fa fn fp tf ex g (frN g) = (hookN fa fn fp tf ex).obs s := by
  have e : g = s.heap.get? := funext h
  rw [e] <;> rfl
section
variable {fa : List He.Fa} {fn : List He.DefD} {fp : List DefP} {tf : List He.Defn} {ex : Frag → List Bool} {w : World} {h : Heap} {K : Frag}
theorem SaysN.prop (c : SaysN fa fn fp tf ex w h K) (i : Nat) {d : DefP} (e : fp[i]? = some d) (hok : d.ok K = true) (hp : propB K d.at_ = true) : ∃ q g fd, PropOf K (He.ga K d.at_.1) d.at_.2 q g ∧ FunD K d.name d.qual d.params d.body d.scope [] [] g fd := by
  have z : (fp.map (fnP K))[i]? = (fp.map DefP.val)[i]? := by rw [c.p]
  rw [List.getElem?_map, List.getElem?_map, e] at z
  obtain ⟨fd, F⟩ := DefP.funD (Option.some.inj z) hok
  obtain ⟨q, P⟩ := propB_ok hp
  exact ⟨q, _, fd, P, F⟩
end
end NL
/-! R13: the head: the facts that are looked at, the run -/
namespace NL
open PySem PySem.Spec PyProof.Rows L2
def hFa0 : List He.Fa := [.free "all", .free "bool", .free "dict", .free "enumerate", .free "int", .free "isinstance", .free "len", .free "list", .free "max", .free "min", .free "range", .free "repr", .free "sorted", .free "str", .free "sum", .free "tuple", .free "zip", .free "RuntimeError", .int "MOST_FIGURES" 4, .int "MOST_LETTERS" 8, .int "MOST_ROOM" 12, .int "MOST_SHARE" 6, .str "BLANK" " ", .str "COLON" ":", .str "COME_desk" "come", .str "COME_receiver" "come", .str "DONE" "done", .str "DROP_desk" "drop", .str "DROP_receiver" "drop", .str "FIGURES" "0123456789"]
def hFa1 : List He.Fa := [.str "LINE_END" "\n", .str "NO" "no", .str "NONE" "none", .str "NOTHING" "nothing", .glo "NestError", .glo "BadNumber", .glo "BadPrime", .glo "BadLaying", .glo "Unsound", .glo "BadLetter", .glo "BadText", .glo "NothingLeft", .glo "Receiver", .glo "Words", .glo "Desk", .glo "is_integer", .glo "is_between", .glo "need_prime", .glo "is_sign", .glo "are_signs", .glo "rest_of", .glo "value_in", .glo "inverse_in", .glo "times_root", .glo "through_in", .glo "is_laying", .glo "need_laying", .glo "profile_in", .glo "needs_in", .glo "points_at"]
def hFa2 : List He.Fa := [.glo "fits_at", .glo "unfit_in", .glo "read_in", .glo "suspects_in", .glo "numbers_text", .glo "lines_in", .glo "need_end", .glo "letter_in", .glo "_law_mixed", .glo "_law_begin", .glo "_law_draw", .glo "_law_of", .glo "_law_back", .glo "_law_value", .glo "_law_between", .glo "_law_needs", .glo "_law_stair", .glo "_law_letters", .glo "_law_prime", .glo "_law_shares", .glo "_law_message", .glo "_law_row_of", .glo "_law_block", .glo "_law_points", .glo "_law_goes", .glo "_law_unfit", .glo "_law_reading", .glo "_law_suspects", .glo "_law_heard", .glo "_law_now"]
def hFa3 : List He.Fa := [.glo "_law_reach_of", .glo "_law_asked", .glo "_law_deed", .glo "_law_right", .glo "_law_refused_right", .glo "law", .mkr "Receiver", .meth "Receiver" "mail", .meth "Receiver" "here", .meth "Receiver" "come", .meth "Receiver" "drop", .meth "Receiver" "known_by", .meth "Receiver" "known", .meth "Receiver" "more", .meth "Receiver" "read", .meth "Receiver" "suspects", .meth "Receiver" "undo", .meth "Receiver" "__len__", .mkr "Words", .meth "Words" "is_over", .meth "Words" "refuse", .meth "Words" "next_word", .meth "Words" "read_word", .meth "Words" "read_number", .meth "Words" "read_numbers", .meth "Words" "read_some", .meth "Words" "need_over", .mkr "Desk", .meth "Desk" "say", .meth "Desk" "answered"]
def hFa4 : List He.Fa := [.meth "Desk" "alone", .meth "Desk" "undone", .cls "Receiver", .noat "Receiver" "own_prime", .noat "Receiver" "own_laying", .noat "Receiver" "own_past", .cls "Words", .noat "Words" "own_words", .noat "Words" "own_line", .noat "Words" "own_spot", .cls "Desk", .noat "Desk" "own_receiver", .noat "BadNumber" "given", .exm "BadNumber" "NestError" true, .noat "BadPrime" "given", .exm "BadPrime" "NestError" true, .noat "BadLaying" "given", .exm "BadLaying" "NestError" true, .noat "Unsound" "need", .exm "Unsound" "NestError" true, .noat "BadLetter" "given", .exm "BadLetter" "NestError" true, .noat "BadText" "line", .noat "BadText" "word", .exm "BadText" "NestError" true, .noat "NothingLeft" "many", .exm "NothingLeft" "NothingLeft" true, .exm "BadText" "BadText" true, .exm "BadPrime" "BadText" false, .exm "BadPrime" "BadPrime" true]
def hFa5 : List He.Fa := [.exm "BadLaying" "BadText" false, .exm "BadLaying" "BadPrime" false, .exm "BadLaying" "BadLaying" true, .glo "PRIMES", .glo "ALONE"]
def hFa : List He.Fa := hFa0 ++ (hFa1 ++ (hFa2 ++ (hFa3 ++ (hFa4 ++ (hFa5)))))
def hFn0 : List He.DefD := [⟨("is_integer", none), "is_integer", "is_integer", defArgs (top 11), defBody (top 11), defScope (top 11), [], []⟩, ⟨("is_between", none), "is_between", "is_between", defArgs (top 14), defBody (top 14), defScope (top 14), [], []⟩, ⟨("need_prime", none), "need_prime", "need_prime", defArgs (top 15), defBody (top 15), defScope (top 15), [], []⟩, ⟨("is_sign", none), "is_sign", "is_sign", defArgs (top 16), defBody (top 16), defScope (top 16), [], []⟩, ⟨("are_signs", none), "are_signs", "are_signs", defArgs (top 17), defBody (top 17), defScope (top 17), [], []⟩, ⟨("rest_of", none), "rest_of", "rest_of", defArgs (top 18), defBody (top 18), defScope (top 18), [], []⟩, ⟨("value_in", none), "value_in", "value_in", defArgs (top 19), defBody (top 19), defScope (top 19), [], []⟩, ⟨("inverse_in", none), "inverse_in", "inverse_in", defArgs (top 20), defBody (top 20), defScope (top 20), [], []⟩, ⟨("times_root", none), "times_root", "times_root", defArgs (top 21), defBody (top 21), defScope (top 21), [], []⟩, ⟨("through_in", none), "through_in", "through_in", defArgs (top 22), defBody (top 22), defScope (top 22), [], []⟩, ⟨("is_laying", none), "is_laying", "is_laying", defArgs (top 27), defBody (top 27), defScope (top 27), [], []⟩, ⟨("need_laying", none), "need_laying", "need_laying", defArgs (top 28), defBody (top 28), defScope (top 28), [], []⟩, ⟨("profile_in", none), "profile_in", "profile_in", defArgs (top 29), defBody (top 29), defScope (top 29), [], []⟩, ⟨("needs_in", none), "needs_in", "needs_in", defArgs (top 30), defBody (top 30), defScope (top 30), [], []⟩, ⟨("points_at", none), "points_at", "points_at", defArgs (top 32), defBody (top 32), defScope (top 32), [], []⟩, ⟨("fits_at", none), "fits_at", "fits_at", defArgs (top 33), defBody (top 33), defScope (top 33), [], []⟩, ⟨("unfit_in", none), "unfit_in", "unfit_in", defArgs (top 34), defBody (top 34), defScope (top 34), [], []⟩, ⟨("read_in", none), "read_in", "read_in", defArgs (top 35), defBody (top 35), defScope (top 35), [], []⟩, ⟨("suspects_in", none), "suspects_in", "suspects_in", defArgs (top 39), defBody (top 39), defScope (top 39), [], []⟩, ⟨("numbers_text", none), "numbers_text", "numbers_text", defArgs (top 48), defBody (top 48), defScope (top 48), [], []⟩, ⟨("lines_in", none), "lines_in", "lines_in", defArgs (top 49), defBody (top 49), defScope (top 49), [], []⟩, ⟨("need_end", none), "need_end", "need_end", defArgs (top 50), defBody (top 50), defScope (top 50), [], []⟩, ⟨("letter_in", none), "letter_in", "letter_in", defArgs (top 52), defBody (top 52), defScope (top 52), [], []⟩, ⟨("_law_mixed", none), "_law_mixed", "_law_mixed", defArgs (top 62), defBody (top 62), defScope (top 62), [], []⟩, ⟨("_law_begin", none), "_law_begin", "_law_begin", defArgs (top 63), defBody (top 63), defScope (top 63), [], []⟩, ⟨("_law_draw", none), "_law_draw", "_law_draw", defArgs (top 64), defBody (top 64), defScope (top 64), [], []⟩, ⟨("_law_of", none), "_law_of", "_law_of", defArgs (top 65), defBody (top 65), defScope (top 65), [], []⟩, ⟨("_law_back", none), "_law_back", "_law_back", defArgs (top 66), defBody (top 66), defScope (top 66), [], []⟩, ⟨("_law_value", none), "_law_value", "_law_value", defArgs (top 67), defBody (top 67), defScope (top 67), [], []⟩, ⟨("_law_between", none), "_law_between", "_law_between", defArgs (top 68), defBody (top 68), defScope (top 68), [], []⟩]
def hFn1 : List He.DefD := [⟨("_law_needs", none), "_law_needs", "_law_needs", defArgs (top 69), defBody (top 69), defScope (top 69), [], []⟩, ⟨("_law_stair", none), "_law_stair", "_law_stair", defArgs (top 70), defBody (top 70), defScope (top 70), [], []⟩, ⟨("_law_letters", none), "_law_letters", "_law_letters", defArgs (top 71), defBody (top 71), defScope (top 71), [], []⟩, ⟨("_law_prime", none), "_law_prime", "_law_prime", defArgs (top 72), defBody (top 72), defScope (top 72), [], []⟩, ⟨("_law_shares", none), "_law_shares", "_law_shares", defArgs (top 73), defBody (top 73), defScope (top 73), [], []⟩, ⟨("_law_message", none), "_law_message", "_law_message", defArgs (top 74), defBody (top 74), defScope (top 74), [], []⟩, ⟨("_law_row_of", none), "_law_row_of", "_law_row_of", defArgs (top 75), defBody (top 75), defScope (top 75), [], []⟩, ⟨("_law_block", none), "_law_block", "_law_block", defArgs (top 76), defBody (top 76), defScope (top 76), [], []⟩, ⟨("_law_points", none), "_law_points", "_law_points", defArgs (top 77), defBody (top 77), defScope (top 77), [], []⟩, ⟨("_law_goes", none), "_law_goes", "_law_goes", defArgs (top 78), defBody (top 78), defScope (top 78), [], []⟩, ⟨("_law_unfit", none), "_law_unfit", "_law_unfit", defArgs (top 79), defBody (top 79), defScope (top 79), [], []⟩, ⟨("_law_reading", none), "_law_reading", "_law_reading", defArgs (top 80), defBody (top 80), defScope (top 80), [], []⟩, ⟨("_law_suspects", none), "_law_suspects", "_law_suspects", defArgs (top 81), defBody (top 81), defScope (top 81), [], []⟩, ⟨("_law_heard", none), "_law_heard", "_law_heard", defArgs (top 82), defBody (top 82), defScope (top 82), [], []⟩, ⟨("_law_now", none), "_law_now", "_law_now", defArgs (top 83), defBody (top 83), defScope (top 83), [], []⟩, ⟨("_law_reach_of", none), "_law_reach_of", "_law_reach_of", defArgs (top 84), defBody (top 84), defScope (top 84), [], []⟩, ⟨("_law_asked", none), "_law_asked", "_law_asked", defArgs (top 85), defBody (top 85), defScope (top 85), [], []⟩, ⟨("_law_deed", none), "_law_deed", "_law_deed", defArgs (top 86), defBody (top 86), defScope (top 86), [], []⟩, ⟨("_law_right", none), "_law_right", "_law_right", defArgs (top 87), defBody (top 87), defScope (top 87), [], []⟩, ⟨("_law_refused_right", none), "_law_refused_right", "_law_refused_right", defArgs (top 88), defBody (top 88), defScope (top 88), [], []⟩, ⟨("law", none), "law", "law", defArgs (top 89), defBody (top 89), defScope (top 89), [], []⟩, ⟨("Receiver", some "__init__"), "__init__", "Receiver.__init__", defArgs (inClass (top 40) 0), defBody (inClass (top 40) 0), defScope (inClass (top 40) 0), [], []⟩, ⟨("Receiver", some "mail"), "mail", "Receiver.mail", defArgs (inClass (top 40) 3), defBody (inClass (top 40) 3), defScope (inClass (top 40) 3), [], []⟩, ⟨("Receiver", some "here"), "here", "Receiver.here", defArgs (inClass (top 40) 4), defBody (inClass (top 40) 4), defScope (inClass (top 40) 4), [], []⟩, ⟨("Receiver", some "come"), "come", "Receiver.come", defArgs (inClass (top 40) 5), defBody (inClass (top 40) 5), defScope (inClass (top 40) 5), [], []⟩, ⟨("Receiver", some "drop"), "drop", "Receiver.drop", defArgs (inClass (top 40) 6), defBody (inClass (top 40) 6), defScope (inClass (top 40) 6), [], []⟩, ⟨("Receiver", some "known_by"), "known_by", "Receiver.known_by", defArgs (inClass (top 40) 7), defBody (inClass (top 40) 7), defScope (inClass (top 40) 7), [], []⟩, ⟨("Receiver", some "known"), "known", "Receiver.known", defArgs (inClass (top 40) 8), defBody (inClass (top 40) 8), defScope (inClass (top 40) 8), [], []⟩, ⟨("Receiver", some "more"), "more", "Receiver.more", defArgs (inClass (top 40) 9), defBody (inClass (top 40) 9), defScope (inClass (top 40) 9), [], []⟩, ⟨("Receiver", some "read"), "read", "Receiver.read", defArgs (inClass (top 40) 10), defBody (inClass (top 40) 10), defScope (inClass (top 40) 10), [], []⟩]
def hFn2 : List He.DefD := [⟨("Receiver", some "suspects"), "suspects", "Receiver.suspects", defArgs (inClass (top 40) 11), defBody (inClass (top 40) 11), defScope (inClass (top 40) 11), [], []⟩, ⟨("Receiver", some "undo"), "undo", "Receiver.undo", defArgs (inClass (top 40) 12), defBody (inClass (top 40) 12), defScope (inClass (top 40) 12), [.int 1], []⟩, ⟨("Receiver", some "__len__"), "__len__", "Receiver.__len__", defArgs (inClass (top 40) 15), defBody (inClass (top 40) 15), defScope (inClass (top 40) 15), [], []⟩, ⟨("Words", some "__init__"), "__init__", "Words.__init__", defArgs (inClass (top 51) 0), defBody (inClass (top 51) 0), defScope (inClass (top 51) 0), [], []⟩, ⟨("Words", some "is_over"), "is_over", "Words.is_over", defArgs (inClass (top 51) 1), defBody (inClass (top 51) 1), defScope (inClass (top 51) 1), [], []⟩, ⟨("Words", some "refuse"), "refuse", "Words.refuse", defArgs (inClass (top 51) 2), defBody (inClass (top 51) 2), defScope (inClass (top 51) 2), [], []⟩, ⟨("Words", some "next_word"), "next_word", "Words.next_word", defArgs (inClass (top 51) 3), defBody (inClass (top 51) 3), defScope (inClass (top 51) 3), [], []⟩, ⟨("Words", some "read_word"), "read_word", "Words.read_word", defArgs (inClass (top 51) 4), defBody (inClass (top 51) 4), defScope (inClass (top 51) 4), [], []⟩, ⟨("Words", some "read_number"), "read_number", "Words.read_number", defArgs (inClass (top 51) 5), defBody (inClass (top 51) 5), defScope (inClass (top 51) 5), [], []⟩, ⟨("Words", some "read_numbers"), "read_numbers", "Words.read_numbers", defArgs (inClass (top 51) 6), defBody (inClass (top 51) 6), defScope (inClass (top 51) 6), [], []⟩, ⟨("Words", some "read_some"), "read_some", "Words.read_some", defArgs (inClass (top 51) 7), defBody (inClass (top 51) 7), defScope (inClass (top 51) 7), [], []⟩, ⟨("Words", some "need_over"), "need_over", "Words.need_over", defArgs (inClass (top 51) 9), defBody (inClass (top 51) 9), defScope (inClass (top 51) 9), [], []⟩, ⟨("Desk", some "__init__"), "__init__", "Desk.__init__", defArgs (inClass (top 60) 0), defBody (inClass (top 60) 0), defScope (inClass (top 60) 0), [], []⟩, ⟨("Desk", some "say"), "say", "Desk.say", defArgs (inClass (top 60) 2), defBody (inClass (top 60) 2), defScope (inClass (top 60) 2), [], []⟩, ⟨("Desk", some "answered"), "answered", "Desk.answered", defArgs (inClass (top 60) 3), defBody (inClass (top 60) 3), defScope (inClass (top 60) 3), [], []⟩, ⟨("Desk", some "alone"), "alone", "Desk.alone", defArgs (inClass (top 60) 4), defBody (inClass (top 60) 4), defScope (inClass (top 60) 4), [], []⟩, ⟨("Desk", some "undone"), "undone", "Desk.undone", defArgs (inClass (top 60) 5), defBody (inClass (top 60) 5), defScope (inClass (top 60) 5), [], []⟩, ⟨("BadNumber", some "__init__"), "__init__", "BadNumber.__init__", defArgs (inClass (top 3) 0), defBody (inClass (top 3) 0), defScope (inClass (top 3) 0), [], []⟩, ⟨("BadPrime", some "__init__"), "__init__", "BadPrime.__init__", defArgs (inClass (top 4) 0), defBody (inClass (top 4) 0), defScope (inClass (top 4) 0), [], []⟩, ⟨("BadLaying", some "__init__"), "__init__", "BadLaying.__init__", defArgs (inClass (top 5) 0), defBody (inClass (top 5) 0), defScope (inClass (top 5) 0), [], []⟩, ⟨("Unsound", some "__init__"), "__init__", "Unsound.__init__", defArgs (inClass (top 6) 0), defBody (inClass (top 6) 0), defScope (inClass (top 6) 0), [], []⟩, ⟨("BadLetter", some "__init__"), "__init__", "BadLetter.__init__", defArgs (inClass (top 7) 0), defBody (inClass (top 7) 0), defScope (inClass (top 7) 0), [], []⟩, ⟨("BadText", some "__init__"), "__init__", "BadText.__init__", defArgs (inClass (top 8) 0), defBody (inClass (top 8) 0), defScope (inClass (top 8) 0), [], []⟩, ⟨("NothingLeft", some "__init__"), "__init__", "NothingLeft.__init__", defArgs (inClass (top 9) 0), defBody (inClass (top 9) 0), defScope (inClass (top 9) 0), [], []⟩]
def hFn : List He.DefD := hFn0 ++ (hFn1 ++ (hFn2))
def dp0 : DefP := ⟨("Receiver", "prime"), "prime", "Receiver.prime", defArgs (inClass (top 40) 1), defBody (inClass (top 40) 1), defScope (inClass (top 40) 1)⟩
def dp1 : DefP := ⟨("Receiver", "laying"), "laying", "Receiver.laying", defArgs (inClass (top 40) 2), defBody (inClass (top 40) 2), defScope (inClass (top 40) 2)⟩
def dp2 : DefP := ⟨("Desk", "receiver"), "receiver", "Desk.receiver", defArgs (inClass (top 60) 1), defBody (inClass (top 60) 1), defScope (inClass (top 60) 1)⟩
def hFp : List DefP := [dp0, dp1, dp2]
def hEx0 (K : Frag) : List Bool := [DefP.ok K dp0, propB K ("Receiver", "prime"), DefP.ok K dp1, propB K ("Receiver", "laying"), DefP.ok K dp2, propB K ("Desk", "receiver"), oexcB K (He.ga K "BadNumber"), He.eqO (PySem.W.findIn K (.ref (He.ga K "BadNumber")) "__init__") (some (some (.ref (He.ma K (He.ga K "BadNumber") "__init__")))), decide (PySem.W.typeIn K (.ref (He.ma K (He.ga K "BadNumber") "__init__")) = some (.type "function")), oexcB K (He.ga K "BadPrime"), He.eqO (PySem.W.findIn K (.ref (He.ga K "BadPrime")) "__init__") (some (some (.ref (He.ma K (He.ga K "BadPrime") "__init__")))), decide (PySem.W.typeIn K (.ref (He.ma K (He.ga K "BadPrime") "__init__")) = some (.type "function")), oexcB K (He.ga K "BadLaying"), He.eqO (PySem.W.findIn K (.ref (He.ga K "BadLaying")) "__init__") (some (some (.ref (He.ma K (He.ga K "BadLaying") "__init__")))), decide (PySem.W.typeIn K (.ref (He.ma K (He.ga K "BadLaying") "__init__")) = some (.type "function")), oexcB K (He.ga K "Unsound"), He.eqO (PySem.W.findIn K (.ref (He.ga K "Unsound")) "__init__") (some (some (.ref (He.ma K (He.ga K "Unsound") "__init__")))), decide (PySem.W.typeIn K (.ref (He.ma K (He.ga K "Unsound") "__init__")) = some (.type "function")), oexcB K (He.ga K "BadLetter"), He.eqO (PySem.W.findIn K (.ref (He.ga K "BadLetter")) "__init__") (some (some (.ref (He.ma K (He.ga K "BadLetter") "__init__")))), decide (PySem.W.typeIn K (.ref (He.ma K (He.ga K "BadLetter") "__init__")) = some (.type "function")), oexcB K (He.ga K "BadText"), He.eqO (PySem.W.findIn K (.ref (He.ga K "BadText")) "__init__") (some (some (.ref (He.ma K (He.ga K "BadText") "__init__")))), decide (PySem.W.typeIn K (.ref (He.ma K (He.ga K "BadText") "__init__")) = some (.type "function")), oexrB K (He.ga K "NothingLeft"), He.eqO (PySem.W.findIn K (.ref (He.ga K "NothingLeft")) "__init__") (some (some (.ref (He.ma K (He.ga K "NothingLeft") "__init__")))), decide (PySem.W.typeIn K (.ref (He.ma K (He.ga K "NothingLeft") "__init__")) = some (.type "function")), decide (PySem.W.typeIn K (.ref (He.ma K (He.ga K "Receiver") "__len__")) = some (.type "function")), xfB K (He.ga K "BadText"), xfB K (He.ga K "BadPrime")]
def hEx1 (K : Frag) : List Bool := [xfB K (He.ga K "BadLaying"), He.eqO (PySem.W.specialIn K (.ref (He.ga K "NestError")) "__getattribute__") (some (some (.builtin "type.__getattribute__"))), PySem.W.readsIn K (He.ga K "NestError") (.type "type"), fclB (PySem.W.findCls K (.ref (He.ga K "NestError")) (.type "type") "__init__") "ValueError.__init__", fclB (PySem.W.findCls K (.type "RuntimeError") (.type "type") "__init__") "RuntimeError.__init__", He.tupB K "PRIMES" [.int 11, .int 13, .int 17, .int 19, .int 23], He.tupB K "ALONE" [.str "known", .str "more", .str "read", .str "mail", .str "suspects", .str "undo", .str "deeds"]]
def hEx (K : Frag) : List Bool := hEx0 K ++ (hEx1 K)
def hTf : List He.Defn := [("_law_refused_right", none)]
abbrev hk : PySem.W.Hook := hookN hFa hFn hFp hTf hEx
def ob (s : PySem.W.SharedT) : AlN := obsN hFa hFn hFp hTf hEx (HandSHeadRun.getT s) (frN (HandSHeadRun.getT s))
theorem ob_eq (s : PySem.W.SharedT) : ob s = hk.obs s.abs := obsN_eq (HandSHeadRun.getT_eq s)
abbrev R : PySem.W.OpenRow := PySem.W.OpenLaw.row PySem.Challenge.rw_nestletters_k37_whole_desks
def names0 : List Str := (["_wall", "__name__", "NestError", "BadNumber", "BadPrime", "BadLaying", "Unsound", "BadLetter", "BadText", "NothingLeft", "is_integer", "PRIMES", "is_between", "need_prime", "is_sign", "are_signs", "rest_of", "value_in", "inverse_in", "times_root", "through_in", "MOST_LETTERS", "MOST_SHARE", "MOST_ROOM", "is_laying", "need_laying", "profile_in", "needs_in", "points_at", "fits_at"] : List String).map Str.ofString
def names1 : List Str := (["unfit_in", "read_in", "COME_receiver", "DROP_receiver", "suspects_in", "Receiver", "BLANK", "LINE_END", "NONE", "COLON", "FIGURES", "MOST_FIGURES", "numbers_text", "lines_in", "need_end", "Words", "letter_in", "NO", "DONE", "NOTHING", "COME_desk", "DROP_desk", "ALONE", "Desk", "_law_mixed", "_law_begin", "_law_draw", "_law_of", "_law_back", "_law_value"] : List String).map Str.ofString
def names2 : List Str := (["_law_between", "_law_needs", "_law_stair", "_law_letters", "_law_prime", "_law_shares", "_law_message", "_law_row_of", "_law_block", "_law_points", "_law_goes", "_law_unfit", "_law_reading", "_law_suspects", "_law_heard", "_law_now", "_law_reach_of", "_law_asked", "_law_deed", "_law_right", "_law_refused_right"] : List String).map Str.ofString
def names : List Str := names0 ++ (names1 ++ (names2))
theorem run (w : World) : HandSHeadRun.RunEq R (PySem.W.view R.prog [89]) hk ob 6000 names w := by
  intro os
  kernel_rfl
end NL
/-! R14: what the top has left, out of the head's look -/
namespace NL
open PySem PySem.Spec PyProof.Rows L2
set_option maxRecDepth 100000
theorem txt_of {w : World} {h : Heap} {K : Frag} {mg : Str → Option Value} (X : K.In h) (G : h.Ns mainGlobals mg) (c : SaysN hFa hFn hFp hTf hEx w h K) : Txt K mg where
  z_all := He.free_ok X G (c.d.fact 0 (f := .free "all") (by rfl))
  z_bool := He.free_ok X G (c.d.fact 1 (f := .free "bool") (by rfl))
  z_dict := He.free_ok X G (c.d.fact 2 (f := .free "dict") (by rfl))
  z_enumerate := He.free_ok X G (c.d.fact 3 (f := .free "enumerate") (by rfl))
  z_int := He.free_ok X G (c.d.fact 4 (f := .free "int") (by rfl))
  z_isinstance := He.free_ok X G (c.d.fact 5 (f := .free "isinstance") (by rfl))
  z_len := He.free_ok X G (c.d.fact 6 (f := .free "len") (by rfl))
  z_list := He.free_ok X G (c.d.fact 7 (f := .free "list") (by rfl))
  z_max := He.free_ok X G (c.d.fact 8 (f := .free "max") (by rfl))
  z_min := He.free_ok X G (c.d.fact 9 (f := .free "min") (by rfl))
  z_range := He.free_ok X G (c.d.fact 10 (f := .free "range") (by rfl))
  z_repr := He.free_ok X G (c.d.fact 11 (f := .free "repr") (by rfl))
  z_sorted := He.free_ok X G (c.d.fact 12 (f := .free "sorted") (by rfl))
  z_str := He.free_ok X G (c.d.fact 13 (f := .free "str") (by rfl))
  z_sum := He.free_ok X G (c.d.fact 14 (f := .free "sum") (by rfl))
  z_tuple := He.free_ok X G (c.d.fact 15 (f := .free "tuple") (by rfl))
  z_zip := He.free_ok X G (c.d.fact 16 (f := .free "zip") (by rfl))
  z_RuntimeError := He.free_ok X G (c.d.fact 17 (f := .free "RuntimeError") (by rfl))
  c_MOST_FIGURES := He.int_ok X G (c.d.fact 18 (f := .int "MOST_FIGURES" 4) (by rfl))
  c_MOST_LETTERS := He.int_ok X G (c.d.fact 19 (f := .int "MOST_LETTERS" 8) (by rfl))
  c_MOST_ROOM := He.int_ok X G (c.d.fact 20 (f := .int "MOST_ROOM" 12) (by rfl))
  c_MOST_SHARE := He.int_ok X G (c.d.fact 21 (f := .int "MOST_SHARE" 6) (by rfl))
  c_BLANK := He.str_ok X G (c.d.fact 22 (f := .str "BLANK" " ") (by rfl))
  c_COLON := He.str_ok X G (c.d.fact 23 (f := .str "COLON" ":") (by rfl))
  c_COME_desk := He.str_ok X G (c.d.fact 24 (f := .str "COME_desk" "come") (by rfl))
  c_COME_receiver := He.str_ok X G (c.d.fact 25 (f := .str "COME_receiver" "come") (by rfl))
  c_DONE := He.str_ok X G (c.d.fact 26 (f := .str "DONE" "done") (by rfl))
  c_DROP_desk := He.str_ok X G (c.d.fact 27 (f := .str "DROP_desk" "drop") (by rfl))
  c_DROP_receiver := He.str_ok X G (c.d.fact 28 (f := .str "DROP_receiver" "drop") (by rfl))
  c_FIGURES := He.str_ok X G (c.d.fact 29 (f := .str "FIGURES" "0123456789") (by rfl))
  c_LINE_END := He.str_ok X G (c.d.fact 30 (f := .str "LINE_END" "\n") (by rfl))
  c_NO := He.str_ok X G (c.d.fact 31 (f := .str "NO" "no") (by rfl))
  c_NONE := He.str_ok X G (c.d.fact 32 (f := .str "NONE" "none") (by rfl))
  c_NOTHING := He.str_ok X G (c.d.fact 33 (f := .str "NOTHING" "nothing") (by rfl))
  g_NestError := He.glo_ok X G (c.d.fact 34 (f := .glo "NestError") (by rfl))
  g_BadNumber := He.glo_ok X G (c.d.fact 35 (f := .glo "BadNumber") (by rfl))
  g_BadPrime := He.glo_ok X G (c.d.fact 36 (f := .glo "BadPrime") (by rfl))
  g_BadLaying := He.glo_ok X G (c.d.fact 37 (f := .glo "BadLaying") (by rfl))
  g_Unsound := He.glo_ok X G (c.d.fact 38 (f := .glo "Unsound") (by rfl))
  g_BadLetter := He.glo_ok X G (c.d.fact 39 (f := .glo "BadLetter") (by rfl))
  g_BadText := He.glo_ok X G (c.d.fact 40 (f := .glo "BadText") (by rfl))
  g_NothingLeft := He.glo_ok X G (c.d.fact 41 (f := .glo "NothingLeft") (by rfl))
  g_Receiver := He.glo_ok X G (c.d.fact 42 (f := .glo "Receiver") (by rfl))
  g_Words := He.glo_ok X G (c.d.fact 43 (f := .glo "Words") (by rfl))
  g_Desk := He.glo_ok X G (c.d.fact 44 (f := .glo "Desk") (by rfl))
  g_is_integer := He.glo_ok X G (c.d.fact 45 (f := .glo "is_integer") (by rfl))
  d_is_integer := c.d.def_ 0 (by rfl)
  g_is_between := He.glo_ok X G (c.d.fact 46 (f := .glo "is_between") (by rfl))
  d_is_between := c.d.def_ 1 (by rfl)
  g_need_prime := He.glo_ok X G (c.d.fact 47 (f := .glo "need_prime") (by rfl))
  d_need_prime := c.d.def_ 2 (by rfl)
  g_is_sign := He.glo_ok X G (c.d.fact 48 (f := .glo "is_sign") (by rfl))
  d_is_sign := c.d.def_ 3 (by rfl)
  g_are_signs := He.glo_ok X G (c.d.fact 49 (f := .glo "are_signs") (by rfl))
  d_are_signs := c.d.def_ 4 (by rfl)
  g_rest_of := He.glo_ok X G (c.d.fact 50 (f := .glo "rest_of") (by rfl))
  d_rest_of := c.d.def_ 5 (by rfl)
  g_value_in := He.glo_ok X G (c.d.fact 51 (f := .glo "value_in") (by rfl))
  d_value_in := c.d.def_ 6 (by rfl)
  g_inverse_in := He.glo_ok X G (c.d.fact 52 (f := .glo "inverse_in") (by rfl))
  d_inverse_in := c.d.def_ 7 (by rfl)
  g_times_root := He.glo_ok X G (c.d.fact 53 (f := .glo "times_root") (by rfl))
  d_times_root := c.d.def_ 8 (by rfl)
  g_through_in := He.glo_ok X G (c.d.fact 54 (f := .glo "through_in") (by rfl))
  d_through_in := c.d.def_ 9 (by rfl)
  g_is_laying := He.glo_ok X G (c.d.fact 55 (f := .glo "is_laying") (by rfl))
  d_is_laying := c.d.def_ 10 (by rfl)
  g_need_laying := He.glo_ok X G (c.d.fact 56 (f := .glo "need_laying") (by rfl))
  d_need_laying := c.d.def_ 11 (by rfl)
  g_profile_in := He.glo_ok X G (c.d.fact 57 (f := .glo "profile_in") (by rfl))
  d_profile_in := c.d.def_ 12 (by rfl)
  g_needs_in := He.glo_ok X G (c.d.fact 58 (f := .glo "needs_in") (by rfl))
  d_needs_in := c.d.def_ 13 (by rfl)
  g_points_at := He.glo_ok X G (c.d.fact 59 (f := .glo "points_at") (by rfl))
  d_points_at := c.d.def_ 14 (by rfl)
  g_fits_at := He.glo_ok X G (c.d.fact 60 (f := .glo "fits_at") (by rfl))
  d_fits_at := c.d.def_ 15 (by rfl)
  g_unfit_in := He.glo_ok X G (c.d.fact 61 (f := .glo "unfit_in") (by rfl))
  d_unfit_in := c.d.def_ 16 (by rfl)
  g_read_in := He.glo_ok X G (c.d.fact 62 (f := .glo "read_in") (by rfl))
  d_read_in := c.d.def_ 17 (by rfl)
  g_suspects_in := He.glo_ok X G (c.d.fact 63 (f := .glo "suspects_in") (by rfl))
  d_suspects_in := c.d.def_ 18 (by rfl)
  g_numbers_text := He.glo_ok X G (c.d.fact 64 (f := .glo "numbers_text") (by rfl))
  d_numbers_text := c.d.def_ 19 (by rfl)
  g_lines_in := He.glo_ok X G (c.d.fact 65 (f := .glo "lines_in") (by rfl))
  d_lines_in := c.d.def_ 20 (by rfl)
  g_need_end := He.glo_ok X G (c.d.fact 66 (f := .glo "need_end") (by rfl))
  d_need_end := c.d.def_ 21 (by rfl)
  g_letter_in := He.glo_ok X G (c.d.fact 67 (f := .glo "letter_in") (by rfl))
  d_letter_in := c.d.def_ 22 (by rfl)
  g__law_mixed := He.glo_ok X G (c.d.fact 68 (f := .glo "_law_mixed") (by rfl))
  d__law_mixed := c.d.def_ 23 (by rfl)
  g__law_begin := He.glo_ok X G (c.d.fact 69 (f := .glo "_law_begin") (by rfl))
  d__law_begin := c.d.def_ 24 (by rfl)
  g__law_draw := He.glo_ok X G (c.d.fact 70 (f := .glo "_law_draw") (by rfl))
  d__law_draw := c.d.def_ 25 (by rfl)
  g__law_of := He.glo_ok X G (c.d.fact 71 (f := .glo "_law_of") (by rfl))
  d__law_of := c.d.def_ 26 (by rfl)
  g__law_back := He.glo_ok X G (c.d.fact 72 (f := .glo "_law_back") (by rfl))
  d__law_back := c.d.def_ 27 (by rfl)
  g__law_value := He.glo_ok X G (c.d.fact 73 (f := .glo "_law_value") (by rfl))
  d__law_value := c.d.def_ 28 (by rfl)
  g__law_between := He.glo_ok X G (c.d.fact 74 (f := .glo "_law_between") (by rfl))
  d__law_between := c.d.def_ 29 (by rfl)
  g__law_needs := He.glo_ok X G (c.d.fact 75 (f := .glo "_law_needs") (by rfl))
  d__law_needs := c.d.def_ 30 (by rfl)
  g__law_stair := He.glo_ok X G (c.d.fact 76 (f := .glo "_law_stair") (by rfl))
  d__law_stair := c.d.def_ 31 (by rfl)
  g__law_letters := He.glo_ok X G (c.d.fact 77 (f := .glo "_law_letters") (by rfl))
  d__law_letters := c.d.def_ 32 (by rfl)
  g__law_prime := He.glo_ok X G (c.d.fact 78 (f := .glo "_law_prime") (by rfl))
  d__law_prime := c.d.def_ 33 (by rfl)
  g__law_shares := He.glo_ok X G (c.d.fact 79 (f := .glo "_law_shares") (by rfl))
  d__law_shares := c.d.def_ 34 (by rfl)
  g__law_message := He.glo_ok X G (c.d.fact 80 (f := .glo "_law_message") (by rfl))
  d__law_message := c.d.def_ 35 (by rfl)
  g__law_row_of := He.glo_ok X G (c.d.fact 81 (f := .glo "_law_row_of") (by rfl))
  d__law_row_of := c.d.def_ 36 (by rfl)
  g__law_block := He.glo_ok X G (c.d.fact 82 (f := .glo "_law_block") (by rfl))
  d__law_block := c.d.def_ 37 (by rfl)
  g__law_points := He.glo_ok X G (c.d.fact 83 (f := .glo "_law_points") (by rfl))
  d__law_points := c.d.def_ 38 (by rfl)
  g__law_goes := He.glo_ok X G (c.d.fact 84 (f := .glo "_law_goes") (by rfl))
  d__law_goes := c.d.def_ 39 (by rfl)
  g__law_unfit := He.glo_ok X G (c.d.fact 85 (f := .glo "_law_unfit") (by rfl))
  d__law_unfit := c.d.def_ 40 (by rfl)
  g__law_reading := He.glo_ok X G (c.d.fact 86 (f := .glo "_law_reading") (by rfl))
  d__law_reading := c.d.def_ 41 (by rfl)
  g__law_suspects := He.glo_ok X G (c.d.fact 87 (f := .glo "_law_suspects") (by rfl))
  d__law_suspects := c.d.def_ 42 (by rfl)
  g__law_heard := He.glo_ok X G (c.d.fact 88 (f := .glo "_law_heard") (by rfl))
  d__law_heard := c.d.def_ 43 (by rfl)
  g__law_now := He.glo_ok X G (c.d.fact 89 (f := .glo "_law_now") (by rfl))
  d__law_now := c.d.def_ 44 (by rfl)
  g__law_reach_of := He.glo_ok X G (c.d.fact 90 (f := .glo "_law_reach_of") (by rfl))
  d__law_reach_of := c.d.def_ 45 (by rfl)
  g__law_asked := He.glo_ok X G (c.d.fact 91 (f := .glo "_law_asked") (by rfl))
  d__law_asked := c.d.def_ 46 (by rfl)
  g__law_deed := He.glo_ok X G (c.d.fact 92 (f := .glo "_law_deed") (by rfl))
  d__law_deed := c.d.def_ 47 (by rfl)
  g__law_right := He.glo_ok X G (c.d.fact 93 (f := .glo "_law_right") (by rfl))
  d__law_right := c.d.def_ 48 (by rfl)
  g__law_refused_right := He.glo_ok X G (c.d.fact 94 (f := .glo "_law_refused_right") (by rfl))
  d__law_refused_right := c.d.def_ 49 (by rfl)
  g_law := He.glo_ok X G (c.d.fact 95 (f := .glo "law") (by rfl))
  d_law := c.d.def_ 50 (by rfl)
  d_Receiver_init := c.d.def_ 51 (by rfl)
  mk_Receiver := He.mkr_ok (c.d.fact 96 (f := .mkr "Receiver") (by rfl))
  p_Receiver_prime := (fun z => z) (c.prop 0 (d := dp0) (by rfl) (allId c.ex 0 (by rfl)) (allId c.ex 1 (by rfl)))
  p_Receiver_laying := (fun z => z) (c.prop 1 (d := dp1) (by rfl) (allId c.ex 2 (by rfl)) (allId c.ex 3 (by rfl)))
  d_Receiver_mail := c.d.def_ 52 (by rfl)
  m_Receiver_mail := He.meth_ok (c.d.fact 97 (f := .meth "Receiver" "mail") (by rfl))
  d_Receiver_here := c.d.def_ 53 (by rfl)
  m_Receiver_here := He.meth_ok (c.d.fact 98 (f := .meth "Receiver" "here") (by rfl))
  d_Receiver_come := c.d.def_ 54 (by rfl)
  m_Receiver_come := He.meth_ok (c.d.fact 99 (f := .meth "Receiver" "come") (by rfl))
  d_Receiver_drop := c.d.def_ 55 (by rfl)
  m_Receiver_drop := He.meth_ok (c.d.fact 100 (f := .meth "Receiver" "drop") (by rfl))
  d_Receiver_known_by := c.d.def_ 56 (by rfl)
  m_Receiver_known_by := He.meth_ok (c.d.fact 101 (f := .meth "Receiver" "known_by") (by rfl))
  d_Receiver_known := c.d.def_ 57 (by rfl)
  m_Receiver_known := He.meth_ok (c.d.fact 102 (f := .meth "Receiver" "known") (by rfl))
  d_Receiver_more := c.d.def_ 58 (by rfl)
  m_Receiver_more := He.meth_ok (c.d.fact 103 (f := .meth "Receiver" "more") (by rfl))
  d_Receiver_read := c.d.def_ 59 (by rfl)
  m_Receiver_read := He.meth_ok (c.d.fact 104 (f := .meth "Receiver" "read") (by rfl))
  d_Receiver_suspects := c.d.def_ 60 (by rfl)
  m_Receiver_suspects := He.meth_ok (c.d.fact 105 (f := .meth "Receiver" "suspects") (by rfl))
  d_Receiver_undo := c.d.def_ 61 (by rfl)
  m_Receiver_undo := He.meth_ok (c.d.fact 106 (f := .meth "Receiver" "undo") (by rfl))
  d_Receiver_len := c.d.def_ 62 (by rfl)
  m_Receiver_len := He.meth_ok (c.d.fact 107 (f := .meth "Receiver" "__len__") (by rfl))
  d_Words_init := c.d.def_ 63 (by rfl)
  mk_Words := He.mkr_ok (c.d.fact 108 (f := .mkr "Words") (by rfl))
  d_Words_is_over := c.d.def_ 64 (by rfl)
  m_Words_is_over := He.meth_ok (c.d.fact 109 (f := .meth "Words" "is_over") (by rfl))
  d_Words_refuse := c.d.def_ 65 (by rfl)
  m_Words_refuse := He.meth_ok (c.d.fact 110 (f := .meth "Words" "refuse") (by rfl))
  d_Words_next_word := c.d.def_ 66 (by rfl)
  m_Words_next_word := He.meth_ok (c.d.fact 111 (f := .meth "Words" "next_word") (by rfl))
  d_Words_read_word := c.d.def_ 67 (by rfl)
  m_Words_read_word := He.meth_ok (c.d.fact 112 (f := .meth "Words" "read_word") (by rfl))
  d_Words_read_number := c.d.def_ 68 (by rfl)
  m_Words_read_number := He.meth_ok (c.d.fact 113 (f := .meth "Words" "read_number") (by rfl))
  d_Words_read_numbers := c.d.def_ 69 (by rfl)
  m_Words_read_numbers := He.meth_ok (c.d.fact 114 (f := .meth "Words" "read_numbers") (by rfl))
  d_Words_read_some := c.d.def_ 70 (by rfl)
  m_Words_read_some := He.meth_ok (c.d.fact 115 (f := .meth "Words" "read_some") (by rfl))
  d_Words_need_over := c.d.def_ 71 (by rfl)
  m_Words_need_over := He.meth_ok (c.d.fact 116 (f := .meth "Words" "need_over") (by rfl))
  d_Desk_init := c.d.def_ 72 (by rfl)
  mk_Desk := He.mkr_ok (c.d.fact 117 (f := .mkr "Desk") (by rfl))
  p_Desk_receiver := (fun z => z) (c.prop 2 (d := dp2) (by rfl) (allId c.ex 4 (by rfl)) (allId c.ex 5 (by rfl)))
  d_Desk_say := c.d.def_ 73 (by rfl)
  m_Desk_say := He.meth_ok (c.d.fact 118 (f := .meth "Desk" "say") (by rfl))
  d_Desk_answered := c.d.def_ 74 (by rfl)
  m_Desk_answered := He.meth_ok (c.d.fact 119 (f := .meth "Desk" "answered") (by rfl))
  d_Desk_alone := c.d.def_ 75 (by rfl)
  m_Desk_alone := He.meth_ok (c.d.fact 120 (f := .meth "Desk" "alone") (by rfl))
  d_Desk_undone := c.d.def_ 76 (by rfl)
  m_Desk_undone := He.meth_ok (c.d.fact 121 (f := .meth "Desk" "undone") (by rfl))
  cls_Receiver := He.cls_ok (c.d.fact 122 (f := .cls "Receiver") (by rfl))
  na_own_prime := He.noat_ok (c.d.fact 123 (f := .noat "Receiver" "own_prime") (by rfl))
  na_own_laying := He.noat_ok (c.d.fact 124 (f := .noat "Receiver" "own_laying") (by rfl))
  na_own_past := He.noat_ok (c.d.fact 125 (f := .noat "Receiver" "own_past") (by rfl))
  cls_Words := He.cls_ok (c.d.fact 126 (f := .cls "Words") (by rfl))
  na_own_words := He.noat_ok (c.d.fact 127 (f := .noat "Words" "own_words") (by rfl))
  na_own_line := He.noat_ok (c.d.fact 128 (f := .noat "Words" "own_line") (by rfl))
  na_own_spot := He.noat_ok (c.d.fact 129 (f := .noat "Words" "own_spot") (by rfl))
  cls_Desk := He.cls_ok (c.d.fact 130 (f := .cls "Desk") (by rfl))
  na_own_receiver := He.noat_ok (c.d.fact 131 (f := .noat "Desk" "own_receiver") (by rfl))
  d_BadNumber_init := c.d.def_ 77 (by rfl)
  xn_BadNumber_given := He.noat_ok (c.d.fact 132 (f := .noat "BadNumber" "given") (by rfl))
  xm_BadNumber := He.exm_ok (c.d.fact 133 (f := .exm "BadNumber" "NestError" true) (by rfl))
  x_BadNumber := oexcB_ok (allId c.ex 6 (b := oexcB K (He.ga K "BadNumber")) (by rfl))
  xi_BadNumber := He.eqO_ok (allId c.ex 7 (b := He.eqO (PySem.W.findIn K (.ref (He.ga K "BadNumber")) "__init__") (some (some (.ref (He.ma K (He.ga K "BadNumber") "__init__"))))) (by rfl))
  xt_BadNumber := of_decide_eq_true (allId c.ex 8 (b := decide (PySem.W.typeIn K (.ref (He.ma K (He.ga K "BadNumber") "__init__")) = some (.type "function"))) (by rfl))
  d_BadPrime_init := c.d.def_ 78 (by rfl)
  xn_BadPrime_given := He.noat_ok (c.d.fact 134 (f := .noat "BadPrime" "given") (by rfl))
  xm_BadPrime := He.exm_ok (c.d.fact 135 (f := .exm "BadPrime" "NestError" true) (by rfl))
  x_BadPrime := oexcB_ok (allId c.ex 9 (b := oexcB K (He.ga K "BadPrime")) (by rfl))
  xi_BadPrime := He.eqO_ok (allId c.ex 10 (b := He.eqO (PySem.W.findIn K (.ref (He.ga K "BadPrime")) "__init__") (some (some (.ref (He.ma K (He.ga K "BadPrime") "__init__"))))) (by rfl))
  xt_BadPrime := of_decide_eq_true (allId c.ex 11 (b := decide (PySem.W.typeIn K (.ref (He.ma K (He.ga K "BadPrime") "__init__")) = some (.type "function"))) (by rfl))
  d_BadLaying_init := c.d.def_ 79 (by rfl)
  xn_BadLaying_given := He.noat_ok (c.d.fact 136 (f := .noat "BadLaying" "given") (by rfl))
  xm_BadLaying := He.exm_ok (c.d.fact 137 (f := .exm "BadLaying" "NestError" true) (by rfl))
  x_BadLaying := oexcB_ok (allId c.ex 12 (b := oexcB K (He.ga K "BadLaying")) (by rfl))
  xi_BadLaying := He.eqO_ok (allId c.ex 13 (b := He.eqO (PySem.W.findIn K (.ref (He.ga K "BadLaying")) "__init__") (some (some (.ref (He.ma K (He.ga K "BadLaying") "__init__"))))) (by rfl))
  xt_BadLaying := of_decide_eq_true (allId c.ex 14 (b := decide (PySem.W.typeIn K (.ref (He.ma K (He.ga K "BadLaying") "__init__")) = some (.type "function"))) (by rfl))
  d_Unsound_init := c.d.def_ 80 (by rfl)
  xn_Unsound_need := He.noat_ok (c.d.fact 138 (f := .noat "Unsound" "need") (by rfl))
  xm_Unsound := He.exm_ok (c.d.fact 139 (f := .exm "Unsound" "NestError" true) (by rfl))
  x_Unsound := oexcB_ok (allId c.ex 15 (b := oexcB K (He.ga K "Unsound")) (by rfl))
  xi_Unsound := He.eqO_ok (allId c.ex 16 (b := He.eqO (PySem.W.findIn K (.ref (He.ga K "Unsound")) "__init__") (some (some (.ref (He.ma K (He.ga K "Unsound") "__init__"))))) (by rfl))
  xt_Unsound := of_decide_eq_true (allId c.ex 17 (b := decide (PySem.W.typeIn K (.ref (He.ma K (He.ga K "Unsound") "__init__")) = some (.type "function"))) (by rfl))
  d_BadLetter_init := c.d.def_ 81 (by rfl)
  xn_BadLetter_given := He.noat_ok (c.d.fact 140 (f := .noat "BadLetter" "given") (by rfl))
  xm_BadLetter := He.exm_ok (c.d.fact 141 (f := .exm "BadLetter" "NestError" true) (by rfl))
  x_BadLetter := oexcB_ok (allId c.ex 18 (b := oexcB K (He.ga K "BadLetter")) (by rfl))
  xi_BadLetter := He.eqO_ok (allId c.ex 19 (b := He.eqO (PySem.W.findIn K (.ref (He.ga K "BadLetter")) "__init__") (some (some (.ref (He.ma K (He.ga K "BadLetter") "__init__"))))) (by rfl))
  xt_BadLetter := of_decide_eq_true (allId c.ex 20 (b := decide (PySem.W.typeIn K (.ref (He.ma K (He.ga K "BadLetter") "__init__")) = some (.type "function"))) (by rfl))
  d_BadText_init := c.d.def_ 82 (by rfl)
  xn_BadText_line := He.noat_ok (c.d.fact 142 (f := .noat "BadText" "line") (by rfl))
  xn_BadText_word := He.noat_ok (c.d.fact 143 (f := .noat "BadText" "word") (by rfl))
  xm_BadText := He.exm_ok (c.d.fact 144 (f := .exm "BadText" "NestError" true) (by rfl))
  x_BadText := oexcB_ok (allId c.ex 21 (b := oexcB K (He.ga K "BadText")) (by rfl))
  xi_BadText := He.eqO_ok (allId c.ex 22 (b := He.eqO (PySem.W.findIn K (.ref (He.ga K "BadText")) "__init__") (some (some (.ref (He.ma K (He.ga K "BadText") "__init__"))))) (by rfl))
  xt_BadText := of_decide_eq_true (allId c.ex 23 (b := decide (PySem.W.typeIn K (.ref (He.ma K (He.ga K "BadText") "__init__")) = some (.type "function"))) (by rfl))
  d_NothingLeft_init := c.d.def_ 83 (by rfl)
  xn_NothingLeft_many := He.noat_ok (c.d.fact 145 (f := .noat "NothingLeft" "many") (by rfl))
  x_NothingLeft := oexrB_ok (allId c.ex 24 (b := oexrB K (He.ga K "NothingLeft")) (by rfl))
  xi_NothingLeft := He.eqO_ok (allId c.ex 25 (b := He.eqO (PySem.W.findIn K (.ref (He.ga K "NothingLeft")) "__init__") (some (some (.ref (He.ma K (He.ga K "NothingLeft") "__init__"))))) (by rfl))
  xt_NothingLeft := of_decide_eq_true (allId c.ex 26 (b := decide (PySem.W.typeIn K (.ref (He.ma K (He.ga K "NothingLeft") "__init__")) = some (.type "function"))) (by rfl))
  xt_Receiver_len := of_decide_eq_true (allId c.ex 27 (b := decide (PySem.W.typeIn K (.ref (He.ma K (He.ga K "Receiver") "__len__")) = some (.type "function"))) (by rfl))
  xm_left := He.exm_ok (c.d.fact 146 (f := .exm "NothingLeft" "NothingLeft" true) (by rfl))
  xh_BadText_BadText := He.exm_ok (c.d.fact 147 (f := .exm "BadText" "BadText" true) (by rfl))
  xh_BadPrime_BadText := He.exm_ok (c.d.fact 148 (f := .exm "BadPrime" "BadText" false) (by rfl))
  xh_BadPrime_BadPrime := He.exm_ok (c.d.fact 149 (f := .exm "BadPrime" "BadPrime" true) (by rfl))
  xh_BadLaying_BadText := He.exm_ok (c.d.fact 150 (f := .exm "BadLaying" "BadText" false) (by rfl))
  xh_BadLaying_BadPrime := He.exm_ok (c.d.fact 151 (f := .exm "BadLaying" "BadPrime" false) (by rfl))
  xh_BadLaying_BadLaying := He.exm_ok (c.d.fact 152 (f := .exm "BadLaying" "BadLaying" true) (by rfl))
  xf_BadText := xfB_ok (allId c.ex 28 (b := xfB K (He.ga K "BadText")) (by rfl))
  xf_BadPrime := xfB_ok (allId c.ex 29 (b := xfB K (He.ga K "BadPrime")) (by rfl))
  xf_BadLaying := xfB_ok (allId c.ex 30 (b := xfB K (He.ga K "BadLaying")) (by rfl))
  ne_ga := He.eqO_ok (allId c.ex 31 (b := He.eqO (PySem.W.specialIn K (.ref (He.ga K "NestError")) "__getattribute__") (some (some (.builtin "type.__getattribute__")))) (by rfl))
  ne_rd := (allId c.ex 32 (b := PySem.W.readsIn K (He.ga K "NestError") (.type "type")) (by rfl))
  ne_fc := fclB_ok (allId c.ex 33 (b := fclB (PySem.W.findCls K (.ref (He.ga K "NestError")) (.type "type") "__init__") "ValueError.__init__") (by rfl))
  re_fc := fclB_ok (allId c.ex 34 (b := fclB (PySem.W.findCls K (.type "RuntimeError") (.type "type") "__init__") "RuntimeError.__init__") (by rfl))
  c_PRIMES := ⟨_, He.glo_ok X G (c.d.fact 153 (f := .glo "PRIMES") (by rfl)), fun H => He.tupB_ok (allId c.ex 35 (b := He.tupB K "PRIMES" [.int 11, .int 13, .int 17, .int 19, .int 23]) (by rfl)) H⟩
  c_ALONE := ⟨_, He.glo_ok X G (c.d.fact 154 (f := .glo "ALONE") (by rfl)), fun H => He.tupB_ok (allId c.ex 36 (b := He.tupB K "ALONE" [.str "known", .str "more", .str "read", .str "mail", .str "suspects", .str "undo", .str "deeds"]) (by rfl)) H⟩
end NL
/-! R15: the law's end -/
namespace NL
open PySem PySem.Spec PyProof.Rows L2
theorem law_at {w : World} {h : Heap} {K : Frag} {mg : Str → Option Value} {f : Addr} (X : K.In h) (G : h.Ns mainGlobals mg) (c : SaysN hFa hFn hFp hTf hEx w h K) (named : mg ("law" : Str) = some (.ref f)) :
    ∃ K fd c t sp, LawAtG PySem.Challenge.rw_nestletters_k37_whole_desks w K 14 "_law_script" mg f h fd c t sp := by
  have T := txt_of X G c
  obtain ⟨fd, F⟩ := T.d_law
  cases named.symm.trans T.g_law
  have at_ : (("_law_refused_right", none) : He.Defn) ∈ hTf := List.mem_singleton.mpr rfl
  have b := F.bindsA (ps := ["_law_script"]) fun _ _ _ _ _ _ us hl => match us, hl with | [_], _ => rfl
  exact ⟨K, fd, _, _, sp_law K, {
    kin := X
    code := PySem.W.codeHd_of_K X (c.hd _ at_)
    tab := c.empty _ at_
    out := c.out _ at_
    bind := fun s u => b s [u] rfl
    prom := fun H r zs few ht hs => ⟨r, zs, rfl, hs, few, ht, fun _ => rfl⟩
    fn := fun base _ tb => law_okG T F tb }⟩
end NL
open PySem PySem.W PySem.Calls PyProof.Rows
theorem PySem.Challenge.cw_nestletters_k37_whole_desks_holds : PySem.Challenge.rw_nestletters_k37_whole_desks.Holds := by
  w_on; o_law
  refine HandSHeadRun.head_any (r := OpenLaw.row PySem.Challenge.rw_nestletters_k37_whole_desks) (q := view (OpenLaw.row PySem.Challenge.rw_nestletters_k37_whole_desks).prog [89]) (H := NL.hk) (ob := NL.ob) (M := 6000) (loose := NL.names) (d := HandSHeadRun.topDef (OpenLaw.row PySem.Challenge.rw_nestletters_k37_whole_desks).prog 89) (kwd := []) NL.ob_eq
    (by kernel_rfl) (fun s => by kernel_rfl) NL.run (by kernel_rfl) (by kernel_rfl) (by kernel_rfl) (by rfl) (by first | assumption | decide +kernel) (by decide +kernel) ⟨rfl, rfl, rfl, rfl, rfl, by decide +kernel⟩ ?hw ?hc
  case hw => w_witness2
  case hc =>
    refine NL.walkG (l := PySem.Challenge.rw_nestletters_k37_whole_desks) (k := 14) (x := "_law_script") rfl (by kernel_rfl) ⟨rfl, by decide, by decide⟩ ?_
    rintro w mg f h ⟨K, X, c⟩ G named
    have e : (HandSHeadRun.topDef (OpenLaw.row PySem.Challenge.rw_nestletters_k37_whole_desks).prog 89).name = ("law" : PySem.Str) := by kernel_rfl
    exact NL.law_at X G c (e ▸ named)
