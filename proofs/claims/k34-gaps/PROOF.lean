import PyProof.Rows.All
import Wide.All
import OpenK.AllK
import Wide.FinOn
import HandS.ForMost
import HandS.Codes
import HandS.Style
import HandS.Wide
import KE.GoesMore
import HandS.Zip
import KE.GoesEnumKw
import HandS.SortKw
import KE.GoesEnum
import PyProof.EnumMake
import PyProof.Rows.SortStr
import HandS.Set
import HandS.SetFor
import HandS.Strs
import PyProof.LongRange
import PyProof.SumWalkG
import PyProof.WalksMore
import HandS.Defaults
import PyProof.Rows.SortShellAny
import HandS.DictTup
import HandS.ListItems
import HandS.SortInts
import HandS.SortRule
import PyProof.ReprDict
import PyProof.StrHeap
import PyProof.FitsInt
import PyProof.Rows.RegStrFacts
import HandS.Ends
import KE.KStateDown
import Lean
import HandS.Head0
import HandS.Head1
import HandS.Head2
import HandS.HeadEnd
import HandS.HeadHook1
import HandS.HeadHook2
import PySem.Challenge.RW_mirrorpress_k34_whole_gaps_of_great
import HandS.StrMore
import HandS.IsInst
import HandS.TryOnly
import HandS.Exc
import HandS.ExcOwn
import HandS.WordsExc
import HandS.Walk
import HandS.DictComp
import HandS.Conv
import HandS.TupAny
import HandS.SortOrd
import HandS.NoneIn
set_option Elab.async false
set_option linter.all false
set_option maxRecDepth 100000
set_option maxHeartbeats 0
/-! Rules for constructs that the layer lacks: text times int, slices with a step. -/
namespace Mi
open PySem PySem.Spec PyProof.Rows L2 SX

/-! text * int -/
def repN (l : List Nat) : Nat → List Nat
  | 0 => []
  | n + 1 => l ++ repN l n
theorem fold_rep (a : Array Nat) (n : Nat) (acc : Array Nat) : ((List.replicate n a).foldl (· ++ ·) acc).toList = acc.toList ++ repN a.toList n := by
  induction n generalizing acc with
  | zero => simp [repN]
  | succ n ih =>
    rw [List.replicate_succ, List.foldl_cons, ih]
    simp [repN]
theorem repN_one (l : List Nat) : repN l 1 = l := by simp [repN]
theorem repN_nil (n : Nat) : repN [] n = [] := by
  induction n with
  | zero => rfl
  | succ n ih => rw [repN, ih]; rfl
theorem len_repN (l : List Nat) (n : Nat) : (repN l n).length = l.length * n := by
  induction n with
  | zero => simp [repN]
  | succ n ih => rw [repN, List.length_append, ih, Nat.mul_succ, Nat.add_comm]
theorem mul_text (l : List Nat) (n : Nat) : Txt.mul (S l) (n : Int) = S (repN l n) := by
  unfold Txt.mul
  cases n with
  | zero => exact if_pos (by decide)
  | succ n =>
    rw [if_neg (by omega)]
    by_cases h : (((n + 1 : Nat) : Int) == 1 || (S l).length == 0) = true
    · rw [if_pos h]
      rw [Bool.or_eq_true] at h
      rcases h with h | h
      · have e : n = 0 := by have := eq_of_beq h; omega
        subst e
        rw [repN_one]
      · have e : l = [] := by
          have := eq_of_beq h
          rw [S_len] at this
          exact List.length_eq_zero_iff.mp this
        subst e
        rw [repN_nil]
    · rw [if_neg h]
      have e := fold_rep (S l).cps (n + 1) #[]
      have e2 : (((n + 1 : Nat) : Int)).toNat = n + 1 := by omega
      rw [e2]
      refine congrArg Str.mk ?_
      have e3 : ∀ (x : Array Nat) (y : List Nat), x.toList = y → x = y.toArray := fun x y q => by rw [← q]
      refine e3 _ _ (e.trans ?_)
      simp
def rTimes : R2 := fun x y H Q => ∃ (l : List Nat) (n : Nat), x = .str (S l) ∧ y = .int (n : Int) ∧ l.length ≤ 1000 ∧ n ≤ 1000 ∧ Q (.str (S (repN l n))) H
theorem op_times {X : Cx} : OpR X (binaryOp .Mult) rTimes := by
  intro pins s σ H x y v u Q I rx ry h
  obtain ⟨l, n, rfl, rfl, hl, hn, q⟩ := h
  obtain ⟨t, rfl⟩ := rx
  obtain ⟨t', rfl⟩ := ry
  refine SB.mul ⟨?_, fun h1 _ => ?_, fun _ _ => ?_⟩ fun t2 k => ?_
  · have a : ¬ ((n : Int) < -(2 ^ 63 : Int)) := by omega
    have b : ¬ ((n : Int) ≥ 2 ^ 63) := by omega
    rw [decide_eq_false a, decide_eq_false b]; rfl
  · rw [S_len]
    have h2 : (1 : Int) ≤ (n : Int) := by omega
    have h3 : ((1000 : Int)) ≤ (2 ^ 63 - 1) / (n : Int) := by
      rw [Int.le_ediv_iff_mul_le (by omega)]
      omega
    omega
  · rw [S_len]
    have e : ((n : Int)).toNat = n := by omega
    rw [e]
    have h4 : l.length * n ≤ 1000 * 1000 := Nat.mul_le_mul hl hn
    unfold PySem.Builtin.Str.tooLong
    simp only [decide_eq_false_iff_not]
    unfold sizeLine
    omega
  · rw [mul_text]
    exact ⟨.str _, H, I.tok k, ⟨_, rfl⟩, q⟩

/-! xs[k::7], of ints: some of them -/
theorem pick_sub (items : Array Value) (lo hi st : Option Int) : ∀ v ∈ (slicePick items lo hi st).toList, v ∈ items.toList := by
  intro v hv
  unfold slicePick at hv
  rw [List.toList_toArray] at hv
  obtain ⟨i, _, hi⟩ := List.mem_filterMap.mp hv
  have := Array.mem_of_getElem? hi
  simpa using this
theorem ints_of_mem : ∀ {vs : List Value}, (∀ v ∈ vs, ∃ i t, v = Value.int i t) → ∃ ns : List Int, Vals (ns.map V.int) vs
  | [], _ => ⟨[], .nil⟩
  | v :: r, h => by
    obtain ⟨ns, q⟩ := ints_of_mem (vs := r) fun z hz => h z (List.mem_cons_of_mem _ hz)
    obtain ⟨i, t, e⟩ := h v List.mem_cons_self
    exact ⟨i :: ns, .cons ⟨t, e⟩ q⟩
theorem mem_ints : ∀ {ns : List Int} {vs : List Value}, Vals (ns.map V.int) vs → ∀ v ∈ vs, ∃ i t, v = Value.int i t
  | [], _, .nil, _, h => nomatch h
  | n :: r, _, .cons q t, v, h => by
    rcases List.mem_cons.mp h with rfl | h
    · obtain ⟨t', e⟩ := q; exact ⟨n, t', e⟩
    · exact mem_ints t v h
/-- a list of ints cut with a lower bound and a step: a new list of ints, no longer than it -/
def tStepL (K : PySem.W.Frag) (te : TE) (tl : TO) : TE := fun σ H Q => te σ H fun x H1 => tl σ H1 fun lo H2 => ∃ (a : Addr) (ns : List Int), x = .ref a ∧ SqL K H2 a (ns.map V.int) ∧
  ∀ (ms : List Int) (p : Addr), H2 p = none → ms.length ≤ ns.length → Q (.ref p) (upd H2 p (.lst (ms.map V.int)))
theorem pe_stepL {X : Cx} {e : Expr} {te : TE} {lo : Option Expr} {tl : TO} {c : Int} {k : Nat} {p1 p3 pos : Pos} (hc : c ≠ 0) (he : PE X e te) (hl : PO X lo tl) :
    PE X (.Subscript e (.Slice lo none (some (.Constant (.int c) k p1)) p3) pos) (tStepL X.K te tl) := by
  refine ⟨fun pins s σ H Q I h => ?_⟩
  refine Subscript_ (thn (he.run pins s σ H _ I h) fun v s1 ⟨x, H1, I1, r1, q1⟩ => ?_)
  have hst : PO X (some (.Constant (.int c) k p1)) (tPart (tC (.int c))) := po_some pe_int
  refine wpAny_Slice (thn (hl.run pins s1 σ H1 _ I1 q1) fun vl s2 ⟨l, H2, I2, pl, q2⟩ => ?_)
  obtain ⟨a, ns, ex, hx, q⟩ := q2
  subst ex
  cases r1
  refine thn (po_none.run pins s2 σ H2 (fun o H3 => o = none ∧ H3 = H2) I2 ⟨rfl, rfl⟩) fun vu s3 ⟨u, H3, I3, pu, eu, e3⟩ => ?_
  subst eu e3
  refine thn (hst.run pins s3 σ H3 (fun o H4 => o = some c ∧ H4 = H3) I3 ⟨c, rfl, rfl, rfl⟩) fun vs s4 ⟨o, H4, I4, ps, eo, e4⟩ => ?_
  subst eo e4
  have I5 : Inv X pins σ H4 { s4 with heap := s4.heap.push { cls := .type "slice", data := .fields #[vl, vu, vs] } } := I4.kept (t' := s4.toks) fun b ob q => Heap.get?_push_of_some _ q
  obtain ⟨its, r, ht, hz⟩ := I5.list hx
  have hlen := r.length
  show wpAny (model X.prog X.w) X.A (subscriptTail e (.Slice lo none (some (.Constant (.int c) k p1)) p3) (.ref a) (.ref s4.heap.objs.size)) (EP X pins σ Q) X.xe { s4 with heap := s4.heap.push { cls := .type "slice", data := .fields #[vl, vu, vs] } }
  refine tail_any (ops := [.ref a, .ref s4.heap.objs.size]) ht.isList.typeIs (PySem.slot_list_getitem.lookup) ?_ (by with_unfolding_all rfl)
  refine wpAny_getItem_list_slice ht.isList (Heap.IsSliceOf.new _ vl vu vs) pl pu ps (by simpa using hc) ?_ (by rw [List.size_toArray]; omega)
  have hsz := slicePick_size_le its.toArray l none (some c)
  have hmem : ∀ v ∈ (slicePick its.toArray l none (some c)).toList, ∃ i t, v = Value.int i t := fun v hv => mem_ints r v (by have := pick_sub _ _ _ _ v hv; simpa using this)
  obtain ⟨ms, hm⟩ := ints_of_mem hmem
  have hml : ms.length = (slicePick its.toArray l none (some c)).size := by
    have := hm.length
    rw [List.length_map, Array.length_toList] at this
    exact this
  have hit : its.toArray.size = ns.length := by
    rw [List.size_toArray, ← hlen, List.length_map]
  have hmn : ms.length ≤ ns.length := by rw [hml, ← hit]; exact hsz
  have fin := q ms (s4.heap.push { cls := .type "slice", data := .fields #[vl, vu, vs] }).objs.size (I5.hok.fresh (Nat.le_refl _)) hmn
  refine ⟨.ref _, _, I5.laid (t' := s4.toks) (o := .lst (ms.map V.int)) (fun b ob q => Heap.get?_push_of_some _ q) (Nat.le_refl _) ?_, rfl, fin⟩
  rw [List.length_map] at hz
  refine ⟨by rw [List.length_map]; omega, _, 0, hm, ?_⟩
  rw [Array.toArray_toList]
  exact Heap.get?_push_size _ rfl

/-! t[::-1] of a tuple -/
section
variable {prog : Program} {w : World} {A : Around} {E : Value → Shared → Prop} {s : Shared}
theorem adjust_back (n : Nat) : Builtin.Slice.sliceAdjust none none (-1) (n : Int) = ((n : Int) - 1, -1) := rfl
theorem places_back (n : Nat) : Builtin.Slice.slicePlaces ((n : Int) - 1) (-1) (-1) = n := by
  unfold Builtin.Slice.slicePlaces
  have h0 : ¬ ((-1 : Int) > 0) := by decide
  simp only [h0, if_false]
  have e : (- -1 : Int) = 1 := by decide
  rw [e]
  by_cases h : (n : Int) - 1 > -1
  · rw [if_pos h, Int.ediv_one]; omega
  · rw [if_neg h]; omega
theorem pick_back (xs : Array Value) : ((List.range xs.size).filterMap fun (m : Nat) => xs[(((xs.size : Int) - 1) + (m : Int) * (-1)).toNat]?).toArray = xs.toList.reverse.toArray := by
  refine congrArg List.toArray (List.ext_getElem? fun i => ?_)
  have e : ((List.range xs.size).filterMap fun (m : Nat) => xs[(((xs.size : Int) - 1) + (m : Int) * (-1)).toNat]?) = (List.range xs.size).map fun m => xs.toList.getD (xs.size - 1 - m) .none := by
    have : ∀ l : List Nat, (∀ m ∈ l, m < xs.size) → (l.filterMap fun (m : Nat) => xs[(((xs.size : Int) - 1) + (m : Int) * (-1)).toNat]?) = l.map fun m => xs.toList.getD (xs.size - 1 - m) .none := by
      intro l
      induction l with
      | nil => intro _; rfl
      | cons m r ih =>
        intro h
        have hm := h m List.mem_cons_self
        have e1 : (((xs.size : Int) - 1) + (m : Int) * (-1)).toNat = xs.size - 1 - m := by omega
        have e2 : xs[xs.size - 1 - m]? = some (xs.toList.getD (xs.size - 1 - m) .none) := by
          have hlt : xs.size - 1 - m < xs.size := by omega
          simp [List.getD, hlt]
        rw [List.map_cons, ← ih fun k hk => h k (List.mem_cons_of_mem _ hk)]
        rw [List.filterMap_cons]
        simp only [e1, e2]
    exact this _ fun m hm => List.mem_range.mp hm
  rw [e]
  rw [List.getElem?_map]
  by_cases hi : i < xs.size
  · rw [List.getElem?_range hi, List.getElem?_reverse (by simpa using hi)]
    have hlt : xs.size - 1 - i < xs.size := by omega
    simp [List.getD, hlt]
  · rw [List.getElem?_eq_none (by simpa using hi), List.getElem?_eq_none (by simpa using hi)]
    rfl
theorem getItem_tuple_back {t sl : Addr} {items : Array Value} {vl vu vs : Value} {Q : Value → Shared → Prop} (ht : IsTup s.heap t items) (hs : s.heap.IsSliceOf sl vl vu vs) (pl : IsPart vl none) (pu : IsPart vu none) (ps : IsPart vs (some (-1)))
    (h : Q (.ref s.heap.objs.size) { s with heap := s.heap.push { cls := .type "tuple", data := .seq items.toList.reverse.toArray } })
    (hsz : items.size ≤ sizeLine) : wpAny (model prog w) A (getItem (.ref t) (.ref sl)) Q E s := by
  have htake : sizeOk (.seq items.toList.reverse.toArray) := by
    show items.toList.reverse.toArray.size ≤ sizeLine
    rw [List.size_toArray, List.length_reverse, Array.length_toList]
    exact hsz
  obtain ⟨os, hos, hcs, hds⟩ := id hs
  have hTs : s.TypeIs (.ref sl) "slice" := ⟨os, hos, hcs⟩
  unfold getItem
  try with_reducible refine wpAny_holding ?_
  first | refine wpAny_bind (wpAny_pure ?_) | skip
  refine wpAny_bind (wpAny_sequenceKey ht.typeIs (by decide) ?_)
  refine wpAny_bind (wpAny_callSpecial?_slot (name := Str.ofString "__getitem__") ht.typeIs PyProof.Rows.slot_tuple_getitem
    (wpAny_call_entry PyProof.Rows.slot_tuple_getitem ht.typeIs entry_tuple_getitem ?_ (args_tuple_getitem _ _)))
  show wpAny _ _ (Builtin.Tuple.tupleItemsOf (.ref t) >>= _) _ _ s
  refine wpAny_bind (tupleItemsOf_ ht ?_)
  refine wpAny_bind (wpAny_typeOf hTs ?_)
  rw [if_pos (by decide)]
  have ap : ∀ {R : Int × Int × Nat → Shared → Prop} {B : Around} {F : Value → Shared → Prop}, R ((items.size : Int) - 1, -1, items.size) s → wpAny (model prog w) B (Builtin.Slice.sliceApplied (.ref sl) (pure (items.size : Int))) R F s := by
    intro R B F hr
    unfold Builtin.Slice.sliceApplied Builtin.Slice.sliceFields
    refine wpAny_bind (wpAny_bind (wpAny_field hos hds (x := vl) rfl (wpAny_bind (wpAny_field hos hds (x := vu) rfl (wpAny_bind (wpAny_field hos hds (x := vs) rfl (wpAny_pure ?_)))))))
    refine wpAny_bind (HT.slicePart_ ps ?_)
    show wpAny _ _ (if ((-1 : Int) == 0) = true then _ else _) _ _ s
    rw [if_neg (by decide)]
    refine wpAny_bind (HT.slicePart_ pl (wpAny_bind (HT.slicePart_ pu (wpAny_bind (wpAny_pure ?_)))))
    show wpAny _ _ (match Builtin.Slice.sliceAdjust none none (-1) (items.size : Int) with | (lo, hi) => pure (lo, (-1 : Int), Builtin.Slice.slicePlaces lo hi (-1))) _ _ s
    rw [adjust_back]
    show wpAny _ _ (pure ((items.size : Int) - 1, (-1 : Int), Builtin.Slice.slicePlaces ((items.size : Int) - 1) (-1) (-1))) _ _ s
    rw [places_back]
    exact wpAny_pure hr
  refine wpAny_bind (ap ?_)
  show wpAny _ _ (if ((items.size : Int) - 1 == 0 && (-1 : Int) == 1 && items.size == items.size) = true then _ else _) _ _ s
  rw [if_neg (by simp), pick_back]
  first
    | exact wpAny_bind (m := Builtin.Tuple.tupleExact _) (wpAny_newObj_type (wpAny_pure ⟨_, rfl, wpAny_pure h⟩) htake)
    | exact wpAny_bind (m := Builtin.Tuple.tupleExact _) (wpAny_newObj_type (wpAny_bind (wpAny_pure (wpAny_pure ⟨_, rfl, wpAny_pure h⟩))) htake)
    | exact wpAny_bind (wpAny_bind (m := Builtin.Tuple.tupleExact _) (wpAny_newObj_type (wpAny_pure (wpAny_pure ⟨_, rfl, wpAny_pure h⟩)) htake))
    | exact wpAny_bind (wpAny_bind (m := Builtin.Tuple.tupleExact _) (wpAny_newObj_type (wpAny_pure ⟨_, rfl, wpAny_pure h⟩) htake))
end
def tBackT (K : PySem.W.Frag) (te : TE) : TE := fun σ H Q => te σ H fun x H1 => ∃ a xs, x = .ref a ∧ SqT K H1 a xs ∧ ∀ p, H1 p = none → Q (.ref p) (upd H1 p (.tup xs.reverse))
theorem pe_backT {X : Cx} {e : Expr} {te : TE} {k : Nat} {p1 p2 p3 pos : Pos} (he : PE X e te) : PE X (.Subscript e (.Slice none none (some (.UnaryOp .USub (.Constant (.int 1) k p1) p2)) p3) pos) (tBackT X.K te) := by
  refine ⟨fun pins s σ H Q I h => ?_⟩
  refine Subscript_ (thn (he.run pins s σ H _ I h) fun v s1 ⟨x, H1, I1, r1, q1⟩ => ?_)
  obtain ⟨a, xs, ex, hx, q⟩ := q1
  subst ex
  cases r1
  have hst : PO X (some (.UnaryOp .USub (.Constant (.int 1) k p1) p2)) (tPart (tUn (rU fun i => .int (-i)) (tC (.int 1)))) := po_some (pe_un un_neg pe_int)
  refine wpAny_Slice (thn (po_none.run pins s1 σ H1 (fun o H2 => o = none ∧ H2 = H1) I1 ⟨rfl, rfl⟩) fun vl s2 ⟨l, H2, I2, pl, el, e2⟩ => ?_)
  subst el e2
  refine thn (po_none.run pins s2 σ H2 (fun o H3 => o = none ∧ H3 = H2) I2 ⟨rfl, rfl⟩) fun vu s3 ⟨u, H3, I3, pu, eu, e3⟩ => ?_
  subst eu e3
  refine thn (hst.run pins s3 σ H3 (fun o H4 => o = some (-1) ∧ H4 = H3) I3 ⟨1, rfl, -1, rfl, rfl, rfl⟩) fun vs s4 ⟨o, H4, I4, ps, eo, e4⟩ => ?_
  subst eo e4
  have I5 : Inv X pins σ H4 { s4 with heap := s4.heap.push { cls := .type "slice", data := .fields #[vl, vu, vs] } } := I4.kept (t' := s4.toks) fun b ob q => Heap.get?_push_of_some _ q
  obtain ⟨its, r, ht, hz⟩ := I5.tuple hx
  have hlen := r.length
  show wpAny (model X.prog X.w) X.A (subscriptTail e (.Slice none none (some (.UnaryOp .USub (.Constant (.int 1) k p1) p2)) p3) (.ref a) (.ref s4.heap.objs.size)) (EP X pins σ Q) X.xe { s4 with heap := s4.heap.push { cls := .type "slice", data := .fields #[vl, vu, vs] } }
  refine tail_any (ops := [.ref a, .ref s4.heap.objs.size]) ht.typeIs (PyProof.Rows.slot_tuple_getitem.lookup) ?_ (by with_unfolding_all rfl)
  refine getItem_tuple_back ht (Heap.IsSliceOf.new _ vl vu vs) pl pu ps ?_ (by rw [List.size_toArray]; omega)
  refine ⟨.ref _, _, I5.laid (t' := s4.toks) (o := .tup xs.reverse) (fun b ob q => Heap.get?_push_of_some _ q) (Nat.le_refl _) ?_, rfl, q _ (I5.hok.fresh (Nat.le_refl _))⟩
  exact ⟨by rw [List.length_reverse]; exact hz, _, r.reverse, ⟨_, Heap.get?_push_size _ rfl, rfl, _, rfl⟩⟩

/-! x[::-1] of a text -/
def tBackS (te : TE) : TE := fun σ H Q => te σ H fun x H1 => ∃ l : List Nat, x = .str (S l) ∧ l.length ≤ sizeLine ∧ Q (.str (S l.reverse)) H1
theorem back_text (l : List Nat) (u : Tok) : Txt.sliceBy (S l) none none (-1, u) = S l.reverse := by
  have h := step_rev_list (S l) u
  refine TL.ext_tl (h.trans ?_)
  rw [S_len]
  refine List.ext_getElem? fun i => ?_
  show _ = l.reverse[i]?
  rw [List.getElem?_map]
  by_cases hi : i < l.length
  · rw [List.getElem?_range hi, List.getElem?_reverse hi]
    have hlt : l.length - 1 - i < l.length := by omega
    simp [Array.getD, hlt]
  · rw [List.getElem?_eq_none (by simpa using hi), List.getElem?_eq_none (by simpa using hi)]
    rfl
theorem pe_backS {X : Cx} {e : Expr} {te : TE} {k : Nat} {p1 p2 p3 pos : Pos} (he : PE X e te) : PE X (.Subscript e (.Slice none none (some (.UnaryOp .USub (.Constant (.int 1) k p1) p2)) p3) pos) (tBackS te) := by
  refine ⟨fun pins s σ H Q I h => ?_⟩
  refine Subscript_ (thn (he.run pins s σ H _ I h) fun v s1 ⟨x, H1, I1, r1, q1⟩ => ?_)
  obtain ⟨l, ex, hl, q⟩ := q1
  subst ex
  obtain ⟨t, rfl⟩ := r1
  have hst : PO X (some (.UnaryOp .USub (.Constant (.int 1) k p1) p2)) (tPart (tUn (rU fun i => .int (-i)) (tC (.int 1)))) := po_some (pe_un un_neg pe_int)
  refine wpAny_Slice (thn (po_none.run pins s1 σ H1 (fun o H2 => o = none ∧ H2 = H1) I1 ⟨rfl, rfl⟩) fun vl s2 ⟨ol, H2, I2, pl, el, e2⟩ => ?_)
  subst el e2
  refine thn (po_none.run pins s2 σ H2 (fun o H3 => o = none ∧ H3 = H2) I2 ⟨rfl, rfl⟩) fun vu s3 ⟨u, H3, I3, pu, eu, e3⟩ => ?_
  subst eu e3
  refine thn (hst.run pins s3 σ H3 (fun o H4 => o = some (-1) ∧ H4 = H3) I3 ⟨1, rfl, -1, rfl, rfl, rfl⟩) fun vs s4 ⟨o, H4, I4, ps, eo, e4⟩ => ?_
  subst eo e4
  cases pl
  cases pu
  cases ps with
  | int i t' =>
  have I5 : Inv X pins σ H4 { s4 with heap := s4.heap.push { cls := .type "slice", data := .fields #[.none, .none, .int (-1) t'] } } := I4.kept (t' := s4.toks) fun b ob q => Heap.get?_push_of_some _ q
  show wpAny (model X.prog X.w) X.A (subscriptTail e (.Slice none none (some (.UnaryOp .USub (.Constant (.int 1) k p1) p2)) p3) (.str (S l) t) (.ref s4.heap.objs.size)) (EP X pins σ Q) X.xe { s4 with heap := s4.heap.push { cls := .type "slice", data := .fields #[.none, .none, .int (-1) t'] } }
  refine tail_any (ops := [.str (S l) t, .ref s4.heap.objs.size]) (typeIs_str _ _ _) F.slot_str_getitem.lookup ?_ (by with_unfolding_all rfl)
  refine wpAny_getItem_str_slice (l := none) (u := none) (st := some (-1, t')) ⟨_, Heap.get?_push_size _ rfl, rfl, rfl⟩ rfl ?_
  have e := back_text l t'
  unfold Txt.sliceBy at e
  have hc : ¬ ((((some ((-1 : Int), t')).map (·.1)).getD 1 == 1 && (slicePicked (S l) none none (some (-1, t'))).length == (S l).length) = true) := by
    have : ((((some ((-1 : Int), t')).map (·.1)).getD 1 == 1)) = false := rfl
    rw [this]; simp
  unfold sliceMade
  rw [if_neg hc] at e ⊢
  rw [e]
  exact ⟨by rw [S_len, List.length_reverse]; exact hl, .str _, H4, I5.tok _, ⟨_, rfl⟩, q⟩
end Mi
/-! Rules for constructs that the layer lacks: enumerate(text), zip(text, list), zip(tuple, tuple, strict=True). -/
namespace Mi
open PySem PySem.Spec PyProof.Rows L2 SX

/-- i, c: the places and signs of a text, in new pairs -/
def ItEs (l : List Nat) : It :=
  ⟨fun i _ => i < l.length, fun i H v H' => ∃ (T : Addr) (c : Nat), v = .ref T ∧ H T = none ∧ l[i]? = some c ∧ H' = upd H T (.tup [.int (i : Nat), .str (S [c])]), fun i _ => l.length ≤ i⟩
theorem S_get {l : List Nat} {i c : Nat} (h : (S l).cps[i]? = some c) : l[i]? = some c := by simpa using h
theorem S_size (l : List Nat) : (S l).cps.size = l.length := by simp
theorem turn_enS {P : Program} {w : World} {K : PySem.W.Frag} {elts : List Expr} {kk : Nat} {tpos : Pos} (l : List Nat) (t : Tok) (e it : Addr) :
    Turn P w K (.Tuple elts kk tpos) (ItEs l) [e, it] e (fun i h => (∃ old, IsEnum h e it ((i : Nat) : Int) old) ∧ h.IsStrIter it (strIterType (S l)) (S l) t i ∧ e ≠ it) where
  mem := by simp
  obj := fun i h st b hb => by
    obtain ⟨⟨old, he⟩, ⟨o, ho, hc, hd⟩, _⟩ := st
    have e' : b = e ∨ b = it := by simpa using hb
    rcases e' with z | z
    · rw [z]; exact ⟨_, he, fun v q => nomatch q⟩
    · rw [z]; exact ⟨o, ho, fun v q => by rw [hd] at q; cases q⟩
  keep := fun i h h' st k => by
    obtain ⟨⟨old, he⟩, ⟨o, ho, r⟩, hne⟩ := st
    exact ⟨⟨old, k e (by simp) _ he⟩, ⟨o, k it (by simp) o ho, r⟩, hne⟩
  item := by
    intro X hP hw hK hc i pins s σ H E I hf st hg
    subst hP hw hK
    obtain ⟨⟨old, he⟩, hit, hne⟩ := st
    have hg' : i < l.length := hg
    have hel : e < s.heap.objs.size := Heap.lt_size he
    have hil : it < s.heap.objs.size := by obtain ⟨_, q, _⟩ := hit; exact Heap.lt_size q
    have D := Draws.text (prog := X.prog) (w := X.w) (A := X.A.in1) (I.ok.hd hc) it (S l) t
    refine wpAny_pyNext_enum_itemD D he hit (by rw [S_size]; exact hg') hne (by simpa using hne) fun u h' tk hP ho hit' hT hsz hk => ?_
    obtain ⟨c, tu, hcx, rfl⟩ := hP
    refine ⟨_, rfl, wpAny_letOwnedTupleGo_enum (s := { s with heap := h', toks := tk + 1 }) ho fun h'' he' sb => ?_⟩
    have hT2 : h''.get? s.heap.objs.size = some { cls := .type "tuple", data := .seq #[.int i tk, .str ⟨#[c]⟩ tu] } := (sb.2 _ (Nat.ne_of_gt hel)).trans hT
    have new : ObjOk X.prog X.w (upd H s.heap.objs.size (.tup [.int (i : Nat), .str (S [c])])) h'' s.heap.objs.size (.tup [.int (i : Nat), .str (S [c])]) :=
      ⟨by show 2 ≤ sizeLine; decide, [.int i tk, .str ⟨#[c]⟩ tu], .cons ⟨_, rfl⟩ (.cons ⟨_, rfl⟩ .nil), ⟨_, hT2, rfl, _, rfl⟩⟩
    have I1 : Inv X pins σ (upd H s.heap.objs.size (.tup [.int (i : Nat), .str (S [c])])) { s with heap := h'', toks := tk + 1 } :=
      I.turnedNew (ch := [e, it]) (fun b ob hb q => (sb.2 b (fun z => hb (by simp [z]))).trans (hk b ob (fun z => hb (by simp [z])) (fun z => hb (by simp [z])) q)) hf (Nat.le_refl _) new
    obtain ⟨oi, hoi, ri⟩ := hit'
    refine ⟨.ref s.heap.objs.size, _, I1, rfl, ⟨_, c, rfl, I.hok.fresh (Nat.le_refl _), S_get hcx, rfl⟩, ⟨⟨.str ⟨#[c]⟩ tu, ?_⟩, ⟨oi, (sb.2 it (Ne.symm hne)).trans hoi, ri⟩, hne⟩, fun b hb => ?_⟩
    · have e1 : ((i + 1 : Nat) : Int) = (i : Int) + 1 := by omega
      rw [e1]; exact he'
    · have hb' : b < s.heap.objs.size := by
        have e' : b = e ∨ b = it := by simpa using hb
        rcases e' with z | z
        · rw [z]; exact hel
        · rw [z]; exact hil
      rw [upd_ne (Nat.ne_of_lt hb')]
      exact (hf b hb).1
  done := by
    intro X hP hw hK hc i pins s σ H E I hf st hg
    subst hP hw hK
    obtain ⟨⟨old, he⟩, hit, hne⟩ := st
    have hg' : l.length ≤ i := hg
    obtain ⟨f0, f1, f2, f3, f4, f5⟩ := hf it (by simp)
    have D : Draws X.prog X.w X.A.in1 it [it] 0 (fun _ _ => True) (fun j h => h.IsStrIter it (strIterType (S l)) (S l) t i) := by
      have hx : (S l).cps[i]? = none := Array.getElem?_eq_none (by rw [S_size]; exact hg')
      refine ⟨fun _ _ q => let ⟨o, ho, _⟩ := q; ⟨o, ho⟩, fun _ _ _ q hk => let ⟨o, ho, r⟩ := q; ⟨o, hk it (by simp) o ho, r⟩, fun _ _ _ _ z => absurd z (Nat.not_lt_zero _), fun s Q E q hE => ?_⟩
      cases ha : (S l).cps.all (· < 128)
      · simp only [strIterType, ha, Bool.false_eq_true, if_false] at q
        exact wpAny_nextOf_wide_end (I.ok.hd hc) q hx hE
      · simp only [strIterType, ha, if_true] at q
        exact wpAny_nextOf_ascii_end (I.ok.hd hc) q hx hE
    exact wpAny_pyNext_enum_endD D he hit fun h' eb => ⟨rfl, I.turned (t' := s.toks) (fun b o hb q => eb b o hb q) f0 f1 f3 f4 f5⟩
  self := fun A i s Q E st h => let ⟨⟨_, he⟩, _⟩ := st; wpAny_pyIter_enum he h
def iEnS (ta : TA) : TI := fun σ H R => ta σ H fun vs H1 => ∃ l, vs = [.str (S l)] ∧ R (ItEs l) H1
theorem pi_enumS {X : Cx} {e : Expr} {ta : TA} {p pos tpos : Pos} {elts : List Expr} {kk : Nat} (hg : Gl X "enumerate") (hm : X.mg "enumerate" = none) (ha : PA X [e] ta) (hs : starEach [e] X.env = [(false, eval e X.env)] := by rfl) :
    PI X (.Tuple elts kk tpos) (.Call (.Name "enumerate" p) [e] [] pos) (iEnS ta) := by
  refine ⟨fun pins s σ H R I h => ?_⟩
  refine Call_ (ld_blt I hg hm boot_enumerate (PyProof.Rows.callWith_type1 (thn (ha.run pos pins s σ H _ I h) fun us s1 ⟨vs, H1, I1, r1, q1⟩ => ?_) hs rfl))
  obtain ⟨l, ex, q⟩ := q1
  subst ex
  cases r1 with
  | cons r rr =>
    cases rr
    obtain ⟨t, rfl⟩ := r
    refine call_enumerate_str fun h' he hit hsz hk => wpAny_pyIter_enum he ?_
    have I2 : Inv X pins σ H1 { s1 with heap := h' } := I1.kept (t' := s1.toks) hk
    refine ⟨s1.heap.objs.size + 1, [s1.heap.objs.size + 1, s1.heap.objs.size], _, _, H1, rfl, I2, turn_enS l t (s1.heap.objs.size + 1) s1.heap.objs.size, ⟨⟨.none, he⟩, hit, Nat.succ_ne_self _⟩, fun b hb => ?_, q⟩
    have e' : b = s1.heap.objs.size + 1 ∨ b = s1.heap.objs.size := by simpa using hb
    have hle : s1.heap.objs.size ≤ b := by
      rcases e' with z | z
      · rw [z]; exact Nat.le_add_right _ _
      · rw [z]; exact Nat.le_refl _
    exact I1.fpOk hle (I1.hok.fresh hle)
/-- a loop over the places and signs of a text -/
theorem for_enS {l : List Nat} {g : TG} {tb : TS} {D : Ends} {σ : L2.St} {H : Hp} (Pv : Nat → L2.St → Hp → Prop) (h0 : Pv 0 σ H)
    (hs : ∀ (i : Nat) (c : Nat) (T : Addr) (σ : L2.St) (H : Hp), l[i]? = some c → Pv i σ H → H T = none → g (.ref T) σ (upd H T (.tup [.int (i : Nat), .str (S [c])])) fun σ2 H2 => tb { D with nx := Pv (i + 1), ct := Pv (i + 1), bk := D.nx } σ2 H2)
    (hd : ∀ σ H, Pv l.length σ H → D.nx σ H) :
    ∃ W : Nat → Nat → L2.St → Hp → Prop, (∃ m, W 0 m σ H) ∧ ∀ i m σ H, W i m σ H →
      ((ItEs l).stop i H ∧ D.nx σ H) ∨ ((ItEs l).go i H ∧ ∃ N : L2.St → Hp → Prop, (∀ σ' H', N σ' H' → ∃ m', m' < m ∧ W (i + 1) m' σ' H') ∧ ∀ v H', (ItEs l).yld i H v H' → g v σ H' fun σ2 H2 => tb { D with nx := N, ct := N, bk := D.nx } σ2 H2) := by
  refine ⟨fun i m σ H => m = l.length - i ∧ i ≤ l.length ∧ Pv i σ H, ⟨l.length, rfl, Nat.zero_le _, h0⟩, ?_⟩
  rintro i m σ H ⟨rfl, hi, p⟩
  by_cases hlt : i < l.length
  · refine .inr ⟨hlt, Pv (i + 1), fun σ' H' p' => ⟨l.length - (i + 1), by omega, rfl, hlt, p'⟩, fun v H' y => ?_⟩
    obtain ⟨T, c, rfl, hT, hc, rfl⟩ := y
    exact hs i c T σ H hc p hT
  · have e : i = l.length := by omega
    subst e
    exact .inl ⟨Nat.le_refl _, hd σ H p⟩
end Mi
/-! Rules for constructs that the layer lacks: zip(text, list), zip(tuple, tuple, strict=True). -/
namespace Mi
open PySem PySem.Spec PyProof.Rows L2 SX

section
variable {prog : Program} {w : World} {A : Around} {E : Value → Shared → Prop} {s : Shared}
theorem nextOrEnd_item {it : Addr} {fp : List Addr} {n i : Nat} {P : Nat → Value → Prop} {St : Nat → Heap → Prop} {Q : Option Value → Shared → Prop} (D : Draws prog w A it fp n P St) (hlt : i < n) (st : St i s.heap)
    (hQ : ∀ x h' tk, P i x → St (i + 1) h' → Heap.SameBut it s.heap h' → Q (some x) { s with heap := h', toks := tk }) : wpAny (model prog w) A (Builtin.SmallTypes.nextOrEnd (.ref it)) Q E s := by
  unfold Builtin.SmallTypes.nextOrEnd
  exact wpAny_bind (wpAny_attempt (D.item i s _ _ hlt st fun x h' tk a b c => wpAny_pure (hQ x h' tk a b c)))
theorem nextOrEnd_end {it : Addr} {fp : List Addr} {n : Nat} {P : Nat → Value → Prop} {St : Nat → Heap → Prop} {Q : Option Value → Shared → Prop} (D : Draws prog w A it fp n P St) (st : St n s.heap)
    (hQ : ∀ h', Heap.ExtBut it s.heap h' → Q none { s with heap := h' }) : wpAny (model prog w) A (Builtin.SmallTypes.nextOrEnd (.ref it)) Q E s := by
  unfold Builtin.SmallTypes.nextOrEnd
  refine wpAny_bind (wpAny_attempt (D.done s _ _ st fun h' e hx he => ?_))
  obtain ⟨o, ho, hc⟩ := he
  refine wpAny_bind (wpAny_isInstance (T := "StopIteration") (b := true) ⟨o, ho, hc⟩ isSubtype_stop ?_)
  exact wpAny_pure (hQ h' hx)

abbrev IsZipX (h : Heap) (z TI TO : Addr) (f0 : Value) : Prop :=
  h.get? z = some { cls := .type "zip", dict := none, data := .fields #[f0, .bool false, .bool true, .ref TI, .ref TO], slots := #[] }
variable {z TI TO i1 i2 : Addr} {fp1 fp2 : List Addr} {n1 n2 i : Nat} {P1 P2 : Nat → Value → Prop} {St1 St2 : Nat → Heap → Prop} {a1 a2 : Value}
theorem zipX_next_item {Q : Value → Shared → Prop} (S : ZipSep2 z TI TO i1 i2 fp1 fp2) (D1 : Draws prog w A i1 fp1 n1 P1 St1) (D2 : Draws prog w A i2 fp2 n2 P2 St2)
    (hz : IsZipX s.heap z TI TO .none) (hTI : IsTupOf2 s.heap TI (.ref i1) (.ref i2)) (hTO : IsTupOf2 s.heap TO a1 a2) (st1 : St1 i s.heap) (st2 : St2 i s.heap) (hlt1 : i < n1) (hlt2 : i < n2)
    (hQ : ∀ x1 x2 h' tk, P1 i x1 → P2 i x2 → IsZipX h' z TI TO (rawInt s.heap.objs.size) → IsTupOf2 h' TO x1 x2 → St1 (i + 1) h' → St2 (i + 1) h' → IsTupOf2 h' s.heap.objs.size x1 x2 → h'.objs.size = s.heap.objs.size + 1 →
      (∀ c o, c ≠ z → c ≠ TO → c ≠ i1 → c ≠ i2 → s.heap.get? c = some o → h'.get? c = some o) → Q (.ref s.heap.objs.size) { s with heap := h', toks := tk }) :
    wpAny (model prog w) A (Builtin.«zip.__next__» ⟨[.ref z], []⟩) (fun fin s' => ∃ v, fin = .done (.ret v) ∧ Q v s') E s := by
  obtain ⟨hp, g, d, tk0, os⟩ := s
  show wpAny _ _ (field (.ref z) 2 >>= _) _ _ _
  refine wpAny_bind (wpAny_field hz rfl (x := .bool true) rfl ?_)
  show wpAny _ _ (field (.ref z) 3 >>= _) _ _ _
  refine wpAny_bind (wpAny_field hz rfl (x := .ref TI) rfl ?_)
  refine wpAny_bind (wpAny_seqItems hTI rfl ?_)
  show wpAny _ _ (Builtin.SmallTypes.ownedTupleIsFree (.ref z) >>= _) _ _ _
  refine wpAny_bind ?_
  unfold Builtin.SmallTypes.ownedTupleIsFree
  refine wpAny_bind (wpAny_field hz rfl (x := .none) rfl (wpAny_pure ?_))
  simp only [if_true]
  refine wpAny_bind (wpAny_rule ?_)
  refine wpAny_bind (wpAny_field hz rfl (x := .ref TO) rfl ?_)
  refine wpAny_bind (wpAny_setField_rec hz (by simp) fun g0 hz0 hs0 => ?_)
  replace hz0 : IsZipX g0 z TI TO .ellipsis := hz0
  replace hs0 : Heap.SameBut z hp g0 := hs0
  refine wpAny_bind ?_
  simp only [List.zipIdx_cons, List.zipIdx_nil, List.forIn_cons, List.forIn_nil]
  refine wpAny_bind (wpAny_bind (wpAny_onRaise ?_))
  show wpAny _ _ (Builtin.SmallTypes.nextOrEnd (.ref i1)) _ _ ⟨g0, g, d, tk0, os⟩
  refine nextOrEnd_item D1 hlt1 (D1.over st1 hs0 S.zf1) fun x1 p1 tk1 hx1 sn1 hp1 => ?_
  replace hp1 : Heap.SameBut i1 g0 p1 := hp1
  have hU1 : IsTupOf2 p1 TO a1 a2 := hp1.extBut _ _ S.Ti1 (hs0.extBut _ _ S.TOz hTO)
  refine wpAny_bind (wpAny_seqItems (s := ⟨p1, g, d, tk1, os⟩) hU1 rfl ?_)
  refine wpAny_bind (updateSeq_IsTupOf2 (s := ⟨p1, g, d, tk1, os⟩) hU1 fun g1 hT1 hs1 => ?_)
  replace hT1 : IsTupOf2 g1 TO x1 a2 := hT1
  replace hs1 : Heap.SameBut TO p1 g1 := hs1
  refine wpAny_bind (wpAny_letGo (wpAny_pure ?_))
  refine wpAny_bind (wpAny_bind (wpAny_onRaise ?_))
  show wpAny _ _ (Builtin.SmallTypes.nextOrEnd (.ref i2)) _ _ ⟨g1, g, d, tk1, os⟩
  refine nextOrEnd_item D2 hlt2 (D2.over (D2.over (D2.over st2 hs0 S.zf2) hp1 S.sep1_2) hs1 S.Tf2) fun x2 p2 tk2 hx2 sn2 hp2 => ?_
  replace hp2 : Heap.SameBut i2 g1 p2 := hp2
  have hU2 : IsTupOf2 p2 TO x1 a2 := hp2.extBut _ _ S.Ti2 hT1
  refine wpAny_bind (wpAny_seqItems (s := ⟨p2, g, d, tk2, os⟩) hU2 rfl ?_)
  refine wpAny_bind (updateSeq_IsTupOf2 (s := ⟨p2, g, d, tk2, os⟩) hU2 fun g2 hT2 hs2 => ?_)
  replace hT2 : IsTupOf2 g2 TO x1 x2 := hT2
  replace hs2 : Heap.SameBut TO p2 g2 := hs2
  refine wpAny_bind (wpAny_letGo (wpAny_pure (wpAny_pure ?_)))
  refine wpAny_bind (wpAny_seqItems (s := ⟨g2, g, d, tk2, os⟩) hT2 rfl ?_)
  refine wpAny_bind (wpAny_newTuple ?_)
  have hsz : g2.objs.size = hp.objs.size := by rw [hs2.1, hp2.1, hs1.1, hp1.1, hs0.1]
  have hzz : IsZipX g2 z TI TO .ellipsis := (hs2.extBut _ _ S.TOz.symm (hp2.extBut _ _ S.zi2 (hs1.extBut _ _ S.TOz.symm (hp1.extBut _ _ S.zi1 hz0))))
  have hkk : ∀ c o, c ≠ z → c ≠ TO → c ≠ i1 → c ≠ i2 → hp.get? c = some o → g2.get? c = some o := fun c o cz cT c1 c2 e =>
    (hs2.extBut _ _ cT (hp2.extBut _ _ c2 (hs1.extBut _ _ cT (hp1.extBut _ _ c1 (hs0.extBut _ _ cz e)))))
  have hj1 : St1 (i + 1) g2 := (D1.over (D1.over (D1.over sn1 hs1 S.Tf1) hp2 S.sep2_1) hs2 S.Tf1)
  have hj2 : St2 (i + 1) g2 := (D2.over sn2 hs2 S.Tf2)
  have hzlt : z < g2.objs.size := Heap.lt_size hzz
  show wpAny _ _ (Builtin.SmallTypes.ownedTupleHandOut (.ref z) (.ref g2.objs.size) >>= _) _ _ ⟨g2.push { cls := .type "tuple", data := .seq #[x1, x2] }, g, d, tk2, os⟩
  refine wpAny_bind ?_
  unfold Builtin.SmallTypes.ownedTupleHandOut
  have hz6 : IsZipX (g2.push { cls := .type "tuple", data := .seq #[x1, x2] }) z TI TO .ellipsis := Heap.get?_push_of_some _ hzz
  refine wpAny_bind (wpAny_setField_rec hz6 (by simp) fun h7 hz7 hs7 => ?_)
  replace hz7 : IsZipX h7 z TI TO (rawInt g2.objs.size) := hz7
  refine wpAny_setField_rec hz7 (by simp) fun h8 hz8 hs8 => ?_
  replace hz8 : IsZipX h8 z TI TO (rawInt g2.objs.size) := hz8
  replace hs7 : Heap.SameBut z (g2.push { cls := .type "tuple", data := .seq #[x1, x2] }) h7 := hs7
  replace hs8 : Heap.SameBut z h7 h8 := hs8
  have up : ∀ c o, c ≠ z → g2.get? c = some o → h8.get? c = some o := fun c o c1 e => hs8.extBut _ _ c1 (hs7.extBut _ _ c1 (Heap.get?_push_of_some _ e))
  have hT8 : IsTupOf2 h8 g2.objs.size x1 x2 := hs8.extBut _ _ (Nat.ne_of_gt hzlt) (hs7.extBut _ _ (Nat.ne_of_gt hzlt) (Heap.get?_push_size _ rfl))
  have hz9 : h8.objs.size = g2.objs.size + 1 := by rw [hs8.1, hs7.1, Heap.size_push]
  rw [hsz] at hz8 hT8 hz9
  refine wpAny_pure ⟨_, rfl, ?_⟩
  show Q (.ref g2.objs.size) ⟨h8, g, d, tk2, os⟩
  rw [hsz]
  exact hQ x1 x2 h8 tk2 hx1 hx2 hz8 (up _ _ S.TOz hT2) (D1.frame _ _ _ hj1 fun b hb o e => up b o (fun q => S.zf1 (q ▸ hb)) e) (D2.frame _ _ _ hj2 fun b hb o e => up b o (fun q => S.zf2 (q ▸ hb)) e) hT8 hz9 fun c o cz cT c1 c2 e => up c o cz (hkk c o cz cT c1 c2 e)

theorem zipX_next_end {Q : Fin → Shared → Prop} (hh : A.handled = none) (S : ZipSep2 z TI TO i1 i2 fp1 fp2) (D1 : Draws prog w A i1 fp1 n1 P1 St1) (D2 : Draws prog w A i2 fp2 n2 P2 St2)
    (hz : IsZipX s.heap z TI TO .none) (hTI : IsTupOf2 s.heap TI (.ref i1) (.ref i2)) (hTO : IsTupOf2 s.heap TO a1 a2) (st1 : St1 n1 s.heap) (st2 : St2 n2 s.heap)
    (hE : ∀ h' tk e, (∀ c o, c ≠ z → c ≠ TO → c ≠ i1 → c ≠ i2 → s.heap.get? c = some o → h'.get? c = some o) → (∃ o, h'.get? e = some o ∧ o.cls = .type "StopIteration") → E (.ref e) { s with heap := h', toks := tk }) :
    wpAny (model prog w) A (Builtin.«zip.__next__» ⟨[.ref z], []⟩) Q E s := by
  obtain ⟨hp, g, d, tk0, os⟩ := s
  show wpAny _ _ (field (.ref z) 2 >>= _) _ _ _
  refine wpAny_bind (wpAny_field hz rfl (x := .bool true) rfl ?_)
  show wpAny _ _ (field (.ref z) 3 >>= _) _ _ _
  refine wpAny_bind (wpAny_field hz rfl (x := .ref TI) rfl ?_)
  refine wpAny_bind (wpAny_seqItems hTI rfl ?_)
  show wpAny _ _ (Builtin.SmallTypes.ownedTupleIsFree (.ref z) >>= _) _ _ _
  refine wpAny_bind ?_
  unfold Builtin.SmallTypes.ownedTupleIsFree
  refine wpAny_bind (wpAny_field hz rfl (x := .none) rfl (wpAny_pure ?_))
  simp only [if_true]
  refine wpAny_bind (wpAny_rule ?_)
  refine wpAny_bind (wpAny_field hz rfl (x := .ref TO) rfl ?_)
  refine wpAny_bind (wpAny_setField_rec hz (by simp) fun g0 hz0 hs0 => ?_)
  replace hz0 : IsZipX g0 z TI TO .ellipsis := hz0
  replace hs0 : Heap.SameBut z hp g0 := hs0
  refine wpAny_bind ?_
  simp only [List.zipIdx_cons, List.zipIdx_nil, List.forIn_cons, List.forIn_nil]
  refine wpAny_bind (wpAny_bind (wpAny_onRaise ?_))
  show wpAny _ _ (Builtin.SmallTypes.nextOrEnd (.ref i1)) _ _ ⟨g0, g, d, tk0, os⟩
  refine nextOrEnd_end D1 (D1.over st1 hs0 S.zf1) fun p1 hp1 => ?_
  replace hp1 : Heap.ExtBut i1 g0 p1 := hp1
  have hz1 : IsZipX p1 z TI TO .ellipsis := hp1 _ _ S.zi1 hz0
  refine wpAny_bind (wpAny_setField_rec (s := ⟨p1, g, d, tk0, os⟩) hz1 (by simp) fun g1 hz2 hs1 => ?_)
  replace hs1 : Heap.SameBut z p1 g1 := hs1
  refine wpAny_bind ?_
  wp_delta
  rw [if_neg (by decide)]
  simp only [List.drop_succ_cons, List.drop_zero, List.zipIdx_cons, List.zipIdx_nil, List.forIn_cons, List.forIn_nil]
  have k1 : ∀ b ∈ fp2, ∀ o, hp.get? b = some o → g1.get? b = some o := fun b hb o e =>
    hs1.extBut _ _ (fun q => S.zf2 (q ▸ hb)) (hp1 _ _ (fun q => S.sep1_2 (q ▸ hb)) (hs0.extBut _ _ (fun q => S.zf2 (q ▸ hb)) e))
  have st3 : St2 n2 g1 := D2.frame _ _ _ st2 k1
  refine wpAny_bind (wpAny_bind ?_)
  refine wpAny_bind (nextOrEnd_end (s := ⟨g1, g, d, tk0, os⟩) D2 st3 fun p2 hp2 => ?_)
  replace hp2 : Heap.ExtBut i2 g1 p2 := hp2
  rw [if_neg (by decide)]
  refine wpAny_pure (wpAny_pure (wpAny_bind (wpAny_rule ?_)))
  unfold Builtin.SmallTypes.stopIteration
  refine wpAny_bind ?_
  simp only [newExc, newTuple]
  refine wpAny_bind (wpAny_newObj_type ?_ (by size_fits))
  refine wpAny_bind (m := firstArgMember _ _) (wpAny_of_eq (a := Value.none) (by first | rfl | (simp only [firstArgMember]; rfl)) ?_)
  refine wpAny_newObj_type ?_ (by size_fits)
  simp only [raiseNew]
  refine wpAny_bind (wpAny_handled ?_)
  first | rw [show A.in1.handled = none from hh] | rw [hh]
  refine wpAny_bind (wpAny_pure (wpAny_throw ?_))
  refine hE _ tk0 _ (fun c o cz cT c1 c2 x => Heap.get?_push_of_some _ (Heap.get?_push_of_some _ (hp2 _ _ c2 (hs1.extBut _ _ cz (hp1 _ _ c1 (hs0.extBut _ _ cz x)))))) ⟨_, Heap.get?_push_size _ rfl, rfl⟩
theorem pyNext_zipX_item {Q : Option Value → Shared → Prop} (S : ZipSep2 z TI TO i1 i2 fp1 fp2) (D1 : Draws prog w A.in1 i1 fp1 n1 P1 St1) (D2 : Draws prog w A.in1 i2 fp2 n2 P2 St2)
    (hz : IsZipX s.heap z TI TO .none) (hTI : IsTupOf2 s.heap TI (.ref i1) (.ref i2)) (hTO : IsTupOf2 s.heap TO a1 a2) (st1 : St1 i s.heap) (st2 : St2 i s.heap) (hlt1 : i < n1) (hlt2 : i < n2)
    (hQ : ∀ x1 x2 h' tk, P1 i x1 → P2 i x2 → IsZipX h' z TI TO (rawInt s.heap.objs.size) → IsTupOf2 h' TO x1 x2 → St1 (i + 1) h' → St2 (i + 1) h' → IsTupOf2 h' s.heap.objs.size x1 x2 → h'.objs.size = s.heap.objs.size + 1 →
      (∀ c o, c ≠ z → c ≠ TO → c ≠ i1 → c ≠ i2 → s.heap.get? c = some o → h'.get? c = some o) → Q (some (.ref s.heap.objs.size)) { s with heap := h', toks := tk }) :
    wpAny (model prog w) A (pyNext (.ref z)) Q E s := by
  have hT : s.TypeIs (.ref z) "zip" := ⟨_, hz, rfl⟩
  unfold pyNext
  exact wpAny_bind (wpAny_attempt (wpAny_callSpecial?_slot (name := Str.ofString "__next__") hT F.slot_zip_next
    (wpAny_call_entry F.slot_zip_next hT F.entry_zip_next
      (zipX_next_item S D1 D2 hz hTI hTO st1 st2 hlt1 hlt2 fun x1 x2 h' tk y1 y2 b1 b2 d1 d2 b5 b6 b7 => wpAny_pure (hQ x1 x2 h' tk y1 y2 b1 b2 d1 d2 b5 b6 b7)) (F.args_zip_next_1 _))))
theorem pyNext_zipX_end {Q : Option Value → Shared → Prop} (hh : A.handled = none) (S : ZipSep2 z TI TO i1 i2 fp1 fp2) (D1 : Draws prog w A.in1 i1 fp1 n1 P1 St1) (D2 : Draws prog w A.in1 i2 fp2 n2 P2 St2)
    (hz : IsZipX s.heap z TI TO .none) (hTI : IsTupOf2 s.heap TI (.ref i1) (.ref i2)) (hTO : IsTupOf2 s.heap TO a1 a2) (st1 : St1 n1 s.heap) (st2 : St2 n2 s.heap)
    (hQ : ∀ h' tk, (∀ c o, c ≠ z → c ≠ TO → c ≠ i1 → c ≠ i2 → s.heap.get? c = some o → h'.get? c = some o) → Q none { s with heap := h', toks := tk }) : wpAny (model prog w) A (pyNext (.ref z)) Q E s := by
  have hT : s.TypeIs (.ref z) "zip" := ⟨_, hz, rfl⟩
  unfold pyNext
  refine wpAny_bind (wpAny_attempt (wpAny_callSpecial?_slot (name := Str.ofString "__next__") hT F.slot_zip_next
    (wpAny_call_entry F.slot_zip_next hT F.entry_zip_next (zipX_next_end hh S D1 D2 hz hTI hTO st1 st2 fun h' tk e hk he => ?_) (F.args_zip_next_1 _))))
  obtain ⟨o, ho, hc⟩ := he
  refine wpAny_bind (wpAny_isInstance (T := "StopIteration") (b := true) ⟨o, ho, hc⟩ isSubtype_stop ?_)
  exact wpAny_pure (hQ _ _ hk)
theorem letGo_zipX {elts : List PySem.Expr} {x1} {pos : Pos} {T : Addr} {Q : Unit → Shared → Prop} (hz : IsZipX s.heap z TI TO (rawInt T))
    (hQ : ∀ h', IsZipX h' z TI TO .none → Heap.SameBut z s.heap h' → Q () { s with heap := h' }) :
    wpAny (model prog w) A (letOwnedTupleGo (.Tuple elts x1 pos) (.ref z) (.ref T)) Q E s := by
  unfold letOwnedTupleGo
  refine wpAny_bind (wpAny_load hz ?_)
  show wpAny _ _ (if (["enumerate", "zip", "dict_itemiterator", "dict_reverseitemiterator", "odict_iterator", "itertools.zip_longest", "itertools.pairwise"].contains "zip" &&
      (#[rawInt T, .bool false, .bool true, .ref TI, .ref TO] : Array Value)[0]? == some (rawInt T)) = true then _ else _) Q E s
  rw [if_pos (by simp)]
  refine wpAny_bind (wpAny_rule ?_)
  show wpAny _ _ (setField (.ref z) 0 .none) Q E s
  exact wpAny_setField_rec hz (by simp) fun h' hz' hs' => hQ h' hz' hs'
theorem iter_zipX {f0 : Value} {Q : Value → Shared → Prop} (hz : IsZipX s.heap z TI TO f0) (h : Q (.ref z) s) : wpAny (model prog w) A (pyIter (.ref z)) Q E s := by
  have hT : s.TypeIs (.ref z) "zip" := ⟨_, hz, rfl⟩
  refine wpAny_pyIter_slot hT F.slot_zip_iter (wpAny_call_entry F.slot_zip_iter hT F.entry_zip_iter ?_ (F.args_zip_iter_1 _))
  show wpAny _ _ (ret (.ref z)) _ _ s
  exact wpAny_pure ⟨_, rfl, "zip", _, hT, F.slot_zip_next.lookup, h⟩
end

/-! the making of zip(a, b, strict=True) -/
theorem typeCall_zipX (a b c : Value) : checkTypeCall "zip" ⟨[a, b], [(Str.ofString "strict", c)]⟩ = pure () := by kernel_rfl
theorem newCall_zipX (a b c : Value) : checkBuiltinCall "zip.__new__" ⟨[.type "zip", a, b], [(Str.ofString "strict", c)]⟩ = pure () := by kernel_rfl
theorem args_initX (o a b c : Value) : argsOk "object.__init__" ⟨[o, a, b], [(Str.ofString "strict", c)]⟩ := by unfold argsOk; kernel_rfl
abbrev gzX (h : Heap) (o1 o2 : Obj) : Heap := (gzO2 h o1 o2).push { cls := .type "zip", data := .fields #[.none, .bool false, .bool true, .ref ((h.push o1).push o2).objs.size, .ref (gzT2 h o1 o2).objs.size] }
theorem meets_zipX {v1 v2 : Value} {o1 o2 : Obj} {H1 H2 : Heap → Prop} (B1 : Begins v1 o1 H1) (B2 : Begins v2 o2 H2) :
    Meets (Builtin.«zip.__new__» ⟨[.type "zip", v1, v2], [(Str.ofString "strict", .bool true)]⟩) (fun _ R s => (H1 s.heap ∧ H2 s.heap) ∧
      R (.ok (.ret (.ref (gzO2 s.heap o1 o2).objs.size))) { s with heap := gzX s.heap o1 o2 }) :=
  .of_wp fun prog w A R s h => by
    obtain ⟨hp, g, d, tk, os⟩ := s; obtain ⟨⟨h1, h2⟩, h⟩ := h
    have hsub := sub_zip
    have e2 : (Str.ofString "strict" != ("strict" : Str)) = false := by decide +kernel
    have q1 : ∀ {A' : Around} {E : Value → Shared → Prop} {Q : Value → Shared → Prop}, Q (.ref hp.objs.size) ⟨(hp.push o1), g, d, tk, os⟩ → wpAny (model prog w) A' (pyIter v1) Q E ⟨hp, g, d, tk, os⟩ :=
      fun q => B1.iter prog w _ _ ⟨hp, g, d, tk, os⟩ _ (B1.keeps _ _ h1 fun b o' e => e) q
    have q2 : ∀ {A' : Around} {E : Value → Shared → Prop} {Q : Value → Shared → Prop}, Q (.ref (hp.push o1).objs.size) ⟨((hp.push o1).push o2), g, d, tk, os⟩ → wpAny (model prog w) A' (pyIter v2) Q E ⟨(hp.push o1), g, d, tk, os⟩ :=
      fun q => B2.iter prog w _ _ ⟨(hp.push o1), g, d, tk, os⟩ _ (B2.keeps _ _ h2 fun b o' e => (Heap.get?_push_of_some _ e)) q
    wp_walk using q1, q2, wpAny_truthy_bool
    exact ⟨_, rfl, h⟩
section
variable {prog : Program} {w : World} {A : Around} {E : Value → Shared → Prop} {s : Shared}
theorem call_zipX {v1 v2 : Value} {o1 o2 : Obj} {H1 H2 : Heap → Prop} {Q : Value → Shared → Prop} (B1 : Begins v1 o1 H1) (B2 : Begins v2 o2 H2) (h1 : H1 s.heap) (h2 : H2 s.heap)
    (h : ∀ h', IsZipX h' (s.heap.objs.size + 4) (s.heap.objs.size + 2) (s.heap.objs.size + 3) .none → IsTupOf2 h' (s.heap.objs.size + 2) (.ref s.heap.objs.size) (.ref (s.heap.objs.size + 1)) →
      IsTupOf2 h' (s.heap.objs.size + 3) .none .none → h'.get? s.heap.objs.size = some o1 → h'.get? (s.heap.objs.size + 1) = some o2 → h'.objs.size = s.heap.objs.size + 5 →
      (∀ c o, s.heap.get? c = some o → h'.get? c = some o) → Q (.ref (s.heap.objs.size + 4)) { s with heap := h' }) :
    wpAny (model prog w) A (call (.type "zip") [v1, v2] [(Str.ofString "strict", .bool true)]) Q E s := by
  refine callType_newKw F.called_zip (by decide) (typeCall_zipX _ _ _) (newCall_zipX _ _ _) (fun obj => args_initX obj _ _ _) F.entry_zip_new
    (meets_zipX B1 B2) ⟨⟨h1, h2⟩, ?_⟩
  have z1 : (s.heap.push o1).objs.size = s.heap.objs.size + 1 := by rw [Heap.size_push]
  have z2 : ((s.heap.push o1).push o2).objs.size = s.heap.objs.size + 2 := by rw [Heap.size_push, z1]
  have zT : (gzT2 s.heap o1 o2).objs.size = s.heap.objs.size + 3 := by rw [Heap.size_push, z2]
  have zO : (gzO2 s.heap o1 o2).objs.size = s.heap.objs.size + 4 := by rw [Heap.size_push, zT]
  have zZ : (gzX s.heap o1 o2).objs.size = s.heap.objs.size + 5 := by rw [Heap.size_push, zO]
  have gZ : (gzX s.heap o1 o2).get? (gzO2 s.heap o1 o2).objs.size = some { cls := .type "zip", data := .fields #[.none, .bool false, .bool true, .ref ((s.heap.push o1).push o2).objs.size, .ref (gzT2 s.heap o1 o2).objs.size] } := Heap.get?_push_size _ rfl
  have gO : (gzX s.heap o1 o2).get? (gzT2 s.heap o1 o2).objs.size = some { cls := .type "tuple", data := .seq #[.none, .none] } := Heap.get?_push_of_some _ (Heap.get?_push_size _ rfl)
  have gT : (gzX s.heap o1 o2).get? ((s.heap.push o1).push o2).objs.size = some { cls := .type "tuple", data := .seq #[.ref s.heap.objs.size, .ref (s.heap.push o1).objs.size] } := Heap.get?_push_of_some _ (Heap.get?_push_of_some _ (Heap.get?_push_size _ rfl))
  have g1 : (gzX s.heap o1 o2).get? s.heap.objs.size = some o1 := Heap.get?_push_of_some _ (Heap.get?_push_of_some _ (Heap.get?_push_of_some _ (Heap.get?_push_of_some _ (Heap.get?_push_size _ B1.free))))
  have g2 : (gzX s.heap o1 o2).get? (s.heap.push o1).objs.size = some o2 := Heap.get?_push_of_some _ (Heap.get?_push_of_some _ (Heap.get?_push_of_some _ (Heap.get?_push_size _ B2.free)))
  rw [zO, zT, z2] at gZ
  rw [zT] at gO
  rw [z2, z1] at gT
  rw [z1] at g2
  show _ ∧ _
  rw [zO]
  exact ⟨⟨_, gZ, rfl⟩, h _ gZ gT gO g1 g2 zZ fun c o e => Heap.get?_push_of_some _ (Heap.get?_push_of_some _ (Heap.get?_push_of_some _ (Heap.get?_push_of_some _ (Heap.get?_push_of_some _ e))))⟩
end

/-- the tuples at a and b, of n items each, the items in new pairs -/
def ItzX (K : PySem.W.Frag) (a b : Addr) : It :=
  ⟨fun i H => ∃ (xs ys : List V), SqT K H a xs ∧ SqT K H b ys ∧ i < xs.length ∧ i < ys.length,
    fun i H v H' => ∃ T x y, v = .ref T ∧ H T = none ∧ H' = upd H T (.tup [x, y]) ∧ (∀ xs, SqT K H a xs → xs[i]? = some x) ∧ ∀ ys, SqT K H b ys → ys[i]? = some y,
    fun i H => ∃ xs ys : List V, SqT K H a xs ∧ SqT K H b ys ∧ xs.length = i ∧ ys.length = i⟩
theorem turn_zipX {P : Program} {w : World} {K : PySem.W.Frag} {elts : List Expr} {kk : Nat} {tpos : Pos} {a b z TI TO i1 i2 : Addr} (D : ZipSep2 z TI TO i1 i2 [i1, a] [i2, b]) :
    Turn P w K (.Tuple elts kk tpos) (ItzX K a b) [z, TI, TO, i1, i2] z (fun i h => IsZipX h z TI TO .none ∧ IsTupOf2 h TI (.ref i1) (.ref i2) ∧ (∃ x y, IsTupOf2 h TO x y) ∧ h.IsTupleIter i1 a i ∧ h.IsTupleIter i2 b i) where
  mem := by simp
  obj := fun i h st c hc => by
    obtain ⟨hz, hTI, ⟨x, y, hTO⟩, ⟨o1, e1, _, d1⟩, ⟨o2, e2, _, d2⟩⟩ := st
    have e' : c = z ∨ c = TI ∨ c = TO ∨ c = i1 ∨ c = i2 := by simpa using hc
    rcases e' with q | q | q | q | q
    · rw [q]; exact ⟨_, hz, fun v q => nomatch q⟩
    · rw [q]; exact ⟨_, hTI, fun v q => nomatch q⟩
    · rw [q]; exact ⟨_, hTO, fun v q => nomatch q⟩
    · rw [q]; exact ⟨o1, e1, fun v q => by rw [d1] at q; cases q⟩
    · rw [q]; exact ⟨o2, e2, fun v q => by rw [d2] at q; cases q⟩
  keep := fun i h h' st k => by
    obtain ⟨hz, hTI, ⟨x, y, hTO⟩, h1, h2⟩ := st
    exact ⟨k z (by simp) _ hz, k TI (by simp) _ hTI, ⟨x, y, k TO (by simp) _ hTO⟩, h1.at fun o q => k i1 (by simp) o q, h2.at fun o q => k i2 (by simp) o q⟩
  item := by
    intro X hP hw hK hc i pins s σ H E I hf st hg
    subst hP hw hK
    obtain ⟨hz, hTI, ⟨x0, y0, hTO⟩, h1, h2⟩ := st
    obtain ⟨xs, ys, hqx, hqy, hx, hy⟩ := hg
    obtain ⟨its, rv, p, _⟩ := I.tuple hqx
    obtain ⟨its2, rv2, p2, _⟩ := I.tuple hqy
    have l1 := rv.length
    have l2 := rv2.length
    have na : a ≠ i1 := fun e => by
      subst e
      obtain ⟨o, ho, hcl, _⟩ := id p
      obtain ⟨o', ho', hcl', _⟩ := id h1
      rw [ho] at ho'; cases ho'; rw [hcl] at hcl'; injection hcl' with q; exact absurd q (by decide)
    have nb : b ≠ i2 := fun e => by
      subst e
      obtain ⟨o, ho, hcl, _⟩ := id p2
      obtain ⟨o', ho', hcl', _⟩ := id h2
      rw [ho] at ho'; cases ho'; rw [hcl] at hcl'; injection hcl' with q; exact absurd q (by decide)
    have D1 := Draws.tuple (prog := X.prog) (w := X.w) (A := X.A.in1) (I.ok.hd hc) i1 a na its.toArray
    have D2 := Draws.tuple (prog := X.prog) (w := X.w) (A := X.A.in1) (I.ok.hd hc) i2 b nb its2.toArray
    have hzl : z < s.heap.objs.size := Heap.lt_size hz
    refine pyNext_zipX_item D D1 D2 hz hTI hTO ⟨h1, p⟩ ⟨h2, p2⟩ (by rw [List.size_toArray]; omega) (by rw [List.size_toArray]; omega) fun u u2 h' tk hu hu2 z' TO' st1' st2' hT hsz hk => ?_
    obtain ⟨x, hx1⟩ : ∃ x, xs[i]? = some x := ⟨_, List.getElem?_eq_getElem hx⟩
    obtain ⟨y, hy1⟩ : ∃ y, ys[i]? = some y := ⟨_, List.getElem?_eq_getElem hy⟩
    obtain ⟨u', hu', ru⟩ := rv.get hx1
    obtain ⟨u2', hu2', ru2⟩ := rv2.get hy1
    have eu : u = u' := by
      have : its[i]? = some u := by simpa using hu
      rw [this] at hu'; exact Option.some.inj hu'
    have eu2 : u2 = u2' := by
      have : its2[i]? = some u2 := by simpa using hu2
      rw [this] at hu2'; exact Option.some.inj hu2'
    subst eu eu2
    refine ⟨_, rfl, letGo_zipX (s := { s with heap := h', toks := tk }) z' fun h'' z'' sb => ?_⟩
    have hT2 : h''.get? s.heap.objs.size = some { cls := .type "tuple", data := .seq #[u, u2] } := (sb.2 _ (Nat.ne_of_gt hzl)).trans hT
    have new : ObjOk X.prog X.w (upd H s.heap.objs.size (.tup [x, y])) h'' s.heap.objs.size (.tup [x, y]) :=
      ⟨by show 2 ≤ sizeLine; decide, [u, u2], .cons ru (.cons ru2 .nil), ⟨_, hT2, rfl, _, rfl⟩⟩
    have I1 : Inv X pins σ (upd H s.heap.objs.size (.tup [x, y])) { s with heap := h'', toks := tk } :=
      I.turnedNew (t' := tk) (ch := [z, TI, TO, i1, i2]) (fun c o hb q => (sb.2 c (fun q' => hb (by simp [q']))).trans (hk c o (fun q' => hb (by simp [q'])) (fun q' => hb (by simp [q'])) (fun q' => hb (by simp [q'])) (fun q' => hb (by simp [q'])) q)) hf (Nat.le_refl _) new
    refine ⟨.ref s.heap.objs.size, _, I1, rfl, ⟨_, x, y, rfl, I.hok.fresh (Nat.le_refl _), rfl, fun l hl => by rw [I.tuple_inj hl hqx]; exact hx1, fun l hl => by rw [I.tuple_inj hl hqy]; exact hy1⟩, ⟨z'', ?_, ⟨u, u2, ?_⟩, ?_, ?_⟩, fun c hcm => ?_⟩
    · exact (sb.2 _ D.TIz).trans (hk _ _ D.TIz D.TITO D.TIi1 D.TIi2 hTI)
    · exact (sb.2 _ D.TOz).trans TO'
    · exact st1'.1.at fun o q => (sb.2 _ D.zi1.symm).trans q
    · exact st2'.1.at fun o q => (sb.2 _ D.zi2.symm).trans q
    · have hlt : c < s.heap.objs.size := by
        have e' : c = z ∨ c = TI ∨ c = TO ∨ c = i1 ∨ c = i2 := by simpa using hcm
        rcases e' with q | q | q | q | q
        · rw [q]; exact hzl
        · rw [q]; exact Heap.lt_size hTI
        · rw [q]; exact Heap.lt_size hTO
        · rw [q]; obtain ⟨_, e1, _⟩ := h1; exact Heap.lt_size e1
        · rw [q]; obtain ⟨_, e2, _⟩ := h2; exact Heap.lt_size e2
      rw [upd_ne (Nat.ne_of_lt hlt)]
      exact (hf c hcm).1
  done := by
    intro X hP hw hK hc i pins s σ H E I hf st hg
    subst hP hw hK
    obtain ⟨hz, hTI, ⟨x0, y0, hTO⟩, h1, h2⟩ := st
    obtain ⟨xs, ys, hqx, hqy, e1, e2⟩ := hg
    obtain ⟨its, rv, p, _⟩ := I.tuple hqx
    obtain ⟨its2, rv2, p2, _⟩ := I.tuple hqy
    have l1 := rv.length
    have l2 := rv2.length
    have na : a ≠ i1 := fun e => by
      subst e
      obtain ⟨o, ho, hcl, _⟩ := id p
      obtain ⟨o', ho', hcl', _⟩ := id h1
      rw [ho] at ho'; cases ho'; rw [hcl] at hcl'; injection hcl' with q; exact absurd q (by decide)
    have nb : b ≠ i2 := fun e => by
      subst e
      obtain ⟨o, ho, hcl, _⟩ := id p2
      obtain ⟨o', ho', hcl', _⟩ := id h2
      rw [ho] at ho'; cases ho'; rw [hcl] at hcl'; injection hcl' with q; exact absurd q (by decide)
    have D1 := Draws.tuple (prog := X.prog) (w := X.w) (A := X.A.in1) (I.ok.hd hc) i1 a na its.toArray
    have D2 := Draws.tuple (prog := X.prog) (w := X.w) (A := X.A.in1) (I.ok.hd hc) i2 b nb its2.toArray
    have k1 : its.toArray.size = i := by rw [List.size_toArray]; omega
    have k2 : its2.toArray.size = i := by rw [List.size_toArray]; omega
    exact pyNext_zipX_end (I.ok.hd hc) D D1 D2 hz hTI hTO ⟨by rw [k1]; exact h1, p⟩ ⟨by rw [k2]; exact h2, p2⟩ fun h' tk hk => ⟨rfl, I.turnedL (t' := tk) (ch := [z, TI, TO, i1, i2]) (fun c o hb q =>
      hk c o (fun q' => hb (by simp [q'])) (fun q' => hb (by simp [q'])) (fun q' => hb (by simp [q'])) (fun q' => hb (by simp [q'])) q) hf⟩
  self := fun A i s Q E st h => iter_zipX st.1 h

theorem callWith_typeKw {M : Model} {A : Around} {E : Value → Shared → Prop} {s : Shared} {pos : Pos} {T : String} {first : List Value} {args : List (Bool × Sem Value)} {keywords : List (Option Str × Sem Value)} {Q : Value → Shared → Prop}
    (hplain : args.any (·.1) = false) (hkw : keywords.any (·.1.isNone) = false)
    (h : wpAny M A (evalArgs (.type T) true args keywords) (fun a s1 => wpAny M A (call (.type T) (first ++ a.pos) a.kw) Q E s1) E s) :
    wpAny M A (callWith pos (.type T) first args keywords) Q E s := by
  unfold callWith
  refine wpAny_bind (wpAny_holding (wpAny_mono h (fun a s1 h1 => wpAny_bind (wpAny_standAt ?_)) fun _ _ x => x))
  simp only [hplain, hkw, Bool.or_false]
  refine wpAny_bind (wpAny_pure ?_)
  exact wpAny_bind (wpAny_mono h1 (fun r s2 hr => wpAny_bind (wpAny_holding (wpAny_point (wpAny_pure hr)))) fun _ _ x => x)

def iZipX (K : PySem.W.Frag) (ta : TA) (tk : TA) : TI := fun σ H R => ta σ H fun vs H1 => tk σ H1 fun zs H2 => ∃ a b xs ys, vs = [.ref a, .ref b] ∧ zs = [.bl true] ∧ SqT K H2 a xs ∧ SqT K H2 b ys ∧ R (ItzX K a b) H2
theorem pi_zipX {X : Cx} {e e2 : Expr} {kws : List Keyword} {ta tk : TA} {p pos tpos : Pos} {elts : List Expr} {kk : Nat} (hg : Gl X "zip") (hm : X.mg "zip" = none) (ha : PA X [e, e2] ta) (hk : PK X kws tk)
    (he : backTo pos (starEach [e, e2] X.env) = (false, eval e X.env) :: backTo pos (starEach [e2] X.env) := by rfl) (hpl : (backTo pos (starEach [e, e2] X.env)).any (·.1) = false := by rfl)
    (hall : (backToKw pos (keywordEach kws X.env)).all (·.1.isSome) = true := by rfl) (hnone : (backToKw pos (keywordEach kws X.env)).any (·.1.isNone) = false := by rfl) (hks : (backToKw pos (keywordEach kws X.env)).filterMap (·.1) = [Str.ofString "strict"] := by rfl) :
    PI X (.Tuple elts kk tpos) (.Call (.Name "zip" p) [e, e2] kws pos) (iZipX X.K ta tk) := by
  refine ⟨fun pins s σ H R I h => ?_⟩
  refine wpAny_Call_Name_kw (ld_blt I hg hm PyProof.Rows.boot_zip ?_)
  refine callWith_typeKw hpl hnone ?_
  rw [he]
  refine PyProof.Rows.evalArgs_kwB hall ?_
  rw [← he]
  refine thn (ha.run pos pins s σ H _ I h) fun us s1 ⟨vs, H1, I1, r1, q1⟩ => thn (hk.run pos pins s1 σ H1 _ I1 q1) fun ws s2 ⟨zs, H2, I2, r2, q2⟩ => ?_
  rw [hks]
  obtain ⟨a, b, xs, ys, ex, ez, hqx, hqy, q⟩ := q2
  subst ex ez
  obtain ⟨u1, u2, rfl, e1, e2⟩ := vals2 r1
  obtain ⟨w1, rfl, e3⟩ := vals1 r2
  cases e1
  cases e2
  cases e3
  obtain ⟨its, rv, p1, _⟩ := I2.tuple hqx
  obtain ⟨its2, rv2, p2, _⟩ := I2.tuple hqy
  have fresh5 : ∀ c, c ∈ [s2.heap.objs.size + 4, s2.heap.objs.size + 2, s2.heap.objs.size + 3, s2.heap.objs.size, s2.heap.objs.size + 1] → FpOk X pins H2 c := fun c hcm => by
    have e' : c = s2.heap.objs.size + 4 ∨ c = s2.heap.objs.size + 2 ∨ c = s2.heap.objs.size + 3 ∨ c = s2.heap.objs.size ∨ c = s2.heap.objs.size + 1 := by simpa using hcm
    have hle : s2.heap.objs.size ≤ c := by
      rcases e' with z | z | z | z | z
      · rw [z]; exact Nat.le_add_right _ _
      · rw [z]; exact Nat.le_add_right _ _
      · rw [z]; exact Nat.le_add_right _ _
      · rw [z]; exact Nat.le_refl _
      · rw [z]; exact Nat.le_add_right _ _
    exact I2.fpOk hle (I2.hok.fresh hle)
  obtain ⟨o1, ho1, _⟩ := id p1
  obtain ⟨o2, ho2, _⟩ := id p2
  refine call_zipX (begins_tuple a its.toArray) (begins_tuple b its2.toArray) p1 p2 fun h' hz hTI hTO g1 g2 hsz hk => iter_zipX hz ?_
  have I3 : Inv X pins σ H2 { s2 with heap := h' } := I2.kept (t' := s2.toks) hk
  exact ⟨s2.heap.objs.size + 4, [s2.heap.objs.size + 4, s2.heap.objs.size + 2, s2.heap.objs.size + 3, s2.heap.objs.size, s2.heap.objs.size + 1], _, _, H2, rfl, I3,
    turn_zipX (zip_sep2 (fp1 := [a]) (fp2 := [b]) (fun c hc => by rw [List.mem_singleton.mp hc]; exact Heap.lt_size ho1) (fun c hc => by rw [List.mem_singleton.mp hc]; exact Heap.lt_size ho2)),
    ⟨hz, hTI, ⟨_, _, hTO⟩, ⟨_, g1, rfl, rfl⟩, ⟨_, g2, rfl, rfl⟩⟩, fresh5, q⟩
end Mi
/-! Rules for constructs that the layer lacks: zip(text, list). -/
namespace Mi
open PySem PySem.Spec PyProof.Rows L2 SX

/-- a text's signs and a list's items, of one length, in new pairs -/
def ItzS (K : PySem.W.Frag) (l : List Nat) (b : Addr) : It :=
  ⟨fun i H => i < l.length ∧ ∃ (ys : List V), SqL K H b ys ∧ i < ys.length,
    fun i H v H' => ∃ T c y, v = .ref T ∧ H T = none ∧ H' = upd H T (.tup [.str (S [c]), y]) ∧ l[i]? = some c ∧ ∀ ys, SqL K H b ys → ys[i]? = some y,
    fun i H => l.length = i ∧ ∃ ys : List V, SqL K H b ys ∧ ys.length = i⟩
theorem turn_zipS {P : Program} {w : World} {K : PySem.W.Frag} {elts : List Expr} {kk : Nat} {tpos : Pos} {l : List Nat} {t : Tok} {b z TI TO i1 i2 : Addr} (D : ZipSep2 z TI TO i1 i2 [i1] [i2, b]) :
    Turn P w K (.Tuple elts kk tpos) (ItzS K l b) [z, TI, TO, i1, i2] z (fun i h => IsZip h z TI TO .none ∧ IsTupOf2 h TI (.ref i1) (.ref i2) ∧ (∃ x y, IsTupOf2 h TO x y) ∧ h.IsStrIter i1 (strIterType (S l)) (S l) t i ∧ h.IsListIter i2 b i) where
  mem := by simp
  obj := fun i h st c hc => by
    obtain ⟨hz, hTI, ⟨x, y, hTO⟩, ⟨o1, e1, _, d1⟩, ⟨o2, e2, _, d2⟩⟩ := st
    have e' : c = z ∨ c = TI ∨ c = TO ∨ c = i1 ∨ c = i2 := by simpa using hc
    rcases e' with q | q | q | q | q
    · rw [q]; exact ⟨_, hz, fun v q => nomatch q⟩
    · rw [q]; exact ⟨_, hTI, fun v q => nomatch q⟩
    · rw [q]; exact ⟨_, hTO, fun v q => nomatch q⟩
    · rw [q]; exact ⟨o1, e1, fun v q => by rw [d1] at q; cases q⟩
    · rw [q]; exact ⟨o2, e2, fun v q => by rw [d2] at q; cases q⟩
  keep := fun i h h' st k => by
    obtain ⟨hz, hTI, ⟨x, y, hTO⟩, ⟨o1, e1, r1⟩, h2⟩ := st
    exact ⟨k z (by simp) _ hz, k TI (by simp) _ hTI, ⟨x, y, k TO (by simp) _ hTO⟩, ⟨o1, k i1 (by simp) o1 e1, r1⟩, h2.at fun o q => k i2 (by simp) o q⟩
  item := by
    intro X hP hw hK hc i pins s σ H E I hf st hg
    subst hP hw hK
    obtain ⟨hz, hTI, ⟨x0, y0, hTO⟩, h1, h2⟩ := st
    obtain ⟨hx, ys, hqy, hy⟩ := hg
    obtain ⟨its2, rv2, p2, _⟩ := I.list hqy
    have l2 := rv2.length
    have nb : b ≠ i2 := fun e => by
      subst e
      obtain ⟨o, _, ho, hcl, _⟩ := id p2
      obtain ⟨o', ho', hcl', _⟩ := id h2
      rw [ho] at ho'; cases ho'; rw [hcl] at hcl'; injection hcl' with q; exact absurd q (by decide)
    have D1 := Draws.text (prog := X.prog) (w := X.w) (A := X.A.in1) (I.ok.hd hc) i1 (S l) t
    have D2 := Draws.list (prog := X.prog) (w := X.w) (A := X.A.in1) (I.ok.hd hc) i2 b nb its2.toArray
    have hzl : z < s.heap.objs.size := Heap.lt_size hz
    have sl : (S l).cps.size = l.length := by simp
    refine wpAny_pyNext_zipD2_item D D1 D2 hz hTI hTO h1 ⟨h2, p2.isList⟩ (by rw [sl]; exact hx) (by rw [List.size_toArray]; omega) fun u u2 h' tk hu hu2 z' TO' st1' st2' hT hsz hk => ?_
    obtain ⟨c, tc, hcx, rfl⟩ := hu
    have hcx' : l[i]? = some c := by simpa using hcx
    obtain ⟨y, hy1⟩ : ∃ y, ys[i]? = some y := ⟨_, List.getElem?_eq_getElem hy⟩
    obtain ⟨u2', hu2', ru2⟩ := rv2.get hy1
    have eu2 : u2 = u2' := by
      have : its2[i]? = some u2 := by simpa using hu2
      rw [this] at hu2'; exact Option.some.inj hu2'
    subst eu2
    refine ⟨_, rfl, wpAny_letOwnedTupleGo_zip (s := { s with heap := h', toks := tk }) z' fun h'' z'' sb => ?_⟩
    have hT2 : h''.get? s.heap.objs.size = some { cls := .type "tuple", data := .seq #[.str ⟨#[c]⟩ tc, u2] } := (sb.2 _ (Nat.ne_of_gt hzl)).trans hT
    have new : ObjOk X.prog X.w (upd H s.heap.objs.size (.tup [.str (S [c]), y])) h'' s.heap.objs.size (.tup [.str (S [c]), y]) :=
      ⟨by show 2 ≤ sizeLine; decide, [.str ⟨#[c]⟩ tc, u2], .cons ⟨_, rfl⟩ (.cons ru2 .nil), ⟨_, hT2, rfl, _, rfl⟩⟩
    have I1 : Inv X pins σ (upd H s.heap.objs.size (.tup [.str (S [c]), y])) { s with heap := h'', toks := tk } :=
      I.turnedNew (t' := tk) (ch := [z, TI, TO, i1, i2]) (fun c o hb q => (sb.2 c (fun q' => hb (by simp [q']))).trans (hk c o (fun q' => hb (by simp [q'])) (fun q' => hb (by simp [q'])) (fun q' => hb (by simp [q'])) (fun q' => hb (by simp [q'])) q)) hf (Nat.le_refl _) new
    obtain ⟨oi, hoi, ri⟩ := st1'
    refine ⟨.ref s.heap.objs.size, _, I1, rfl, ⟨_, c, y, rfl, I.hok.fresh (Nat.le_refl _), rfl, hcx', fun l hl => by rw [I.list_inj hl hqy]; exact hy1⟩, ⟨z'', ?_, ⟨.str ⟨#[c]⟩ tc, u2, ?_⟩, ?_, ?_⟩, fun c hcm => ?_⟩
    · exact (sb.2 _ D.TIz).trans (hk _ _ D.TIz D.TITO D.TIi1 D.TIi2 hTI)
    · exact (sb.2 _ D.TOz).trans TO'
    · exact ⟨oi, (sb.2 _ D.zi1.symm).trans hoi, ri⟩
    · exact st2'.1.at fun o q => (sb.2 _ D.zi2.symm).trans q
    · have hlt : c < s.heap.objs.size := by
        have e' : c = z ∨ c = TI ∨ c = TO ∨ c = i1 ∨ c = i2 := by simpa using hcm
        rcases e' with q | q | q | q | q
        · rw [q]; exact hzl
        · rw [q]; exact Heap.lt_size hTI
        · rw [q]; exact Heap.lt_size hTO
        · rw [q]; obtain ⟨_, e1, _⟩ := h1; exact Heap.lt_size e1
        · rw [q]; obtain ⟨_, e2, _⟩ := h2; exact Heap.lt_size e2
      rw [upd_ne (Nat.ne_of_lt hlt)]
      exact (hf c hcm).1
  done := by
    intro X hP hw hK hc i pins s σ H E I hf st hg
    subst hP hw hK
    obtain ⟨hz, hTI, ⟨x0, y0, hTO⟩, h1, h2⟩ := st
    obtain ⟨e1, ys, hqy, e2⟩ := hg
    obtain ⟨its2, rv2, p2, _⟩ := I.list hqy
    have l2 := rv2.length
    have nb : b ≠ i2 := fun e => by
      subst e
      obtain ⟨o, _, ho, hcl, _⟩ := id p2
      obtain ⟨o', ho', hcl', _⟩ := id h2
      rw [ho] at ho'; cases ho'; rw [hcl] at hcl'; injection hcl' with q; exact absurd q (by decide)
    have D1 := Draws.text (prog := X.prog) (w := X.w) (A := X.A.in1) (I.ok.hd hc) i1 (S l) t
    have D2 := Draws.list (prog := X.prog) (w := X.w) (A := X.A.in1) (I.ok.hd hc) i2 b nb its2.toArray
    have sl : (S l).cps.size = l.length := by simp
    exact wpAny_pyNext_zipD2_end (i := i) D D1 D2 hz hTI hTO h1 ⟨h2, p2.isList⟩ (by rw [sl]; omega) (by rw [List.size_toArray]; omega) (.inl (by rw [sl]; omega)) fun h' tk hk => ⟨rfl, I.turnedL (t' := tk) (ch := [z, TI, TO, i1, i2]) (fun c o hb q =>
      hk c o (fun q' => hb (by simp [q'])) (fun q' => hb (by simp [q'])) (fun q' => hb (by simp [q'])) (fun q' => hb (by simp [q'])) q) hf⟩
  self := fun A i s Q E st h => wpAny_pyIter_zip st.1 h
def iZipS (K : PySem.W.Frag) (ta : TA) : TI := fun σ H R => ta σ H fun vs H1 => ∃ l b ys, vs = [.str (S l), .ref b] ∧ SqL K H1 b ys ∧ R (ItzS K l b) H1
theorem pi_zipS {X : Cx} {e e2 : Expr} {ta : TA} {p pos tpos : Pos} {elts : List Expr} {kk : Nat} (hg : Gl X "zip") (hm : X.mg "zip" = none) (ha : PA X [e, e2] ta)
    (hs : starEach [e, e2] X.env = (false, eval e X.env) :: starEach [e2] X.env := by rfl) (hpl : (backTo pos (starEach [e2] X.env)).any (·.1) = false := by rfl) :
    PI X (.Tuple elts kk tpos) (.Call (.Name "zip" p) [e, e2] [] pos) (iZipS X.K ta) := by
  refine ⟨fun pins s σ H R I h => ?_⟩
  refine Call_ (ld_blt I hg hm PyProof.Rows.boot_zip (PyProof.Rows.callWith_type1 (thn (ha.run pos pins s σ H _ I h) fun us s1 ⟨vs, H1, I1, r1, q1⟩ => ?_) hs hpl))
  obtain ⟨l, b, ys, ex, hqy, q⟩ := q1
  subst ex
  obtain ⟨u1, u2, rfl, e1, e2⟩ := vals2 r1
  obtain ⟨t, rfl⟩ := e1
  cases e2
  obtain ⟨its2, rv2, p2, _⟩ := I1.list hqy
  have fresh5 : ∀ c, c ∈ [s1.heap.objs.size + 4, s1.heap.objs.size + 2, s1.heap.objs.size + 3, s1.heap.objs.size, s1.heap.objs.size + 1] → FpOk X pins H1 c := fun c hcm => by
    have e' : c = s1.heap.objs.size + 4 ∨ c = s1.heap.objs.size + 2 ∨ c = s1.heap.objs.size + 3 ∨ c = s1.heap.objs.size ∨ c = s1.heap.objs.size + 1 := by simpa using hcm
    have hle : s1.heap.objs.size ≤ c := by
      rcases e' with z | z | z | z | z
      · rw [z]; exact Nat.le_add_right _ _
      · rw [z]; exact Nat.le_add_right _ _
      · rw [z]; exact Nat.le_add_right _ _
      · rw [z]; exact Nat.le_refl _
      · rw [z]; exact Nat.le_add_right _ _
    exact I1.fpOk hle (I1.hok.fresh hle)
  refine zip_begins2 (begins_text (S l) t) (begins_list b its2.toArray) trivial p2.isList fun h' hz hTI hTO g1 g2 hsz hk => wpAny_pyIter_zip hz ?_
  have I3 : Inv X pins σ H1 { s1 with heap := h' } := I1.kept (t' := s1.toks) hk
  exact ⟨s1.heap.objs.size + 4, [s1.heap.objs.size + 4, s1.heap.objs.size + 2, s1.heap.objs.size + 3, s1.heap.objs.size, s1.heap.objs.size + 1], _, _, H1, rfl, I3,
    turn_zipS (zip_sep2 (fp1 := []) (fp2 := [b]) (fun c hc => nomatch hc) (fun c hc => by rw [List.mem_singleton.mp hc]; exact p2.lt)),
    ⟨hz, hTI, ⟨_, _, hTO⟩, ⟨_, g1, rfl, rfl⟩, ⟨_, g2, rfl, rfl⟩⟩, fresh5, q⟩
end Mi
/-! The set of a text's signs: set(x), len of it, sorted of it. -/
namespace Mi
open PySem PySem.Spec PyProof.Rows L2 SX

/-! ### what such a set is -/
def cT (e : Int × Value) : Nat := match e.2 with | .str x _ => x.cps.getD 0 0 | _ => 0
def GoodT (w : World) (e : Int × Value) : Prop := ∃ (c : Nat) (tk : Tok), e.2 = Value.str (S [c]) tk ∧ e.1 = hashStr w (S [c])
theorem cT_of {e : Int × Value} {c : Nat} {tk : Tok} (h : e.2 = Value.str (S [c]) tk) : cT e = c := by
  unfold cT
  rw [h]
  rfl
/-- the set of the signs of l at a -/
def SetT (w : World) (h : Heap) (a : Addr) (l : List Nat) : Prop :=
  ∃ o es ep t, h.get? a = some o ∧ o.ExactSet ∧ o.data = .set es ep t ∧ (∀ e ∈ es.toList, GoodT w e) ∧ (es.toList.map cT).Nodup ∧ (∀ c, c ∈ l ↔ c ∈ es.toList.map cT) ∧
    es.size < scanBound ∧ t.fits es.size = true ∧ es.size ≤ l.length ∧ Ris t.place.toList ∧ (w.params.followText "set-order" = true ∨ t.led = true)
section
variable {P : Program} {w : World} {h h' : Heap} {a : Addr} {l : List Nat}
theorem SetT.at (R : SetT w h a l) (k : ∀ o, h.get? a = some o → h'.get? a = some o) : SetT w h' a l := by
  obtain ⟨o, es, ep, t, ho, r⟩ := R
  exact ⟨o, es, ep, t, k o ho, r⟩
theorem elemsT {l : List (Int × Value)} (g : ∀ e ∈ l, GoodT w e) : ElemsOf (strKind P w) l := fun e he => by
  obtain ⟨c, tk, h1, h2⟩ := g e he
  exact ⟨⟨S [c], by rw [h1]; exact strKind_is _ _ _ _, h2⟩, by rw [h1] <;> rfl⟩
theorem is_T {e : Int × Value} (g : GoodT w e) (c : Nat) : (strKind P w).is (S [c]) e.2 = true ↔ cT e = c := by
  obtain ⟨c0, tk, h1, _⟩ := g
  rw [cT_of h1, h1]
  show Value.isStrOf (S [c]) (Value.str (S [c0]) tk) = true ↔ c0 = c
  constructor
  · intro q
    obtain ⟨_, e⟩ := Value.isStrOf_shape q
    injection e with e1 _
    have := S_inj e1
    simpa using this
  · intro q
    subst q
    simp [Value.isStrOf]
theorem mem_T {l : List (Int × Value)} (g : ∀ e ∈ l, GoodT w e) (c : Nat) : c ∈ l.map cT ↔ ∃ e ∈ l, (strKind P w).is (S [c]) e.2 = true := by
  rw [List.mem_map]
  constructor
  · rintro ⟨e, he, q⟩
    exact ⟨e, he, (is_T (g e he) c).2 q⟩
  · rintro ⟨e, he, q⟩
    exact ⟨e, he, (is_T (g e he) c).1 q⟩
theorem SetT.congr {l' : List Nat} (R : SetT w h a l) (e : ∀ c, c ∈ l' ↔ c ∈ l) (hl : l.length ≤ l'.length) : SetT w h a l' := by
  obtain ⟨o, es, ep, t, ho, hx, hd, g, nd, hm, hb, hf, hn, r⟩ := R
  exact ⟨o, es, ep, t, ho, hx, hd, g, nd, fun c => (e c).trans (hm c), hb, hf, Nat.le_trans hn hl, r⟩
end

/-! ### a sign is added -/
section
variable {P : Program} {w : World} {A : Around} {E : Value → Shared → Prop} {s : Shared} {a : Addr} {l : List Nat}
theorem setT_tail {g : Bool → Sem Unit} (hg : ∀ (b : Bool) (s1 : Shared) (Q' : Unit → Shared → Prop), Q' () s1 → wpAny (model P w) A (g b) Q' E s1)
    {o : Obj} {es : Array (Int × Value)} {ep : Nat} {t : SetTable} (ho : s.heap.get? a = some o) (hex : o.ExactSet) (hd : o.data = .set es ep t)
    {es1 : Array (Int × Value)} {t2 : SetTable} {l' : List Nat} (g1 : ∀ e ∈ es1.toList, GoodT w e) (nd1 : (es1.toList.map cT).Nodup) (m1 : ∀ c, c ∈ l' ↔ c ∈ es1.toList.map cT)
    (hb1 : es1.size < scanBound) (hf2 : t2.fits es1.size = true) (hn : es1.size ≤ l'.length) (hr : Ris t2.place.toList) (hl : w.params.followText "set-order" = true ∨ t2.led = true) {wasDummy : Bool} {R : Option Bool → Shared → Prop}
    (hR : ∀ h', Heap.SameBut a s.heap h' → SetT w h' a l' → R (some true) { s with heap := h' }) :
    wpAny (model P w) A (do
        storeSet a es1 t2
        if (!wasDummy && t2.tooFull) = true then do
            g (relayAll t2 es1 (SetTable.grown es1.size)).2.2
            storeSet a (relayAll t2 es1 (SetTable.grown es1.size)).1 (relayAll t2 es1 (SetTable.grown es1.size)).2.1
            pure (some true)
          else pure (some true)) R E s := by
  refine wpAny_bind (wpAny_storeSet_of ho hd ?_ (fits_of_scanBound hb1))
  have ho1 := store_at (es' := es1) (t' := t2) ho hd
  have sb1 := Heap.SameBut.update s.heap a (Obj.putSet es1 t2)
  split
  · have pm := relayAll_perm t2 es1 (SetTable.grown es1.size)
    have hf3 := relayAll_fits t2 es1 (SetTable.grown es1.size)
    have hr3 := relayAll_ris t2 es1 (SetTable.grown es1.size)
    have hl3 := relayAll_led t2 es1 (SetTable.grown es1.size)
    generalize relayAll t2 es1 (SetTable.grown es1.size) = Z at pm hf3 hr3 hl3 ⊢
    obtain ⟨es2, t3, gave⟩ := Z
    dsimp only at pm hf3 hr3 hl3 ⊢
    have hsz : es2.size = es1.size := by rw [← Array.length_toList, pm.length_eq, Array.length_toList]
    have hb2 : es2.size < scanBound := by rw [hsz]; exact hb1
    refine wpAny_bind (hg _ _ _ ?_)
    refine wpAny_bind (wpAny_storeSet_of ho1 rfl ?_ (fits_of_scanBound hb2))
    have ho2 := store_at (es' := es2) (t' := t3) ho1 rfl
    refine wpAny_pure (hR _ (sb1.trans (Heap.SameBut.update _ a _)) ?_)
    exact ⟨_, es2, _, t3, ho2, hex, rfl, fun e he => g1 e (pm.mem_iff.mp he), (pm.map cT).nodup_iff.mpr nd1, fun c => (m1 c).trans (pm.map cT).mem_iff.symm, hb2, hf3, by rw [hsz]; exact hn, hr3,
      hl.imp id fun z => by rw [hl3]; exact z⟩
  · exact wpAny_pure (hR _ sb1 ⟨_, es1, _, t2, ho1, hex, rfl, g1, nd1, m1, hb1, hf2, hn, hr, hl⟩)
theorem setT_add {c : Nat} {tk : Tok} {Q : Bool → Shared → Prop} (R : SetT w s.heap a l) (room : l.length + 1 < scanBound)
    (hQ : ∀ b h', Heap.SameBut a s.heap h' → SetT w h' a (l ++ [c]) → Q b { s with heap := h' }) :
    wpAny (model P w) A (setAddHashed a (.str (S [c]) tk) ((strKind P w).hash (S [c]))) Q E s := by
  obtain ⟨o, es, ep, t, ho, hex, hd, g, nd, hm, hb, hf, hn, hr, hl⟩ := R
  have hkey : (strKind P w).is (S [c]) (.str (S [c]) tk) = true := strKind_is P w (S [c]) tk
  have hsc : (Value.str (S [c]) tk).scannable = true := rfl
  have hel : ElemsOf (strKind P w) es.toList := elemsT g
  unfold setAddHashed setAddHashedIn
  refine wpAny_holding (wpAny_bind (wpAny_setState_of ho hd hf ?_))
  dsimp only
  rw [byScan_of hsc hb hel]
  simp only [↓reduceIte]
  unfold setAddByScan
  refine wpAny_bind ?_
  refine wpAny_bind (wpAny_rule ?_)
  refine wpAny_bind (wpAny_setScan_of hkey ho hd hf hel ?_)
  cases hfi : List.findIdx? (fun e => (strKind P w).is (S [c]) e.2) es.toList with
  | some j =>
    dsimp only
    obtain ⟨hj, pj, _⟩ := List.findIdx?_eq_some_iff_getElem.mp hfi
    have hc : c ∈ l := (hm c).2 ((mem_T (P := P) (w := w) g c).2 ⟨es.toList[j], List.getElem_mem hj, pj⟩)
    refine wpAny_pure (wpAny_pure ?_)
    refine hQ _ s.heap (Heap.SameBut.refl a s.heap) ⟨o, es, ep, t, ho, hex, hd, g, nd, fun i => ?_, hb, hf, by rw [List.length_append]; omega, hr, hl⟩
    rw [← hm i, List.mem_append, List.mem_singleton]
    exact ⟨fun z => z.elim id (fun e => e ▸ hc), .inl⟩
  | none =>
    dsimp only
    have hnk : c ∉ es.toList.map cT := fun z => by
      obtain ⟨e, he, q⟩ := (mem_T (P := P) (w := w) g c).1 z
      have c := List.findIdx?_eq_none_iff.mp hfi e he
      rw [q] at c
      cases c
    have hgw : ∀ (b : Bool) {s1 : Shared} {Q' : Unit → Shared → Prop}, Q' () s1 → wpAny (model P w) A (match b with | true => rule "set.scan.the-table-gave-way" | false => pure ()) Q' E s1 :=
      fun b s1 Q' q => by cases b <;> first | exact wpAny_pure q | exact wpAny_rule q
    have pm := layNew_perm t es ((strKind P w).hash (S [c])) (.str (S [c]) tk)
    have hf1 := layNew_fits t es ((strKind P w).hash (S [c])) (.str (S [c]) tk)
    have hr1 := layNew_ris t es ((strKind P w).hash (S [c])) (.str (S [c]) tk) hr
    have hl1 := layNew_led t es ((strKind P w).hash (S [c])) (.str (S [c]) tk)
    generalize layNew t es ((strKind P w).hash (S [c])) (.str (S [c]) tk) = Z at pm hf1 hr1 hl1 ⊢
    obtain ⟨es1, t1, wasDummy, gave⟩ := Z
    dsimp only at pm hf1 hr1 hl1 ⊢
    rw [Array.toList_push] at pm
    have pc : es1.toList.Perm (((strKind P w).hash (S [c]), Value.str (S [c]) tk) :: es.toList) := pm.trans (List.perm_append_singleton _ _)
    have pk : (es1.toList.map cT).Perm (c :: es.toList.map cT) := pc.map cT
    have g1 : ∀ e ∈ es1.toList, GoodT w e := fun e he => by
      rcases List.mem_cons.mp (pc.mem_iff.mp he) with z | z
      · rw [z]; exact ⟨c, tk, rfl, rfl⟩
      · exact g e z
    have nd1 : (es1.toList.map cT).Nodup := pk.nodup_iff.mpr (List.nodup_cons.mpr ⟨hnk, nd⟩)
    have m1 : ∀ i, i ∈ l ++ [c] ↔ i ∈ es1.toList.map cT := fun i => by
      rw [List.mem_append, List.mem_singleton, hm i, pk.mem_iff, List.mem_cons]
      exact Or.comm
    have hsz : es1.size = es.size + 1 := by rw [← Array.length_toList, pc.length_eq, List.length_cons, Array.length_toList]
    have hn1 : es1.size ≤ (l ++ [c]).length := by
      rw [List.length_append, hsz]
      show es.size + 1 ≤ l.length + 1
      omega
    have hb1 : es1.size < scanBound := by rw [hsz]; omega
    have hled : w.params.followText "set-order" = true ∨ t1.led = true := hl.imp id fun z => by rw [hl1]; exact z
    refine wpAny_bind (hgw _ ?_)
    split
    · refine wpAny_bind ?_
      rw [hashByValue_scannable 8 hsc]
      refine wpAny_pure ?_
      refine setT_tail ?_ ho hex hd g1 nd1 m1 hb1 ?_ hn1 ?_ ?_ ?_
      · intro b s1 Q' q; cases b <;> first | exact wpAny_pure q | exact wpAny_rule q
      · first | (split <;> first | exact hf1 | exact SetTable.fits_plain_off hf1) | exact hf1
      · first | (split <;> exact hr1) | exact hr1
      · first | (split <;> exact hled) | exact hled
      · intro h' sb r; dsimp only; exact wpAny_pure (hQ _ h' sb r)
    · refine wpAny_bind (wpAny_pure ?_)
      simp only [↓reduceIte]
      refine setT_tail ?_ ho hex hd g1 nd1 m1 hb1 hf1 hn1 hr1 hled ?_
      · intro b s1 Q' q; cases b <;> first | exact wpAny_pure q | exact wpAny_rule q
      · intro h' sb r; dsimp only; exact wpAny_pure (hQ _ h' sb r)

/-! ### set(x) -/
theorem walks_textU (hh : A.handled = none) (I : Addr) (x : Str) (t : Tok) : Walks P w A I [I] [I] x.cps.size (SignAt x) (fun i h => h.IsStrIter I (strIterType x) x t i) := by
  cases ha : x.cps.all (· < 128)
  · simp only [strIterType, ha, Bool.false_eq_true, if_false]
    exact Walks.strWide hh I x t
  · simp only [strIterType, ha, if_true]
    exact Walks.strAscii hh I x t
theorem loopT {I : Addr} {fp wr : List Addr} {G : Array GenState → Array GenState → Prop} {n : Nat} {Pv : Nat → Value → Prop} {St : Nat → Shared → Prop} {R : Result → Shared → Prop}
    (W : WalksS P w A.in1 I fp wr G n Pv St) (D : Addr) (hSf : D ∉ fp) (l : List Nat) (hn : n = l.length) (hb : l.length + 1 < scanBound) (hval : ∀ i v, Pv i v → ∃ c t, l[i]? = some c ∧ v = .str (S [c]) t) :
    ∀ (k i : Nat) (s : Shared), n - i = k → i ≤ n → St i s → SetT w s.heap D (l.take i) →
      (∀ s', Moved (D :: wr) G s s' → SetT w s'.heap D l → R (.ok (.ret .none)) s') →
      codeAny (model P w) A (.builtin "set.update.loop" ⟨[.ref D, .ref I], []⟩) R s := by
  have hSw : D ∉ wr := fun h => hSf (W.sub _ h)
  have hsub : ∀ b ∈ wr, b ∈ D :: wr := fun b hb => List.mem_cons_of_mem _ hb
  intro k
  induction k with
  | zero =>
    intro i s hk' hi hst hS hR
    have hin : i = n := by omega
    subst hin
    refine codeAny_builtin F.entry_set_update_loop ?_
    rw [Around.under_plainId F.plain_set_update_loop _]
    show wpAny _ A.in1 (pyNext (.ref I) >>= _) _ _ s
    refine wpAny_bind (W.done s _ _ hst fun s' hm => ?_)
    show wpAny _ A.in1 (ret Value.none) _ _ s'
    have e : l.take i = l := List.take_of_length_le (by omega)
    rw [e] at hS
    exact wpAny_pure (hR s' (hm.mono hsub) (hS.at fun o e => hm.heap D o hSw e))
  | succ k ih =>
    intro i s hk' hi hst hS hR
    have hlt : i < n := by omega
    refine codeAny_builtin F.entry_set_update_loop ?_
    rw [Around.under_plainId F.plain_set_update_loop _]
    show wpAny _ A.in1 (pyNext (.ref I) >>= _) _ _ s
    refine wpAny_bind (W.item i s _ _ hlt hst fun v s' hP hst' hm => ?_)
    obtain ⟨c, t, hz, rfl⟩ := hval i v hP
    have hS' : SetT w s'.heap D (l.take i) := hS.at fun o e => hm.heap D o hSw e
    show wpAny _ A.in1 (holding [Value.str (S [c]) t] (setAdd D (.str (S [c]) t)) >>= _) _ _ s'
    refine wpAny_bind (wpAny_holding ?_)
    unfold setAdd
    refine wpAny_holding ?_
    refine wpAny_bind ((strKind P w).pyHash (k := S [c]) (strKind_is _ _ _ _) ?_)
    refine setT_add (s := { s' with toks := s'.toks + 1 }) hS' (by rw [List.length_take]; omega) fun _ h' hsb hS2 => ?_
    have e : l.take i ++ [c] = l.take (i + 1) := by rw [List.take_add_one, hz]; rfl
    rw [e] at hS2
    refine wpAny_pure ⟨plainId_quiet F.plain_set_update_loop _, ih (i + 1) _ (by omega) hlt (W.frame _ s' _ _ hst' (Nat.le_succ _) fun b hb o e => ?_) hS2 fun s'' hm'' hS'' => ?_⟩
    · rw [hsb.2 b (fun h : b = D => hSf (by rw [← h]; exact hb))]; exact e
    · refine hR s'' (Moved.trans W.gtrans ((hm.mono hsub).then_heap (Nat.le_succ _) fun b o hb e => ?_) hm'') hS''
      rw [hsb.2 b (fun h : b = D => hb (by rw [h]; exact List.mem_cons_self))]; exact e
theorem sub_str_set : isSubtype (.type "str") (.type "set") = pure false := by rw [isSubtype_type]; kernel_rfl
theorem sub_str_frozenset : isSubtype (.type "str") (.type "frozenset") = pure false := by rw [isSubtype_type]; kernel_rfl
theorem setT_new {h : Heap} {D : Addr} (ho : h.get? D = some { cls := .type "set", dict := none, data := .set #[] 0 (.fresh 0 0 (!w.params.followText "set-order")) }) (l : List Nat) : SetT w h D (l.take 0) :=
  ⟨_, #[], 0, _, ho, ⟨rfl, rfl, rfl⟩, rfl, (fun e he => by simp at he), (by simp), (fun k => by simp), (by decide), (by rfl), Nat.zero_le _, List.Pairwise.nil, by
    show _ ∨ (!w.params.followText "set-order") = true
    cases w.params.followText "set-order"
    · exact .inr rfl
    · exact .inl rfl⟩
theorem call_setT {l : List Nat} {t : Tok} {Q : Value → Shared → Prop} (hh : A.handled = none) (hb : l.length + 1 < scanBound)
    (h : ∀ (h' : Heap) (tk : Nat), SetT w h' s.heap.objs.size l → (∀ b o, s.heap.get? b = some o → h'.get? b = some o) → Q (.ref s.heap.objs.size) { s with heap := h', toks := tk }) :
    wpAny (model P w) A (call (.type "set") [.str (S l) t]) Q E s := by
  obtain ⟨c, tl, hmro⟩ := F.called_set.mro
  have hmade := F.called_set.made
  have hsub := F.called_set.sub
  refine wpAny_call (codeAny_of_tree ?_)
  show wpAny _ _ (callAny (.type "set") _) _ _ _
  refine wpAny_pure ⟨Code.quiet_builtin _ (by decide +kernel), codeAny_builtin F.entry_type_call ?_⟩
  rw [Around.under_plain (weight_type_call_type "set" [.str (S l) t] []) rfl]
  have h1 := F.called_set.notType
  have h2 := F.called_set.canCreate
  have hct := F.typeCall_set_1 (.str (S l) t)
  repeat (any_goals (first | assumption | wp_step))
  refine codeAny_mono (code_set_led1 (.str (S l) t) (E := E) (Q₁ := fun obj s1 => obj = .ref s.heap.objs.size ∧ s1 = { s with heap := s.heap.push { cls := .type "set", dict := none, data := .set #[] 0 (.fresh 0 0 (!w.params.followText "set-order")) } }) ⟨rfl, rfl⟩) fun r s1 hr => ?_
  cases r with
  | error e => exact hr
  | ok fl =>
    cases fl with
    | ret obj =>
      obtain ⟨rfl, rfl⟩ := hr
      have hS : (s.heap.push { cls := .type "set", dict := none, data := .set #[] 0 (.fresh 0 0 (!w.params.followText "set-order")) }).get? s.heap.objs.size = some { cls := .type "set", dict := none, data := .set #[] 0 (.fresh 0 0 (!w.params.followText "set-order")) } := Heap.get?_push_size _ rfl
      have hT : Shared.TypeIs { s with heap := s.heap.push { cls := .type "set", dict := none, data := .set #[] 0 (.fresh 0 0 (!w.params.followText "set-order")) } } (.ref s.heap.objs.size) "set" := ⟨_, hS, rfl⟩
      have hli := F.called_set.init.lookup
      have hbi := F.called_set.init.bind (.ref s.heap.objs.size)
      repeat (any_goals (first | assumption | wp_step))
      refine codeAny_mono (codeAny_call_builtin (R := wants (fun r s2 => r = .none ∧ ∃ h' tk, s2 = { s with heap := h', toks := tk } ∧ SetT w h' s.heap.objs.size l ∧
          (∀ b o, s.heap.get? b = some o → h'.get? b = some o)) E) F.called_set.init.plain F.entry_set_init (check_set_init_1 hT ?_)) fun r2 s2 hr2 => ?_
      · have hsls := sub_str_set
        have hslf := sub_str_frozenset
        have hne : (Value.type "str" == Value.type "dict") = false := by decide
        unfold Builtin.«set.__init__» noKeywords Builtin.Frozenset.updateFrom
        generalize hPI : pyIter = PI
        wp_walk
        subst hPI
        refine wpAny_pyIter_strU ?_
        refine wpAny_bind (wpAny_runValue ?_)
        have hh3 : A.in1.in1.in1.handled = none := by simp [hh]
        have hSf : s.heap.objs.size ∉ [(s.heap.push { cls := .type "set", dict := none, data := .set #[] 0 (.fresh 0 0 (!w.params.followText "set-order")) }).objs.size] := by
          rw [Heap.size_push]; simp only [List.mem_singleton]
          exact Nat.ne_of_lt (Nat.lt_succ_self _)
        have sl : (S l).cps.size = l.length := by simp
        have hval : ∀ (i : Nat) (v : Value), SignAt (S l) i v → ∃ c t, l[i]? = some c ∧ v = .str (S [c]) t := fun i v hv => by
          obtain ⟨c, u, hc, e⟩ := hv
          exact ⟨c, u, by simpa using hc, e⟩
        refine loopT ((walks_textU hh3 _ (S l) t).toS) s.heap.objs.size
          hSf l sl hb hval ((S l).cps.size - 0) 0 _ (by omega) (Nat.zero_le _)
          ⟨_, Heap.get?_push_size _ rfl, rfl, rfl⟩ ?hS0 ?hR
        case hS0 =>
          exact setT_new (Heap.get?_push_of_some _ hS) l
        case hR =>
          intro s' hm hS'
          obtain ⟨h', g2, d', tk', os'⟩ := s'
          have eg : g2 = s.gens := hm.gens
          have ed : d' = s.drawn := hm.drawn
          have eo : os' = s.os := hm.os
          subst eg; subst ed; subst eo
          show wpAny _ _ _ _ _ _
          refine wpAny_pure ?_
          show wpAny _ _ (ret Value.none) _ _ _
          refine wpAny_pure ⟨rfl, h', tk', rfl, hS', fun b o e => ?_⟩
          have hb0 : b < s.heap.objs.size := Heap.lt_size e
          have hb1 : b ≠ s.heap.objs.size := Nat.ne_of_lt hb0
          have hb2 : b ≠ (s.heap.push { cls := .type "set", dict := none, data := .set #[] 0 (.fresh 0 0 (!w.params.followText "set-order")) }).objs.size := by
            rw [Heap.size_push]; exact Nat.ne_of_lt (Nat.lt_succ_of_lt hb0)
          exact hm.heap b o (by simp only [List.mem_cons, List.mem_singleton, List.not_mem_nil, or_false, not_or]; exact ⟨hb1, hb2⟩) (Heap.get?_push_of_some _ (Heap.get?_push_of_some _ e))
      · cases r2 with
        | error e => exact hr2
        | ok fl2 =>
          cases fl2 with
          | ret r =>
            obtain ⟨rfl, h', tk, rfl, hS', hk'⟩ := hr2
            repeat (any_goals (first | assumption | wp_step))
            exact h _ _ hS' hk'
          | _ => exact hr2.elim
    | _ => exact hr.elim
end
end Mi
/-! Rules for constructs that the layer lacks: keyword-only parameters, len of an own instance, long ranges, sums of tuples and of a dict's values, a dict locked. -/
namespace Mi
open PySem PySem.Spec PyProof.Rows L2 SX

/-! ### keyword-only parameters, no defaults of others -/
theorem kbinds0 {K : PySem.W.Frag} {x qual : Str} {params : Arguments} {body : List Stmt} {scope : Scope} {kws : List (Str × V)} {f : Addr} {fd : FuncData} {ps : List Str}
    (F : FunD K x qual params body scope [] kws f fd) (n : Nat) (ks : List Str) (ms : List (Str × V)) (g : {α : Type} → List α → List α → List α → List α) (hk : kws ≠ []) (hms : ∀ q ∈ ms, q ∈ kws)
    (hrel : ∀ {vs mz zs : List V} {us mv ws : List Value}, Vals vs us → Vals mz mv → Vals zs ws → Vals (g vs mz zs) (g us mv ws))
    (h : ∀ (D : Addr) (doc pm : Value) (an : Option Addr) (cdv ct : Value) (us mv ws : List Value), us.length = n → mv.length = ms.length → ws.length = ks.length →
      KwChain D ((ms.map (·.1)).zip mv) (bindArgs (PySem.W.fnOf x qual params body scope .none (.ref D) doc pm an cdv ct) ⟨us, ks.zip ws⟩) (ps.zip (g us mv ws))) :
    ∃ mv : List Value, KBn K fd ps n ks (fun us ws => g us mv ws) (fun vs zs => g vs (ms.map (·.2)) zs) := by
  obtain ⟨oc, od, dV, kV, doc, pm, an, cdv, ct, osl, rfl, lk, hcd, hD, hK⟩ := F.ex
  rcases hD with ⟨_, rfl⟩ | ⟨e, _⟩
  · rcases hK with e | ⟨D, rfl, hq⟩
    · exact absurd e hk
    · obtain ⟨mv, hl, rk, hks⟩ := kwd_vals (ms := ms) fun q hm => hq q (hms q hm)
      refine ⟨mv, ⟨fun s us ws X l1 l2 => ?_, fun r1 r2 => hrel r1 rk r2⟩⟩
      exact BindsTo.of_looks fun M => KwChain.looks X hks (h D doc pm an cdv ct us mv ws l1 hl l2)
  · exact absurd rfl e

section
variable {X : Cx} {CX : CXT} {pins : List (Addr × Obj)} {k : Nat} {f C : Addr} {fd : FuncData} {ps : List Str} {sp : Sp} {E : XK}
/-! ### len(x), x an instance whose class has its own def for it -/
def rLenOwn (C : Addr) (sp : Sp) (E : XK) : List V → Hp → VK → Prop := fun xs H Q => ∃ a dx fs, xs = [.ref a] ∧ H a = some (.ins C dx fs) ∧ sp [.ref a] H (fun v H' => ∃ n : Nat, v = .int (n : Int) ∧ n < 2 ^ 32 ∧ Q (.int (n : Int)) H') E
theorem call_lenOwn (hm : Meth X.K C "__len__" f) (F : FnOk X.prog X.w X.K X.mg X.base CX k f fd ps sp) (hr : Room (k + 1) X.A) (hb : Binds X.K fd ps []) (hx : Passes CX X E) : CallR X (.builtin "len") (rLenOwn C sp E) := by
  intro pins s σ H xs us Q I r h
  obtain ⟨a, dx, fs, rfl, ha, q⟩ := h
  obtain ⟨u, rfl, ru⟩ := vals1 r
  cases ru
  obtain ⟨mA, O, _, _, _, _⟩ := ins_get I.hok ha
  obtain ⟨od, J, _⟩ := O.look
  refine Calls.call_function_entry kind_len plain_len entry_len (args_len1 _) ?_
  unfold Builtin.«len»
  refine wpAny_bind (m := oneArg "len" _) (wpAny_pure ?_)
  refine wpAny_bind (m := callSpecial? (.ref a) (Str.ofString "__len__")) (PySem.W.special_fn I.kIn J hm.at_ (beq_iff_eq.mp hm.fn) ?_)
  have hl : ([Value.ref a] : List Value).length = ps.length := by
    have := F.len _ _ _ _ q
    simpa using this
  have run : codeAny (model X.prog X.w) X.A.in1 (.call (.ref f) ⟨[.ref a], []⟩) (CR CX X.stack X.prog X.w H s _ E) s :=
    F.run X.A.in1 X.stack s H ⟨[.ref a], []⟩ [.ref a] [.ref a] _ E hr.in1 I.env0.in1 (by have := hb s [.ref a] I.kIn (by simpa using hl); simpa using this) (.cons rfl .nil) q
  refine wpAny_call (codeAny_mono run fun r s' hq => ?_)
  cases r with
  | error e => exact hx pins σ H s e s' I hq
  | ok fl =>
    cases fl with
    | ret u =>
      obtain ⟨v, H', I', rv, n, ev, hn, q'⟩ := I.after hq
      subst ev
      obtain ⟨t, rfl⟩ := rv
      refine wpAny_bind (wpAny_holding (wpAny_pure ?_))
      refine wpAny_bind (wpAny_letGo ?_)
      show wpAny _ _ (if (n : Int) < 0 then _ else _) _ _ _
      rw [if_neg (by omega)]
      show wpAny _ _ (if (n : Int) ≥ 2 ^ 63 then _ else _) _ _ _
      rw [if_neg (by omega)]
      exact wpAny_bind (wpAny_mkInt (wpAny_pure ⟨_, rfl, .int (n : Int), H', I'.tok _, ⟨_, rfl⟩, q'⟩))
    | next => exact False.elim hq
    | brk => exact False.elim hq
    | cont => exact False.elim hq
end

/-! ### range(i, j) of any ints -/
theorem turn_long {P : Program} {w : World} {K : PySem.W.Frag} {tg : Expr} (it : Addr) (lo : Int) (n : Nat) : Turn P w K tg (Itr lo n) [it] it (fun i h => IsLongIter h it (lo + (i : Nat) * 1) ((n : Int) - (i : Nat)) 1) where
  mem := by simp
  obj := fun i h st b hb => by
    have e : b = it := by simpa using hb
    subst e
    exact ⟨_, st, fun v z => nomatch z⟩
  keep := fun i h h' st k => k it (by simp) _ st
  item := by
    intro X hP hw hK hc i pins s σ H E I hf st hg
    subst hP hw hK
    obtain ⟨f0, f1, f2, f3, f4, f5⟩ := hf it (by simp)
    have W := Walks.longrange (prog := X.prog) (w := X.w) (I.ok.hd hc) it lo 1 n
    refine W.item i s _ _ hg st fun v h' tk hv st' kk => ?_
    obtain ⟨t, rfl⟩ := hv
    have I1 : Inv X pins σ H { s with heap := h', toks := tk } := I.turned (fun b o hb e => kk b o (by simpa using hb) e) f0 f1 f3 f4 f5
    refine ⟨_, rfl, go_of (s := { s with heap := h', toks := tk }) (n := "longrange_iterator") st' rfl rfl (by decide) ⟨.int (lo + i), H, I1, ⟨t, ?_⟩, ⟨rfl, rfl⟩, st', fun b hb => (hf b hb).1⟩⟩
    rw [Int.mul_one]
  done := by
    intro X hP hw hK hc i pins s σ H E I hf st hg
    subst hP hw hK
    obtain ⟨f0, f1, f2, f3, f4, f5⟩ := hf it (by simp)
    exact wpAny_pyNext_long_end (I.ok.hd hc) st (by have : n ≤ i := hg; omega) fun h' eb => ⟨rfl, I.turned (t' := s.toks) (fun b o hb e => eb b o hb e) f0 f1 f3 f4 f5⟩
  self := fun _ _ _ _ _ st h => wpAny_pyIter_longiter st h
theorem range_any {X : Cx} {tg : Expr} {pins : List (Addr × Obj)} {σ : L2.St} {H : Hp} {s : Shared} {R : It → Hp → Prop} {E : Value → Shared → Prop} {lo hi : Int} {t u v : Tok} {tk : Nat} (I : Inv X pins σ H s)
    (q : R (Itr lo (hi - lo).toNat) H) : wpAny (model X.prog X.w) X.A (pyIter (.ref s.heap.objs.size)) (PIE X pins σ tg R) E { s with heap := s.heap.push { cls := .type "range", data := .fields #[.int lo t, .int hi u, .int 1 v] }, toks := tk } := by
  have I1 : Inv X pins σ H { s with heap := s.heap.push { cls := .type "range", data := .fields #[.int lo t, .int hi u, .int 1 v] }, toks := tk } := I.kept fun b o e => Heap.get?_push_of_some _ e
  have e1 : lo + ((0 : Nat) : Int) * 1 = lo := by simp
  have e2 : (((hi - lo).toNat : Nat) : Int) - ((0 : Nat) : Int) = Builtin.Range.rangeSize lo hi 1 := by rw [rangeSize_one]; split <;> omega
  have fp : ∀ b ∈ [(s.heap.push { cls := .type "range", data := .fields #[.int lo t, .int hi u, .int 1 v] }).objs.size], FpOk X pins H b := fun b hb => by
    have e : b = (s.heap.push { cls := .type "range", data := .fields #[.int lo t, .int hi u, .int 1 v] }).objs.size := by simpa using hb
    subst e
    exact I1.fpOk (Nat.le_refl _) (I1.hok.fresh (Nat.le_refl _))
  cases hs : Builtin.Range.small lo hi 1 with
  | true =>
    refine wpAny_pyIter_range (IsRange.new ..) hs ?_
    refine ⟨(s.heap.push { cls := .type "range", data := .fields #[.int lo t, .int hi u, .int 1 v] }).objs.size, [(s.heap.push { cls := .type "range", data := .fields #[.int lo t, .int hi u, .int 1 v] }).objs.size], _, _, H, rfl,
      I1.kept (t' := tk) fun b o e => Heap.get?_push_of_some _ e, turn_range _ lo (hi - lo).toNat, ?_, fp, q⟩
    show IsRangeIter _ _ (lo + ((0 : Nat) : Int) * 1) ((((hi - lo).toNat : Nat) : Int) - ((0 : Nat) : Int)) 1
    rw [e1, e2]
    exact Heap.get?_push_size _ rfl
  | false =>
    refine wpAny_pyIter_longrange (IsRange.new ..) hs ?_
    refine ⟨(s.heap.push { cls := .type "range", data := .fields #[.int lo t, .int hi u, .int 1 v] }).objs.size, [(s.heap.push { cls := .type "range", data := .fields #[.int lo t, .int hi u, .int 1 v] }).objs.size], _, _, H, rfl,
      I1.kept (t' := tk) fun b o e => Heap.get?_push_of_some _ e, turn_long _ lo (hi - lo).toNat, ?_, fp, q⟩
    show IsLongIter _ _ (lo + ((0 : Nat) : Int) * 1) ((((hi - lo).toNat : Nat) : Int) - ((0 : Nat) : Int)) 1
    rw [e1, e2]
    exact Heap.get?_push_size _ rfl
def iRngA (ta : TA) : TI := fun σ H R => ta σ H fun vs H1 => ∃ i j : Int, vs = [.int i, .int j] ∧ R (Itr i (j - i).toNat) H1
theorem pi_rangeA {X : Cx} {tg : Expr} {a b : Expr} {ta : TA} {p pos : Pos} (hg : Gl X "range") (hm : X.mg "range" = none) (ha : PA X [a, b] ta) (hs : starEach [a, b] X.env = [(false, eval a X.env), (false, eval b X.env)] := by rfl) (hs2 : starEach [b] X.env = [(false, eval b X.env)] := by rfl) :
    PI X tg (.Call (.Name "range" p) [a, b] [] pos) (iRngA ta) := by
  refine ⟨fun pins s σ H R I h => ?_⟩
  refine Call_ (ld_blt I hg hm boot_range (PyProof.Rows.callWith_type1 (thn (ha.run pos pins s σ H _ I h) fun us s1 ⟨vs, H1, I1, r1, q1⟩ => ?_) (by rw [hs, hs2]) (by rw [hs2]; rfl)))
  obtain ⟨i, j, e, q⟩ := q1
  subst e
  obtain ⟨u1, u2, rfl, ⟨t, rfl⟩, ⟨t', rfl⟩⟩ := vals2 r1
  exact call_range_2 (range_any I1 q)

/-! ### sum of a tuple of ints -/
theorem preSum_list (ns : List Int) : ∀ k, k ≤ ns.length → preSum (fun i => ns.getD i 0) k = (ns.take k).sum
  | 0, _ => by simp [preSum]
  | k + 1, h => by
    have hk : k < ns.length := h
    have e : ns.take (k + 1) = ns.take k ++ [ns[k]] := by
      rw [List.take_add_one, List.getElem?_eq_getElem hk]; rfl
    rw [preSum, preSum_list ns k (by omega), e, List.sum_append]
    simp [List.getD, hk]
theorem ints_at {ns : List Int} : ∀ {us : List Value}, Vals (ns.map V.int) us → ∀ {i : Nat} {v : Value}, us[i]? = some v → ∃ t, v = .int (ns.getD i 0) t := by
  intro us r i v h
  have hl := r.length
  rw [List.length_map] at hl
  have hi : i < ns.length := by
    have := (List.getElem?_eq_some_iff.mp h).1
    omega
  have h1 : (ns.map V.int)[i]? = some (.int (ns.getD i 0)) := by simp [List.getD, hi]
  obtain ⟨u, hu, ru⟩ := r.get h1
  rw [h] at hu
  cases hu
  exact ru
def rSumT (K : PySem.W.Frag) : List V → Hp → VK → Prop := fun vs H Q => ∃ (a : Addr) (ns : List Int), vs = [V.ref a] ∧ SqT K H a (ns.map V.int) ∧ Q (.int ns.sum) H
theorem cr_sumT {X : Cx} (hc : X.calm = true) : CallR X (.builtin "sum") (rSumT X.K) := by
  intro pins s σ H vs us Q I r h
  obtain ⟨a, ns, rfl, hs, q⟩ := h
  obtain ⟨its, rv, ht, _⟩ := I.tuple hs
  rw [Vals.ref1 r]
  have hl := rv.length
  rw [List.length_map] at hl
  refine call_sum_walkG (wpAny_pyIter_tuple (show s.heap.IsTuple a its.toArray from ht) ?_)
  obtain ⟨o, ho, _⟩ := id ht
  have ne : a ≠ s.heap.objs.size := Nat.ne_of_lt (Heap.lt_size ho)
  refine ⟨s.heap.objs.size, _, _, _, _, _, (fun i => ns.getD i 0), rfl, Walks.tuple (A := X.A.in1) (I.ok.hd hc) _ a ne its.toArray, ⟨⟨_, Heap.get?_push_size _ rfl, rfl, rfl⟩, ?_⟩, fun b hb => ?_, fun i v hv => ints_at rv (by simpa using hv), fun h' tk t' hk => ?_⟩
  · exact ⟨o, Heap.get?_push_of_some _ ho, (id ht).elim fun o' z => by
      obtain ⟨ho', hc', hd'⟩ := z
      rw [ho] at ho'; cases ho'
      exact ⟨hc', hd'⟩⟩
  · have e' : b = s.heap.objs.size ∨ b = a := by simpa using hb
    rw [Heap.size_push]
    rcases e' with z | z
    · rw [z]; exact Nat.lt_succ_self _
    · rw [z]; exact Nat.lt_succ_of_lt (Heap.lt_size ho)
  · have e : preSum (fun i => ns.getD i 0) its.toArray.size = ns.sum := by
      rw [preSum_list ns _ (by rw [List.size_toArray]; omega), List.take_of_length_le (by rw [List.size_toArray]; omega)]
    rw [e]
    refine ⟨.int _, H, I.kept (t' := tk) (fun b ob z => hk b ob (fun hb => ?_) (Heap.get?_push_of_some _ z)), ⟨_, rfl⟩, q⟩
    have e' : b = s.heap.objs.size := by simpa using hb
    exact absurd (Heap.lt_size z) (by rw [e']; exact Nat.lt_irrefl _)

/-! ### the view of a dict's values, and its sum -/
def ValsO (p d : Addr) : HO := .ext fun h => h.get? p = some { cls := .type "dict_values", data := .fields #[.ref d] }
def tVals (td : TE) : TE := fun σ H Q => td σ H fun x H1 => ∃ d kvs, x = .ref d ∧ H1 d = some (.dK kvs) ∧ ∀ p, H1 p = none → Q (.ref p) (upd H1 p (ValsO p d))
theorem pe_vals {X : Cx} {e : Expr} {td : TE} {apos cpos : Pos} (he : PE X e td) (hbase : attributeBase e "values" X.env (eval e X.env) = eval e X.env := by rfl) (hline : (apos.endLine == cpos.line) = true := by rfl) :
    PE X (.Call (.Attribute e "values" apos) [] [] cpos) (tVals td) := by
  refine ⟨fun pins s σ H Q I h => ?_⟩
  refine wpAny_Call_method (T := "dict") (id := "dict.values") hbase rfl hline F.plainAttrs_dict F.slot_dict_values F.type_dict_values (thn (he.run pins s σ H _ I h) fun u s1 ⟨x, H1, I1, rx, d, kvs, ex, hd, q⟩ => ?_)
  subst ex
  obtain rfl : u = Value.ref d := rx
  obtain ⟨hz, hs, vs, kv, hm⟩ := I1.hok d _ hd
  refine ⟨hm.typeIs, hm.mapOf.noDict, ?_⟩
  show wpAny _ _ (callWith cpos (.builtin "dict.values") [.ref d] [] []) _ X.xe s1
  refine method_meetsIn F.slot_dict_values F.entry_dict_values rfl (PySem.evalArgs_none ⟨rfl, hm.typeIs, F.args_dict_values_1 _, _, meets_dict_values (mixKind X.prog X.w) d hs, ⟨vs, hm⟩, ?_⟩)
  refine ⟨.ref _, upd H1 s1.heap.objs.size (ValsO s1.heap.objs.size d), I1.laid (t' := s1.toks) (fun b ob z => Heap.get?_push_of_some _ z) (Nat.le_refl _) ?_, rfl, q _ (I1.hok.fresh (Nat.le_refl _))⟩
  exact ⟨Heap.get?_push_size _ rfl, ⟨_, Heap.get?_push_size _ rfl⟩, fun h1 h2 a b => b _ a⟩
def rSumV : List V → Hp → VK → Prop := fun vs H Q => ∃ (p d : Addr) (kns : List (Key × Int)), vs = [V.ref p] ∧ H p = some (ValsO p d) ∧ H d = some (.dK (kns.map fun q => (q.1, V.int q.2))) ∧ Q (.int (kns.map (·.2)).sum) H
theorem cr_sumV {X : Cx} (hc : X.calm = true) : CallR X (.builtin "sum") rSumV := by
  intro pins s σ H vs us Q I r h
  obtain ⟨p, d, kns, rfl, hp, hd, q⟩ := h
  rw [Vals.ref1 r]
  obtain ⟨gp, _, _⟩ := I.hok p _ hp
  obtain ⟨hz, hs, ws, kv, hm⟩ := I.hok d _ hd
  obtain ⟨o, es, ep, ho, hx, hdt, hk, hn⟩ := id hm
  have hA : s.heap.DictAt (mixKind X.prog X.w) d ws ep := ⟨o, es, ho, hx, hdt, hk, hn⟩
  have hl : kns.length = ws.length := by
    have := Paired.length kv
    rw [List.length_map] at this
    exact this
  refine call_sum_walkG (wpAny_pyIter_values (d := d) (knd := mixKind X.prog X.w) ⟨_, gp, rfl, rfl⟩ hA ?_)
  have ne : d ≠ s.heap.objs.size := Nat.ne_of_lt (Heap.lt_size ho)
  refine ⟨s.heap.objs.size, _, _, _, _, _, (fun i => (kns.map (·.2)).getD i 0), rfl, Walks.dictValues (A := X.A.in1) (knd := mixKind X.prog X.w) (I.ok.hd hc) _ d ne ws ep, ⟨⟨_, Heap.get?_push_size _ rfl, rfl, rfl⟩, hA.push _⟩, fun b hb => ?_, fun i v hv => ?_, fun h' tk t' hk => ?_⟩
  · have e' : b = s.heap.objs.size ∨ b = d := by simpa using hb
    rw [Heap.size_push]
    rcases e' with z | z
    · rw [z]; exact Nat.lt_succ_self _
    · rw [z]; exact Nat.lt_succ_of_lt (Heap.lt_size ho)
  · obtain ⟨k, hv⟩ := hv
    have hi : i < kns.length := by
      have := (List.getElem?_eq_some_iff.mp hv).1
      omega
    have h1 : (kns.map fun q => (q.1, V.int q.2))[i]? = some ((kns[i]).1, V.int (kns[i]).2) := by simp [hi]
    obtain ⟨u, hu, ru⟩ := kv_get kv h1
    rw [hv] at hu
    have e : v = u := by injection hu with z; exact (Prod.mk.inj z).2
    subst e
    obtain ⟨t, rfl⟩ := ru
    exact ⟨t, by simp [List.getD, hi]⟩
  · have e : preSum (fun i => (kns.map (·.2)).getD i 0) ws.length = (kns.map (·.2)).sum := by
      rw [preSum_list (kns.map (·.2)) _ (by rw [List.length_map]; omega), List.take_of_length_le (by rw [List.length_map]; omega)]
    rw [e]
    refine ⟨.int _, H, I.kept (t' := tk) (fun b ob z => hk b ob (fun hb => ?_) (Heap.get?_push_of_some _ z)), ⟨_, rfl⟩, q⟩
    have e' : b = s.heap.objs.size := by simpa using hb
    exact absurd (Heap.lt_size z) (by rw [e']; exact Nat.lt_irrefl _)

/-! ### a dict that is locked from here on (never written again) -/
def tFrz (te : TE) : TE := fun σ H Q => te σ H fun x H1 => ∃ d u, x = .ref d ∧ H1 d = some u ∧ Mut (some u) ∧ ∀ od, Q x (upd H1 d (.frz od u))
theorem pe_frz {X : Cx} {e : Expr} {te : TE} (he : PE X e te) : PE X e (tFrz te) := by
  refine ⟨fun pins s σ H Q I h => ?_⟩
  refine thn (he.run pins s σ H _ I h) fun v s1 ⟨x, H1, I1, r1, d, u, ex, hd, mu, q⟩ => ?_
  obtain ⟨od, I2⟩ := I1.lock hd mu
  exact ⟨x, _, I2, r1, q od⟩
end Mi
/-! Rules: set(x), len and sorted of it. -/
namespace Mi
open PySem PySem.Spec PyProof.Rows L2 SX

theorem nodup_same {a b : List Nat} (ha : a.Nodup) (hb : b.Nodup) (h : ∀ c, c ∈ a ↔ c ∈ b) : a.Perm b := (List.perm_ext_iff_of_nodup ha hb).mpr h
def cV (v : Value) : Nat := match v with | .str x _ => x.cps.getD 0 0 | _ => 0
theorem strs_of : ∀ {vs : List Value}, (∀ v ∈ vs, ∃ (c : Nat) (t : Tok), v = Value.str (S [c]) t) → StrsAre vs ((vs.map cV).map fun c => S [c])
  | [], _ => .nil
  | v :: r, h => by
    obtain ⟨c, t, e⟩ := h v List.mem_cons_self
    have ih := strs_of (vs := r) fun z hz => h z (List.mem_cons_of_mem _ hz)
    rw [e]
    exact .cons _ _ ih
theorem ltC (a b : Nat) : ltCps (S [a]).cps.toList (S [b]).cps.toList = decide (a < b) := by
  show (decide (a < b) || (a == b && false)) = _
  rw [Bool.and_false, Bool.or_false]
theorem rising_of : ∀ {l : List Nat} {p : Nat}, risingS (S [p]) (l.map fun c => S [c]) = true → (p :: l).Pairwise (· ≤ ·)
  | [], p, _ => List.pairwise_singleton _ _
  | x :: r, p, h => by
    have h' : (!ltCps (S [x]).cps.toList (S [p]).cps.toList && risingS (S [x]) (r.map fun c => S [c])) = true := h
    rw [Bool.and_eq_true, ltC] at h'
    have ih := rising_of h'.2
    have hxp : p ≤ x := by
      have := h'.1
      simp at this
      exact this
    refine List.pairwise_cons.mpr ⟨fun y hy => ?_, ih⟩
    rcases List.mem_cons.mp hy with e | hy
    · rw [e]; exact hxp
    · exact Nat.le_trans hxp ((List.pairwise_cons.mp ih).1 y hy)
theorem sorted_of {l : List Nat} (h : sortedS (l.map fun c => S [c]) = true) : l.Pairwise (· ≤ ·) := by
  cases l with
  | nil => exact List.Pairwise.nil
  | cons x r => exact rising_of h
theorem strict_of : ∀ {l : List Nat}, l.Pairwise (· ≤ ·) → l.Nodup → l.Pairwise (· < ·)
  | [], _, _ => List.Pairwise.nil
  | x :: r, h, d => by
    obtain ⟨h1, h2⟩ := List.pairwise_cons.mp h
    obtain ⟨d1, d2⟩ := List.nodup_cons.mp d
    refine List.pairwise_cons.mpr ⟨fun y hy => ?_, strict_of h2 d2⟩
    have a := h1 y hy
    have b : x ≠ y := fun z => d1 (z ▸ hy)
    omega
theorem map_back {l : List Str} {m : List Nat} (h : l.Perm (m.map fun c => S [c])) : ∃ k : List Nat, l = k.map (fun c => S [c]) ∧ k.Perm m := by
  refine ⟨l.map fun x => x.cps.getD 0 0, ?_, ?_⟩
  · rw [List.map_map]
    have : ∀ x ∈ l, ((fun c => S [c]) ∘ fun x : Str => x.cps.getD 0 0) x = x := fun x hx => by
      obtain ⟨c, _, e⟩ := List.mem_map.mp (h.mem_iff.mp hx)
      rw [← e]
      rfl
    rw [List.map_congr_left this, List.map_id']
  · have p := h.map fun x : Str => x.cps.getD 0 0
    rw [List.map_map] at p
    have e : m.map ((fun x : Str => x.cps.getD 0 0) ∘ fun c => S [c]) = m := by
      have : ∀ c ∈ m, ((fun x : Str => x.cps.getD 0 0) ∘ fun c => S [c]) c = c := fun c _ => rfl
      rw [List.map_congr_left this, List.map_id']
    rw [e] at p
    exact p

section
variable {P : Program} {w : World} {A : Around} {E : Value → Shared → Prop} {s : Shared} {a : Addr} {l : List Nat}
theorem sorted_setT {Q : Value → Shared → Prop} (R : SetT w s.heap a l) (hh : A.handled = none)
    (hQ : ∀ s' p (out : Array Value) (c : Nat) (ys : List Nat), (∀ b o, s.heap.get? b = some o → s'.heap.get? b = some o) → s'.gens = s.gens → s'.os = s.os → s.heap.objs.size ≤ p →
      s'.heap.get? p = some (seqObj "list" out c) → StrsAre out.toList (ys.map fun c => S [c]) → ys.Pairwise (· < ·) → (∀ k, k ∈ ys ↔ k ∈ l) → ys.length ≤ sizeLine → Q (.ref p) s') :
    wpAny (model P w) A (call (.builtin "sorted") [.ref a]) Q E s := by
  obtain ⟨o, es, ep, t, ho, hex, hd, g, nd, hm, hb, hf, hn, hr, hl⟩ := R
  refine Calls.call_function_entry kind_sorted plain_sorted entry_sorted (args_sorted1 _) ?_
  unfold Builtin.«sorted»
  refine wpAny_bind (m := checkCount "sorted" 1 1 _) (wpAny_pure ?_)
  refine wpAny_bind (collect_set (A := A.in1) hh ⟨o, ho, hex.1, hd⟩ hf hb hr hl fun s1 vs k1 hz g1 o1 pm => ?_)
  have hvl : vs.length = es.size := by rw [pm.length_eq, List.length_map, Array.length_toList]
  have hsl : vs.length ≤ sizeLine := by rw [hvl]; exact fits_of_scanBound hb
  have hI : StrsAre vs ((vs.map cV).map fun c => S [c]) := strs_of fun v hv => by
    obtain ⟨e, he, q⟩ := List.mem_map.mp (pm.mem_iff.mp hv)
    obtain ⟨c, tk, h1, _⟩ := g e he
    exact ⟨c, tk, by rw [← q]; exact h1⟩
  have pk : (vs.map cV).Perm (es.toList.map cT) := by
    have q := pm.map cV
    rw [List.map_map] at q
    exact q
  refine wpAny_bind (wpAny_newList ?_ hsl)
  have hoL : (s1.heap.push (seqObj "list" vs.toArray 0)).get? s1.heap.objs.size = some (seqObj "list" vs.toArray 0) := Heap.get?_push_size _ rfl
  refine wpAny_bind (wpAny_holding (wpAny_call_entry slot_list_sort ⟨_, hoL, rfl⟩ entry_list_sort (list_sort_treeKAny strKind_oneLt hoL hI.keysOf (fun v1 v2 rest e => keyKind_strs (by rw [← e]; exact hI)) hsl fun st' hp hs => ⟨_, rfl, ?_⟩) (args_list_sort _)))
  obtain ⟨ss', a1, a2, a3⟩ := sorted_out_str hI hp hs
  obtain ⟨ys, rfl, py⟩ := map_back a2
  obtain ⟨c, hc⟩ := sortedHeap_at (vs := vs) (out := (arrOf st').map (·.2)) hoL
  have pn : ys.Perm (es.toList.map cT) := py.trans pk
  refine wpAny_pure ⟨_, rfl, hQ _ s1.heap.objs.size _ c ys (fun b u e => ?_) g1 o1 hz hc a1 (strict_of (sorted_of a3) (pn.nodup_iff.mpr nd)) (fun k => by rw [pn.mem_iff, ← hm k]) ?_⟩
  · have q := k1 b u e
    have hlt := Heap.lt_size q
    show (sortedHeap (s1.heap.push (seqObj "list" vs.toArray 0)) s1.heap.objs.size vs ((arrOf st').map (·.2))).get? b = some u
    rw [sortedHeap_old (Nat.ne_of_lt hlt) (by rw [Heap.size_push]; exact Nat.lt_succ_of_lt hlt)]
    exact Heap.get?_push_of_some _ q
  · rw [py.length_eq, List.length_map]; exact hsl
end

/-! ### the rules -/
def SetO' (w : World) (p : Addr) (l : List Nat) : HO := .ext fun h => SetT w h p l
section
variable {X : Cx}
def rSetT (w : World) : List V → Hp → VK → Prop := fun vs H Q => ∃ l : List Nat, vs = [.str (S l)] ∧ l.length ≤ 1000 ∧ ∀ p, H p = none → Q (.ref p) (upd H p (SetO' w p l))
theorem cr_setT (hc : X.calm = true) : CallR X (.type "set") (rSetT X.w) := by
  intro pins s σ H vs us Q I r h
  obtain ⟨l, rfl, hl, q⟩ := h
  obtain ⟨u, rfl, ⟨t, rfl⟩⟩ := vals1 r
  refine call_setT (I.ok.hd hc) (by unfold scanBound; omega) fun h' tk R hk => ?_
  refine ⟨.ref s.heap.objs.size, upd H s.heap.objs.size (SetO' X.w s.heap.objs.size l), I.laid (t' := tk) hk (Nat.le_refl _) ?_, rfl, q _ (I.hok.fresh (Nat.le_refl _))⟩
  obtain ⟨o, es, ep, t, ho, _⟩ := id R
  exact ⟨R, ⟨o, ho⟩, fun h1 h2 a b => a.at fun o e => b o e⟩
def rLenSet (w : World) : List V → Hp → VK → Prop := fun vs H Q => ∃ (p : Addr) (l : List Nat), vs = [.ref p] ∧ H p = some (SetO' w p l) ∧ ∀ ks : List Nat, ks.Nodup → (∀ c, c ∈ ks ↔ c ∈ l) → Q (.int (ks.length : Nat)) H
theorem cr_lenSet : CallR X (.builtin "len") (rLenSet X.w) := by
  intro pins s σ H vs us Q I r h
  obtain ⟨p, l, rfl, hp, q⟩ := h
  rw [Vals.ref1 r]
  obtain ⟨⟨o, es, ep, t, ho, hex, hd, g, nd, hm, hb, hf, hn, hr, hl⟩, _⟩ := I.hok p _ hp
  refine call_len_set ho hex hd hf ?_ ⟨.int (es.size : Nat), H, I.kept (t' := s.toks + 1 + 1) (fun _ _ z => z), ⟨_, rfl⟩, ?_⟩
  · have : es.size < 4096 := hb
    omega
  · have q2 := q (es.toList.map cT) nd fun c => (hm c).symm
    rw [List.length_map, Array.length_toList] at q2
    exact q2
def rSortT (w : World) : List V → Hp → VK → Prop := fun vs H Q => ∃ (p : Addr) (l : List Nat), vs = [.ref p] ∧ H p = some (SetO' w p l) ∧
  ∀ (ys : List Nat) (p' : Addr), ys.Pairwise (· < ·) → (∀ c, c ∈ ys ↔ c ∈ l) → H p' = none → Q (.ref p') (upd H p' (.lst (ys.map fun c => .str (S [c]))))
theorem cr_sortT (hc : X.calm = true) : CallR X (.builtin "sorted") (rSortT X.w) := by
  intro pins s σ H vs us Q I r h
  obtain ⟨a, l, rfl, ha, q⟩ := h
  obtain ⟨R, _⟩ := I.hok a _ ha
  rw [Vals.ref1 r]
  refine sorted_setT R (I.ok.hd hc) fun s' p out c ys k g o hp hg hi hs hm hl => ?_
  have hlen : (ys.map fun c => V.str (S [c])).length ≤ sizeLine := by rw [List.length_map]; exact hl
  have hv : Vals (ys.map fun c => V.str (S [c])) out.toList := by
    have := vals_of_strs hi
    rw [List.map_map] at this
    exact this
  have hn : H p = none := I.hok.fresh hp
  have J : Inv X pins σ (upd H p (.lst (ys.map fun c => V.str (S [c])))) { s with heap := s'.heap, gens := s'.gens, drawn := s'.drawn, toks := s'.toks } :=
    I.call (ch := []) (Un.laid k hp hn) (I.hok.laid k hp ⟨hlen, out.toList, c, hv, hg⟩) (by rw [g]; exact I.bare) (fun _ z => nomatch z)
  have e : s' = { s with heap := s'.heap, gens := s'.gens, drawn := s'.drawn, toks := s'.toks } := by
    cases s'
    cases s
    cases o
    rfl
  rw [e]
  exact ⟨.ref p, _, J, rfl, q ys p hs hm hn⟩
end
end Mi
/-! Rules: d.items() as a value, sorted of it (ints to ints). -/
namespace Mi
open PySem PySem.Spec PyProof.Rows L2 SX

def tItemsV (td : TE) : TE := fun σ H Q => td σ H fun x H1 => ∃ d kvs, x = .ref d ∧ H1 d = some (.dK kvs) ∧ ∀ p, H1 p = none → Q (.ref p) (upd H1 p (L2.DX.itemsO p d))
theorem pe_itemsV {X : Cx} {e : Expr} {td : TE} {apos cpos : Pos} (he : PE X e td) (hbase : attributeBase e "items" X.env (eval e X.env) = eval e X.env := by rfl) (hline : (apos.endLine == cpos.line) = true := by rfl) :
    PE X (.Call (.Attribute e "items" apos) [] [] cpos) (tItemsV td) := by
  refine ⟨fun pins s σ H Q I h => ?_⟩
  refine wpAny_Call_method (T := "dict") (id := "dict.items") hbase rfl hline F.plainAttrs_dict F.slot_dict_items F.type_dict_items (thn (he.run pins s σ H _ I h) fun u s1 ⟨x, H1, I1, rx, d, kvs, ex, hd, q⟩ => ?_)
  subst ex
  obtain rfl : u = Value.ref d := rx
  obtain ⟨hz, hs, vs, kv, hm⟩ := I1.hok d _ hd
  refine ⟨hm.typeIs, hm.mapOf.noDict, ?_⟩
  show wpAny _ _ (callWith cpos (.builtin "dict.items") [.ref d] [] []) _ X.xe s1
  refine method_meetsIn F.slot_dict_items F.entry_dict_items rfl (PySem.evalArgs_none ⟨rfl, hm.typeIs, F.args_dict_items_1 _, _, meets_dict_items (mixKind X.prog X.w) d hs, ⟨vs, hm⟩, ?_⟩)
  exact ⟨.ref _, upd H1 s1.heap.objs.size (L2.DX.itemsO s1.heap.objs.size d), I1.laid (t' := s1.toks) (fun b ob z => Heap.get?_push_of_some _ z) (Nat.le_refl _) (L2.DX.itemsO_ok (Heap.get?_push_size _ rfl)), rfl, q _ (I1.hok.fresh (Nat.le_refl _))⟩

theorem pairs_at {K : Type} [DecidableEq K] {prog : Program} {w : World} {knd : PySem.KeyKind prog w K} : ∀ {es : List DictEntry} {kvs : List (K × Value)}, Pairs knd es kvs → ∀ {j : Nat} {e : DictEntry}, es[j]? = some e →
    ∃ k, kvs[j]? = some (k, e.val) ∧ knd.is k e.key = true
  | _, _, .nil, _, _, h => by simp at h
  | _, _, .cons (e := e0) (kv := kv) h1 h2 t, 0, e, h => by
    have : e0 = e := by simpa using h
    subst this
    exact ⟨kv.1, by rw [h2]; rfl, h1⟩
  | _, _, .cons h1 h2 t, j + 1, e, h => pairs_at t (j := j) (by simpa using h)

/-- under the built-in's own frame -/
abbrev Cx.un1 (X : Cx) : Cx := { X with A := X.A.in1 }
theorem Inv.un1 {X : Cx} {pins : List (Addr × Obj)} {σ : L2.St} {H : Hp} {s : Shared} (I : Inv X pins σ H s) : Inv (Cx.un1 X) pins σ H s :=
  ⟨⟨I.ok.mod, I.ok.kind, I.ok.glob, I.ok.blt, I.ok.above, I.ok.inj, I.ok.has, I.ok.cab, I.ok.hd, I.ok.frames, I.ok.stk, I.ok.exf, I.ok.bs, I.ok.bsz, I.ok.noex, I.ok.exfs, I.ok.funs, I.ok.frf⟩,
    I.os, I.bare, I.base, I.loc, I.cell, I.free, I.freeC, I.pin, I.hok, I.len⟩
theorem Inv.re1 {X : Cx} {pins : List (Addr × Obj)} {σ : L2.St} {H : Hp} {s : Shared} (ok : X.Ok) (I : Inv (Cx.un1 X) pins σ H s) : Inv X pins σ H s :=
  ⟨ok, I.os, I.bare, I.base, I.loc, I.cell, I.free, I.freeC, I.pin, I.hok, I.len⟩

/-- what the pair at v is -/
def pairOf (H : Hp) (v : V) : Int × Int :=
  match v with
  | .ref t => match H t with
    | some (.tup [.int a, .int b]) => (a, b)
    | _ => (0, 0)
  | _ => (0, 0)
theorem pairOf_at {H : Hp} {t : Addr} {a b : Int} (h : H t = some (.tup [.int a, .int b])) : pairOf H (.ref t) = (a, b) := by
  unfold pairOf
  simp only [h]
theorem refs_back1 : ∀ {zs : List V}, (∀ z ∈ zs, ∃ t, z = V.ref t) → ∃ ts : List Addr, zs = ts.map V.ref
  | [], _ => ⟨[], rfl⟩
  | z :: r, h => by
    obtain ⟨ts, e⟩ := refs_back1 (zs := r) fun y hy => h y (List.mem_cons_of_mem _ hy)
    obtain ⟨t, e1⟩ := h z List.mem_cons_self
    exact ⟨t :: ts, by rw [e, e1]; rfl⟩
theorem paired_map {H : Hp} : ∀ {ts : List Addr}, (∀ t ∈ ts, ∃ a b : Int, H t = some (.tup [.int a, .int b])) → Paired (fun (t : Addr) (q : Int × Int) => H t = some (.tup [.int q.1, .int q.2])) ts ((ts.map V.ref).map (pairOf H))
  | [], _ => .nil
  | t :: r, h => by
    obtain ⟨a, b, e⟩ := h t List.mem_cons_self
    refine .cons ?_ (paired_map fun y hy => h y (List.mem_cons_of_mem _ hy))
    rw [pairOf_at e]
    exact e

section
variable {X : Cx}
def kvI (kns : List (Int × Int)) : List (Key × V) := kns.map fun q => (Sum.inl q.1, V.int q.2)
def rSortItems : List V → Hp → VK → Prop := fun vs H Q => ∃ (p d : Addr) (kns : List (Int × Int)), vs = [.ref p] ∧ H p = some (L2.DX.itemsO p d) ∧ H d = some (.dK (kvI kns)) ∧
  ∀ (H' : Hp) (l : Addr) (ts : List Addr) (out : List (Int × Int)), (∀ b o, H b = some o → H' b = some o) → out.Perm kns → out.Pairwise (fun a b => SrtO.lexB b a = false) → H l = none → H' l = some (.lst (ts.map V.ref)) →
    Paired (fun (t : Addr) (q : Int × Int) => H' t = some (.tup [.int q.1, .int q.2])) ts out → Q (.ref l) H'
theorem paired_perm {α β : Type} {F : α → β → Prop} {g : α → β} : ∀ {xs : List α} {ys : List β}, Paired F xs ys → (∀ x y, F x y → g x = y) → xs.map g = ys
  | _, _, .nil, _ => rfl
  | _, _, .cons h t, e => by rw [List.map_cons, e _ _ h, paired_perm t e]
theorem cr_sortItems (hc : X.calm = true) : CallR X (.builtin "sorted") rSortItems := by
  intro pins s σ H vs us Q I r h
  obtain ⟨p, d, kns, rfl, hp, hd, q⟩ := h
  rw [Vals.ref1 r]
  have view : s.heap.IsItemsView p d := (I.hok p _ hp).1
  obtain ⟨hz, hs, ws, kv, o, es, ep, ho, hx, hdat, hkeys, hpairs, hn⟩ := I.hok d _ hd
  have lk : (kvI kns).length = ws.length := Paired.length kv
  have le : es.size = ws.length := by rw [← Array.length_toList]; exact hpairs.length
  have hknsl : (kvI kns).length = kns.length := List.length_map _
  have hh : X.A.handled = none := I.ok.hd hc
  refine DT.sortedI (es := es) (ep := ep) hh view ⟨o, ho, hx, hdat⟩ (by omega) fun h' tk as hk hlt hl hG => ?_
  have las : as.length = (kvI kns).length := by omega
  have nd : as.Nodup := List.Pairwise.imp (fun {a b} (h : a < b) => Nat.ne_of_lt h) hG.rise
  have new : ∀ t ∈ as, H t = none := fun t ht => I.hok.fresh (Nat.le_of_lt (hG.above t ht))
  have low : ∀ b o, s.heap.get? b = some o → b ∉ as := fun b o e z => absurd (Heap.lt_size e) (Nat.not_lt.mpr (Nat.le_of_lt (hG.above b z)))
  have kp : ∀ b u, H b = some u → LiI.putT H as (kvI kns) b = some u := fun b u e => by
    rw [LiI.putT_off as _ _ (fun z => by rw [new b z] at e; cases e)]; exact e
  have atP := LiI.putT_at as (kvI kns) H las nd
  have J0 : Inv X pins σ (LiI.putT H as (kvI kns)) { s with heap := h', toks := tk } := by
    refine I.call' (ch := []) rfl ⟨fun b o q _ _ _ => hk b o q, fun b o q _ _ _ => ⟨o.slots, hk b o q⟩, fun b o q n _ => ?_, fun b o q _ => ⟨o, hk b o q⟩, fun b xs q => kp b _ q, fun b o u q => kp b _ q, fun b ps q => ⟨#[], by rw [kp b _ q]; simp⟩⟩ (fun b u q => ?_) I.bare fun b z => by simp at z
    · rw [LiI.putT_off as _ _ (low b o q)]
      exact n
    · by_cases hb : b ∈ as
      · obtain ⟨j, pk, e1, e2, e3⟩ := LiI.paired_ix atP hb
        rw [e3] at q
        cases q
        obtain ⟨en, f1, f3⟩ := hG.pairs j b e1
        obtain ⟨k, g1, f2⟩ := pairs_at hpairs (j := j) (e := en) (by rw [Array.getElem?_toList]; exact f1)
        obtain ⟨qv, g4, g2, g3⟩ := LiI.paired_get kv e2
        rw [g1] at g4
        cases g4
        have rk : RelV (kV pk.1) en.key := by
          rw [g2]
          exact relV_key (show keyIs k en.key = true from f2)
        exact ⟨by show 2 ≤ sizeLine; decide, [en.key, en.val], .cons rk (.cons g3 .nil), ⟨_, f3, rfl, _, rfl⟩⟩
      · rw [LiI.putT_off as _ _ hb] at q
        exact (I.hok b u q).stay (fun d v _ y => hk d v y) (fun d y => kp d _ y) fun d xs y => kp d _ y
  generalize hH1 : LiI.putT H as (kvI kns) = H1 at atP kp J0
  have tup : ∀ t ∈ as, ∃ a b : Int, H1 t = some (.tup [.int a, .int b]) := fun t ht => by
    obtain ⟨j, pk, e1, e2, e3⟩ := LiI.paired_ix atP ht
    obtain ⟨q, hq, e⟩ := List.mem_map.mp (List.mem_of_getElem? e2)
    subst e
    exact ⟨q.1, q.2, e3⟩
  have J1 : Inv X pins σ (upd H1 h'.objs.size (.lst (as.map V.ref))) { s with heap := h'.push { cls := .type "list", data := .seq (as.map Value.ref).toArray }, toks := tk } :=
    J0.laid (t' := tk) (fun b o e => Heap.get?_push_of_some _ e) (Nat.le_refl _) ⟨by rw [List.length_map]; omega, _, 0, LiI.vals_refs as, Heap.get?_push_size _ rfl⟩
  have nH1 : H1 h'.objs.size = none := J0.hok.fresh (Nat.le_refl _)
  have nH : H h'.objs.size = none := by
    cases e : H h'.objs.size with
    | none => rfl
    | some u => rw [kp _ _ e] at nH1; cases nH1
  have run := L2.mt_sortPO (X := Cx.un1 X) pins _ σ _ (.ref h'.objs.size) [] (.ref h'.objs.size) [] (fun x H2 => Q (.ref h'.objs.size) H2) (Inv.un1 J1) rfl .nil
    ⟨h'.objs.size, as.map V.ref, pairOf H1, rfl, rfl, upd_same, fun y hy => ?_, fun zs hs1 hb1 => ?_⟩
  · refine wpAny_mono run (fun v s' z => ?_) fun _ _ z => z
    obtain ⟨x, H2, J2, _, qq⟩ := z
    exact ⟨.ref h'.objs.size, H2, Inv.re1 I.ok J2, rfl, qq⟩
  · obtain ⟨t, ht, e⟩ := List.mem_map.mp hy
    subst e
    obtain ⟨a, b, e⟩ := tup t ht
    refine ⟨t, rfl, ?_⟩
    rw [pairOf_at e, upd_ne (fun z => by rw [z, nH1] at e; cases e)]
    exact e
  · have hp1 := hb1.perm
    obtain ⟨ts, rfl⟩ := refs_back1 (zs := zs) fun z hz => by
      obtain ⟨t, _, e⟩ := List.mem_map.mp (hp1.mem_iff.mp hz)
      exact ⟨t, e.symm⟩
    have hts : ∀ t ∈ ts, t ∈ as := fun t ht => by
      obtain ⟨t', ht', e⟩ := List.mem_map.mp (hp1.mem_iff.mp (List.mem_map.mpr ⟨t, ht, rfl⟩))
      cases e
      exact ht'
    have e1 : (as.map V.ref).map (pairOf H1) = kns := by
      rw [List.map_map]
      have : Paired (fun (t : Addr) (q : Int × Int) => H1 t = some (.tup [.int q.1, .int q.2])) as kns := by
        have go : ∀ {as : List Addr} {kns : List (Int × Int)}, Paired (fun (t : Addr) (q : Key × V) => H1 t = some (.tup [kV q.1, q.2])) as (kvI kns) → Paired (fun (t : Addr) (q : Int × Int) => H1 t = some (.tup [.int q.1, .int q.2])) as kns := by
          intro as kns
          induction kns generalizing as with
          | nil => intro z; cases z; exact .nil
          | cons k r ih => intro z; cases z with | cons h t => exact .cons h (ih t)
        exact go atP
      exact paired_perm this fun t y e => pairOf_at e
    have kp2 : ∀ b u, H1 b = some u → (upd (upd H1 h'.objs.size (.lst (as.map V.ref))) h'.objs.size (.lst (ts.map V.ref))) b = some u := fun b u e => by
      have nb : b ≠ h'.objs.size := fun z => by rw [z, nH1] at e; cases e
      rw [upd_ne nb, upd_ne nb]
      exact e
    refine q _ h'.objs.size ts ((ts.map V.ref).map (pairOf H1)) (fun b u e => kp2 b u (kp b u e)) ?_ ?_ nH upd_same ?_
    · rw [← e1]; exact hp1.map _
    · refine List.pairwise_map.mpr ?_
      exact hs1
    · have := paired_map (H := H1) (ts := ts) fun t ht => tup t (hts t ht)
      exact Paired.mapP this fun t y e => kp2 t _ e
end
end Mi
/-! repr of a dict from ints to ints, in defs that stand under no repr; such defs' calls; a law's end over such a def. -/
namespace Mi
open PySem PySem.Spec PyProof.Rows L2 SX

/-! ### a def that runs under no repr -/
structure FnOkG (P : Program) (w : World) (K : PySem.W.Frag) (mg : Str → Option Value) (base : Heap) (CX : CXT) (k : Nat) (f : Addr) (fd : FuncData) (ps : List Str) (sp : Sp) : Prop where
  len : ∀ vs H Q E, sp vs H Q E → vs.length = ps.length
  run : ∀ (A : Around) (outer : List Env) (s : Shared) (H : Hp) (args : Args) (us : List Value) (vs : List V) (Q : VK) (E : XK), A.guards = some [] → Room k A → Env0 P w K mg base A outer s H → BindsTo s fd args (ps.zip us) → Vals vs us → sp vs H Q E →
    codeAny (model P w) A (.call (.ref f) args) (CR CX outer P w H s Q E) s
theorem okG {CX : CXT} {P : Program} {w : World} {K : PySem.W.Frag} {mg : Str → Option Value} {base : Heap} {k : Nat} {f : Addr} {x qual : Str} {params : Arguments} {body : List Stmt} {scope : Scope} {dvs : List V} {kws : List (Str × V)} {fd : FuncData}
    {N ps : List Str} {sp : Sp} (F : FunD K x qual params body scope dvs kws f fd) (S : FnScope N ps scope)
    (len : ∀ vs H Q E, sp vs H Q E → vs.length = ps.length)
    (hbody : ∀ (cdv : Value) (A : Around) (outer : List Env) (s : Shared) (H : Hp) (vs : List V) (Q : VK) (E : XK), A.guards = some [] → Room k (A.deeper (envOfC qual scope s.heap.objs.size f cdv)) → sp vs H Q E →
      ∃ t, PSs (cxOf CX P w K mg base N qual scope f cdv A outer s H E) body t ∧ t { nx := fun _ H' => Q .non H', rt := Q } (start N vs) H) :
    FnOkG P w K mg base CX (k + 1) f fd ps sp := by
  obtain ⟨oc, od, dV, kV, doc, pm, an, cdv, ct, osl, rfl, lk, hcd, _, _⟩ := F.ex
  refine ⟨len, fun A outer s H args us vs Q E hg hr e0 hb r hsp => ?_⟩
  have hl := len _ _ _ _ hsp
  have KX : K.In s.heap := e0.mod.kin.keeps fun b o e => (e0.bs b o e).1
  have lim : s.heap.NoLimit := e0.mod.nolimit.keeps fun b o e => (e0.bs b o e).1
  have hkind : ∀ y ∈ ps.zip us, scope.names.lookup y.1 = some .local ∨ (scope.names.lookup y.1 = some .cell ∧ ((cellsFrom (s.heap.objs.size + 1) scope.names []).lookup y.1).isSome = true) := fun ⟨n, v⟩ hy => by
    rcases S.par n (List.of_mem_zip hy).1 with q | q
    · exact .inl q
    · exact .inr ⟨q, PySem.W.cellsFrom_some _ _ _ (.inl q)⟩
  refine codeAny_call_function hr.depth (KX _ _ lk) rfl S.co S.gen rfl (PySem.W.codeRec_of KX hcd) (hb _ _ _ _ ?_)
  refine wpAny_newFunctionEnv_cells S.kind hkind fun env he s1 x => ?_
  subst he
  refine ⟨lim.keeps x.toInCall.keep, codeAny_func ?_⟩
  obtain ⟨t, ht, hq⟩ := hbody cdv A outer s H vs Q E hg (hr.deeper _) hsp
  have I : Inv (cxOf CX P w K mg base N qual scope f cdv A outer s H E) [] (start N vs) H s1 := inv_start S hr.hd e0 hl r x
  refine wpAny_mono (ht.run [] s1 (start N vs) H _ I hq) (fun fl s' hs => ?_) fun e s' hs => hs
  have fin : ∀ {σ' : L2.St} {H' : Hp} {v : V} {u : Value}, Inv (cxOf CX P w K mg base N qual scope f cdv A outer s H E) [] σ' H' s' → RelV v u → Q v H' → CE outer P w H s Q u s' :=
    fun {σ' H' v u} J rv q => ⟨v, H', J.os, J.bare, J.base, J.hok, rv, q⟩
  cases fl with
  | ret u =>
    obtain ⟨v, σ', H', J, rv, q⟩ := hs
    exact fin J rv q
  | next =>
    obtain ⟨σ', H', J, q⟩ := hs
    exact fin (v := V.non) (u := Value.none) J rfl q
  | brk =>
    obtain ⟨_, _, _, q⟩ := hs
    exact False.elim q
  | cont =>
    obtain ⟨_, _, _, q⟩ := hs
    exact False.elim q
section
variable {X : Cx} {CX : CXT} {k : Nat} {f : Addr} {fd : FuncData} {ps : List Str} {sp : Sp} {dvs : List V} {ds : List Value} {E : XK} {x : Str} {p pos : Pos} {e : Expr} {es : List Expr} {t : TA}
theorem pe_callG (F : FnOkG X.prog X.w X.K X.mg X.base CX k f fd ps sp) (hgd : X.A.guards = some []) (hr : Room k X.A) (hg : Gl X x) (hm : X.mg x = some (.ref f)) (hk : PySem.W.keepIn X.K (.ref f) = true) (hb : Binds X.K fd ps []) (hx : Passes CX X E)
    (ha : PA X (e :: es) t) (hdb : (x == ("__debug__" : Str)) = false := by decide) (he : starEach (e :: es) X.env = (false, eval e X.env) :: starEach es X.env := by rfl) (hpl : (backTo pos (starEach es X.env)).any (·.1) = false := by rfl) :
    PE X (.Call (.Name x p) (e :: es) [] pos) (tCall sp [] E t) := by
  refine ⟨fun pins s σ H Q I h => ?_⟩
  refine wpAny_Call_Name_kw (ld_glob I hg hm ?_ hdb)
  refine PySem.W.callWith_K (h₀ := X.base) I.ok.mod.kin hk (thn (ha.run pos pins s σ H _ I h) fun us s1 ⟨vs, H1, I1, r, q⟩ => ⟨I1.kIn, ?_⟩) he hpl
  have r2 : Vals (vs ++ []) (us ++ []) := r.append .nil
  have hl : (us ++ []).length = ps.length := by rw [← r2.length]; exact F.len _ _ _ _ q
  refine wpAny_call (codeAny_mono (F.run X.A X.stack s1 H1 ⟨us, []⟩ (us ++ []) (vs ++ []) Q E hgd hr I1.env0 (hb s1 us I1.kIn hl) r2 q) fun r s' hq => ?_)
  cases r with
  | error e => exact hx pins σ H1 s1 e s' I1 hq
  | ok fl =>
    cases fl with
    | ret u => exact I1.after hq
    | next => exact False.elim hq
    | brk => exact False.elim hq
    | cont => exact False.elim hq
end

/-! ### a law's end -/
theorem lawG {P : Program} {w : World} {K : PySem.W.Frag} {mg mb : Str → Option Value} {CX : CXT} {k : Nat} {fa a : Addr} {fd : FuncData} {x : Str} {sp : Sp} {s1 : Shared} {vs : List Value} {ns : List Int}
    (KX : K.In s1.heap) (hns : s1.heap.Ns mainGlobals mg) (hb : s1.heap.Ns builtinsNs mb) (hbb : ∀ x : Str, x ≠ "__name__" → mb x = bootBuiltins x) (hlim : s1.heap.NoLimit) (hg : s1.gens = #[])
    (ha : s1.heap.get? a = some { cls := .type "list", data := .seq vs.toArray }) (hi : IntsAre vs ns) (hl : ns.length ≤ sizeLine) (hr : Room k callerA)
    (F : ∀ base : Heap, K.In base → base.Ns mainGlobals mg → FnOkG P w K mg base CX k fa fd [x] sp) (hbind : ∀ (s : Shared) (u : Value), BindsTo s fd ⟨[u], []⟩ [(x, u)])
    (hsp : ∀ H : Hp, Only H → SqL K H a (ns.map V.int) → sp [.ref a] H (fun v _ => v = .bl true) fun _ _ _ => False)
    (hCX : ∀ H e s', CX [] H s1 (fun _ _ _ => False) e s' → False) :
    codeAny (model P w) callerA (.call (.ref fa) ⟨[.ref a], []⟩) (fun r s' => r = .ok (.ret (.bool true)) ∧ OldK s1.heap s'.heap ∧ s'.os = s1.os ∧ AllBare s'.gens) s1 := by
  have rv := vals_ints hi
  have lenV := hi.length
  have core : ∀ H : Hp, Only H → SqL K H a (ns.map V.int) → HOk P w H s1.heap → (∀ b, H b ≠ none → b = a) → (H a ≠ none → K.lookup a = none) →
      codeAny (model P w) callerA (.call (.ref fa) ⟨[.ref a], []⟩) (fun r s' => r = .ok (.ret (.bool true)) ∧ OldK s1.heap s'.heap ∧ s'.os = s1.os ∧ AllBare s'.gens) s1 := by
    intro H hO hS hok hA hK
    have some_a : ∀ {b : Addr} {u : HO}, H b = some u → b = a := fun {b u} e => hA b (by rw [e]; simp)
    have noA : ∀ {b : Addr} {o : Obj} {es : Array DictEntry} {ep : Nat}, s1.heap.get? b = some o → o.data = .dict es ep → H b = none := fun {b o es ep} e d => by
      cases q : H b with
      | none => rfl
      | some u =>
        have e' := some_a q
        subst e'
        rw [ha] at e; cases e
        have d' : Data.seq vs.toArray _ = Data.dict es ep := d
        cases d'
    have nsK : ∀ {b : Addr} {m : Str → Option Value}, s1.heap.Ns b m → (hidT s1.heap H).Ns b m := fun {b m} ⟨o, es, ep, e, d, r⟩ => ⟨o, es, ep, hidT_get e (noA e d), d, r⟩
    have hKb : K.In (hidT s1.heap H) := fun b o e => hidT_get (KX b o e) (by
      cases q : H b with
      | none => rfl
      | some u =>
        have e' := some_a q
        subst e'
        rw [hK (by rw [q]; simp)] at e; cases e)
    have hM : Mod K mg (hidT s1.heap H) := ⟨hKb, nsK hns, ⟨mb, nsK hb, hbb⟩, let ⟨mc, h1, h2⟩ := hlim; ⟨mc, nsK h1, h2⟩⟩
    have e0 : Env0 P w K mg (hidT s1.heap H) callerA [] s1 H := ⟨rfl, hM, fun b o e => of_hidT e, Nat.le_of_eq (hidT_size _ _), trivial, fun b hb => absurd (show b ∈ ([] : List Addr) from hb) (by simp), hok, .of_eq hg⟩
    refine codeAny_mono ((F _ hKb (nsK hns)).run callerA [] s1 H ⟨[.ref a], []⟩ [.ref a] [.ref a] _ _ rfl hr e0 (hbind s1 (.ref a)) (.cons rfl .nil) (hsp H hO hS)) fun r s' h => ?_
    cases r with
    | error e => exact (hCX H e s' h).elim
    | ok fl =>
      cases fl with
      | next => exact False.elim h
      | brk => exact False.elim h
      | cont => exact False.elim h
      | ret u =>
        obtain ⟨v, H', os, bare, un, hok', r', q⟩ := h
        have q' : v = .bl true := q
        subst q'
        obtain rfl : u = Value.bool true := r'
        refine ⟨rfl, OldK.of_keep fun b o e => ?_, os, bare⟩
        cases q : H b with
        | none => exact un.keep b o e q (by intro z; exact absurd (show b ∈ ([] : List Addr) from z) (by simp)) (by simp)
        | some u =>
          rcases hO b with z | ⟨ob, xs, z⟩
          · rw [q] at z; cases z
          · have z2 := un.frzs b ob _ z
            obtain ⟨e1, _⟩ := hok b _ z
            obtain ⟨e2, _⟩ := hok' b _ z2
            rw [e] at e1; cases e1
            exact e2
  cases hk : K.lookup a with
  | some o =>
    have e := KX a o hk
    rw [ha] at e
    cases e
    exact core (fun _ => none) (fun _ => .inl rfl) (.inr ⟨_, vs.toArray, _, hk, rfl, rfl, rfl, by rw [List.size_toArray, lenV]; exact hl, by simpa using rv⟩) (fun b u z => nomatch (show (none : Option HO) = some u from z)) (fun b z => absurd rfl z) fun z => absurd rfl z
  | none =>
    have self : (fun b => if b = a then some (HO.frz { cls := .type "list", data := .seq vs.toArray } (.lst (ns.map V.int))) else none : Hp) a = some (.frz { cls := .type "list", data := .seq vs.toArray } (.lst (ns.map V.int))) := if_pos rfl
    have other : ∀ b, b ≠ a → (fun b => if b = a then some (HO.frz { cls := .type "list", data := .seq vs.toArray } (.lst (ns.map V.int))) else none : Hp) b = none := fun b hb => if_neg hb
    refine core (fun b => if b = a then some (HO.frz { cls := .type "list", data := .seq vs.toArray } (.lst (ns.map V.int))) else none) (fun b => ?_) (.inl (.inr ⟨_, self⟩)) (fun b u z => ?_) (fun b z => ?_) fun _ => hk
    · by_cases hb : b = a
      · rw [hb]; exact .inr ⟨_, _, self⟩
      · exact .inl (other b hb)
    · by_cases hb : b = a
      · subst hb
        have z' := self.symm.trans z
        cases z'
        exact ⟨ha, by rw [List.length_map]; exact hl, vs, _, rv, ha⟩
      · have z' := (other b hb).symm.trans z
        cases z'
    · by_cases hb : b = a
      · exact hb
      · exact absurd (other b hb) z
theorem walkG {l : PySem.W.OpenLaw} {n k : Nat} {q : Program} {loose : List Str} {XP : (Str → Option Value) → Heap → Prop} {YP : World → Heap → Prop} {d : DefRec} {CX : CXT} {x : Str}
    (hn : l.most = some n) (hn2 : n ≤ sizeLine) (hdf : d.params.defaults = []) (hr : Room k callerA)
    (F : ∀ (w : World) (mg : Str → Option Value) (fa : Addr) (h : Heap), YP w h → h.Ns mainGlobals mg → mg d.name = some (.ref fa) →
      ∃ (K : PySem.W.Frag) (fd : FuncData) (sp : Sp), K.In h ∧ (∀ (s : Shared) (u : Value), BindsTo s fd ⟨[u], []⟩ [(x, u)]) ∧
        (∀ (H : Hp) (a : Addr) (ns : List Int), ns.length ≤ n → Only H → SqL K H a (ns.map V.int) → sp [.ref a] H (fun v _ => v = .bl true) fun _ _ _ => False) ∧
        ∀ base : Heap, K.In base → base.Ns mainGlobals mg → FnOkG l.prog w K mg base CX k fa fd [x] sp)
    (hCX : ∀ (H : Hp) (s : Shared) (e : Value) (s' : Shared), CX [] H s (fun _ _ _ => False) e s' → False) :
    PySem.W.WalkO q loose XP YP l.row.toRowW d [] (fun f vs => PySem.call f vs) := by
  refine Att.attach_call hn hdf fun w s0 s1 mg mb fa o pm cd doc a vs ns G Y ho hd hcd hmg hobj hints hlen hg => ?_
  obtain ⟨K, fd, sp, KX, hb, hsp, hF⟩ := F w mg fa _ Y G.T.g hmg
  exact lawG KX G.T.g G.T.b G.T.builtins G.T.nolimit hg hobj hints (Nat.le_trans hlen hn2) hr hF hb (fun H hO hS => hsp H a ns hlen hO hS) fun H e s' => hCX H s1 e s'

/-! ### repr of a dict from ints to ints -/
def itemText (q : Int × Int) : Str := Str.ofString (toString q.1) ++ ": " ++ Str.ofString (toString q.2)
def reprI (kns : List (Int × Int)) : Str := dictText (kns.map itemText)
def SmallI (i : Int) : Prop := i.natAbs.log2 < 1920
theorem piled_le (m : Nat) : ∀ ts : List Str, (∀ t ∈ ts, t.length ≤ m) → piled ts ≤ ts.length * (m + 2)
  | [], _ => by simp [piled]
  | t :: r, h => by
    have ih := piled_le m r fun x hx => h x (List.mem_cons_of_mem _ hx)
    have ht := h t List.mem_cons_self
    rw [piled_cons, List.length_cons, Nat.succ_mul]
    omega
theorem reprI_len {kns : List (Int × Int)} (hl : kns.length ≤ 1000) (hs : ∀ q ∈ kns, SmallI q.1 ∧ SmallI q.2) : (reprI kns).length ≤ sizeLine := by
  have h1 : ∀ t ∈ kns.map itemText, t.length ≤ 3844 := fun t ht => by
    obtain ⟨q, hq, rfl⟩ := List.mem_map.mp ht
    obtain ⟨a, b⟩ := hs q hq
    have e1 := int_text_len_1921 a
    have e2 := int_text_len_1921 b
    unfold itemText
    rw [strLen_append, strLen_append]
    have : (": " : Str).length = 2 := rfl
    omega
  have h2 := piled_le 3844 _ h1
  rw [List.length_map] at h2
  have h3 : (reprI kns).length = 1 + (Str.join ", " (kns.map itemText)).length + 1 := by
    unfold reprI dictText
    rw [strLen_append, strLen_append]; rfl
  have h4 : (Str.join ", " (kns.map itemText)).length ≤ piled (kns.map itemText) := by
    by_cases hk : kns.map itemText = []
    · rw [hk]; exact Nat.zero_le _
    · have := join_length_add _ hk
      omega
  have h5 : kns.length * (3844 + 2) ≤ 1000 * 3846 := Nat.mul_le_mul_right _ hl
  rw [sizeLine_eq]
  omega
section
variable {X : Cx}
def kvI' (kns : List (Int × Int)) : List (Key × V) := kns.map fun q => (Sum.inl q.1, V.int q.2)
theorem entriesK {P : Program} {w : World} {as : List Addr} {h0 : Heap} {d : Nat} : ∀ {kns : List (Int × Int)} {ws : List (Key × Value)} {es : List DictEntry}, KV (kvI' kns) ws → Pairs (mixKind P w) es ws → (∀ q ∈ kns, SmallI q.1 ∧ SmallI q.2) →
    ReprEntriesK P w as h0 d es (kns.map itemText)
  | [], _, _, .nil, .nil, _ => .nil
  | q :: r, _, _, .cons h t, .cons h1 h2 t2, hs => by
    obtain ⟨a, b⟩ := hs q List.mem_cons_self
    have ih := entriesK (as := as) (h0 := h0) (d := d) t t2 fun x hx => hs x (List.mem_cons_of_mem _ hx)
    obtain ⟨e1, e2⟩ := h
    rename_i kv kvs' en es'
    have e1' : kv.1 = Sum.inl q.1 := e1.symm
    rw [e1'] at h1
    obtain ⟨tk, ek⟩ := Value.isInt_shape (k := q.1) (v := en.key) h1
    obtain ⟨tv, ev⟩ := (show ∃ t, kv.2 = Value.int q.2 t from e2)
    refine .cons ?_ ?_ ih
    · rw [ek]; exact ReprK.of_is (ReprIs.int tk a) _ _ _
    · rw [h2, ev]; exact ReprK.of_is (ReprIs.int tv b) _ _ _
def rReprD : List V → Hp → VK → Prop := fun vs H Q => ∃ (a : Addr) (kns : List (Int × Int)), vs = [.ref a] ∧ H a = some (.dK (kvI' kns)) ∧ kns.length ≤ 1000 ∧ (∀ q ∈ kns, SmallI q.1 ∧ SmallI q.2) ∧ Q (.str (reprI kns)) H
theorem cr_reprD (hgd : X.A.guards = some []) (hu : X.A.units + 64 < cLine) : CallR X (.builtin "repr") rReprD := by
  intro pins s σ H vs us Q I r h
  obtain ⟨a, kns, rfl, ha, hl, hs, q⟩ := h
  rw [Vals.ref1 r]
  obtain ⟨hz, hsys, ws, kv, o, es, ep, ho, hx, hdat, hkeys, hpairs, hn⟩ := I.hok a _ ha
  refine call_repr_slot (by omega) ⟨o, ho, hx.1⟩ F.slot_dict_repr ?_
  refine call_dict_reprK (as := []) (h₀ := s.heap) (d := 0) ho hx.1 hdat hsys (by simp) (entriesK kv hpairs hs) (g := []) hgd (fun b _ => Clear.nil b) (by show X.A.units + 1 + (0 + 1) < cLine; omega) (fun _ _ e => e) (fun h' u tk hk => ?_) (reprI_len hl hs)
  exact ⟨_, _, rfl, .str (reprI kns), H, I.kept (t' := tk) hk, ⟨_, rfl⟩, q⟩
end
end Mi
namespace Mi
open PySem PySem.Spec PyProof.Rows L2
def top (i : Nat) : Stmt := PySem.Challenge.pw_mirrorpress_k34_whole_gaps_of_great.main.body.getD i (.Pass ⟨0, 0, 0, 0⟩)
abbrev s_is_whole : Stmt := top 12
def d_is_whole : He.DefD := ⟨("is_whole", none), "is_whole", "is_whole", defArgs s_is_whole, defBody s_is_whole, defScope s_is_whole, [], [("least", .int 0), ("most", .non)]⟩
abbrev s_is_letter : Stmt := top 13
def d_is_letter : He.DefD := ⟨("is_letter", none), "is_letter", "is_letter", defArgs s_is_letter, defBody s_is_letter, defScope s_is_letter, [], []⟩
abbrev s_odd_place : Stmt := top 14
def d_odd_place : He.DefD := ⟨("odd_place", none), "odd_place", "odd_place", defArgs s_odd_place, defBody s_odd_place, defScope s_odd_place, [], []⟩
abbrev s_need_presses : Stmt := top 15
def d_need_presses : He.DefD := ⟨("need_presses", none), "need_presses", "need_presses", defArgs s_need_presses, defBody s_need_presses, defScope s_need_presses, [], []⟩
abbrev s_need_text : Stmt := top 16
def d_need_text : He.DefD := ⟨("need_text", none), "need_text", "need_text", defArgs s_need_text, defBody s_need_text, defScope s_need_text, [], []⟩
abbrev s_lasts_of : Stmt := top 19
def d_lasts_of : He.DefD := ⟨("lasts_of", none), "lasts_of", "lasts_of", defArgs s_lasts_of, defBody s_lasts_of, defScope s_lasts_of, [], []⟩
abbrev s_lengths_of : Stmt := top 20
def d_lengths_of : He.DefD := ⟨("lengths_of", none), "lengths_of", "lengths_of", defArgs s_lengths_of, defBody s_lengths_of, defScope s_lengths_of, [], []⟩
abbrev s_length : Stmt := top 21
def d_length : He.DefD := ⟨("length", none), "length", "length", defArgs s_length, defBody s_length, defScope s_length, [], []⟩
abbrev s_growths : Stmt := top 22
def d_growths : He.DefD := ⟨("growths", none), "growths", "growths", defArgs s_growths, defBody s_growths, defScope s_growths, [], []⟩
abbrev s_letter_there : Stmt := top 23
def d_letter_there : He.DefD := ⟨("letter_there", none), "letter_there", "letter_there", defArgs s_letter_there, defBody s_letter_there, defScope s_letter_there, [], []⟩
abbrev s_letter_at : Stmt := top 24
def d_letter_at : He.DefD := ⟨("letter_at", none), "letter_at", "letter_at", defArgs s_letter_at, defBody s_letter_at, defScope s_letter_at, [], []⟩
abbrev s_window : Stmt := top 25
def d_window : He.DefD := ⟨("window", none), "window", "window", defArgs s_window, defBody s_window, defScope s_window, [], []⟩
abbrev s_need_letter : Stmt := top 26
def d_need_letter : He.DefD := ⟨("need_letter", none), "need_letter", "need_letter", defArgs s_need_letter, defBody s_need_letter, defScope s_need_letter, [], []⟩
abbrev s_count_there : Stmt := top 27
def d_count_there : He.DefD := ⟨("count_there", none), "count_there", "count_there", defArgs s_count_there, defBody s_count_there, defScope s_count_there, [], []⟩
abbrev s_counts : Stmt := top 28
def d_counts : He.DefD := ⟨("counts", none), "counts", "counts", defArgs s_counts, defBody s_counts, defScope s_counts, [], []⟩
abbrev s_need_within : Stmt := top 30
def d_need_within : He.DefD := ⟨("need_within", none), "need_within", "need_within", defArgs s_need_within, defBody s_need_within, defScope s_need_within, [], []⟩
abbrev s_added_by : Stmt := top 31
def d_added_by : He.DefD := ⟨("added_by", none), "added_by", "added_by", defArgs s_added_by, defBody s_added_by, defScope s_added_by, [], []⟩
abbrev s_block_length : Stmt := top 32
def d_block_length : He.DefD := ⟨("block_length", none), "block_length", "block_length", defArgs s_block_length, defBody s_block_length, defScope s_block_length, [], []⟩
abbrev s_need_cut : Stmt := top 33
def d_need_cut : He.DefD := ⟨("need_cut", none), "need_cut", "need_cut", defArgs s_need_cut, defBody s_need_cut, defScope s_need_cut, [], []⟩
abbrev s_digits_of : Stmt := top 34
def d_digits_of : He.DefD := ⟨("digits_of", none), "digits_of", "digits_of", defArgs s_digits_of, defBody s_digits_of, defScope s_digits_of, [], []⟩
abbrev s_value_of : Stmt := top 35
def d_value_of : He.DefD := ⟨("value_of", none), "value_of", "value_of", defArgs s_value_of, defBody s_value_of, defScope s_value_of, [], []⟩
abbrev s_block_start : Stmt := top 36
def d_block_start : He.DefD := ⟨("block_start", none), "block_start", "block_start", defArgs s_block_start, defBody s_block_start, defScope s_block_start, [], []⟩
abbrev s_need_piece : Stmt := top 40
def d_need_piece : He.DefD := ⟨("need_piece", none), "need_piece", "need_piece", defArgs s_need_piece, defBody s_need_piece, defScope s_need_piece, [], []⟩
abbrev s_found_home : Stmt := top 41
def d_found_home : He.DefD := ⟨("found_home", none), "found_home", "found_home", defArgs s_found_home, defBody s_found_home, defScope s_found_home, [], []⟩
abbrev s_home : Stmt := top 42
def d_home : He.DefD := ⟨("home", none), "home", "home", defArgs s_home, defBody s_home, defScope s_home, [], []⟩
abbrev s_how_often : Stmt := top 43
def d_how_often : He.DefD := ⟨("how_often", none), "how_often", "how_often", defArgs s_how_often, defBody s_how_often, defScope s_how_often, [], []⟩
abbrev s_place_at : Stmt := top 44
def d_place_at : He.DefD := ⟨("place_at", none), "place_at", "place_at", defArgs s_place_at, defBody s_place_at, defScope s_place_at, [], []⟩
abbrev s_parted_at : Stmt := top 46
def d_parted_at : He.DefD := ⟨("parted_at", none), "parted_at", "parted_at", defArgs s_parted_at, defBody s_parted_at, defScope s_parted_at, [], []⟩
abbrev s_gaps : Stmt := top 47
def d_gaps : He.DefD := ⟨("gaps", none), "gaps", "gaps", defArgs s_gaps, defBody s_gaps, defScope s_gaps, [], []⟩
abbrev s_gap_presses : Stmt := top 48
def d_gap_presses : He.DefD := ⟨("gap_presses", none), "gap_presses", "gap_presses", defArgs s_gap_presses, defBody s_gap_presses, defScope s_gap_presses, [], []⟩
abbrev s_gap_letter : Stmt := top 49
def d_gap_letter : He.DefD := ⟨("gap_letter", none), "gap_letter", "gap_letter", defArgs s_gap_letter, defBody s_gap_letter, defScope s_gap_letter, [], []⟩
abbrev s_gap : Stmt := top 50
def d_gap : He.DefD := ⟨("gap", none), "gap", "gap", defArgs s_gap, defBody s_gap, defScope s_gap, [], []⟩
abbrev s_law_begun : Stmt := top 52
def d_law_begun : He.DefD := ⟨("_law_begun", none), "_law_begun", "_law_begun", defArgs s_law_begun, defBody s_law_begun, defScope s_law_begun, [], []⟩
abbrev s_law_take : Stmt := top 53
def d_law_take : He.DefD := ⟨("_law_take", none), "_law_take", "_law_take", defArgs s_law_take, defBody s_law_take, defScope s_law_take, [], []⟩
abbrev s_law_of : Stmt := top 54
def d_law_of : He.DefD := ⟨("_law_of", none), "_law_of", "_law_of", defArgs s_law_of, defBody s_law_of, defScope s_law_of, [], []⟩
abbrev s_law_letters : Stmt := top 55
def d_law_letters : He.DefD := ⟨("_law_letters", none), "_law_letters", "_law_letters", defArgs s_law_letters, defBody s_law_letters, defScope s_law_letters, [], []⟩
abbrev s_law_row : Stmt := top 56
def d_law_row : He.DefD := ⟨("_law_row", none), "_law_row", "_law_row", defArgs s_law_row, defBody s_law_row, defScope s_law_row, [], []⟩
abbrev s_law_lens : Stmt := top 57
def d_law_lens : He.DefD := ⟨("_law_lens", none), "_law_lens", "_law_lens", defArgs s_law_lens, defBody s_law_lens, defScope s_law_lens, [], []⟩
abbrev s_law_far : Stmt := top 58
def d_law_far : He.DefD := ⟨("_law_far", none), "_law_far", "_law_far", defArgs s_law_far, defBody s_law_far, defScope s_law_far, [], []⟩
abbrev s_law_seen : Stmt := top 59
def d_law_seen : He.DefD := ⟨("_law_seen", none), "_law_seen", "_law_seen", defArgs s_law_seen, defBody s_law_seen, defScope s_law_seen, [], []⟩
abbrev s_law_due : Stmt := top 60
def d_law_due : He.DefD := ⟨("_law_due", none), "_law_due", "_law_due", defArgs s_law_due, defBody s_law_due, defScope s_law_due, [], []⟩
abbrev s_law_right : Stmt := top 61
def d_law_right : He.DefD := ⟨("_law_right", none), "_law_right", "_law_right", defArgs s_law_right, defBody s_law_right, defScope s_law_right, [], []⟩
abbrev s_law : Stmt := top 62
def d_law : He.DefD := ⟨("law", none), "law", "law", defArgs s_law, defBody s_law, defScope s_law, [], []⟩
abbrev s_c_init : Stmt := inClass (top 39) 0
def d_c_init : He.DefD := ⟨("Copies", some "__init__"), "__init__", "Copies.__init__", defArgs s_c_init, defBody s_c_init, defScope s_c_init, [], []⟩
abbrev s_c_len : Stmt := inClass (top 39) 1
def d_c_len : He.DefD := ⟨("Copies", some "__len__"), "__len__", "Copies.__len__", defArgs s_c_len, defBody s_c_len, defScope s_c_len, [], []⟩
abbrev s_c_size : Stmt := inClass (top 39) 2
def d_c_size : He.DefD := ⟨("Copies", some "size"), "size", "Copies.size", defArgs s_c_size, defBody s_c_size, defScope s_c_size, [], []⟩
abbrev s_c_head : Stmt := inClass (top 39) 5
def d_c_head : He.DefD := ⟨("Copies", some "head"), "head", "Copies.head", defArgs s_c_head, defBody s_c_head, defScope s_c_head, [], []⟩
abbrev s_c_midst : Stmt := inClass (top 39) 6
def d_c_midst : He.DefD := ⟨("Copies", some "midst"), "midst", "Copies.midst", defArgs s_c_midst, defBody s_c_midst, defScope s_c_midst, [], []⟩
def fn0 : List He.DefD := [d_is_whole, d_is_letter, d_odd_place, d_need_presses, d_need_text, d_lasts_of, d_lengths_of, d_length, d_growths, d_letter_there, d_letter_at, d_window, d_need_letter, d_count_there, d_counts, d_need_within, d_added_by, d_block_length, d_need_cut, d_digits_of, d_value_of, d_block_start, d_need_piece, d_found_home, d_home, d_how_often, d_place_at, d_parted_at, d_gaps, d_gap_presses]
def fn1 : List He.DefD := [d_gap_letter, d_gap, d_law_begun, d_law_take, d_law_of, d_law_letters, d_law_row, d_law_lens, d_law_far, d_law_seen, d_law_due, d_law_right, d_law, d_c_init, d_c_len, d_c_size, d_c_head, d_c_midst]
def fn : List He.DefD := fn0 ++ fn1
def fa0 : List He.Fa := [.glo "is_whole", .glo "is_letter", .glo "odd_place", .glo "need_presses", .glo "need_text", .glo "lasts_of", .glo "lengths_of", .glo "length", .glo "growths", .glo "letter_there", .glo "letter_at", .glo "window", .glo "need_letter", .glo "count_there", .glo "counts", .glo "need_within", .glo "added_by", .glo "block_length", .glo "need_cut", .glo "digits_of", .glo "value_of", .glo "block_start", .glo "need_piece", .glo "found_home", .glo "home", .glo "how_often", .glo "place_at", .glo "parted_at", .glo "gaps", .glo "gap_presses"]
def fa1 : List He.Fa := [.glo "gap_letter", .glo "gap", .glo "_law_begun", .glo "_law_take", .glo "_law_of", .glo "_law_letters", .glo "_law_row", .glo "_law_lens", .glo "_law_far", .glo "_law_seen", .glo "_law_due", .glo "_law_right", .glo "law", .glo "Copies", .free "isinstance", .free "int", .free "str", .free "bool", .free "len", .free "enumerate", .free "tuple", .free "zip", .free "range", .free "min", .free "sorted", .free "set", .free "sum", .free "dict", .free "repr", .free "list"]
def fa2 : List He.Fa := [.int "MOST_TEXT" 20000, .int "MOST_PRESSES" 200, .int "MOST_WINDOW" 1000, .int "MOST_PIECE" 200, .str "LETTERS" "abcdefghijklmnopqrstuvwxyz", .cls "Copies", .mkr "Copies", .noat "Copies" "copy_presses", .noat "Copies" "copy_lengths", .noat "Copies" "copy_shared", .meth "Copies" "__len__", .meth "Copies" "size", .meth "Copies" "head", .meth "Copies" "midst"]
def fa : List He.Fa := fa0 ++ fa1 ++ fa2
def loose0 : List Str := ["MirrorError", "BadPresses", "BadText", "Lack", "NoPiece", "BadKind", "BadNumber", "MOST_TEXT", "MOST_PRESSES", "LETTERS", "is_whole", "is_letter", "odd_place", "need_presses", "need_text", "MOST_WINDOW", "lasts_of", "lengths_of", "length", "growths", "letter_there", "letter_at", "window", "need_letter", "count_there", "counts", "need_within", "added_by", "block_length", "need_cut"]
def loose1 : List Str := ["digits_of", "value_of", "block_start", "MOST_PIECE", "Copies", "need_piece", "found_home", "home", "how_often", "place_at", "parted_at", "gaps", "gap_presses", "gap_letter", "gap", "_law_begun", "_law_take", "_law_of", "_law_letters", "_law_row", "_law_lens", "_law_far", "_law_seen", "_law_due", "_law_right"]
def loose : List Str := loose0 ++ loose1
abbrev R : PySem.W.OpenRow := PySem.W.OpenLaw.row PySem.Challenge.rw_mirrorpress_k34_whole_gaps_of_great
abbrev hk : PySem.W.Hook := He.hookD 6 fa fn
def ob (s : PySem.W.SharedT) : He.AlD := He.obsDG 6 fa fn (HandSHeadRun.getT s)
theorem ob_eq (s : PySem.W.SharedT) : ob s = hk.obs s.abs := He.obsDG_eq (HandSHeadRun.getT_eq s)
theorem run (w : World) : HandSHeadRun.RunEq R (PySem.W.view R.prog [62]) hk ob 4000 loose w := by
  intro os
  kernel_rfl
end Mi
namespace Mi
/-! ### rows of presses, the last one first -/
/-- what stands behind the first x -/
def cut (x : Nat) : List Nat → Option (List Nat)
  | [] => none
  | y :: r => if y = x then some r else cut x r

theorem cut_split {x : Nat} : ∀ {r s : List Nat}, cut x r = some s → ∃ a, r = a ++ x :: s ∧ x ∉ a
  | [], s, h => by cases h
  | y :: r, s, h => by
    unfold cut at h
    by_cases e : y = x
    · rw [if_pos e] at h
      cases h
      exact ⟨[], by simp [e], by simp⟩
    · rw [if_neg e] at h
      obtain ⟨a, h1, h2⟩ := cut_split h
      exact ⟨y :: a, by simp [h1], by simp only [List.mem_cons, not_or]; exact ⟨fun z => e z.symm, h2⟩⟩
theorem cut_lt {x : Nat} {r s : List Nat} (h : cut x r = some s) : s.length < r.length := by
  obtain ⟨a, e, _⟩ := cut_split h
  rw [e, List.length_append, List.length_cons]; omega
theorem cut_none {x : Nat} : ∀ {r : List Nat}, cut x r = none ↔ x ∉ r
  | [] => by simp [cut]
  | y :: r => by
    unfold cut
    by_cases e : y = x
    · rw [if_pos e]; simp [e]
    · rw [if_neg e, cut_none, List.mem_cons, not_or]
      exact ⟨fun h => ⟨fun z => e z.symm, h⟩, fun h => h.2⟩
theorem cut_of_not {x : Nat} {r : List Nat} (h : x ∉ r) : cut x r = none := cut_none.mpr h
theorem cut_app_not {x : Nat} : ∀ {a : List Nat} (r : List Nat), x ∉ a → cut x (a ++ r) = cut x r
  | [], _, _ => rfl
  | y :: a, r, h => by
    rw [List.mem_cons, not_or] at h
    show (if y = x then some (a ++ r) else cut x (a ++ r)) = _
    rw [if_neg (fun z => h.1 z.symm)]
    exact cut_app_not r h.2
theorem cut_app_some {x : Nat} {a r s : List Nat} (h : cut x a = some s) : cut x (a ++ r) = some (s ++ r) := by
  obtain ⟨b, e, hb⟩ := cut_split h
  rw [e, List.append_assoc, cut_app_not _ hb, List.cons_append]
  show (if x = x then some (s ++ r) else _) = _
  rw [if_pos rfl]
theorem cut_suffix {x : Nat} {r s : List Nat} (h : cut x r = some s) : ∃ a, r = a ++ s := by
  obtain ⟨a, e, _⟩ := cut_split h
  exact ⟨a ++ [x], by rw [e]; simp⟩

/-- how many letters the mirror has -/
def Lr : List Nat → Int
  | [] => 0
  | x :: r => match _h : cut x r with
    | none => 2 * Lr r + 1
    | some s => 2 * Lr r - Lr s
termination_by l => l.length
decreasing_by
  · simp
  · simp
  · have := cut_lt _h; simp; omega
theorem Lr_nil : Lr [] = 0 := by unfold Lr; rfl
theorem Lr_none {x : Nat} {r : List Nat} (h : cut x r = none) : Lr (x :: r) = 2 * Lr r + 1 := by
  rw [Lr]
  split
  · rfl
  · rename_i s e; rw [h] at e; cases e
theorem Lr_some {x : Nat} {r s : List Nat} (h : cut x r = some s) : Lr (x :: r) = 2 * Lr r - Lr s := by
  rw [Lr]
  split
  · rename_i e; rw [h] at e; cases e
  · rename_i s' e; rw [h] at e; cases e; rfl
theorem Lr_cons (x : Nat) (r : List Nat) : Lr (x :: r) = match cut x r with | none => 2 * Lr r + 1 | some s => 2 * Lr r - Lr s := by
  cases e : cut x r with
  | none => exact Lr_none e
  | some s => exact Lr_some e

/-- the mirror -/
def Mr : List Nat → List Nat
  | [] => []
  | x :: r => match _h : cut x r with
    | none => Mr r ++ x :: Mr r
    | some s => Mr r ++ (Mr r).drop (Mr s).length
termination_by l => l.length
decreasing_by
  all_goals first
    | (simp; done)
    | (have := cut_lt _h; simp; omega)
theorem Mr_nil : Mr [] = [] := by unfold Mr; rfl
theorem Mr_none {x : Nat} {r : List Nat} (h : cut x r = none) : Mr (x :: r) = Mr r ++ x :: Mr r := by
  rw [Mr]
  split
  · rfl
  · rename_i s e; rw [h] at e; cases e
theorem Mr_some {x : Nat} {r s : List Nat} (h : cut x r = some s) : Mr (x :: r) = Mr r ++ (Mr r).drop (Mr s).length := by
  rw [Mr]
  split
  · rename_i e; rw [h] at e; cases e
  · rename_i s' e; rw [h] at e; cases e; rfl
/-- the mirror of a row's rest stands at its beginning -/
theorem Mr_head (x : Nat) (r : List Nat) : ∃ t, Mr (x :: r) = Mr r ++ t := by
  cases e : cut x r with
  | none => exact ⟨_, Mr_none e⟩
  | some s => exact ⟨_, Mr_some e⟩
theorem Mr_pre : ∀ (a r : List Nat), ∃ t, Mr (a ++ r) = Mr r ++ t
  | [], r => ⟨[], by simp⟩
  | x :: a, r => by
    obtain ⟨t, e⟩ := Mr_pre a r
    obtain ⟨u, e2⟩ := Mr_head x (a ++ r)
    exact ⟨t ++ u, by rw [List.cons_append, e2, e, List.append_assoc]⟩
theorem Mr_len : ∀ (n : Nat) (r : List Nat), r.length ≤ n → ((Mr r).length : Int) = Lr r := by
  intro n
  induction n with
  | zero =>
    intro r h
    have : r = [] := List.length_eq_zero_iff.mp (by omega)
    subst this
    rw [Mr_nil, Lr_nil]; rfl
  | succ n ih =>
    intro r h
    cases r with
    | nil => rw [Mr_nil, Lr_nil]; rfl
    | cons x r =>
      have hr : r.length ≤ n := by simp at h; omega
      have e1 := ih r hr
      cases e : cut x r with
      | none =>
        rw [Mr_none e, Lr_none e, List.length_append, List.length_cons]
        omega
      | some s =>
        have e2 := ih s (by have := cut_lt e; omega)
        obtain ⟨a, ea⟩ := cut_suffix e
        obtain ⟨t, et⟩ := Mr_pre a s
        rw [← ea] at et
        have e3 := congrArg List.length et
        rw [List.length_append] at e3
        rw [Mr_some e, Lr_some e, List.length_append, List.length_drop]
        omega
theorem len_Mr (r : List Nat) : ((Mr r).length : Int) = Lr r := Mr_len r.length r (Nat.le_refl _)
theorem Lr_nonneg (r : List Nat) : 0 ≤ Lr r := by rw [← len_Mr]; omega
theorem Lr_pre (a r : List Nat) : Lr r ≤ Lr (a ++ r) := by
  obtain ⟨t, e⟩ := Mr_pre a r
  have := congrArg List.length e
  rw [List.length_append] at this
  rw [← len_Mr, ← len_Mr]; omega
theorem Lr_le (x : Nat) (r : List Nat) : Lr r ≤ Lr (x :: r) := Lr_pre [x] r
/-- a mirror is one -/
theorem Mr_rev : ∀ (n : Nat) (r : List Nat), r.length ≤ n → (Mr r).reverse = Mr r := by
  intro n
  induction n with
  | zero =>
    intro r h
    have : r = [] := List.length_eq_zero_iff.mp (by omega)
    subst this
    rw [Mr_nil]; rfl
  | succ n ih =>
    intro r h
    cases r with
    | nil => rw [Mr_nil]; rfl
    | cons x r =>
      have hr : r.length ≤ n := by simp at h; omega
      have e1 := ih r hr
      cases e : cut x r with
      | none =>
        rw [Mr_none e, List.reverse_append, List.reverse_cons, e1, List.append_assoc]
        rfl
      | some s =>
        have e2 := ih s (by have := cut_lt e; omega)
        obtain ⟨a, ea⟩ := cut_suffix e
        obtain ⟨t, et⟩ := Mr_pre a s
        rw [← ea] at et
        -- M r = M s ++ t = t.reverse ++ M s
        have e3 : Mr r = t.reverse ++ Mr s := by
          have := congrArg List.reverse et
          rw [e1, List.reverse_append, e2] at this
          exact this
        have ed : (Mr r).drop (Mr s).length = t := by rw [et]; simp
        rw [Mr_some e, ed, List.reverse_append, e1]
        conv => lhs; rw [et]
        conv => rhs; rw [e3]
        rw [List.append_assoc]
theorem rev_Mr (r : List Nat) : (Mr r).reverse = Mr r := Mr_rev r.length r (Nat.le_refl _)
/-- .. and at its end -/
theorem Mr_end (x : Nat) (r : List Nat) : ∃ t, Mr (x :: r) = t ++ Mr r ∧ (t.length : Int) = Lr (x :: r) - Lr r := by
  obtain ⟨t, e⟩ := Mr_head x r
  have := congrArg List.reverse e
  rw [rev_Mr, List.reverse_append, rev_Mr] at this
  refine ⟨t.reverse, this, ?_⟩
  have l := congrArg List.length this
  rw [List.length_append] at l
  rw [← len_Mr, ← len_Mr]; omega
/-- what a press adds -/
theorem grow_le (x : Nat) (r : List Nat) : Lr (x :: r) - Lr r ≤ Lr r + 1 := by
  cases e : cut x r with
  | none => rw [Lr_none e]; omega
  | some s => rw [Lr_some e]; have := Lr_nonneg s; omega
theorem grow_some {x : Nat} {r s : List Nat} (e : cut x r = some s) : Lr (x :: r) - Lr r = Lr r - Lr s := by rw [Lr_some e]; omega
theorem grow_pos (x : Nat) (r : List Nat) : 0 < Lr (x :: r) - Lr r := by
  induction r generalizing x with
  | nil => rw [Lr_none (by rfl), Lr_nil]; decide
  | cons y r ih =>
    cases e : cut x (y :: r) with
    | none => rw [Lr_none e]; have := Lr_nonneg (y :: r); omega
    | some s =>
      rw [grow_some e]
      obtain ⟨a, ea, _⟩ := cut_split e
      cases a with
      | nil =>
        injection ea with e1 e2
        subst e1 e2
        exact ih y
      | cons z a =>
        injection ea with e1 e2
        subst e1
        have h1 := ih y
        have h2 : Lr s ≤ Lr r := by
          have : r = (a ++ [x]) ++ s := by rw [e2]; simp
          rw [this]; exact Lr_pre _ _
        omega
theorem Mr_mem : ∀ (n : Nat) (r : List Nat), r.length ≤ n → ∀ y, y ∈ Mr r → y ∈ r := by
  intro n
  induction n with
  | zero =>
    intro r h y hy
    have : r = [] := List.length_eq_zero_iff.mp (by omega)
    subst this
    rw [Mr_nil] at hy; exact hy
  | succ n ih =>
    intro r h y hy
    cases r with
    | nil => rw [Mr_nil] at hy; exact hy
    | cons x r =>
      have hr : r.length ≤ n := by simp at h; omega
      cases e : cut x r with
      | none =>
        rw [Mr_none e] at hy
        rcases List.mem_append.mp hy with h1 | h1
        · exact List.mem_cons_of_mem _ (ih r hr y h1)
        · rcases List.mem_cons.mp h1 with h2 | h2
          · rw [h2]; exact List.mem_cons_self
          · exact List.mem_cons_of_mem _ (ih r hr y h2)
      | some s =>
        rw [Mr_some e] at hy
        rcases List.mem_append.mp hy with h1 | h1
        · exact List.mem_cons_of_mem _ (ih r hr y h1)
        · exact List.mem_cons_of_mem _ (ih r hr y (List.mem_of_mem_drop h1))
theorem mem_Mr {r : List Nat} {y : Nat} (h : y ∈ Mr r) : y ∈ r := Mr_mem r.length r (Nat.le_refl _) y h
end Mi
namespace Mi
/-! ### blocks -/
/-- the block of y by u: how many letters y adds -/
def Bk (u : List Nat) (y : Nat) : Int := Lr (y :: u) - Lr u
theorem Bk_none {u : List Nat} {y : Nat} (h : cut y u = none) : Bk u y = Lr u + 1 := by unfold Bk; rw [Lr_none h]; omega
theorem Bk_some {u s : List Nat} {y : Nat} (h : cut y u = some s) : Bk u y = Lr u - Lr s := by unfold Bk; rw [Lr_some h]; omega
/-- all blocks of a text -/
def Sb (u l : List Nat) : Int := (l.map (Bk u)).sum
theorem Sb_nil (u : List Nat) : Sb u [] = 0 := rfl
theorem Sb_cons (u : List Nat) (x : Nat) (l : List Nat) : Sb u (x :: l) = Bk u x + Sb u l := by unfold Sb; rw [List.map_cons, List.sum_cons]
theorem Sb_app (u a b : List Nat) : Sb u (a ++ b) = Sb u a + Sb u b := by unfold Sb; rw [List.map_append, List.sum_append]
theorem Sb_all : ∀ (n : Nat) (u t : List Nat), t.length ≤ n → Sb u (Mr t) = Lr (t ++ u) - Lr u := by
  intro n
  induction n with
  | zero =>
    intro u t h
    have : t = [] := List.length_eq_zero_iff.mp (by omega)
    subst this
    rw [Mr_nil, Sb_nil, List.nil_append]; omega
  | succ n ih =>
    intro u t h
    cases t with
    | nil => rw [Mr_nil, Sb_nil, List.nil_append]; omega
    | cons x r =>
      have hr : r.length ≤ n := by simp at h; omega
      have e1 := ih u r hr
      rw [List.cons_append]
      cases e : cut x r with
      | none =>
        rw [Mr_none e, Sb_app, Sb_cons, e1]
        have ec : cut x (r ++ u) = cut x u := cut_app_not u (cut_none.mp e)
        cases eu : cut x u with
        | none => rw [Lr_none (ec.trans eu), Bk_none eu]; omega
        | some s => rw [Lr_some (ec.trans eu), Bk_some eu]; omega
      | some s =>
        have e2 := ih u s (by have := cut_lt e; omega)
        obtain ⟨a, ea⟩ := cut_suffix e
        obtain ⟨q, et⟩ := Mr_pre a s
        rw [← ea] at et
        have ed : (Mr r).drop (Mr s).length = q := by rw [et]; simp
        have e3 : Sb u (Mr r) = Sb u (Mr s) + Sb u q := by rw [et, Sb_app]
        rw [Mr_some e, ed, Sb_app, Lr_some (cut_app_some e)]
        omega
theorem Sb_Mr (u t : List Nat) : Sb u (Mr t) = Lr (t ++ u) - Lr u := Sb_all t.length u t (Nat.le_refl _)

/-! ### places by digits -/
/-- from the last press on: the digits of a number by growths, and what they are worth by others -/
def digR : List Int → Int → List Int
  | [], _ => []
  | g :: gs, n => if g ≤ n then 1 :: digR gs (n - g) else 0 :: digR gs n
theorem digR_len : ∀ (gs : List Int) (n : Int), (digR gs n).length = gs.length
  | [], _ => rfl
  | g :: gs, n => by
    unfold digR
    by_cases h : g ≤ n
    · rw [if_pos h, List.length_cons, List.length_cons, digR_len]
    · rw [if_neg h, List.length_cons, List.length_cons, digR_len]
def valR : List Int → List Int → Int
  | g :: gs, d :: ds => (if d = 1 then g else 0) + valR gs ds
  | _, _ => 0
/-- the growths, from the last press on, u standing ahead -/
def groU (u : List Nat) : List Nat → List Int
  | [] => []
  | x :: r => (Lr (x :: (r ++ u)) - Lr (r ++ u)) :: groU u r
theorem groU_len (u : List Nat) : ∀ t : List Nat, (groU u t).length = t.length
  | [] => rfl
  | x :: r => by unfold groU; rw [List.length_cons, List.length_cons, groU_len]
theorem groU_app (u : List Nat) : ∀ t : List Nat, groU [] (t ++ u) = groU u t ++ groU [] u
  | [] => rfl
  | x :: r => by
    show (Lr (x :: ((r ++ u) ++ [])) - Lr ((r ++ u) ++ [])) :: groU [] (r ++ u) = (Lr (x :: (r ++ u)) - Lr (r ++ u)) :: (groU u r ++ groU [] u)
    rw [List.append_nil, groU_app u r]
theorem place_val (u : List Nat) : ∀ (t : List Nat) (n : Int), 0 ≤ n → n ≤ Lr t → valR (groU u t) (digR (groU [] t) n) = Sb u ((Mr t).take n.toNat)
  | [], n, _, _ => by simp [groU, digR, valR, Mr_nil, Sb_nil]
  | x :: r, n, h0, h1 => by
    have hg : groU [] (x :: r) = (Lr (x :: r) - Lr r) :: groU [] r := by unfold groU; rw [List.append_nil]; cases r <;> rfl
    have hu : groU u (x :: r) = (Lr (x :: (r ++ u)) - Lr (r ++ u)) :: groU u r := rfl
    obtain ⟨t, et, el⟩ := Mr_end x r
    obtain ⟨t', et'⟩ := Mr_head x r
    have gl := grow_le x r
    have lr := len_Mr r
    rw [hg, hu]
    unfold digR
    by_cases h : Lr (x :: r) - Lr r ≤ n
    · rw [if_pos h]
      show (if (1 : Int) = 1 then _ else _) + _ = _
      rw [if_pos rfl, place_val u r _ (by omega) (by omega)]
      have e1 : (Mr (x :: r)).take n.toNat = t ++ (Mr r).take (n - (Lr (x :: r) - Lr r)).toNat := by
        rw [et, List.take_append, List.take_of_length_le (by omega)]
        congr 2
        omega
      rw [e1, Sb_app]
      have a1 := Sb_Mr u (x :: r)
      have a2 := Sb_Mr u r
      rw [et, Sb_app, List.cons_append] at a1
      omega
    · rw [if_neg h]
      show (if (0 : Int) = 1 then _ else _) + _ = _
      rw [if_neg (by decide), place_val u r n h0 (by omega), Int.zero_add, et', List.take_append]
      have : n.toNat - (Mr r).length = 0 := by omega
      rw [this, List.take_zero, List.append_nil]
/-- from one place to the next there is the block of the letter -/
theorem place_step (u t : List Nat) (n : Nat) (y : Nat) (h : (Mr t)[n]? = some y) :
    valR (groU u t) (digR (groU [] t) ((n : Int) + 1)) - valR (groU u t) (digR (groU [] t) n) = Bk u y := by
  have hn : n < (Mr t).length := (List.getElem?_eq_some_iff.mp h).1
  have lt := len_Mr t
  rw [place_val u t _ (by omega) (by omega), place_val u t _ (by omega) (by omega)]
  have e1 : ((n : Int) + 1).toNat = n + 1 := by omega
  have e2 : (n : Int).toNat = n := by omega
  rw [e1, e2, List.take_add_one, h, Sb_app]
  show Sb u _ + Sb u [y] - _ = _
  rw [Sb_cons, Sb_nil]
  omega

/-! ### letters at places -/
def ltR : List Nat → Int → Option Nat
  | [], _ => none
  | x :: r, n => if Lr r ≤ n then (if n = Lr r ∧ Lr (x :: r) = 2 * Lr r + 1 then some x else ltR r (n - (Lr (x :: r) - Lr r))) else ltR r n
theorem ltR_ok : ∀ (t : List Nat) (n : Int), 0 ≤ n → n < Lr t → ltR t n = (Mr t)[n.toNat]?
  | [], n, h0, h1 => by rw [Lr_nil] at h1; omega
  | x :: r, n, h0, h1 => by
    unfold ltR
    have lr := len_Mr r
    by_cases h : Lr r ≤ n
    · rw [if_pos h]
      by_cases h2 : n = Lr r ∧ Lr (x :: r) = 2 * Lr r + 1
      · rw [if_pos h2]
        have hc : cut x r = none := by
          cases e : cut x r with
          | none => rfl
          | some s => have := Lr_some e; have := Lr_nonneg s; omega
        rw [Mr_none hc, List.getElem?_append_right (by omega)]
        have : n.toNat - (Mr r).length = 0 := by omega
        rw [this]; rfl
      · rw [if_neg h2]
        obtain ⟨t, et, el⟩ := Mr_end x r
        have gl := grow_le x r
        have hlt : n - (Lr (x :: r) - Lr r) < Lr r := by omega
        have hge : Lr (x :: r) - Lr r ≤ n := by
          cases e : cut x r with
          | none => have := Lr_none e; omega
          | some s => have := Lr_some e; have := Lr_nonneg s; omega
        rw [ltR_ok r _ (by omega) hlt, et, List.getElem?_append_right (by omega)]
        congr 1
        omega
    · rw [if_neg h, ltR_ok r n h0 (by omega)]
      obtain ⟨t', et'⟩ := Mr_head x r
      rw [et', List.getElem?_append_left (by omega)]
/-- alike from both ends -/
theorem Mr_sym (t : List Nat) (n : Nat) (h : n < (Mr t).length) : (Mr t)[(Mr t).length - 1 - n]? = (Mr t)[n]? := by
  have e : (Mr t)[(Mr t).length - 1 - n]? = (Mr t).reverse[(Mr t).length - 1 - n]? := by rw [rev_Mr]
  rw [e, List.getElem?_reverse (by omega)]
  congr 1
  omega

/-! ### how often a letter stands -/
/-- what is pressed behind the first press of y (in rows the last one first: what stands ahead of the last y) -/
def pre1 (y : Nat) : List Nat → Option (List Nat)
  | [] => none
  | x :: r => match pre1 y r with
    | some a => some (x :: a)
    | none => if x = y then some [] else none
theorem pre1_none {y : Nat} : ∀ {r : List Nat}, pre1 y r = none ↔ y ∉ r
  | [] => by simp [pre1]
  | x :: r => by
    unfold pre1
    cases e : pre1 y r with
    | none =>
      have := (pre1_none (y := y) (r := r)).mp e
      by_cases h : x = y
      · simp [h]
      · simp only [if_neg h, List.mem_cons, not_or, true_iff]
        exact ⟨fun z => h z.symm, this⟩
    | some a =>
      have : y ∈ r := by
        cases Classical.em (y ∈ r) with
        | inl h => exact h
        | inr h => rw [(pre1_none (y := y) (r := r)).mpr h] at e; cases e
      simp [this]
theorem pre1_some {y : Nat} : ∀ {r a : List Nat}, pre1 y r = some a → ∃ b, r = a ++ y :: b ∧ y ∉ b
  | [], a, h => by cases h
  | x :: r, a, h => by
    unfold pre1 at h
    cases e : pre1 y r with
    | none =>
      rw [e] at h
      dsimp only at h
      by_cases h2 : x = y
      · rw [if_pos h2] at h; cases h
        exact ⟨r, by rw [h2]; rfl, pre1_none.mp e⟩
      · rw [if_neg h2] at h; cases h
    | some a' =>
      rw [e] at h
      cases h
      obtain ⟨b, e1, e2⟩ := pre1_some e
      exact ⟨b, by rw [e1]; rfl, e2⟩
theorem pre1_of {y : Nat} : ∀ (a b : List Nat), y ∉ b → pre1 y (a ++ y :: b) = some a
  | [], b, h => by
    show (match pre1 y b with | some a => some (y :: a) | none => if y = y then some [] else none) = _
    rw [pre1_none.mpr h]; simp
  | x :: a, b, h => by
    show (match pre1 y (a ++ y :: b) with | some a => some (x :: a) | none => if x = y then some [] else none) = _
    rw [pre1_of a b h]
def cnt (y : Nat) (t : List Nat) : Int := match pre1 y t with
  | none => 0
  | some a => Lr a + 1
theorem cnt_of {y : Nat} (a b : List Nat) (h : y ∉ b) : cnt y (a ++ y :: b) = Lr a + 1 := by unfold cnt; rw [pre1_of a b h]
theorem cnt_not {y : Nat} {t : List Nat} (h : y ∉ t) : cnt y t = 0 := by unfold cnt; rw [pre1_none.mpr h]
theorem cnt_all : ∀ (n : Nat) (t : List Nat), t.length ≤ n → ∀ y, cnt y t = ((Mr t).count y : Int) := by
  intro n
  induction n with
  | zero =>
    intro t h y
    have : t = [] := List.length_eq_zero_iff.mp (by omega)
    subst this
    rw [Mr_nil]; rfl
  | succ n ih =>
    intro t h y
    cases t with
    | nil => rw [Mr_nil]; rfl
    | cons x r =>
      have hr : r.length ≤ n := by simp at h; omega
      have e1 := ih r hr y
      cases ep : pre1 y r with
      | none =>
        have hy := pre1_none.mp ep
        by_cases hx : x = y
        · subst hx
          have c0 : (Mr r).count x = 0 := List.count_eq_zero.mpr fun z => hy (mem_Mr z)
          rw [Mr_none (cut_of_not hy), List.count_append, List.count_cons_self, c0]
          have := cnt_of (y := x) [] r hy
          rw [List.nil_append, Lr_nil] at this
          rw [this]; rfl
        · have h2 : y ∉ x :: r := by simp only [List.mem_cons, not_or]; exact ⟨fun z => hx z.symm, hy⟩
          rw [cnt_not h2, List.count_eq_zero.mpr fun z => h2 (mem_Mr z)]; rfl
      | some a =>
        obtain ⟨b, er, hb⟩ := pre1_some ep
        have ec : cnt y (x :: r) = Lr (x :: a) + 1 := by rw [er, ← List.cons_append]; exact cnt_of _ _ hb
        have ec2 : cnt y r = Lr a + 1 := by rw [er]; exact cnt_of _ _ hb
        rw [ec]
        cases e : cut x r with
        | none =>
          have hx := cut_none.mp e
          have hxy : ¬ x = y := fun z => hx (by rw [er, z]; simp)
          have hxa : x ∉ a := fun z => hx (by rw [er]; simp [z])
          rw [Mr_none e, Lr_none (cut_of_not hxa), List.count_append, List.count_cons, if_neg (by simpa using hxy)]
          omega
        | some s =>
          have e2 := ih s (by have := cut_lt e; omega) y
          obtain ⟨a', ea⟩ := cut_suffix e
          obtain ⟨q, et⟩ := Mr_pre a' s
          rw [← ea] at et
          have ed : (Mr r).drop (Mr s).length = q := by rw [et]; simp
          have e3 : (Mr r).count y = (Mr s).count y + q.count y := by rw [et, List.count_append]
          rw [Mr_some e, ed, List.count_append]
          cases ea2 : cut x a with
          | some s0 =>
            have es : s = s0 ++ y :: b := by
              have := cut_app_some (r := y :: b) ea2
              rw [← er, e] at this
              exact Option.some.inj this
            have ec3 : cnt y s = Lr s0 + 1 := by rw [es]; exact cnt_of _ _ hb
            rw [Lr_some ea2]
            omega
          | none =>
            have hxa := cut_none.mp ea2
            have ey : cut x (y :: b) = some s := by
              have := cut_app_not (y :: b) hxa
              rw [← er, e] at this
              exact this.symm
            have hys : y ∉ s := by
              obtain ⟨c, ecc, hc⟩ := cut_split ey
              cases c with
              | nil =>
                injection ecc with _ e5
                rw [← e5]; exact hb
              | cons z c =>
                injection ecc with _ e5
                exact fun m => hb (by rw [e5]; simp [m])
            have ec3 : cnt y s = 0 := cnt_not hys
            rw [Lr_none ea2]
            omega
theorem cnt_eq (y : Nat) (t : List Nat) : cnt y t = ((Mr t).count y : Int) := cnt_all t.length t (Nat.le_refl _) y
/-- over all letters -/
theorem sum_count1 (f : Nat → Int) (x : Nat) (l : List Nat) : ∀ ys : List Nat, ys.Nodup → x ∈ ys → (ys.map fun y => f y * ((x :: l).count y : Int)).sum = f x + (ys.map fun y => f y * (l.count y : Int)).sum
  | [], _, hx => nomatch hx
  | y :: ys, hn, hx => by
    rw [List.nodup_cons] at hn
    rw [List.map_cons, List.sum_cons, List.map_cons, List.sum_cons]
    by_cases e : y = x
    · subst e
      have : (ys.map fun z => f z * ((y :: l).count z : Int)) = ys.map fun z => f z * (l.count z : Int) := by
        apply List.map_congr_left
        intro z hz
        rw [List.count_cons, if_neg]
        · simp
        · simp only [beq_iff_eq]
          intro q
          exact hn.1 (q ▸ hz)
      rw [this, List.count_cons_self]
      have : f y * (((l.count y) + 1 : Nat) : Int) = f y + f y * (l.count y : Int) := by
        rw [Int.natCast_add, Int.mul_add]; simp; omega
      omega
    · rw [sum_count1 f x l ys hn.2 (by rcases List.mem_cons.mp hx with q | q; exact absurd q.symm e; exact q)]
      rw [List.count_cons, if_neg (by simpa using fun q => e q.symm), Nat.add_zero]
      omega
theorem sum_count (f : Nat → Int) (ys : List Nat) (hn : ys.Nodup) : ∀ l : List Nat, (∀ z ∈ l, z ∈ ys) → (ys.map fun y => f y * (l.count y : Int)).sum = (l.map f).sum
  | [], _ => by
    have : ∀ zs : List Nat, (zs.map fun y => f y * (([] : List Nat).count y : Int)).sum = 0 := by
      intro zs
      induction zs with
      | nil => rfl
      | cons z zs ih => rw [List.map_cons, List.sum_cons, ih]; simp
    rw [this]; rfl
  | x :: l, h => by
    rw [sum_count1 f x l ys hn (h x List.mem_cons_self), sum_count f ys hn l fun z hz => h z (List.mem_cons_of_mem _ hz), List.map_cons, List.sum_cons]
theorem sum_cnt (t ys : List Nat) (hn : ys.Nodup) (h : ∀ y ∈ t, y ∈ ys) : (ys.map fun y => cnt y t).sum = Lr t := by
  have := sum_count (fun _ => 1) ys hn (Mr t) fun z hz => h z (mem_Mr hz)
  have e : (ys.map fun y => (1 : Int) * ((Mr t).count y : Int)) = ys.map fun y => cnt y t := List.map_congr_left fun y _ => by rw [cnt_eq, Int.one_mul]
  rw [e] at this
  rw [this, ← len_Mr]
  generalize Mr t = l
  induction l with
  | nil => rfl
  | cons x l ih => rw [List.map_cons, List.sum_cons, ih, List.length_cons]; omega
theorem sum_Bk_cnt (u t ys : List Nat) (hn : ys.Nodup) (h : ∀ y ∈ t, y ∈ ys) : (ys.map fun y => Bk u y * cnt y t).sum = Lr (t ++ u) - Lr u := by
  have := sum_count (Bk u) ys hn (Mr t) fun z hz => h z (mem_Mr hz)
  have e : (ys.map fun y => Bk u y * ((Mr t).count y : Int)) = ys.map fun y => Bk u y * cnt y t := List.map_congr_left fun y _ => by rw [cnt_eq]
  rw [e] at this
  rw [this]
  exact Sb_Mr u t
end Mi
namespace Mi
/-! ### rows as they are written -/
def L (p : List Nat) : Int := Lr p.reverse
def M (p : List Nat) : List Nat := Mr p.reverse
theorem L_nil : L [] = 0 := Lr_nil
theorem L_nonneg (p : List Nat) : 0 ≤ L p := Lr_nonneg _
theorem len_M (p : List Nat) : ((M p).length : Int) = L p := len_Mr _
theorem len_M' (p : List Nat) : (M p).length = (L p).toNat := by have := len_M p; omega
/-- the place of the last x -/
def lastIx (x : Nat) (p : List Nat) : Option Nat := (cut x p.reverse).map List.length
theorem lastIx_split {x j : Nat} {p : List Nat} (h : lastIx x p = some j) : ∃ a b, p = a ++ x :: b ∧ a.length = j ∧ x ∉ b ∧ cut x p.reverse = some a.reverse := by
  unfold lastIx at h
  cases e : cut x p.reverse with
  | none => rw [e] at h; cases h
  | some s =>
    rw [e] at h
    cases h
    obtain ⟨a, h1, h2⟩ := cut_split e
    refine ⟨s.reverse, a.reverse, ?_, by simp, by simpa using h2, by simp⟩
    have := congrArg List.reverse h1
    simpa using this
theorem lastIx_none {x : Nat} {p : List Nat} : lastIx x p = none ↔ x ∉ p := by
  unfold lastIx
  rw [Option.map_eq_none_iff, cut_none]
  simp
theorem lastIx_of (a b : List Nat) (x : Nat) (h : x ∉ b) : lastIx x (a ++ x :: b) = some a.length := by
  unfold lastIx
  have : (a ++ x :: b).reverse = b.reverse ++ x :: a.reverse := by simp
  rw [this, cut_app_not _ (by simpa using h)]
  simp [cut]
theorem lastIx_get {x j : Nat} {p : List Nat} (h1 : p[j]? = some x) (h2 : ∀ k, j < k → p[k]? ≠ some x) : lastIx x p = some j := by
  obtain ⟨hj, ej⟩ := List.getElem?_eq_some_iff.mp h1
  have e : p = p.take j ++ x :: p.drop (j + 1) := by
    rw [← ej]
    conv => lhs; rw [← List.take_append_drop j p]
    rw [List.drop_eq_getElem_cons hj]
  have nb : x ∉ p.drop (j + 1) := fun m => by
    obtain ⟨k, hk⟩ := List.mem_iff_getElem?.mp m
    rw [List.getElem?_drop] at hk
    exact h2 _ (by omega) hk
  have := lastIx_of (p.take j) (p.drop (j + 1)) x nb
  rw [← e, List.length_take] at this
  rw [this]
  congr 1
  omega
theorem lastIx_lt {x j : Nat} {p : List Nat} (h : lastIx x p = some j) : j < p.length := by
  obtain ⟨a, b, e, l, _⟩ := lastIx_split h
  rw [e, List.length_append, List.length_cons]; omega
theorem lastIx_take {x j : Nat} {p : List Nat} (h : lastIx x p = some j) : cut x p.reverse = some (p.take j).reverse := by
  obtain ⟨a, b, e, l, _, c⟩ := lastIx_split h
  rw [c]
  congr 1
  rw [e, ← l, List.take_left]
theorem L_new {x : Nat} {p : List Nat} (h : lastIx x p = none) : L (p ++ [x]) = 2 * L p + 1 := by
  unfold L
  rw [List.reverse_append, List.reverse_singleton, List.singleton_append]
  exact Lr_none (by unfold lastIx at h; simpa using h)
theorem L_old {x j : Nat} {p : List Nat} (h : lastIx x p = some j) : L (p ++ [x]) = 2 * L p - L (p.take j) := by
  unfold L
  rw [List.reverse_append, List.reverse_singleton, List.singleton_append]
  exact Lr_some (lastIx_take h)
theorem M_new {x : Nat} {p : List Nat} (h : lastIx x p = none) : M (p ++ [x]) = M p ++ x :: M p := by
  unfold M
  rw [List.reverse_append, List.reverse_singleton, List.singleton_append]
  exact Mr_none (by unfold lastIx at h; simpa using h)
theorem M_old {x j : Nat} {p : List Nat} (h : lastIx x p = some j) : M (p ++ [x]) = M p ++ (M p).drop (M (p.take j)).length := by
  unfold M
  rw [List.reverse_append, List.reverse_singleton, List.singleton_append]
  exact Mr_some (lastIx_take h)
theorem rev_M (p : List Nat) : (M p).reverse = M p := rev_Mr _
theorem mem_M {p : List Nat} {y : Nat} (h : y ∈ M p) : y ∈ p := by simpa using mem_Mr h
theorem M_pre (p q : List Nat) : ∃ t, M (p ++ q) = M p ++ t := by
  unfold M
  rw [List.reverse_append]
  exact Mr_pre _ _
theorem M_take (p : List Nat) (i : Nat) : ∃ t, M p = M (p.take i) ++ t := by
  obtain ⟨t, e⟩ := M_pre (p.take i) (p.drop i)
  rw [List.take_append_drop] at e
  exact ⟨t, e⟩
theorem L_take_le (p : List Nat) (i : Nat) : L (p.take i) ≤ L p := by
  obtain ⟨t, e⟩ := M_take p i
  have := congrArg List.length e
  rw [List.length_append] at this
  rw [← len_M, ← len_M]; omega
theorem take_snoc {p : List Nat} {i x : Nat} (h : p[i]? = some x) : p.take (i + 1) = p.take i ++ [x] := by rw [List.take_add_one, h]; rfl
theorem L_mono {p : List Nat} {i j : Nat} (h : i ≤ j) : L (p.take i) ≤ L (p.take j) := by
  have := L_take_le (p.take j) i
  rw [List.take_take, Nat.min_eq_left h] at this
  exact this
/-- at most doubled and one more -/
theorem L_bound : ∀ (n : Nat) (p : List Nat), p.length ≤ n → L p < 2 ^ n := by
  intro n
  induction n with
  | zero =>
    intro p h
    have : p = [] := List.length_eq_zero_iff.mp (by omega)
    subst this
    rw [L_nil]; decide
  | succ n ih =>
    intro p h
    rcases List.eq_nil_or_concat p with rfl | ⟨q, x, e⟩
    · rw [L_nil]; exact Int.pow_pos (by decide)
    · have e : p = q ++ [x] := by simpa using e
      subst e
      rw [List.length_append, List.length_singleton] at h
      have h1 := ih q (by omega)
      have h2 : (2 : Int) ^ (n + 1) = 2 * 2 ^ n := by rw [Int.pow_succ]; omega
      cases hl : lastIx x q with
      | none => rw [L_new hl]; omega
      | some j =>
        rw [L_old hl]
        have := L_nonneg (q.take j)
        omega

/-! ### the lengths of all beginnings, the growths -/
def lens (p : List Nat) : List Int := (List.range (p.length + 1)).map fun i => L (p.take i)
theorem lens_len (p : List Nat) : (lens p).length = p.length + 1 := by simp [lens]
theorem lens_get {p : List Nat} {i : Nat} (h : i ≤ p.length) : (lens p)[i]? = some (L (p.take i)) := by
  unfold lens
  rw [List.getElem?_map, List.getElem?_range (by omega)]
  rfl
theorem lens_take (p : List Nat) (i : Nat) (h : i ≤ p.length) : (lens p).take (i + 1) = lens (p.take i) := by
  unfold lens
  rw [← List.map_take, List.take_range, List.length_take, Nat.min_eq_left h, Nat.min_eq_left (by omega)]
  apply List.map_congr_left
  intro j hj
  rw [List.take_take, Nat.min_eq_left (by have := List.mem_range.mp hj; omega)]
theorem lens_nil : lens [] = [0] := by simp [lens, L_nil]
theorem lens_snoc (p : List Nat) (x : Nat) : lens (p ++ [x]) = lens p ++ [L (p ++ [x])] := by
  unfold lens
  rw [List.length_append, List.length_singleton, List.range_succ, List.map_append]
  congr 1
  · apply List.map_congr_left
    intro j hj
    rw [List.take_append_of_le_length (by have := List.mem_range.mp hj; omega)]
  · have : (p ++ [x]).take (p.length + 1) = p ++ [x] := List.take_of_length_le (by simp)
    simp [this]
def gro (p : List Nat) : List Int := (List.range p.length).map fun i => L (p.take (i + 1)) - L (p.take i)
theorem gro_len (p : List Nat) : (gro p).length = p.length := by simp [gro]
theorem gro_get {p : List Nat} {i : Nat} (h : i < p.length) : (gro p)[i]? = some (L (p.take (i + 1)) - L (p.take i)) := by
  unfold gro
  rw [List.getElem?_map, List.getElem?_range h]
  rfl
theorem gro_snoc (p : List Nat) (x : Nat) : gro (p ++ [x]) = gro p ++ [L (p ++ [x]) - L p] := by
  unfold gro
  rw [List.length_append, List.length_singleton, List.range_succ, List.map_append]
  congr 1
  · apply List.map_congr_left
    intro j hj
    have := List.mem_range.mp hj
    rw [List.take_append_of_le_length (by omega), List.take_append_of_le_length (by omega)]
  · have e1 : (p ++ [x]).take (p.length + 1) = p ++ [x] := List.take_of_length_le (by simp)
    have e2 : (p ++ [x]).take p.length = p := by simp
    simp [e1]
theorem gro_groU (u t : List Nat) : groU u t = ((gro (t ++ u).reverse).drop u.length).reverse := by
  induction t with
  | nil =>
    have : (gro ([] ++ u).reverse).drop u.length = [] := List.drop_of_length_le (by simp [gro_len])
    rw [this]
    rfl
  | cons x r ih =>
    have e : ((x :: r) ++ u).reverse = (r ++ u).reverse ++ [x] := by simp
    rw [e, gro_snoc, List.drop_append_of_le_length (by simp [gro_len]), List.reverse_append, ← ih]
    show (Lr (x :: (r ++ u)) - Lr (r ++ u)) :: groU u r = _
    unfold L
    simp
theorem gro_drop (p : List Nat) (k : Nat) (h : k ≤ p.length) : ((gro p).drop k).reverse = groU (p.take k).reverse (p.drop k).reverse := by
  rw [gro_groU, ← List.reverse_append, List.take_append_drop, List.reverse_reverse, List.length_reverse, List.length_take, Nat.min_eq_left h]
theorem gro_rev (p : List Nat) : (gro p).reverse = groU [] p.reverse := by
  have := gro_drop p 0 (Nat.zero_le _)
  simpa using this
theorem sum_gro_drop : ∀ (n : Nat) (p : List Nat), p.length = n → ∀ k, k ≤ p.length → ((gro p).drop k).sum = L p - L (p.take k) := by
  intro n
  induction n with
  | zero =>
    intro p h k hk
    have : p = [] := List.length_eq_zero_iff.mp h
    subst this
    have : k = 0 := by simpa using hk
    subst this
    simp [gro]
  | succ n ih =>
    intro p h k hk
    rcases List.eq_nil_or_concat p with rfl | ⟨q, x, e⟩
    · simp at h
    · have e : p = q ++ [x] := by simpa using e
      subst e
      rw [List.length_append, List.length_singleton] at h hk
      by_cases hkq : k ≤ q.length
      · rw [gro_snoc, List.drop_append_of_le_length (by rw [gro_len]; exact hkq), List.sum_append, ih q (by omega) k hkq, List.take_append_of_le_length hkq]
        simp
        omega
      · have hk1 : k = q.length + 1 := by omega
        subst hk1
        rw [List.drop_of_length_le (by rw [gro_len]; simp), List.take_of_length_le (by simp)]
        simp
theorem sum_gro (p : List Nat) : (gro p).sum = L p := by
  have := sum_gro_drop p.length p rfl 0 (Nat.zero_le _)
  simp [L_nil] at this
  exact this
theorem Bk_new {p : List Nat} {x : Nat} (h : lastIx x p = none) : Bk p.reverse x = L p + 1 := Bk_none (by unfold lastIx at h; simpa using h)
theorem Bk_old {p : List Nat} {x j : Nat} (h : lastIx x p = some j) : Bk p.reverse x = L p - L (p.take j) := Bk_some (lastIx_take h)
theorem Bk_snoc (p : List Nat) (x : Nat) : Bk p.reverse x = L (p ++ [x]) - L p := by
  unfold Bk L
  rw [List.reverse_append, List.reverse_singleton, List.singleton_append]
theorem Bk_pos (p : List Nat) (x : Nat) : 0 < Bk p.reverse x := grow_pos x _

/-! ### how often, by the first -/
theorem cnt_first {p : List Nat} {x i : Nat} (h1 : p[i]? = some x) (h2 : ∀ k, k < i → p[k]? ≠ some x) : cnt x p.reverse = L (p.drop (i + 1)) + 1 := by
  obtain ⟨hi, ei⟩ := List.getElem?_eq_some_iff.mp h1
  have e : p = p.take i ++ x :: p.drop (i + 1) := by
    rw [← ei]
    conv => lhs; rw [← List.take_append_drop i p]
    rw [List.drop_eq_getElem_cons hi]
  have nb : x ∉ p.take i := fun m => by
    obtain ⟨k, hk⟩ := List.mem_iff_getElem?.mp m
    rw [List.getElem?_take] at hk
    split at hk
    · exact h2 k (by assumption) hk
    · cases hk
  have er : p.reverse = (p.drop (i + 1)).reverse ++ x :: (p.take i).reverse := by
    conv => lhs; rw [e]
    simp
  rw [er, cnt_of _ _ (by simpa using nb)]
  rfl

/-! ### digits and values -/
def digF (gs : List Int) (n : Int) : List Int := (digR gs.reverse n).reverse
theorem digF_len (gs : List Int) (n : Int) : (digF gs n).length = gs.length := by unfold digF; rw [List.length_reverse, digR_len, List.length_reverse]
def valF : List Int → List Int → Int
  | g :: gs, d :: ds => (if d = 1 then g else 0) + valF gs ds
  | _, _ => 0
theorem valR_app : ∀ (a b : List Int) (g d : Int), a.length = b.length → valR (a ++ [g]) (b ++ [d]) = valR a b + (if d = 1 then g else 0)
  | [], [], g, d, _ => by simp [valR]
  | [], _ :: _, _, _, h => by cases h
  | _ :: _, [], _, _, h => by cases h
  | x :: a, y :: b, g, d, h => by
    show (if y = 1 then x else 0) + valR (a ++ [g]) (b ++ [d]) = (if y = 1 then x else 0) + valR a b + _
    rw [valR_app a b g d (Nat.succ.inj h)]
    omega
theorem valF_valR : ∀ (a b : List Int), a.length = b.length → valF a b = valR a.reverse b.reverse
  | [], [], _ => rfl
  | [], _ :: _, h => by cases h
  | _ :: _, [], h => by cases h
  | x :: a, y :: b, h => by
    show (if y = 1 then x else 0) + valF a b = _
    rw [List.reverse_cons, List.reverse_cons, valR_app _ _ _ _ (by simpa using Nat.succ.inj h), valF_valR a b (Nat.succ.inj h)]
    omega
/-- from where the n-th block begins, counted in all letters -/
def startF (p : List Nat) (k : Nat) (n : Int) : Int := valF ((gro p).drop k) (digF (gro (p.drop k)) n)
theorem startF_eq (p : List Nat) (k : Nat) (n : Int) (hk : k ≤ p.length) : startF p k n = valR (groU (p.take k).reverse (p.drop k).reverse) (digR (groU [] (p.drop k).reverse) n) := by
  unfold startF digF
  rw [valF_valR _ _ (by rw [List.length_reverse, digR_len, List.length_reverse, gro_len, List.length_drop, List.length_drop, gro_len]), List.reverse_reverse, gro_drop p k hk, gro_rev]
theorem startF_step (p : List Nat) (k n : Nat) (hk : k ≤ p.length) {y : Nat} (h : (M (p.drop k))[n]? = some y) : startF p k ((n : Int) + 1) - startF p k n = Bk (p.take k).reverse y := by
  rw [startF_eq p k _ hk, startF_eq p k _ hk]
  exact place_step _ _ n y h

/-! ### letters at places -/
theorem M_sym (p : List Nat) (n : Nat) (h : n < (M p).length) : (M p)[(M p).length - 1 - n]? = (M p)[n]? := Mr_sym _ n h
theorem M_get {p : List Nat} {n : Int} (h0 : 0 ≤ n) (h1 : n < L p) : ∃ y, (M p)[n.toNat]? = some y ∧ y ∈ p := by
  have hl := len_M p
  have hlt : n.toNat < (M p).length := by omega
  exact ⟨_, List.getElem?_eq_getElem hlt, mem_M (List.getElem_mem hlt)⟩
theorem sum_cnt_all (p ys : List Nat) (hn : ys.Nodup) (h : ∀ c, c ∈ ys ↔ c ∈ p) : (ys.map fun y => cnt y p.reverse).sum = L p := sum_cnt _ ys hn fun y hy => (h y).mpr (by simpa using hy)
theorem sum_Bk_all (p : List Nat) (k : Nat) (ys : List Nat) (hn : ys.Nodup) (h : ∀ c, c ∈ ys ↔ c ∈ p.drop k) : (ys.map fun y => Bk (p.take k).reverse y * cnt y (p.drop k).reverse).sum = L p - L (p.take k) := by
  have := sum_Bk_cnt (p.take k).reverse (p.drop k).reverse ys hn fun y hy => (h y).mpr (by simpa using hy)
  rw [this, ← List.reverse_append, List.take_append_drop]
  rfl
theorem cnt_pos {p : List Nat} {y : Nat} (h : y ∈ p) : 1 ≤ cnt y p.reverse := by
  have : y ∈ p.reverse := by simpa using h
  cases e : pre1 y p.reverse with
  | none => exact absurd this (pre1_none.mp e)
  | some a =>
    unfold cnt
    rw [e]
    have := Lr_nonneg a
    show 1 ≤ Lr a + 1
    omega
theorem cnt_le (p : List Nat) (y : Nat) : cnt y p.reverse ≤ L p := by
  rw [cnt_eq, ← len_M]
  have := List.count_le_length (a := y) (l := M p)
  show ((M p).count y : Int) ≤ _
  omega
end Mi
namespace Mi
/-! ### the first place of a piece in a text -/
def findIx (w t : List Nat) : Option Nat := (List.range (t.length + 1)).find? fun i => decide ((t.drop i).take w.length = w)
theorem findIx_some {w t : List Nat} {i : Nat} : findIx w t = some i ↔ i ≤ t.length ∧ (t.drop i).take w.length = w ∧ ∀ k, k < i → (t.drop k).take w.length ≠ w := by
  unfold findIx
  rw [List.find?_range_eq_some]
  constructor
  · rintro ⟨h1, h2, h3⟩
    refine ⟨by have := List.mem_range.mp h2; omega, by simpa using h1, fun k hk => ?_⟩
    have := h3 k hk
    simpa using this
  · rintro ⟨h1, h2, h3⟩
    exact ⟨by simpa using h2, List.mem_range.mpr (by omega), fun k hk => by simpa using h3 k hk⟩
theorem findIx_none {w t : List Nat} : findIx w t = none ↔ ∀ i, i ≤ t.length → (t.drop i).take w.length ≠ w := by
  unfold findIx
  rw [List.find?_range_eq_none]
  constructor
  · intro h i hi
    have := h i (by omega)
    simpa using this
  · intro h i hi
    have := h i (by omega)
    simpa using this
theorem findIx_ex {w t : List Nat} {i : Nat} (hi : i ≤ t.length) (h : (t.drop i).take w.length = w) : ∃ a, findIx w t = some a := by
  cases e : findIx w t with
  | some a => exact ⟨a, rfl⟩
  | none => exact absurd h (findIx_none.mp e i hi)

/-! ### about the midst of a press -/
def bgT (p : List Nat) (i k : Nat) : List Nat := (M (p.take i)).take k
def midT (p : List Nat) (i k : Nat) : List Nat :=
  (bgT p i k).reverse ++ match p[i]? with
    | none => []
    | some x => match lastIx x (p.take i) with
      | none => x :: bgT p i k
      | some j => (bgT p i k).drop (L (p.take j)).toNat
theorem midT_new {p : List Nat} {i k x : Nat} (h : p[i]? = some x) (hl : lastIx x (p.take i) = none) : midT p i k = (bgT p i k).reverse ++ x :: bgT p i k := by
  unfold midT
  rw [h]
  dsimp only
  rw [hl]
theorem midT_old {p : List Nat} {i k x j : Nat} (h : p[i]? = some x) (hl : lastIx x (p.take i) = some j) : midT p i k = (bgT p i k).reverse ++ (bgT p i k).drop (L (p.take j)).toNat := by
  unfold midT
  rw [h]
  dsimp only
  rw [hl]
theorem midT_app {p q : List Nat} {i k : Nat} (hi : i < p.length) : midT (p ++ q) i k = midT p i k := by
  have e1 : (p ++ q).take i = p.take i := List.take_append_of_le_length (by omega)
  have e2 : (p ++ q)[i]? = p[i]? := List.getElem?_append_left hi
  have e3 : ∀ j, j < i → (p ++ q).take j = p.take j := fun j hj => List.take_append_of_le_length (by omega)
  unfold midT bgT
  rw [e1, e2]
  cases hx : p[i]? with
  | none => rfl
  | some x =>
    dsimp only
    cases hl : lastIx x (p.take i) with
    | none => rfl
    | some j =>
      dsimp only
      have := lastIx_lt hl
      rw [List.length_take] at this
      rw [e3 j (by omega)]
/-- the first k letters of a mirror, from behind: the last k -/
theorem rev_take_M (p : List Nat) (k : Nat) : ((M p).take k).reverse = (M p).drop ((M p).length - k) := by
  conv => lhs; rw [← rev_M p]
  rw [List.take_reverse, List.reverse_reverse]
theorem cut_mid {A B r : List Nat} {s m : Nat} (h1 : A.length ≤ s) (h2 : s - A.length + m ≤ B.length) : ((A ++ (B ++ r)).drop s).take m = (B.drop (s - A.length)).take m := by
  have e1 : (A ++ (B ++ r)).drop s = (B ++ r).drop (s - A.length) := by
    have : s = A.length + (s - A.length) := by omega
    conv => lhs; rw [this]
    rw [List.drop_append (l₁ := A), List.drop_of_length_le (l := A) (by omega), List.nil_append]
    congr 1
    omega
  rw [e1, List.drop_append_of_le_length (l₂ := r) (by omega), List.take_append_of_le_length (l₂ := r) (by rw [List.length_drop]; omega)]
theorem cut_tail {A B : List Nat} {s : Nat} (h1 : A.length ≤ s) : (A ++ B).drop s = B.drop (s - A.length) := by
  have : s = A.length + (s - A.length) := by omega
  conv => lhs; rw [this]
  rw [List.drop_append (l₁ := A), List.drop_of_length_le (l := A) (by omega), List.nil_append]
  congr 1
  omega
/-- each window stands about the midst of some press -/
theorem win_mid : ∀ (n : Nat) (p : List Nat), p.length = n → ∀ (s m : Nat), 1 ≤ m → s + m ≤ (M p).length → ∃ i a, i < p.length ∧ a ≤ (midT p i (m - 1)).length ∧ ((midT p i (m - 1)).drop a).take m = ((M p).drop s).take m := by
  intro n
  induction n with
  | zero =>
    intro p h s m hm hs
    have : p = [] := List.length_eq_zero_iff.mp h
    subst this
    have : (M []).length = 0 := by unfold M; simp [Mr_nil]
    omega
  | succ n ih =>
    intro p h s m hm hs
    rcases List.eq_nil_or_concat p with rfl | ⟨q, x, e⟩
    · simp at h
    · have e : p = q ++ [x] := by simpa using e
      subst e
      have hq : q.length = n := by simpa using h
      have lift : (∃ i a, i < q.length ∧ a ≤ (midT q i (m - 1)).length ∧ ((midT q i (m - 1)).drop a).take m = ((M (q ++ [x])).drop s).take m) →
          ∃ i a, i < (q ++ [x]).length ∧ a ≤ (midT (q ++ [x]) i (m - 1)).length ∧ ((midT (q ++ [x]) i (m - 1)).drop a).take m = ((M (q ++ [x])).drop s).take m := by
        rintro ⟨i, a, h1, h2, h3⟩
        refine ⟨i, a, by rw [List.length_append]; omega, ?_, ?_⟩
        · rw [midT_app h1]; exact h2
        · rw [midT_app h1]; exact h3
      have hx : (q ++ [x])[q.length]? = some x := by simp
      have ht : (q ++ [x]).take q.length = q := by simp
      -- the first copy
      by_cases h1 : s + m ≤ (M q).length
      · refine lift ?_
        obtain ⟨i, a, a1, a2, a3⟩ := ih q hq s m hm h1
        refine ⟨i, a, a1, a2, a3.trans ?_⟩
        obtain ⟨t, et⟩ := M_pre q [x]
        rw [et, List.drop_append_of_le_length (by omega), List.take_append_of_le_length (by rw [List.length_drop]; omega)]
      · cases hl : lastIx x q with
        | none =>
          have eM := M_new hl
          have hlen : (M (q ++ [x])).length = (M q).length + (1 + (M q).length) := by rw [eM, List.length_append, List.length_cons]; omega
          by_cases h2 : (M q).length + 1 ≤ s
          · refine lift ?_
            obtain ⟨i, a, a1, a2, a3⟩ := ih q hq (s - ((M q).length + 1)) m hm (by omega)
            refine ⟨i, a, a1, a2, a3.trans ?_⟩
            have : (M (q ++ [x])).drop s = (M q).drop (s - ((M q).length + 1)) := by
              rw [eM, cut_tail (by omega)]
              have : s - (M q).length = (s - ((M q).length + 1)) + 1 := by omega
              rw [this, List.drop_succ_cons]
            rw [this]
          · -- over the middle
            have hb : bgT (q ++ [x]) q.length (m - 1) = (M q).take (m - 1) := by unfold bgT; rw [ht]
            have hmid : midT (q ++ [x]) q.length (m - 1) = ((M q).drop ((M q).length - (m - 1))) ++ x :: (M q).take (m - 1) := by
              rw [midT_new hx (by rw [ht]; exact hl), hb, rev_take_M]
            have hsp : ∃ r, M (q ++ [x]) = ((M q).take ((M q).length - (m - 1))) ++ (((M q).drop ((M q).length - (m - 1)) ++ x :: (M q).take (m - 1)) ++ r) := by
              refine ⟨(M q).drop (m - 1), ?_⟩
              rw [eM, ← List.append_assoc, ← List.append_assoc, List.take_append_drop, List.append_assoc, List.cons_append, List.take_append_drop]
            obtain ⟨r, er⟩ := hsp
            have hlenT : ((M q).take ((M q).length - (m - 1))).length = (M q).length - (m - 1) := by rw [List.length_take]; omega
            refine ⟨q.length, s - ((M q).length - (m - 1)), by simp, ?_, ?_⟩
            · rw [hmid, List.length_append, List.length_cons, List.length_drop, List.length_take]; omega
            · rw [hmid, er, cut_mid (by omega) (by rw [hlenT, List.length_append, List.length_cons, List.length_drop, List.length_take]; omega), hlenT]
        | some j =>
          have eM := M_old hl
          have hj := lastIx_lt hl
          have ho : (M (q.take j)).length ≤ (M q).length := by
            obtain ⟨t, et⟩ := M_take q j
            have := congrArg List.length et
            rw [List.length_append] at this
            omega
          have hoL : (L (q.take j)).toNat = (M (q.take j)).length := by have := len_M (q.take j); omega
          have hlen : (M (q ++ [x])).length = (M q).length + ((M q).length - (M (q.take j)).length) := by rw [eM, List.length_append, List.length_drop]
          generalize (M (q.take j)).length = o at *
          by_cases h2 : (M q).length - o ≤ s
          · refine lift ?_
            obtain ⟨i, a, a1, a2, a3⟩ := ih q hq (s - ((M q).length - o)) m hm (by omega)
            refine ⟨i, a, a1, a2, a3.trans ?_⟩
            -- the second copy
            have e2 : M (q ++ [x]) = ((M q).take ((M q).length - o)) ++ M q := by
              have := congrArg List.reverse eM
              rw [rev_M, List.reverse_append, rev_M] at this
              rw [this]
              congr 1
              conv => lhs; rw [← rev_M q]
              rw [List.drop_reverse, List.reverse_reverse]
            have hlt : ((M q).take ((M q).length - o)).length = (M q).length - o := by rw [List.length_take]; omega
            rw [e2, cut_tail (by omega), hlt]
          · have hb : bgT (q ++ [x]) q.length (m - 1) = (M q).take (m - 1) := by unfold bgT; rw [ht]
            have hmid : midT (q ++ [x]) q.length (m - 1) = ((M q).drop ((M q).length - (m - 1))) ++ ((M q).take (m - 1)).drop o := by
              rw [midT_old hx (by rw [ht]; exact hl), hb, rev_take_M, List.take_append_of_le_length (by omega), hoL]
            have hsp : ∃ r, M (q ++ [x]) = ((M q).take ((M q).length - (m - 1))) ++ (((M q).drop ((M q).length - (m - 1)) ++ ((M q).take (m - 1)).drop o) ++ r) := by
              refine ⟨((M q).drop (m - 1)).drop (o - ((M q).take (m - 1)).length), ?_⟩
              rw [eM, ← List.append_assoc, ← List.append_assoc, List.take_append_drop, List.append_assoc]
              congr 1
              rw [← List.drop_append, List.take_append_drop]
            obtain ⟨r, er⟩ := hsp
            have hlenT : ((M q).take ((M q).length - (m - 1))).length = (M q).length - (m - 1) := by rw [List.length_take]; omega
            refine ⟨q.length, s - ((M q).length - (m - 1)), by simp, ?_, ?_⟩
            · rw [hmid, List.length_append, List.length_drop, List.length_drop, List.length_take]; omega
            · rw [hmid, er, cut_mid (by omega) (by rw [hlenT, List.length_append, List.length_drop, List.length_drop, List.length_take]; omega), hlenT]

/-! ### homes -/
def homeAt (p w : List Nat) (i : Nat) : Option (Nat × Int) := (findIx w (midT p i (w.length - 1))).map fun (a : Nat) => (i + 1, L (p.take i) - ((bgT p i (w.length - 1)).length : Int) + (a : Int))
def homeF (p w : List Nat) : Option (Nat × Int) := if w = [] then some (0, 0) else (List.range p.length).findSome? (homeAt p w)
theorem homeF_nil (p : List Nat) : homeF p [] = some (0, 0) := if_pos rfl
theorem homeF_le {p w : List Nat} {K : Nat} {a : Int} (h : homeF p w = some (K, a)) : K ≤ p.length := by
  unfold homeF at h
  split at h
  · cases h; exact Nat.zero_le _
  · obtain ⟨l1, i, l2, e, hi, _⟩ := List.findSome?_eq_some_iff.mp h
    have hm : i ∈ List.range p.length := by rw [e]; simp
    have := List.mem_range.mp hm
    unfold homeAt at hi
    cases q : findIx w (midT p i (w.length - 1)) with
    | none => rw [q] at hi; cases hi
    | some b => rw [q] at hi; cases hi; omega
theorem homeF_spec {p w : List Nat} {K : Nat} {a : Int} (hw : w ≠ []) (h : homeF p w = some (K, a)) :
    ∃ i b, i < p.length ∧ findIx w (midT p i (w.length - 1)) = some b ∧ K = i + 1 ∧ a = L (p.take i) - ((bgT p i (w.length - 1)).length : Int) + (b : Int) ∧ ∀ k, k < i → findIx w (midT p k (w.length - 1)) = none := by
  unfold homeF at h
  rw [if_neg hw] at h
  obtain ⟨l1, i, l2, e, hi, hn⟩ := List.findSome?_eq_some_iff.mp h
  have hm : i ∈ List.range p.length := by rw [e]; simp
  have hil := List.mem_range.mp hm
  have hl1 : l1 = List.range i := by
    have h1 := congrArg (fun l => l[l1.length]?) e
    have h2 : l1.length < p.length := by
      have := congrArg List.length e
      rw [List.length_range, List.length_append, List.length_cons] at this
      omega
    simp only [List.getElem?_range h2] at h1
    rw [List.getElem?_append_right (Nat.le_refl _), Nat.sub_self] at h1
    have h3 : l1.length = i := by simpa using h1
    have h4 := congrArg (List.take l1.length) e
    rw [List.take_left, List.take_range, Nat.min_eq_left (by omega), h3] at h4
    exact h4.symm
  unfold homeAt at hi
  cases q : findIx w (midT p i (w.length - 1)) with
  | none => rw [q] at hi; cases hi
  | some b =>
    rw [q] at hi
    cases hi
    refine ⟨i, b, hil, q, rfl, rfl, fun k hk => ?_⟩
    have := hn k (by rw [hl1]; exact List.mem_range.mpr hk)
    unfold homeAt at this
    exact Option.map_eq_none_iff.mp this
theorem homeF_of {p w : List Nat} (hw : w ≠ []) {i : Nat} {b : Nat} (hi : i < p.length) (h : findIx w (midT p i (w.length - 1)) = some b) (hn : ∀ k, k < i → findIx w (midT p k (w.length - 1)) = none) :
    homeF p w = some (i + 1, L (p.take i) - ((bgT p i (w.length - 1)).length : Int) + (b : Int)) := by
  unfold homeF
  rw [if_neg hw]
  refine List.findSome?_eq_some_iff.mpr ⟨List.range i, i, (List.range' (i + 1) (p.length - (i + 1))), ?_, ?_, fun k hk => ?_⟩
  · have e : p.length = i + ((p.length - (i + 1)) + 1) := by omega
    conv => lhs; rw [e]
    rw [List.range_eq_range', List.range_eq_range', ← List.range'_append_1, Nat.zero_add, List.range'_succ]
  · unfold homeAt; rw [h]; rfl
  · unfold homeAt; rw [hn k (List.mem_range.mp hk)]; rfl
/-- each window has one -/
theorem home_win {p : List Nat} {s m : Nat} (hs : s + m ≤ (M p).length) : ∃ K a, homeF p (((M p).drop s).take m) = some (K, a) := by
  cases m with
  | zero => rw [List.take_zero]; exact ⟨0, 0, homeF_nil p⟩
  | succ m =>
    have hl : (((M p).drop s).take (m + 1)).length = m + 1 := by rw [List.length_take, List.length_drop]; omega
    have hw : ((M p).drop s).take (m + 1) ≠ [] := fun z => by rw [z] at hl; cases hl
    obtain ⟨i, a, h1, h2, h3⟩ := win_mid p.length p rfl s (m + 1) (by omega) hs
    cases q : homeF p (((M p).drop s).take (m + 1)) with
    | some r => exact ⟨r.1, r.2, rfl⟩
    | none =>
      exfalso
      unfold homeF at q
      rw [if_neg hw] at q
      have := List.findSome?_eq_none_iff.mp q i (List.mem_range.mpr h1)
      unfold homeAt at this
      rw [hl] at this
      obtain ⟨b, hb⟩ := findIx_ex (w := ((M p).drop s).take (m + 1)) h2 (by rw [hl]; exact h3)
      rw [show m + 1 - 1 = m from rfl] at this hb
      rw [hb] at this
      cases this
end Mi
namespace Mi
/-! ### rows of one letter -/
theorem lastIx_rep (a : Nat) : ∀ n, lastIx a (List.replicate (n + 1) a) = some n := by
  intro n
  have : List.replicate (n + 1) a = List.replicate n a ++ a :: [] := by rw [List.replicate_succ']
  rw [this, lastIx_of _ _ _ (by simp), List.length_replicate]
theorem take_rep (a : Nat) (n k : Nat) (h : k ≤ n) : (List.replicate n a).take k = List.replicate k a := by rw [List.take_replicate, Nat.min_eq_left h]
theorem L_rep (a : Nat) : ∀ n : Nat, L (List.replicate n a) = n
  | 0 => by simp [L_nil]
  | 1 => by
    have : List.replicate 1 a = [] ++ [a] := rfl
    rw [this, L_new (by simp [lastIx, cut]), L_nil]; rfl
  | n + 2 => by
    have e : List.replicate (n + 2) a = List.replicate (n + 1) a ++ [a] := List.replicate_succ'
    rw [e, L_old (lastIx_rep a n), take_rep a _ _ (by omega), L_rep a (n + 1), L_rep a n]
    omega
theorem M_rep (a n : Nat) : M (List.replicate n a) = List.replicate n a := by
  have h1 : ∀ y ∈ M (List.replicate n a), y = a := fun y hy => (List.mem_replicate.mp (mem_M hy)).2
  have h2 : (M (List.replicate n a)).length = n := by have := len_M (List.replicate n a); rw [L_rep] at this; omega
  have := List.eq_replicate_of_mem h1
  rw [h2] at this
  exact this
theorem midT_rep (a n i k : Nat) (hi : i < n) (hk : i ≤ k) : midT (List.replicate n a) i k = List.replicate (i + 1) a := by
  have hx : (List.replicate n a)[i]? = some a := by simp [hi]
  have hb : bgT (List.replicate n a) i k = List.replicate i a := by
    unfold bgT
    rw [take_rep a n i (by omega), M_rep, List.take_replicate, Nat.min_eq_right hk]
  cases i with
  | zero =>
    rw [midT_new hx (by simp [lastIx, cut]), hb]
    rfl
  | succ i =>
    rw [midT_old hx (by rw [take_rep a n (i + 1) (by omega)]; exact lastIx_rep a i), hb, take_rep a n i (by omega), L_rep]
    have e : ((i : Int)).toNat = i := by omega
    rw [e, List.drop_replicate, List.reverse_replicate, List.replicate_append_replicate]
    congr 1
    omega
theorem findIx_rep {a m t : Nat} : findIx (List.replicate m a) (List.replicate t a) = if m ≤ t then some 0 else none := by
  by_cases h : m ≤ t
  · rw [if_pos h]
    refine findIx_some.mpr ⟨Nat.zero_le _, ?_, fun k hk => absurd hk (Nat.not_lt_zero _)⟩
    rw [List.drop_zero, List.length_replicate, take_rep a t m h]
  · rw [if_neg h]
    refine findIx_none.mpr fun i hi e => ?_
    have := congrArg List.length e
    rw [List.length_take, List.length_drop, List.length_replicate, List.length_replicate] at this
    omega
theorem home_rep (a n m : Nat) (h1 : 1 ≤ m) (h2 : m ≤ n) : ∃ x, homeF (List.replicate n a) (List.replicate m a) = some (m, x) := by
  have hw : List.replicate m a ≠ [] := fun z => by have := congrArg List.length z; rw [List.length_replicate] at this; simp at this; omega
  have hl : (List.replicate m a).length - 1 = m - 1 := by rw [List.length_replicate]
  have := homeF_of (p := List.replicate n a) (w := List.replicate m a) hw (i := m - 1) (b := 0) (by rw [List.length_replicate]; omega) (by rw [hl, midT_rep a n (m - 1) (m - 1) (by omega) (Nat.le_refl _), findIx_rep, if_pos (by omega)])
    (fun k hk => by rw [hl, midT_rep a n k (m - 1) (by omega) (by omega), findIx_rep, if_neg (by omega)])
  rw [show m - 1 + 1 = m by omega] at this
  exact ⟨_, this⟩
theorem home_first (a : Nat) (r : List Nat) : ∃ x, homeF (a :: r) [a] = some (1, x) := by
  have e : midT (a :: r) 0 0 = [a] := by
    rw [midT_new (x := a) rfl (by simp [lastIx, cut])]
    simp [bgT]
  have := homeF_of (p := a :: r) (w := [a]) (by simp) (i := 0) (b := 0) (by simp) (by
    show findIx [a] (midT (a :: r) 0 0) = some 0
    rw [e]
    have := findIx_rep (a := a) (m := 1) (t := 1)
    simpa using this) (fun k hk => absurd hk (Nat.not_lt_zero _))
  exact ⟨_, this⟩
theorem Bk_nil (y : Nat) : Bk ([] : List Nat).reverse y = 1 := by
  rw [Bk_new (p := []) (by simp [lastIx, cut]), L_nil]; rfl
theorem Bk_rep (a n : Nat) : Bk (List.replicate n a).reverse a = 1 := by
  cases n with
  | zero => exact Bk_nil a
  | succ n =>
    rw [Bk_old (lastIx_rep a n), take_rep a _ _ (by omega), L_rep, L_rep]
    omega
theorem Bk_other {a b : Nat} (h : a ≠ b) : Bk [a].reverse b = 2 := by
  rw [Bk_new (p := [a]) (lastIx_none.mpr (by simpa using fun z => h z.symm))]
  have := L_rep a 1
  rw [show List.replicate 1 a = [a] from rfl] at this
  rw [this]; rfl
theorem cnt_rep (a n : Nat) : cnt a (List.replicate n a).reverse = n := by
  rw [cnt_eq]
  show (((M (List.replicate n a)).count a : Nat) : Int) = n
  rw [M_rep, List.count_replicate_self]

/-! ### sums by keys -/
def getI (kns : List (Int × Int)) (k : Int) : Option Int := (kns.find? fun q => decide (q.1 = k)).map (·.2)
def putI : List (Int × Int) → Int → Int → List (Int × Int)
  | [], k, v => [(k, v)]
  | q :: r, k, v => if q.1 = k then (k, v) :: r else q :: putI r k v
def addI (kns : List (Int × Int)) (k v : Int) : List (Int × Int) := putI kns k ((getI kns k).getD 0 + v)
theorem getI_cons (q : Int × Int) (r : List (Int × Int)) (k : Int) : getI (q :: r) k = if q.1 = k then some q.2 else getI r k := by
  unfold getI
  rw [List.find?_cons]
  by_cases h : q.1 = k
  · rw [decide_eq_true h, if_pos h]; rfl
  · rw [decide_eq_false h, if_neg h]
theorem addI_cons (q : Int × Int) (r : List (Int × Int)) (k v : Int) : addI (q :: r) k v = if q.1 = k then (k, q.2 + v) :: r else q :: addI r k v := by
  unfold addI
  rw [getI_cons]
  by_cases h : q.1 = k
  · rw [if_pos h, if_pos h]
    show (if q.1 = k then _ else _) = _
    rw [if_pos h]; rfl
  · rw [if_neg h, if_neg h]
    show (if q.1 = k then _ else _) = _
    rw [if_neg h]
theorem addI_nil (k v : Int) : addI [] k v = [(k, v)] := by simp [addI, getI, putI]
theorem addI_mem : ∀ (kns : List (Int × Int)) (k v j : Int), j ∈ (addI kns k v).map (·.1) ↔ j = k ∨ j ∈ kns.map (·.1)
  | [], k, v, j => by rw [addI_nil]; simp
  | q :: r, k, v, j => by
    rw [addI_cons]
    by_cases h : q.1 = k
    · rw [if_pos h]
      simp only [List.map_cons, List.mem_cons, h]
      exact ⟨fun z => z.elim .inl fun y => .inr (.inr y), fun z => z.elim .inl fun y => y⟩
    · rw [if_neg h]
      simp only [List.map_cons, List.mem_cons, addI_mem r k v j]
      exact ⟨fun z => z.elim (fun y => .inr (.inl y)) fun y => y.elim .inl fun x => .inr (.inr x), fun z => z.elim (fun y => .inr (.inl y)) fun y => y.elim .inl fun x => .inr (.inr x)⟩
theorem addI_nodup : ∀ (kns : List (Int × Int)) (k v : Int), (kns.map (·.1)).Nodup → ((addI kns k v).map (·.1)).Nodup
  | [], k, v, _ => by rw [addI_nil]; simp
  | q :: r, k, v, h => by
    rw [List.map_cons, List.nodup_cons] at h
    rw [addI_cons]
    by_cases e : q.1 = k
    · rw [if_pos e, List.map_cons, List.nodup_cons]
      exact ⟨by rw [← e]; exact h.1, h.2⟩
    · rw [if_neg e, List.map_cons, List.nodup_cons]
      exact ⟨fun m => ((addI_mem r k v q.1).mp m).elim e h.1, addI_nodup r k v h.2⟩
theorem addI_sum : ∀ (kns : List (Int × Int)) (k v : Int), ((addI kns k v).map (·.2)).sum = (kns.map (·.2)).sum + v
  | [], k, v => by rw [addI_nil]; simp
  | q :: r, k, v => by
    rw [addI_cons]
    by_cases e : q.1 = k
    · rw [if_pos e, List.map_cons, List.sum_cons, List.map_cons, List.sum_cons]
      show q.2 + v + _ = _
      omega
    · rw [if_neg e, List.map_cons, List.sum_cons, List.map_cons, List.sum_cons, addI_sum r k v]
      omega
theorem addI_prod : ∀ (kns : List (Int × Int)) (k v : Int), ((addI kns k v).map fun q => q.1 * q.2).sum = (kns.map fun q => q.1 * q.2).sum + k * v
  | [], k, v => by rw [addI_nil]; simp
  | q :: r, k, v => by
    rw [addI_cons]
    by_cases e : q.1 = k
    · rw [if_pos e, List.map_cons, List.sum_cons, List.map_cons, List.sum_cons]
      show k * (q.2 + v) + _ = _
      rw [Int.mul_add, ← e]
      omega
    · rw [if_neg e, List.map_cons, List.sum_cons, List.map_cons, List.sum_cons, addI_prod r k v]
      omega
theorem addI_len : ∀ (kns : List (Int × Int)) (k v : Int), (addI kns k v).length ≤ kns.length + 1
  | [], k, v => by rw [addI_nil]; simp
  | q :: r, k, v => by
    rw [addI_cons]
    by_cases e : q.1 = k
    · rw [if_pos e]; simp
    · rw [if_neg e, List.length_cons, List.length_cons]
      have := addI_len r k v
      omega
theorem addI_nonneg : ∀ (kns : List (Int × Int)) (k v : Int), 0 ≤ v → (∀ q ∈ kns, 0 ≤ q.2) → ∀ q ∈ addI kns k v, 0 ≤ q.2
  | [], k, v, hv, _ => by rw [addI_nil]; intro q hq; rw [List.mem_singleton.mp hq]; exact hv
  | q :: r, k, v, hv, h => by
    rw [addI_cons]
    have h0 := h q List.mem_cons_self
    by_cases e : q.1 = k
    · rw [if_pos e]
      intro z hz
      rcases List.mem_cons.mp hz with rfl | hz
      · show 0 ≤ q.2 + v; omega
      · exact h z (List.mem_cons_of_mem _ hz)
    · rw [if_neg e]
      intro z hz
      rcases List.mem_cons.mp hz with rfl | hz
      · exact h0
      · exact addI_nonneg r k v hv (fun y hy => h y (List.mem_cons_of_mem _ hy)) z hz
/-- the gaps of the letters ys, from acc on -/
def gapG (u t : List Nat) (acc : List (Int × Int)) (ys : List Nat) : List (Int × Int) := ys.foldl (fun a y => addI a (Bk u y) (cnt y t)) acc
theorem gapG_snoc (u t : List Nat) (acc : List (Int × Int)) (ys : List Nat) (y : Nat) : gapG u t acc (ys ++ [y]) = addI (gapG u t acc ys) (Bk u y) (cnt y t) := by
  unfold gapG; rw [List.foldl_append]; rfl
theorem cnt_nonneg (y : Nat) (t : List Nat) : 0 ≤ cnt y t := by rw [cnt_eq]; omega
theorem gapG_all (u t : List Nat) : ∀ (ys : List Nat) (acc : List (Int × Int)), (acc.map (·.1)).Nodup → (∀ q ∈ acc, 0 ≤ q.2) →
    ((gapG u t acc ys).map (·.1)).Nodup ∧ (∀ j, j ∈ (gapG u t acc ys).map (·.1) ↔ j ∈ acc.map (·.1) ∨ ∃ y ∈ ys, j = Bk u y) ∧ ((gapG u t acc ys).map (·.2)).sum = (acc.map (·.2)).sum + (ys.map fun y => cnt y t).sum ∧
    ((gapG u t acc ys).map fun q => q.1 * q.2).sum = (acc.map fun q => q.1 * q.2).sum + (ys.map fun y => Bk u y * cnt y t).sum ∧ (gapG u t acc ys).length ≤ acc.length + ys.length ∧ (∀ q ∈ gapG u t acc ys, 0 ≤ q.2)
  | [], acc, h, hp => ⟨h, fun j => by simp [gapG], by simp [gapG], by simp [gapG], by simp [gapG], hp⟩
  | y :: ys, acc, h, hp => by
    obtain ⟨h1, h2, h3, h4, h5, h6⟩ := gapG_all u t ys (addI acc (Bk u y) (cnt y t)) (addI_nodup _ _ _ h) (addI_nonneg _ _ _ (cnt_nonneg y t) hp)
    have e : gapG u t acc (y :: ys) = gapG u t (addI acc (Bk u y) (cnt y t)) ys := rfl
    rw [e]
    refine ⟨h1, fun j => ?_, ?_, ?_, ?_, h6⟩
    · rw [h2 j, addI_mem]
      constructor
      · rintro ((z | z) | ⟨x, hx, z⟩)
        · exact .inr ⟨y, List.mem_cons_self, z⟩
        · exact .inl z
        · exact .inr ⟨x, List.mem_cons_of_mem _ hx, z⟩
      · rintro (z | ⟨x, hx, z⟩)
        · exact .inl (.inr z)
        · rcases List.mem_cons.mp hx with rfl | hx
          · exact .inl (.inl z)
          · exact .inr ⟨x, hx, z⟩
    · rw [h3, addI_sum, List.map_cons, List.sum_cons]; omega
    · rw [h4, addI_prod, List.map_cons, List.sum_cons]; omega
    · have := addI_len acc (Bk u y) (cnt y t)
      rw [List.length_cons]; omega
theorem perm_sum {a b : List Int} (h : a.Perm b) : a.sum = b.sum := by
  induction h with
  | nil => rfl
  | cons x _ ih => rw [List.sum_cons, List.sum_cons, ih]
  | swap x y l => rw [List.sum_cons, List.sum_cons, List.sum_cons, List.sum_cons]; omega
  | trans _ _ h1 h2 => exact h1.trans h2
/-- the pairs' order -/
def leP (a b : Int × Int) : Prop := a.1 < b.1 ∨ (a.1 = b.1 ∧ a.2 ≤ b.2)
/-- these are all gaps behind the first K presses, rising -/
def GapsOf (p : List Nat) (K : Nat) (out : List (Int × Int)) : Prop :=
  ∃ ys : List Nat, ys.Pairwise (· < ·) ∧ (∀ c, c ∈ ys ↔ c ∈ p.drop K) ∧ out.Perm (gapG (p.take K).reverse (p.drop K).reverse [] ys) ∧ out.Pairwise leP
theorem nodup_lt {ys : List Nat} (h : ys.Pairwise (· < ·)) : ys.Nodup := List.Pairwise.imp (fun z => Nat.ne_of_lt z) h
theorem same_lt {a b : List Nat} (ha : a.Pairwise (· < ·)) (hb : b.Pairwise (· < ·)) (h : ∀ c, c ∈ a ↔ c ∈ b) : a = b := by
  have p : a.Perm b := (List.perm_ext_iff_of_nodup (nodup_lt ha) (nodup_lt hb)).mpr h
  exact p.eq_of_pairwise (le := (· < ·)) (fun x y _ _ h1 h2 => by omega) ha hb
theorem GapsOf.uniq {p : List Nat} {K : Nat} {a b : List (Int × Int)} (ha : GapsOf p K a) (hb : GapsOf p K b) : a = b := by
  obtain ⟨ys, y1, y2, y3, y4⟩ := ha
  obtain ⟨zs, z1, z2, z3, z4⟩ := hb
  have e : ys = zs := same_lt y1 z1 fun c => (y2 c).trans (z2 c).symm
  subst e
  refine (y3.trans z3.symm).eq_of_pairwise (le := leP) (fun x y _ _ h1 h2 => ?_) y4 z4
  have : x.1 = y.1 ∧ x.2 = y.2 := by
    rcases h1 with h1 | ⟨h1, h1'⟩
    · rcases h2 with h2 | ⟨h2, _⟩ <;> omega
    · rcases h2 with h2 | ⟨h2, h2'⟩
      · omega
      · omega
  exact Prod.ext this.1 this.2
section
variable {p : List Nat} {K : Nat} {out : List (Int × Int)}
theorem GapsOf.keys (h : GapsOf p K out) : (out.map (·.1)).Nodup := by
  obtain ⟨ys, y1, y2, y3, y4⟩ := h
  exact ((y3.map (·.1)).nodup_iff).mpr (gapG_all _ _ ys [] (by simp) (by simp)).1
theorem GapsOf.mem (h : GapsOf p K out) (j : Int) : j ∈ out.map (·.1) ↔ ∃ y ∈ p.drop K, j = Bk (p.take K).reverse y := by
  obtain ⟨ys, y1, y2, y3, y4⟩ := h
  rw [(y3.map (·.1)).mem_iff, (gapG_all _ _ ys [] (by simp) (by simp)).2.1 j]
  constructor
  · rintro (z | ⟨y, hy, z⟩)
    · simp at z
    · exact ⟨y, (y2 y).mp hy, z⟩
  · rintro ⟨y, hy, z⟩
    exact .inr ⟨y, (y2 y).mpr hy, z⟩
theorem GapsOf.sum (h : GapsOf p K out) : (out.map (·.2)).sum = L (p.drop K) := by
  obtain ⟨ys, y1, y2, y3, y4⟩ := h
  rw [perm_sum (y3.map (·.2)), (gapG_all _ _ ys [] (by simp) (by simp)).2.2.1, sum_cnt_all (p.drop K) ys (nodup_lt y1) y2]
  simp
theorem GapsOf.prod (h : GapsOf p K out) : (out.map fun q => q.1 * q.2).sum = L p - L (p.take K) := by
  obtain ⟨ys, y1, y2, y3, y4⟩ := h
  rw [perm_sum (y3.map fun q => q.1 * q.2), (gapG_all _ _ ys [] (by simp) (by simp)).2.2.2.1, sum_Bk_all p K ys (nodup_lt y1) y2]
  simp
theorem GapsOf.len (h : GapsOf p K out) {ks : List Nat} (hn : ks.Nodup) (hk : ∀ c, c ∈ ks ↔ c ∈ p.drop K) : out.length ≤ ks.length := by
  obtain ⟨ys, y1, y2, y3, y4⟩ := h
  have e : ks.Perm ys := (List.perm_ext_iff_of_nodup hn (nodup_lt y1)).mpr fun c => (hk c).trans (y2 c).symm
  rw [y3.length_eq, e.length_eq]
  have := (gapG_all (p.take K).reverse (p.drop K).reverse ys [] (by simp) (by simp)).2.2.2.2.1
  simpa using this
theorem GapsOf.nonneg (h : GapsOf p K out) : ∀ q ∈ out, 0 ≤ q.2 := by
  obtain ⟨ys, y1, y2, y3, y4⟩ := h
  intro q hq
  exact (gapG_all _ _ ys [] (by simp) (by simp)).2.2.2.2.2 q (y3.mem_iff.mp hq)
theorem sum_ge : ∀ (l : List Int), (∀ x ∈ l, 0 ≤ x) → ∀ x ∈ l, x ≤ l.sum
  | [], _, x, hx => nomatch hx
  | y :: l, h, x, hx => by
    rw [List.sum_cons]
    have h0 := h y List.mem_cons_self
    have hs : 0 ≤ l.sum := by
      have : ∀ l : List Int, (∀ x ∈ l, 0 ≤ x) → 0 ≤ l.sum := by
        intro l
        induction l with
        | nil => intro _; simp
        | cons z l ih => intro hz; rw [List.sum_cons]; have := hz z List.mem_cons_self; have := ih fun x hx => hz x (List.mem_cons_of_mem _ hx); omega
      exact this l fun x hx => h x (List.mem_cons_of_mem _ hx)
    rcases List.mem_cons.mp hx with rfl | hx
    · omega
    · have := sum_ge l (fun x hx => h x (List.mem_cons_of_mem _ hx)) x hx
      omega
theorem GapsOf.small (h : GapsOf p K out) (hp : p.length ≤ 200) : ∀ q ∈ out, (0 ≤ q.1 ∧ q.1 < 2 ^ 201) ∧ (0 ≤ q.2 ∧ q.2 < 2 ^ 201) := by
  intro q hq
  refine ⟨?_, h.nonneg q hq, ?_⟩
  · obtain ⟨y, hy, e⟩ := (h.mem q.1).mp (List.mem_map.mpr ⟨q, hq, rfl⟩)
    rw [e]
    have h1 := Bk_pos (p.take K) y
    have h2 := grow_le y (p.take K).reverse
    have h3 : L (p.take K) < 2 ^ 200 := L_bound 200 _ (by rw [List.length_take]; omega)
    have e2 : Bk (p.take K).reverse y = Lr (y :: (p.take K).reverse) - Lr (p.take K).reverse := rfl
    have e3 : L (p.take K) = Lr (p.take K).reverse := rfl
    have e4 : (2 : Int) ^ 201 = 2 * 2 ^ 200 := by rw [Int.pow_succ]; omega
    have e5 : (0 : Int) < 2 ^ 200 := Int.pow_pos (by decide)
    constructor <;> omega
  · have h1 := sum_ge (out.map (·.2)) (fun x hx => by obtain ⟨z, hz, e⟩ := List.mem_map.mp hx; rw [← e]; exact h.nonneg z hz) q.2 (List.mem_map.mpr ⟨q, hq, rfl⟩)
    rw [h.sum] at h1
    have h3 : L (p.drop K) < 2 ^ 200 := L_bound 200 _ (by rw [List.length_drop]; omega)
    have e4 : (2 : Int) ^ 201 = 2 * 2 ^ 200 := by rw [Int.pow_succ]; omega
    have e5 : (0 : Int) < 2 ^ 200 := Int.pow_pos (by decide)
    omega
end
/-! ### by hand -/
theorem gaps_rep (a n : Nat) (K : Nat) (hK : K < n) {out : List (Int × Int)} (h : GapsOf (List.replicate n a) K out) : out = [(1, ((n - K : Nat) : Int))] := by
  refine h.uniq ⟨[a], by simp, fun c => ?_, ?_, by simp⟩
  · rw [List.drop_replicate, List.mem_replicate, List.mem_singleton]
    exact ⟨fun e => ⟨by omega, e⟩, fun e => e.2⟩
  · have e : gapG ((List.replicate n a).take K).reverse ((List.replicate n a).drop K).reverse [] [a] = [(1, ((n - K : Nat) : Int))] := by
      show addI [] _ _ = _
      rw [addI_nil, take_rep a n K (by omega), Bk_rep, List.drop_replicate, cnt_rep]
    rw [e]
theorem gaps_all (p : List Nat) {out : List (Int × Int)} (h : GapsOf p p.length out) : out = [] := by
  refine h.uniq ⟨[], by simp, fun c => by simp, ?_, by simp⟩
  exact List.Perm.refl _
theorem gaps_two {a b : Nat} {r : List Nat} (hab : a ≠ b) (hr : ∀ c, c ∈ r ↔ c = a ∨ c = b) {out : List (Int × Int)} (h : GapsOf (a :: r) 1 out) : out.map (·.1) = [1, 2] := by
  have hm : ∀ j, j ∈ out.map (·.1) ↔ j = 1 ∨ j = 2 := fun j => by
    rw [h.mem j]
    have e1 : (a :: r).drop 1 = r := rfl
    have e2 : (a :: r).take 1 = [a] := rfl
    rw [e1, e2]
    have ba : Bk [a].reverse a = 1 := Bk_rep a 1
    constructor
    · rintro ⟨y, hy, e⟩
      rcases (hr y).mp hy with rfl | rfl
      · exact .inl (e.trans ba)
      · exact .inr (e.trans (Bk_other hab))
    · rintro (e | e)
      · exact ⟨a, (hr a).mpr (.inl rfl), e.trans ba.symm⟩
      · exact ⟨b, (hr b).mpr (.inr rfl), e.trans (Bk_other hab).symm⟩
  have hs : (out.map (·.1)).Pairwise (· ≤ ·) := by
    obtain ⟨ys, _, _, _, y4⟩ := h
    exact List.pairwise_map.mpr (List.Pairwise.imp (fun {x y} z => by rcases z with z | ⟨z, _⟩ <;> omega) y4)
  have p : (out.map (·.1)).Perm [1, 2] := (List.perm_ext_iff_of_nodup h.keys (by simp)).mpr fun j => by rw [hm j]; simp
  exact p.eq_of_pairwise (le := (· ≤ ·)) (fun x y _ _ h1 h2 => by omega) hs (by simp)
/-- letters that stand not ahead give one gap -/
theorem fresh_gap {p : List Nat} {K y : Nat} (h : y ∉ p.take K) : Bk (p.take K).reverse y = L (p.take K) + 1 := Bk_new (lastIx_none.mpr h)
end Mi
/-! Texts by signs: find, rfind, index. -/
namespace Mi
open PySem PySem.Spec PyProof.Rows L2 SX
open PySem.StrLaws PySem.Builtin PySem.Builtin.Str

theorem at_iff {l w : List Nat} {hi i : Nat} (hh : hi ≤ l.length) : At (S l) (S w) hi i ↔ i + w.length ≤ hi ∧ (l.drop i).take w.length = w := by
  unfold At
  rw [subAt_eq, S_len, beq_iff_eq]
theorem find_text (l w : List Nat) : Txt.find (S l) (S w) = match findIx w l with | some i => (i : Int) | none => -1 := by
  have hA : ∀ i, At (S l) (S w) (S l).length i ↔ (i ≤ l.length ∧ (l.drop i).take w.length = w) := fun i => by
    rw [S_len, at_iff (Nat.le_refl _)]
    constructor
    · rintro ⟨h1, h2⟩; exact ⟨by omega, h2⟩
    · rintro ⟨h1, h2⟩
      refine ⟨?_, h2⟩
      have := congrArg List.length h2
      rw [List.length_take, List.length_drop] at this
      omega
  unfold Txt.find
  rcases occ_head (S l) (S w) 1 (Nat.le_refl 1) with ⟨e, hn⟩ | ⟨i, r, e, h1, h2⟩
  · rw [e]
    have : findIx w l = none := findIx_none.mpr fun i hi z => hn i ((hA i).mpr ⟨hi, z⟩)
    rw [this]
  · rw [e]
    have h3 := (hA i).mp h1
    have : findIx w l = some i := findIx_some.mpr ⟨h3.1, h3.2, fun k hk z => h2 k hk ((hA k).mpr ⟨by omega, z⟩)⟩
    rw [this]
theorem sub_one {l : List Nat} {c i : Nat} : (l.drop i).take 1 = [c] ↔ l[i]? = some c := by
  constructor
  · intro h
    have := congrArg (fun z => z[0]?) h
    simpa using this
  · intro h
    obtain ⟨hi, e⟩ := List.getElem?_eq_some_iff.mp h
    rw [List.drop_eq_getElem_cons hi, e]
    rfl
/-- the first place of a sign -/
theorem find_sign (l : List Nat) (c : Nat) : (c ∉ l ∧ Txt.find (S l) (S [c]) = -1) ∨ ∃ i : Nat, l[i]? = some c ∧ (∀ k, k < i → l[k]? ≠ some c) ∧ Txt.find (S l) (S [c]) = (i : Int) := by
  rw [find_text]
  cases e : findIx [c] l with
  | none =>
    refine .inl ⟨fun m => ?_, rfl⟩
    obtain ⟨i, hi⟩ := List.mem_iff_getElem?.mp m
    have h := (List.getElem?_eq_some_iff.mp hi).1
    exact findIx_none.mp e i (by omega) (sub_one.mpr hi)
  | some i =>
    obtain ⟨h1, h2, h3⟩ := findIx_some.mp e
    exact .inr ⟨i, sub_one.mp h2, fun k hk z => h3 k hk (sub_one.mpr z), rfl⟩
theorem last_sign (l : List Nat) (c hi : Nat) (hh : hi ≤ l.length) : lastOccurrence (S l) (S [c]) 0 hi = lastIx c (l.take hi) := by
  rw [last_eq]
  have key := last_run (S l) (S [c]) hi (List.range' 0 (hi + 1 - 0)) [] none (fun _ h => nomatch h) (fun _ h => nomatch h) (by simpa using List.pairwise_lt_range' (s := 0) (n := hi + 1 - 0))
  have hA : ∀ i, At (S l) (S [c]) hi i ↔ (l.take hi)[i]? = some c := fun i => by
    rw [at_iff hh]
    show i + 1 ≤ hi ∧ (l.drop i).take 1 = [c] ↔ _
    rw [sub_one, List.getElem?_take]
    constructor
    · rintro ⟨h1, h2⟩; rw [if_pos (by omega)]; exact h2
    · intro h
      by_cases hi' : i < hi
      · rw [if_pos hi'] at h; exact ⟨by omega, h⟩
      · rw [if_neg hi'] at h; cases h
  have mem : ∀ i, At (S l) (S [c]) hi i → i ∈ [] ++ List.range' 0 (hi + 1 - 0) := fun i h => by have := h.1; simp [List.mem_range'] <;> omega
  cases hr : (forIn (List.range' 0 (hi + 1 - 0)) none (lastBody (S l) (S [c]) hi)).run with
  | none =>
    rw [hr] at key
    refine (lastIx_none.mpr fun m => ?_).symm
    obtain ⟨i, h⟩ := List.mem_iff_getElem?.mp m
    exact key i (mem i ((hA i).mpr h)) ((hA i).mpr h)
  | some a =>
    rw [hr] at key
    exact (lastIx_get ((hA a).mp key.1) fun k hk z => key.2 k (mem k ((hA k).mpr z)) hk ((hA k).mpr z)).symm
theorem rfind_sign (l : List Nat) (c : Nat) : Txt.rfind (S l) (S [c]) = match lastIx c l with | some i => (i : Int) | none => -1 := by
  unfold Txt.rfind
  rw [S_len, last_sign l c _ (Nat.le_refl _), List.take_of_length_le (Nat.le_refl _)]
  cases lastIx c l <;> rfl
theorem rfindIn_sign (l : List Nat) (c k : Nat) (hk : k ≤ l.length) : Txt.rfindIn (S l) (S [c]) 0 (k : Int) = match lastIx c (l.take k) with | some i => (i : Int) | none => -1 := by
  unfold Txt.rfindIn
  have e1 : fromIndex (S l).length 0 = 0 := rfl
  have e2 : toIndexW (S l).length (k : Int) = k := by
    unfold toIndexW
    rw [S_len, if_neg (by omega)]
    omega
  rw [e1, e2, last_sign l c k hk]
  cases lastIx c (l.take k) <;> rfl
theorem index_sign {l : List Nat} {c : Nat} (h : c ∈ l) : ∃ i r, occurrences (S l) (S [c]) 0 (S l).length 1 = i :: r ∧ l[i]? = some c ∧ ∀ k, k < i → l[k]? ≠ some c := by
  have hA : ∀ i, At (S l) (S [c]) (S l).length i ↔ l[i]? = some c := fun i => by
    rw [S_len, at_iff (Nat.le_refl _)]
    show i + 1 ≤ _ ∧ (l.drop i).take 1 = [c] ↔ _
    rw [sub_one]
    exact ⟨fun z => z.2, fun z => ⟨by have := (List.getElem?_eq_some_iff.mp z).1; omega, z⟩⟩
  rcases occ_head (S l) (S [c]) 1 (Nat.le_refl 1) with ⟨e, hn⟩ | ⟨i, r, e, h1, h2⟩
  · obtain ⟨i, hi⟩ := List.mem_iff_getElem?.mp h
    exact absurd ((hA i).mpr hi) (hn i)
  · exact ⟨i, r, e, (hA i).mp h1, fun k hk z => h2 k hk ((hA k).mpr z)⟩
/-! joins, slices -/
theorem join_signs (l : List Nat) : Txt.join (S []) (l.map fun c => S [c]) = S l := by
  have e : (l.map fun c => S [c]) = (l.map fun c => [c]).map S := by rw [List.map_map]; rfl
  rw [e, join_S]
  refine congrArg S ?_
  induction l with
  | nil => rfl
  | cons x r ih =>
    cases r with
    | nil => rfl
    | cons y r =>
      show [x] ++ [] ++ TL.joinL [] ((y :: r).map fun c => [c]) = _
      rw [ih (by rw [List.map_map]; rfl)]
      rfl
end Mi
/-! The row's facts by names; how a def's promise is made; the promises. -/
namespace Mi
open PySem PySem.Spec PyProof.Rows L2 SX
/-- what the top leaves -/
structure Fx (K : PySem.W.Frag) (mg : Str → Option Value) : Prop where
  says : He.SaysD fa fn K
  ex : ∃ h : Heap, K.In h ∧ h.Ns mainGlobals mg
section
variable {K : PySem.W.Frag} {mg : Str → Option Value}
theorem Fx.glo (X : Fx K mg) {x : Str} (i : Nat) (h : fa[i]? = some (.glo x)) : mg x = some (.ref (He.ga K x)) := by
  obtain ⟨h0, a, b⟩ := X.ex
  exact He.glo_ok a b (X.says.fact i h)
theorem Fx.free (X : Fx K mg) {x : Str} (i : Nat) (h : fa[i]? = some (.free x)) : mg x = none := by
  obtain ⟨h0, a, b⟩ := X.ex
  exact He.free_ok a b (X.says.fact i h)
theorem Fx.cint (X : Fx K mg) {x : Str} {n : Int} (i : Nat) (h : fa[i]? = some (.int x n)) : ∃ u, mg x = some u ∧ RelV (.int n) u := by
  obtain ⟨h0, a, b⟩ := X.ex
  obtain ⟨t, e⟩ := He.int_ok a b (X.says.fact i h)
  exact ⟨_, e, t, rfl⟩
theorem Fx.cstr (X : Fx K mg) {x z : Str} (i : Nat) (h : fa[i]? = some (.str x z)) : ∃ u, mg x = some u ∧ RelV (.str z) u := by
  obtain ⟨h0, a, b⟩ := X.ex
  obtain ⟨t, e⟩ := He.str_ok a b (X.says.fact i h)
  exact ⟨_, e, t, rfl⟩
theorem Fx.g_is_whole (X : Fx K mg) : mg "is_whole" = some (.ref (He.ga K "is_whole")) := X.glo 0 rfl
theorem Fx.g_is_letter (X : Fx K mg) : mg "is_letter" = some (.ref (He.ga K "is_letter")) := X.glo 1 rfl
theorem Fx.g_odd_place (X : Fx K mg) : mg "odd_place" = some (.ref (He.ga K "odd_place")) := X.glo 2 rfl
theorem Fx.g_need_presses (X : Fx K mg) : mg "need_presses" = some (.ref (He.ga K "need_presses")) := X.glo 3 rfl
theorem Fx.g_need_text (X : Fx K mg) : mg "need_text" = some (.ref (He.ga K "need_text")) := X.glo 4 rfl
theorem Fx.g_lasts_of (X : Fx K mg) : mg "lasts_of" = some (.ref (He.ga K "lasts_of")) := X.glo 5 rfl
theorem Fx.g_lengths_of (X : Fx K mg) : mg "lengths_of" = some (.ref (He.ga K "lengths_of")) := X.glo 6 rfl
theorem Fx.g_length (X : Fx K mg) : mg "length" = some (.ref (He.ga K "length")) := X.glo 7 rfl
theorem Fx.g_growths (X : Fx K mg) : mg "growths" = some (.ref (He.ga K "growths")) := X.glo 8 rfl
theorem Fx.g_letter_there (X : Fx K mg) : mg "letter_there" = some (.ref (He.ga K "letter_there")) := X.glo 9 rfl
theorem Fx.g_letter_at (X : Fx K mg) : mg "letter_at" = some (.ref (He.ga K "letter_at")) := X.glo 10 rfl
theorem Fx.g_window (X : Fx K mg) : mg "window" = some (.ref (He.ga K "window")) := X.glo 11 rfl
theorem Fx.g_need_letter (X : Fx K mg) : mg "need_letter" = some (.ref (He.ga K "need_letter")) := X.glo 12 rfl
theorem Fx.g_count_there (X : Fx K mg) : mg "count_there" = some (.ref (He.ga K "count_there")) := X.glo 13 rfl
theorem Fx.g_counts (X : Fx K mg) : mg "counts" = some (.ref (He.ga K "counts")) := X.glo 14 rfl
theorem Fx.g_need_within (X : Fx K mg) : mg "need_within" = some (.ref (He.ga K "need_within")) := X.glo 15 rfl
theorem Fx.g_added_by (X : Fx K mg) : mg "added_by" = some (.ref (He.ga K "added_by")) := X.glo 16 rfl
theorem Fx.g_block_length (X : Fx K mg) : mg "block_length" = some (.ref (He.ga K "block_length")) := X.glo 17 rfl
theorem Fx.g_need_cut (X : Fx K mg) : mg "need_cut" = some (.ref (He.ga K "need_cut")) := X.glo 18 rfl
theorem Fx.g_digits_of (X : Fx K mg) : mg "digits_of" = some (.ref (He.ga K "digits_of")) := X.glo 19 rfl
theorem Fx.g_value_of (X : Fx K mg) : mg "value_of" = some (.ref (He.ga K "value_of")) := X.glo 20 rfl
theorem Fx.g_block_start (X : Fx K mg) : mg "block_start" = some (.ref (He.ga K "block_start")) := X.glo 21 rfl
theorem Fx.g_need_piece (X : Fx K mg) : mg "need_piece" = some (.ref (He.ga K "need_piece")) := X.glo 22 rfl
theorem Fx.g_found_home (X : Fx K mg) : mg "found_home" = some (.ref (He.ga K "found_home")) := X.glo 23 rfl
theorem Fx.g_home (X : Fx K mg) : mg "home" = some (.ref (He.ga K "home")) := X.glo 24 rfl
theorem Fx.g_how_often (X : Fx K mg) : mg "how_often" = some (.ref (He.ga K "how_often")) := X.glo 25 rfl
theorem Fx.g_place_at (X : Fx K mg) : mg "place_at" = some (.ref (He.ga K "place_at")) := X.glo 26 rfl
theorem Fx.g_parted_at (X : Fx K mg) : mg "parted_at" = some (.ref (He.ga K "parted_at")) := X.glo 27 rfl
theorem Fx.g_gaps (X : Fx K mg) : mg "gaps" = some (.ref (He.ga K "gaps")) := X.glo 28 rfl
theorem Fx.g_gap_presses (X : Fx K mg) : mg "gap_presses" = some (.ref (He.ga K "gap_presses")) := X.glo 29 rfl
theorem Fx.g_gap_letter (X : Fx K mg) : mg "gap_letter" = some (.ref (He.ga K "gap_letter")) := X.glo 30 rfl
theorem Fx.g_gap (X : Fx K mg) : mg "gap" = some (.ref (He.ga K "gap")) := X.glo 31 rfl
theorem Fx.g_law_begun (X : Fx K mg) : mg "_law_begun" = some (.ref (He.ga K "_law_begun")) := X.glo 32 rfl
theorem Fx.g_law_take (X : Fx K mg) : mg "_law_take" = some (.ref (He.ga K "_law_take")) := X.glo 33 rfl
theorem Fx.g_law_of (X : Fx K mg) : mg "_law_of" = some (.ref (He.ga K "_law_of")) := X.glo 34 rfl
theorem Fx.g_law_letters (X : Fx K mg) : mg "_law_letters" = some (.ref (He.ga K "_law_letters")) := X.glo 35 rfl
theorem Fx.g_law_row (X : Fx K mg) : mg "_law_row" = some (.ref (He.ga K "_law_row")) := X.glo 36 rfl
theorem Fx.g_law_lens (X : Fx K mg) : mg "_law_lens" = some (.ref (He.ga K "_law_lens")) := X.glo 37 rfl
theorem Fx.g_law_far (X : Fx K mg) : mg "_law_far" = some (.ref (He.ga K "_law_far")) := X.glo 38 rfl
theorem Fx.g_law_seen (X : Fx K mg) : mg "_law_seen" = some (.ref (He.ga K "_law_seen")) := X.glo 39 rfl
theorem Fx.g_law_due (X : Fx K mg) : mg "_law_due" = some (.ref (He.ga K "_law_due")) := X.glo 40 rfl
theorem Fx.g_law_right (X : Fx K mg) : mg "_law_right" = some (.ref (He.ga K "_law_right")) := X.glo 41 rfl
theorem Fx.g_law (X : Fx K mg) : mg "law" = some (.ref (He.ga K "law")) := X.glo 42 rfl
theorem Fx.g_Copies (X : Fx K mg) : mg "Copies" = some (.ref (He.ga K "Copies")) := X.glo 43 rfl
theorem Fx.f_isinstance (X : Fx K mg) : mg "isinstance" = none := X.free 44 rfl
theorem Fx.f_int (X : Fx K mg) : mg "int" = none := X.free 45 rfl
theorem Fx.f_str (X : Fx K mg) : mg "str" = none := X.free 46 rfl
theorem Fx.f_bool (X : Fx K mg) : mg "bool" = none := X.free 47 rfl
theorem Fx.f_len (X : Fx K mg) : mg "len" = none := X.free 48 rfl
theorem Fx.f_enumerate (X : Fx K mg) : mg "enumerate" = none := X.free 49 rfl
theorem Fx.f_tuple (X : Fx K mg) : mg "tuple" = none := X.free 50 rfl
theorem Fx.f_zip (X : Fx K mg) : mg "zip" = none := X.free 51 rfl
theorem Fx.f_range (X : Fx K mg) : mg "range" = none := X.free 52 rfl
theorem Fx.f_min (X : Fx K mg) : mg "min" = none := X.free 53 rfl
theorem Fx.f_sorted (X : Fx K mg) : mg "sorted" = none := X.free 54 rfl
theorem Fx.f_set (X : Fx K mg) : mg "set" = none := X.free 55 rfl
theorem Fx.f_sum (X : Fx K mg) : mg "sum" = none := X.free 56 rfl
theorem Fx.f_dict (X : Fx K mg) : mg "dict" = none := X.free 57 rfl
theorem Fx.f_repr (X : Fx K mg) : mg "repr" = none := X.free 58 rfl
theorem Fx.f_list (X : Fx K mg) : mg "list" = none := X.free 59 rfl
theorem Fx.c_MOST_TEXT (X : Fx K mg) : ∃ u, mg "MOST_TEXT" = some u ∧ RelV (.int 20000) u := X.cint 60 rfl
theorem Fx.c_MOST_PRESSES (X : Fx K mg) : ∃ u, mg "MOST_PRESSES" = some u ∧ RelV (.int 200) u := X.cint 61 rfl
theorem Fx.c_MOST_WINDOW (X : Fx K mg) : ∃ u, mg "MOST_WINDOW" = some u ∧ RelV (.int 1000) u := X.cint 62 rfl
theorem Fx.c_MOST_PIECE (X : Fx K mg) : ∃ u, mg "MOST_PIECE" = some u ∧ RelV (.int 200) u := X.cint 63 rfl
theorem Fx.c_LETTERS (X : Fx K mg) : ∃ u, mg "LETTERS" = some u ∧ RelV (.str "abcdefghijklmnopqrstuvwxyz") u := X.cstr 64 rfl
theorem Fx.clC (X : Fx K mg) : Cls K (He.ga K "Copies") := He.cls_ok (X.says.fact 65 rfl)
theorem Fx.mkC (X : Fx K mg) : Mk K (He.ga K "Copies") (He.ma K (He.ga K "Copies") "__init__") := He.mkr_ok (X.says.fact 66 rfl)
theorem Fx.n_copy_presses (X : Fx K mg) : NoAttr K (He.ga K "Copies") "copy_presses" := He.noat_ok (X.says.fact 67 rfl)
theorem Fx.n_copy_lengths (X : Fx K mg) : NoAttr K (He.ga K "Copies") "copy_lengths" := He.noat_ok (X.says.fact 68 rfl)
theorem Fx.n_copy_shared (X : Fx K mg) : NoAttr K (He.ga K "Copies") "copy_shared" := He.noat_ok (X.says.fact 69 rfl)
theorem Fx.m_len (X : Fx K mg) : Meth K (He.ga K "Copies") "__len__" (He.ma K (He.ga K "Copies") "__len__") := He.meth_ok (X.says.fact 70 rfl)
theorem Fx.m_size (X : Fx K mg) : Meth K (He.ga K "Copies") "size" (He.ma K (He.ga K "Copies") "size") := He.meth_ok (X.says.fact 71 rfl)
theorem Fx.m_head (X : Fx K mg) : Meth K (He.ga K "Copies") "head" (He.ma K (He.ga K "Copies") "head") := He.meth_ok (X.says.fact 72 rfl)
theorem Fx.m_midst (X : Fx K mg) : Meth K (He.ga K "Copies") "midst" (He.ma K (He.ga K "Copies") "midst") := He.meth_ok (X.says.fact 73 rfl)
theorem Fx.d_is_whole (X : Fx K mg) : ∃ fd, FunD K d_is_whole.name d_is_whole.qual d_is_whole.params d_is_whole.body d_is_whole.scope (d_is_whole.dvs K) (d_is_whole.kws K) (He.fAd K d_is_whole.at_) fd := X.says.def_ 0 rfl
theorem Fx.d_is_letter (X : Fx K mg) : ∃ fd, FunD K d_is_letter.name d_is_letter.qual d_is_letter.params d_is_letter.body d_is_letter.scope (d_is_letter.dvs K) (d_is_letter.kws K) (He.fAd K d_is_letter.at_) fd := X.says.def_ 1 rfl
theorem Fx.d_odd_place (X : Fx K mg) : ∃ fd, FunD K d_odd_place.name d_odd_place.qual d_odd_place.params d_odd_place.body d_odd_place.scope (d_odd_place.dvs K) (d_odd_place.kws K) (He.fAd K d_odd_place.at_) fd := X.says.def_ 2 rfl
theorem Fx.d_need_presses (X : Fx K mg) : ∃ fd, FunD K d_need_presses.name d_need_presses.qual d_need_presses.params d_need_presses.body d_need_presses.scope (d_need_presses.dvs K) (d_need_presses.kws K) (He.fAd K d_need_presses.at_) fd := X.says.def_ 3 rfl
theorem Fx.d_need_text (X : Fx K mg) : ∃ fd, FunD K d_need_text.name d_need_text.qual d_need_text.params d_need_text.body d_need_text.scope (d_need_text.dvs K) (d_need_text.kws K) (He.fAd K d_need_text.at_) fd := X.says.def_ 4 rfl
theorem Fx.d_lasts_of (X : Fx K mg) : ∃ fd, FunD K d_lasts_of.name d_lasts_of.qual d_lasts_of.params d_lasts_of.body d_lasts_of.scope (d_lasts_of.dvs K) (d_lasts_of.kws K) (He.fAd K d_lasts_of.at_) fd := X.says.def_ 5 rfl
theorem Fx.d_lengths_of (X : Fx K mg) : ∃ fd, FunD K d_lengths_of.name d_lengths_of.qual d_lengths_of.params d_lengths_of.body d_lengths_of.scope (d_lengths_of.dvs K) (d_lengths_of.kws K) (He.fAd K d_lengths_of.at_) fd := X.says.def_ 6 rfl
theorem Fx.d_length (X : Fx K mg) : ∃ fd, FunD K d_length.name d_length.qual d_length.params d_length.body d_length.scope (d_length.dvs K) (d_length.kws K) (He.fAd K d_length.at_) fd := X.says.def_ 7 rfl
theorem Fx.d_growths (X : Fx K mg) : ∃ fd, FunD K d_growths.name d_growths.qual d_growths.params d_growths.body d_growths.scope (d_growths.dvs K) (d_growths.kws K) (He.fAd K d_growths.at_) fd := X.says.def_ 8 rfl
theorem Fx.d_letter_there (X : Fx K mg) : ∃ fd, FunD K d_letter_there.name d_letter_there.qual d_letter_there.params d_letter_there.body d_letter_there.scope (d_letter_there.dvs K) (d_letter_there.kws K) (He.fAd K d_letter_there.at_) fd := X.says.def_ 9 rfl
theorem Fx.d_letter_at (X : Fx K mg) : ∃ fd, FunD K d_letter_at.name d_letter_at.qual d_letter_at.params d_letter_at.body d_letter_at.scope (d_letter_at.dvs K) (d_letter_at.kws K) (He.fAd K d_letter_at.at_) fd := X.says.def_ 10 rfl
theorem Fx.d_window (X : Fx K mg) : ∃ fd, FunD K d_window.name d_window.qual d_window.params d_window.body d_window.scope (d_window.dvs K) (d_window.kws K) (He.fAd K d_window.at_) fd := X.says.def_ 11 rfl
theorem Fx.d_need_letter (X : Fx K mg) : ∃ fd, FunD K d_need_letter.name d_need_letter.qual d_need_letter.params d_need_letter.body d_need_letter.scope (d_need_letter.dvs K) (d_need_letter.kws K) (He.fAd K d_need_letter.at_) fd := X.says.def_ 12 rfl
theorem Fx.d_count_there (X : Fx K mg) : ∃ fd, FunD K d_count_there.name d_count_there.qual d_count_there.params d_count_there.body d_count_there.scope (d_count_there.dvs K) (d_count_there.kws K) (He.fAd K d_count_there.at_) fd := X.says.def_ 13 rfl
theorem Fx.d_counts (X : Fx K mg) : ∃ fd, FunD K d_counts.name d_counts.qual d_counts.params d_counts.body d_counts.scope (d_counts.dvs K) (d_counts.kws K) (He.fAd K d_counts.at_) fd := X.says.def_ 14 rfl
theorem Fx.d_need_within (X : Fx K mg) : ∃ fd, FunD K d_need_within.name d_need_within.qual d_need_within.params d_need_within.body d_need_within.scope (d_need_within.dvs K) (d_need_within.kws K) (He.fAd K d_need_within.at_) fd := X.says.def_ 15 rfl
theorem Fx.d_added_by (X : Fx K mg) : ∃ fd, FunD K d_added_by.name d_added_by.qual d_added_by.params d_added_by.body d_added_by.scope (d_added_by.dvs K) (d_added_by.kws K) (He.fAd K d_added_by.at_) fd := X.says.def_ 16 rfl
theorem Fx.d_block_length (X : Fx K mg) : ∃ fd, FunD K d_block_length.name d_block_length.qual d_block_length.params d_block_length.body d_block_length.scope (d_block_length.dvs K) (d_block_length.kws K) (He.fAd K d_block_length.at_) fd := X.says.def_ 17 rfl
theorem Fx.d_need_cut (X : Fx K mg) : ∃ fd, FunD K d_need_cut.name d_need_cut.qual d_need_cut.params d_need_cut.body d_need_cut.scope (d_need_cut.dvs K) (d_need_cut.kws K) (He.fAd K d_need_cut.at_) fd := X.says.def_ 18 rfl
theorem Fx.d_digits_of (X : Fx K mg) : ∃ fd, FunD K d_digits_of.name d_digits_of.qual d_digits_of.params d_digits_of.body d_digits_of.scope (d_digits_of.dvs K) (d_digits_of.kws K) (He.fAd K d_digits_of.at_) fd := X.says.def_ 19 rfl
theorem Fx.d_value_of (X : Fx K mg) : ∃ fd, FunD K d_value_of.name d_value_of.qual d_value_of.params d_value_of.body d_value_of.scope (d_value_of.dvs K) (d_value_of.kws K) (He.fAd K d_value_of.at_) fd := X.says.def_ 20 rfl
theorem Fx.d_block_start (X : Fx K mg) : ∃ fd, FunD K d_block_start.name d_block_start.qual d_block_start.params d_block_start.body d_block_start.scope (d_block_start.dvs K) (d_block_start.kws K) (He.fAd K d_block_start.at_) fd := X.says.def_ 21 rfl
theorem Fx.d_need_piece (X : Fx K mg) : ∃ fd, FunD K d_need_piece.name d_need_piece.qual d_need_piece.params d_need_piece.body d_need_piece.scope (d_need_piece.dvs K) (d_need_piece.kws K) (He.fAd K d_need_piece.at_) fd := X.says.def_ 22 rfl
theorem Fx.d_found_home (X : Fx K mg) : ∃ fd, FunD K d_found_home.name d_found_home.qual d_found_home.params d_found_home.body d_found_home.scope (d_found_home.dvs K) (d_found_home.kws K) (He.fAd K d_found_home.at_) fd := X.says.def_ 23 rfl
theorem Fx.d_home (X : Fx K mg) : ∃ fd, FunD K d_home.name d_home.qual d_home.params d_home.body d_home.scope (d_home.dvs K) (d_home.kws K) (He.fAd K d_home.at_) fd := X.says.def_ 24 rfl
theorem Fx.d_how_often (X : Fx K mg) : ∃ fd, FunD K d_how_often.name d_how_often.qual d_how_often.params d_how_often.body d_how_often.scope (d_how_often.dvs K) (d_how_often.kws K) (He.fAd K d_how_often.at_) fd := X.says.def_ 25 rfl
theorem Fx.d_place_at (X : Fx K mg) : ∃ fd, FunD K d_place_at.name d_place_at.qual d_place_at.params d_place_at.body d_place_at.scope (d_place_at.dvs K) (d_place_at.kws K) (He.fAd K d_place_at.at_) fd := X.says.def_ 26 rfl
theorem Fx.d_parted_at (X : Fx K mg) : ∃ fd, FunD K d_parted_at.name d_parted_at.qual d_parted_at.params d_parted_at.body d_parted_at.scope (d_parted_at.dvs K) (d_parted_at.kws K) (He.fAd K d_parted_at.at_) fd := X.says.def_ 27 rfl
theorem Fx.d_gaps (X : Fx K mg) : ∃ fd, FunD K d_gaps.name d_gaps.qual d_gaps.params d_gaps.body d_gaps.scope (d_gaps.dvs K) (d_gaps.kws K) (He.fAd K d_gaps.at_) fd := X.says.def_ 28 rfl
theorem Fx.d_gap_presses (X : Fx K mg) : ∃ fd, FunD K d_gap_presses.name d_gap_presses.qual d_gap_presses.params d_gap_presses.body d_gap_presses.scope (d_gap_presses.dvs K) (d_gap_presses.kws K) (He.fAd K d_gap_presses.at_) fd := X.says.def_ 29 rfl
theorem Fx.d_gap_letter (X : Fx K mg) : ∃ fd, FunD K d_gap_letter.name d_gap_letter.qual d_gap_letter.params d_gap_letter.body d_gap_letter.scope (d_gap_letter.dvs K) (d_gap_letter.kws K) (He.fAd K d_gap_letter.at_) fd := X.says.def_ 30 rfl
theorem Fx.d_gap (X : Fx K mg) : ∃ fd, FunD K d_gap.name d_gap.qual d_gap.params d_gap.body d_gap.scope (d_gap.dvs K) (d_gap.kws K) (He.fAd K d_gap.at_) fd := X.says.def_ 31 rfl
theorem Fx.d_law_begun (X : Fx K mg) : ∃ fd, FunD K d_law_begun.name d_law_begun.qual d_law_begun.params d_law_begun.body d_law_begun.scope (d_law_begun.dvs K) (d_law_begun.kws K) (He.fAd K d_law_begun.at_) fd := X.says.def_ 32 rfl
theorem Fx.d_law_take (X : Fx K mg) : ∃ fd, FunD K d_law_take.name d_law_take.qual d_law_take.params d_law_take.body d_law_take.scope (d_law_take.dvs K) (d_law_take.kws K) (He.fAd K d_law_take.at_) fd := X.says.def_ 33 rfl
theorem Fx.d_law_of (X : Fx K mg) : ∃ fd, FunD K d_law_of.name d_law_of.qual d_law_of.params d_law_of.body d_law_of.scope (d_law_of.dvs K) (d_law_of.kws K) (He.fAd K d_law_of.at_) fd := X.says.def_ 34 rfl
theorem Fx.d_law_letters (X : Fx K mg) : ∃ fd, FunD K d_law_letters.name d_law_letters.qual d_law_letters.params d_law_letters.body d_law_letters.scope (d_law_letters.dvs K) (d_law_letters.kws K) (He.fAd K d_law_letters.at_) fd := X.says.def_ 35 rfl
theorem Fx.d_law_row (X : Fx K mg) : ∃ fd, FunD K d_law_row.name d_law_row.qual d_law_row.params d_law_row.body d_law_row.scope (d_law_row.dvs K) (d_law_row.kws K) (He.fAd K d_law_row.at_) fd := X.says.def_ 36 rfl
theorem Fx.d_law_lens (X : Fx K mg) : ∃ fd, FunD K d_law_lens.name d_law_lens.qual d_law_lens.params d_law_lens.body d_law_lens.scope (d_law_lens.dvs K) (d_law_lens.kws K) (He.fAd K d_law_lens.at_) fd := X.says.def_ 37 rfl
theorem Fx.d_law_far (X : Fx K mg) : ∃ fd, FunD K d_law_far.name d_law_far.qual d_law_far.params d_law_far.body d_law_far.scope (d_law_far.dvs K) (d_law_far.kws K) (He.fAd K d_law_far.at_) fd := X.says.def_ 38 rfl
theorem Fx.d_law_seen (X : Fx K mg) : ∃ fd, FunD K d_law_seen.name d_law_seen.qual d_law_seen.params d_law_seen.body d_law_seen.scope (d_law_seen.dvs K) (d_law_seen.kws K) (He.fAd K d_law_seen.at_) fd := X.says.def_ 39 rfl
theorem Fx.d_law_due (X : Fx K mg) : ∃ fd, FunD K d_law_due.name d_law_due.qual d_law_due.params d_law_due.body d_law_due.scope (d_law_due.dvs K) (d_law_due.kws K) (He.fAd K d_law_due.at_) fd := X.says.def_ 40 rfl
theorem Fx.d_law_right (X : Fx K mg) : ∃ fd, FunD K d_law_right.name d_law_right.qual d_law_right.params d_law_right.body d_law_right.scope (d_law_right.dvs K) (d_law_right.kws K) (He.fAd K d_law_right.at_) fd := X.says.def_ 41 rfl
theorem Fx.d_law (X : Fx K mg) : ∃ fd, FunD K d_law.name d_law.qual d_law.params d_law.body d_law.scope (d_law.dvs K) (d_law.kws K) (He.fAd K d_law.at_) fd := X.says.def_ 42 rfl
theorem Fx.d_c_init (X : Fx K mg) : ∃ fd, FunD K d_c_init.name d_c_init.qual d_c_init.params d_c_init.body d_c_init.scope (d_c_init.dvs K) (d_c_init.kws K) (He.fAd K d_c_init.at_) fd := X.says.def_ 43 rfl
theorem Fx.d_c_len (X : Fx K mg) : ∃ fd, FunD K d_c_len.name d_c_len.qual d_c_len.params d_c_len.body d_c_len.scope (d_c_len.dvs K) (d_c_len.kws K) (He.fAd K d_c_len.at_) fd := X.says.def_ 44 rfl
theorem Fx.d_c_size (X : Fx K mg) : ∃ fd, FunD K d_c_size.name d_c_size.qual d_c_size.params d_c_size.body d_c_size.scope (d_c_size.dvs K) (d_c_size.kws K) (He.fAd K d_c_size.at_) fd := X.says.def_ 45 rfl
theorem Fx.d_c_head (X : Fx K mg) : ∃ fd, FunD K d_c_head.name d_c_head.qual d_c_head.params d_c_head.body d_c_head.scope (d_c_head.dvs K) (d_c_head.kws K) (He.fAd K d_c_head.at_) fd := X.says.def_ 46 rfl
theorem Fx.d_c_midst (X : Fx K mg) : ∃ fd, FunD K d_c_midst.name d_c_midst.qual d_c_midst.params d_c_midst.body d_c_midst.scope (d_c_midst.dvs K) (d_c_midst.kws K) (He.fAd K d_c_midst.at_) fd := X.says.def_ 47 rfl
end
section
variable {P : Program} {w : World} {K : PySem.W.Frag} {mg : Str → Option Value} {base : Heap}
/-- a def's promise by its body -/
theorem mkCal {x : Str} {params : Arguments} {body : List Stmt} {scope : Scope} {f : Addr} {N ps : List Str} {k : Nat} {sp : Sp} (F : ∃ fd, FunD K x x params body scope [] [] f fd) (gm : mg x = some (.ref f)) (S : FnScope N ps scope)
    (len : ∀ vs H Q E, sp vs H Q E → vs.length = ps.length)
    (hb : ∀ (kV doc pm : Value) (an : Option Addr) (cdv ct : Value) (us : List Value), us.length = ps.length → bindArgs (PySem.W.fnOf x x params body scope .none kV doc pm an cdv ct) ⟨us, []⟩ = pure (ps.zip us))
    (hbody : ∀ (cdv : Value) (A : Around) (outer : List Env) (s : Shared) (H : Hp) (vs : List V) (Q : VK) (E : XK), Room k (A.deeper (envOfC x scope s.heap.objs.size f cdv)) → sp vs H Q E →
      ∃ t, PSs (cxOf C8.CX0 P w K mg base N x scope f cdv A outer s H E).nox body t ∧ t { nx := fun _ H' => Q .non H', rt := Q } (start N vs) H) : C8.Cal P w K mg base (k + 1) x sp [] := by
  obtain ⟨fd, F⟩ := F
  refine ⟨f, fd, ps, [], F.ok S len (fun cdv A outer s H vs Q E hr h => ?_), gm, F.kp, F.bindsN hb, .nil⟩
  obtain ⟨t, a, b⟩ := hbody cdv A outer s H vs Q E hr h
  exact ⟨t, a.nox, b⟩
/-- a method's -/
theorem mkMet {C : Addr} {m qual : Str} {params : Arguments} {body : List Stmt} {scope : Scope} {f : Addr} {N ps : List Str} {k : Nat} {sp : Sp} (c : Cls K C) (me : Meth K C m f) (F : ∃ fd, FunD K m qual params body scope [] [] f fd) (S : FnScope N ps scope)
    (len : ∀ vs H Q E, sp vs H Q E → vs.length = ps.length)
    (hb : ∀ (kV doc pm : Value) (an : Option Addr) (cdv ct : Value) (us : List Value), us.length = ps.length → bindArgs (PySem.W.fnOf m qual params body scope .none kV doc pm an cdv ct) ⟨us, []⟩ = pure (ps.zip us))
    (hbody : ∀ (cdv : Value) (A : Around) (outer : List Env) (s : Shared) (H : Hp) (vs : List V) (Q : VK) (E : XK), Room k (A.deeper (envOfC qual scope s.heap.objs.size f cdv)) → sp vs H Q E →
      ∃ t, PSs (cxOf C8.CX0 P w K mg base N qual scope f cdv A outer s H E).nox body t ∧ t { nx := fun _ H' => Q .non H', rt := Q } (start N vs) H) : C8.Met P w K mg base (k + 1) C m sp [] := by
  obtain ⟨fd, F⟩ := F
  refine ⟨f, fd, ps, [], c, me, F.ok S len (fun cdv A outer s H vs Q E hr h => ?_), F.bindsN hb, .nil⟩
  obtain ⟨t, a, b⟩ := hbody cdv A outer s H vs Q E hr h
  exact ⟨t, a.nox, b⟩
/-- a class's, by its __init__ -/
theorem mkMak {x : Str} {C : Addr} {qual : Str} {params : Arguments} {body : List Stmt} {scope : Scope} {f : Addr} {N ps : List Str} {k : Nat} {sp : Sp} (gm : mg x = some (.ref C)) (me : Mk K C f) (F : ∃ fd, FunD K "__init__" qual params body scope [] [] f fd) (S : FnScope N ps scope)
    (len : ∀ vs H Q E, sp vs H Q E → vs.length = ps.length)
    (hb : ∀ (kV doc pm : Value) (an : Option Addr) (cdv ct : Value) (us : List Value), us.length = ps.length → bindArgs (PySem.W.fnOf "__init__" qual params body scope .none kV doc pm an cdv ct) ⟨us, []⟩ = pure (ps.zip us))
    (hbody : ∀ (cdv : Value) (A : Around) (outer : List Env) (s : Shared) (H : Hp) (vs : List V) (Q : VK) (E : XK), Room k (A.deeper (envOfC qual scope s.heap.objs.size f cdv)) → sp vs H Q E →
      ∃ t, PSs (cxOf C8.CX0 P w K mg base N qual scope f cdv A outer s H E).nox body t ∧ t { nx := fun _ H' => Q .non H', rt := Q } (start N vs) H) : C8.Mak P w K mg base (k + 1) x C sp [] := by
  obtain ⟨fd, F⟩ := F
  refine ⟨f, fd, ps, [], me, F.ok S len (fun cdv A outer s H vs Q E hr h => ?_), gm, F.bindsN hb, .nil⟩
  obtain ⟨t, a, b⟩ := hbody cdv A outer s H vs Q E hr h
  exact ⟨t, a.nox, b⟩
end
section
variable {X : Cx} {e e2 e3 : Expr} {te te2 te3 : TE}
theorem pa1 (h : PE X e te) (hs : starEach [e] X.env = (false, eval e X.env) :: starEach [] X.env := by rfl) : PA X [e] (tCons te tNil) := pa_cons h pa_nil hs
theorem pa2 (h : PE X e te) (h2 : PE X e2 te2) (hs : starEach [e, e2] X.env = (false, eval e X.env) :: starEach [e2] X.env := by rfl) (hs2 : starEach [e2] X.env = (false, eval e2 X.env) :: starEach [] X.env := by rfl) : PA X [e, e2] (tCons te (tCons te2 tNil)) := pa_cons h (pa1 h2 hs2) hs
theorem pa3 (h : PE X e te) (h2 : PE X e2 te2) (h3 : PE X e3 te3) (hs : starEach [e, e2, e3] X.env = (false, eval e X.env) :: starEach [e2, e3] X.env := by rfl) (hs2 : starEach [e2, e3] X.env = (false, eval e2 X.env) :: starEach [e3] X.env := by rfl) (hs3 : starEach [e3] X.env = (false, eval e3 X.env) :: starEach [] X.env := by rfl) : PA X [e, e2, e3] (tCons te (tCons te2 (tCons te3 tNil))) := pa_cons h (pa2 h2 h3 hs2 hs3) hs
/-- x += y of texts -/
def ipS : TIp := fun x y H Q => ∃ i j, x = .str i ∧ y = .str j ∧ i.length + j.length ≤ sizeLine ∧ Q (.str (i ++ j)) H
theorem ip_addS : PIp X .Add ipS := fun pins s σ H x y v u Q I rx ry h => iop_add_str pins s σ H x y v u Q I rx ry h
end

/-! ### the promises' words -/
abbrev tx (l : List Nat) : V := .str (S l)
abbrev ivs (ns : List Int) : List V := ns.map V.int
def Lets (l : List Nat) : Prop := ∀ c ∈ l, 97 ≤ c ∧ c ≤ 122
def Pr (l : List Nat) : Prop := Lets l ∧ l.length ≤ 200
theorem Lets.take {l : List Nat} (h : Lets l) (k : Nat) : Lets (l.take k) := fun c hc => h c (List.mem_of_mem_take hc)
theorem Lets.drop {l : List Nat} (h : Lets l) (k : Nat) : Lets (l.drop k) := fun c hc => h c (List.mem_of_mem_drop hc)
theorem Pr.take {l : List Nat} (h : Pr l) (k : Nat) : Pr (l.take k) := ⟨h.1.take k, by rw [List.length_take]; have := h.2; omega⟩
theorem Pr.drop {l : List Nat} (h : Pr l) (k : Nat) : Pr (l.drop k) := ⟨h.1.drop k, by rw [List.length_drop]; have := h.2; omega⟩
theorem sz {n : Nat} (h : n ≤ 100000) : n ≤ sizeLine := Nat.le_trans h (by decide)
theorem szl {n : Nat} (h : n < 100000) : n < sizeLine := Nat.lt_of_lt_of_le h (by decide)
theorem szS {l : List Nat} (h : l.length ≤ 100000) : (S l).length ≤ sizeLine := by rw [S_len]; exact sz h
def RV (v : V) (H : Hp) (Q : VK) : Prop := ∀ H', Same H H' → Q v H'
def RL (xs : List V) (H : Hp) (Q : VK) : Prop := ∀ p H', H p = none → Same H H' → H' p = some (.lst xs) → Q (.ref p) H'
def RT (xs : List V) (H : Hp) (Q : VK) : Prop := ∀ p H', H p = none → Same H H' → H' p = some (.tup xs) → Q (.ref p) H'
def RD (kvs : List (Key × V)) (H : Hp) (Q : VK) : Prop := ∀ p H', H p = none → Same H H' → H' p = some (.dK kvs) → Q (.ref p) H'
section
variable {H H' H2 : Hp} {Q : VK}
theorem RV.to {v : V} (r : RV v H Q) (e : Same H H') : RV v H' Q := fun H2 e2 => r H2 (e.trans e2)
theorem RL.to {xs : List V} (r : RL xs H Q) (e : Same H H') : RL xs H' Q := fun p H2 n e2 h => r p H2 (e.free n) (e.trans e2) h
theorem RT.to {xs : List V} (r : RT xs H Q) (e : Same H H') : RT xs H' Q := fun p H2 n e2 h => r p H2 (e.free n) (e.trans e2) h
theorem RD.to {xs : List (Key × V)} (r : RD xs H Q) (e : Same H H') : RD xs H' Q := fun p H2 n e2 h => r p H2 (e.free n) (e.trans e2) h
/-- all kept but what stands at d -/
def Bst (d : Addr) (H H' : Hp) : Prop := ∀ b o, b ≠ d → H b = some o → H' b = some o
theorem _root_.L2.Same.new {p : Addr} {o : HO} (h : H p = none) : Same H (upd H p o) := fun a u e => by rw [upd_ne (ne_of_none e h)]; exact e
theorem _root_.L2.Same.mut {p : Addr} {o : HO} (e : Same H H') (h : H p = none) : Same H (upd H' p o) := fun a u ha => by rw [upd_ne (ne_of_none ha h)]; exact e a u ha
theorem _root_.L2.Same.tup {K : PySem.W.Frag} {a : Addr} {xs : List V} (e : Same H H') (h : SqT K H a xs) : SqT K H' a xs := by
  rcases h with (h | ⟨o, h⟩) | h
  · exact .inl (.inl (e _ _ h))
  · exact .inl (.inr ⟨o, e _ _ h⟩)
  · exact .inr h
theorem _root_.L2.Same.bst {d : Addr} (e : Same H H') : Bst d H H' := fun b o _ h => e b o h
theorem Bst.refl (d : Addr) (H : Hp) : Bst d H H := fun _ _ _ h => h
theorem Bst.trans {d : Addr} (a : Bst d H H') (b : Bst d H' H2) : Bst d H H2 := fun c o n h => b c o n (a c o n h)
theorem Bst.seq {K : PySem.W.Frag} {d a : Addr} {xs : List V} (e : Bst d H H') (n : a ≠ d) (h : SqL K H a xs) : SqL K H' a xs := by
  rcases h with (h | ⟨o, h⟩) | h
  · exact .inl (.inl (e _ _ n h))
  · exact .inl (.inr ⟨o, e _ _ n h⟩)
  · exact .inr h
end
/-- the lasts of presses -/
def lastV : Option Nat → V
  | none => .non
  | some j => .int (j : Nat)
def lastsV (p : List Nat) : List V := (List.range p.length).map fun i => lastV (lastIx (p.getD i 0) (p.take i))
def sharedV (p : List Nat) : List V := (List.range p.length).map fun i => match lastIx (p.getD i 0) (p.take i) with
  | none => V.non
  | some j => .int (L (p.take j))
def CopAt (C : Addr) (H : Hp) (a : Addr) (p : List Nat) : Prop := ∃ dx l1 l2, H a = some (.ins C dx [("copy_presses", tx p), ("copy_lengths", .ref l1), ("copy_shared", .ref l2)]) ∧ H l1 = some (.lst (ivs (lens p))) ∧ H l2 = some (.lst (sharedV p))
theorem CopAt.same {C a : Addr} {H H' : Hp} {p : List Nat} (e : Same H H') (h : CopAt C H a p) : CopAt C H' a p := by
  obtain ⟨dx, l1, l2, h1, h2, h3⟩ := h
  exact ⟨dx, l1, l2, e _ _ h1, e _ _ h2, e _ _ h3⟩
/-- the draw -/
def drawL (a c k : Int) : List (Key × V) := [(.inr "left", .int a), (.inr "cell", .int c), (.inr "at", .int k)]
def Drw (H : Hp) (d : Addr) (m : Nat) : Prop := ∃ a c k : Int, H d = some (.dK (drawL a c k)) ∧ 0 ≤ a ∧ 0 ≤ c ∧ 0 ≤ k ∧ k ≤ m
theorem Drw.mono {H : Hp} {d : Addr} {m n : Nat} (h : Drw H d m) (l : m ≤ n) : Drw H d n := by
  obtain ⟨a, c, k, h1, h2, h3, h4, h5⟩ := h
  exact ⟨a, c, k, h1, h2, h3, h4, by omega⟩
theorem Drw.same {H H' : Hp} {d : Addr} {m : Nat} (e : Same H H') (h : Drw H d m) : Drw H' d m := by
  obtain ⟨a, c, k, h1, h2⟩ := h
  exact ⟨a, c, k, e _ _ h1, h2⟩
theorem Drw.ne {H : Hp} {d p : Addr} {m : Nat} (h : Drw H d m) (n : H p = none) : p ≠ d := by
  obtain ⟨a, c, k, h1, h2⟩ := h
  exact (ne_of_none h1 n).symm

/-! ### the promises -/
def sp_is_whole : Sp := fun vs H Q _ => ∃ i b : Int, vs = [.int i, .int 0, .int b] ∧ Q (.bl (decide (0 ≤ i) && decide (i ≤ b))) H
def sp_is_letter : Sp := fun vs H Q _ => ∃ c : Nat, vs = [tx [c]] ∧ (97 ≤ c ∧ c ≤ 122) ∧ Q (.bl true) H
def sp_odd_place : Sp := fun vs H Q _ => ∃ l, vs = [tx l] ∧ Pr l ∧ RV .non H Q
def sp_need_presses : Sp := fun vs H Q _ => ∃ l, vs = [tx l] ∧ Pr l ∧ RV .non H Q
def sp_need_text : Sp := fun vs H Q _ => ∃ l, vs = [tx l] ∧ Pr l ∧ RV .non H Q
def sp_lasts_of : Sp := fun vs H Q _ => ∃ l, vs = [tx l] ∧ Pr l ∧ RL (lastsV l) H Q
def sp_lengths_of : Sp := fun vs H Q _ => ∃ l, vs = [tx l] ∧ Pr l ∧ RL (ivs (lens l)) H Q
def sp_length : Sp := fun vs H Q _ => ∃ l, vs = [tx l] ∧ Pr l ∧ RV (.int (L l)) H Q
def sp_growths : Sp := fun vs H Q _ => ∃ l, vs = [tx l] ∧ Pr l ∧ RT (ivs (gro l)) H Q
def sp_letter_there (K : PySem.W.Frag) : Sp := fun vs H Q _ => ∃ (p : List Nat) (a : Addr) (n : Int), vs = [tx p, .ref a, .int n] ∧ Pr p ∧ SqL K H a (ivs (lens p)) ∧ 0 ≤ n ∧ n < L p ∧ ∀ y, (M p)[n.toNat]? = some y → Q (tx [y]) H
def sp_letter_at : Sp := fun vs H Q _ => ∃ (p : List Nat) (n : Int), vs = [tx p, .int n] ∧ Pr p ∧ 0 ≤ n ∧ n < L p ∧ ∀ y, (M p)[n.toNat]? = some y → RV (tx [y]) H Q
def sp_window : Sp := fun vs H Q _ => ∃ (p : List Nat) (s m : Int), vs = [tx p, .int s, .int m] ∧ Pr p ∧ 0 ≤ s ∧ 0 ≤ m ∧ m ≤ 1000 ∧ s + m ≤ L p ∧ RV (tx (((M p).drop s.toNat).take m.toNat)) H Q
def sp_need_letter : Sp := fun vs H Q _ => ∃ c : Nat, vs = [tx [c]] ∧ (97 ≤ c ∧ c ≤ 122) ∧ Q .non H
def sp_count_there : Sp := fun vs H Q _ => ∃ (p : List Nat) (c : Nat), vs = [tx p, tx [c]] ∧ Pr p ∧ RV (.int (cnt c p.reverse)) H Q
def cntD (p ys : List Nat) : List (Key × V) := ys.map fun y => (Sum.inr (S [y]), V.int (cnt y p.reverse))
def sp_counts : Sp := fun vs H Q _ => ∃ p : List Nat, vs = [tx p] ∧ Pr p ∧ ∀ ys : List Nat, ys.Pairwise (· < ·) → (∀ c, c ∈ ys ↔ c ∈ p) → RD (cntD p ys) H Q
def sp_need_within : Sp := fun vs H Q _ => ∃ i b : Int, vs = [.int i, .int b] ∧ 0 ≤ i ∧ i ≤ b ∧ Q .non H
def sp_added_by : Sp := fun vs H Q _ => ∃ (p : List Nat) (c : Nat), vs = [tx p, tx [c]] ∧ Pr p ∧ RV (.int (Bk p.reverse c)) H Q
def sp_block_length : Sp := fun vs H Q _ => ∃ (p : List Nat) (c : Nat), vs = [tx p, tx [c]] ∧ Pr p ∧ (97 ≤ c ∧ c ≤ 122) ∧ RV (.int (Bk p.reverse c)) H Q
def sp_need_cut : Sp := fun vs H Q _ => ∃ (p : List Nat) (k : Nat), vs = [tx p, .int (k : Int)] ∧ Pr p ∧ k ≤ p.length ∧ RV .non H Q
def sp_digits_of (K : PySem.W.Frag) : Sp := fun vs H Q _ => ∃ (a : Addr) (gs : List Int) (n : Int), vs = [.ref a, .int n] ∧ SqT K H a (ivs gs) ∧ gs.length ≤ 200 ∧ RT (ivs (digF gs n)) H Q
def sp_value_of (K : PySem.W.Frag) : Sp := fun vs H Q _ => ∃ (a b : Addr) (gs ds : List Int), vs = [.ref a, .ref b] ∧ SqT K H a (ivs gs) ∧ SqT K H b (ivs ds) ∧ gs.length = ds.length ∧ gs.length ≤ 200 ∧ RV (.int (valF gs ds)) H Q
def sp_block_start : Sp := fun vs H Q _ => ∃ (p : List Nat) (k : Nat) (n : Int), vs = [tx p, .int (k : Int), .int n] ∧ Pr p ∧ k ≤ p.length ∧ 0 ≤ n ∧ n ≤ L (p.drop k) ∧ RV (.int (startF p k n)) H Q
def sp_c_init (C : Addr) : Sp := fun vs H Q _ => ∃ (a dx : Addr) (p : List Nat), vs = [.ref a, tx p] ∧ H a = some (.ins C dx []) ∧ Pr p ∧ ∀ H', Bst a H H' → CopAt C H' a p → Q .non H'
def sp_c_len (C : Addr) : Sp := fun vs H Q _ => ∃ (a : Addr) (p : List Nat), vs = [.ref a] ∧ CopAt C H a p ∧ Pr p ∧ Q (.int (p.length : Nat)) H
def sp_c_size (C : Addr) : Sp := fun vs H Q _ => ∃ (a : Addr) (p : List Nat) (k : Nat), vs = [.ref a, .int (k : Int)] ∧ CopAt C H a p ∧ k ≤ p.length ∧ Q (.int (L (p.take k))) H
def sp_c_head (C : Addr) : Sp := fun vs H Q _ => ∃ (a : Addr) (p : List Nat) (k : Nat), vs = [.ref a, .int (k : Int)] ∧ CopAt C H a p ∧ Pr p ∧ k ≤ 200 ∧ RV (tx ((M p).take k)) H Q
def sp_c_midst (C : Addr) : Sp := fun vs H Q _ => ∃ (a : Addr) (p : List Nat) (i k : Nat), vs = [.ref a, .int (i : Int), tx ((M p).take k), .int (k : Int)] ∧ CopAt C H a p ∧ Pr p ∧ i < p.length ∧ k ≤ 200 ∧ RT [tx (midT p i k), .int (L (p.take i) - ((bgT p i k).length : Int))] H Q
def sp_need_piece : Sp := fun vs H Q _ => ∃ l, vs = [tx l] ∧ Pr l ∧ RV .non H Q
def sp_found_home (C : Addr) : Sp := fun vs H Q _ => ∃ (a : Addr) (p l : List Nat) (j : Nat) (x : Int), vs = [.ref a, tx l] ∧ CopAt C H a p ∧ Pr p ∧ Pr l ∧ homeF p l = some (j, x) ∧ RT [.int (j : Nat), .int x] H Q
def sp_home : Sp := fun vs H Q _ => ∃ (p l : List Nat) (j : Nat) (x : Int), vs = [tx p, tx l] ∧ Pr p ∧ Pr l ∧ homeF p l = some (j, x) ∧ RT [.int (j : Nat), .int x] H Q
def sp_how_often : Sp := fun vs H Q _ => ∃ (p l : List Nat) (j : Nat) (x : Int), vs = [tx p, tx l] ∧ Pr p ∧ Pr l ∧ homeF p l = some (j, x) ∧ RV (.int (L (p.drop j) + 1)) H Q
def sp_place_at : Sp := fun vs H Q _ => ∃ (p l : List Nat) (n : Int) (j : Nat) (x : Int), vs = [tx p, tx l, .int n] ∧ Pr p ∧ Pr l ∧ homeF p l = some (j, x) ∧ 0 ≤ n ∧ n ≤ L (p.drop j) ∧ RV (.int (startF p j n + x)) H Q
def sp_parted_at : Sp := fun vs H Q _ => ∃ (p l : List Nat) (j : Nat) (x : Int), vs = [tx p, tx l] ∧ Pr p ∧ Pr l ∧ homeF p l = some (j, x) ∧ RT [tx (p.take j), tx (p.drop j), .int x] H Q
def sp_gaps : Sp := fun vs H Q _ => ∃ (p l : List Nat) (j : Nat) (x : Int), vs = [tx p, tx l] ∧ Pr p ∧ Pr l ∧ homeF p l = some (j, x) ∧ ∀ out, GapsOf p j out → RD (kvI out) H Q
def sp_gap_presses : Sp := fun vs H Q _ => ∃ (p l : List Nat) (j : Nat) (x : Int), vs = [tx p, tx l] ∧ Pr p ∧ Pr l ∧ homeF p l = some (j, x) ∧ RV (tx (p.drop j)) H Q
def sp_gap_letter : Sp := fun vs H Q _ => ∃ (p l : List Nat) (n : Int) (j : Nat) (x : Int), vs = [tx p, tx l, .int n] ∧ Pr p ∧ Pr l ∧ homeF p l = some (j, x) ∧ 0 ≤ n ∧ n < L (p.drop j) ∧ ∀ y, (M (p.drop j))[n.toNat]? = some y → RV (tx [y]) H Q
def sp_gap : Sp := fun vs H Q _ => ∃ (p l : List Nat) (n : Int) (j : Nat) (x : Int), vs = [tx p, tx l, .int n] ∧ Pr p ∧ Pr l ∧ homeF p l = some (j, x) ∧ 0 ≤ n ∧ n < L (p.drop j) ∧ ∀ y, (M (p.drop j))[n.toNat]? = some y → RV (.int (Bk (p.take j).reverse y)) H Q
def sp_law_begun (K : PySem.W.Frag) : Sp := fun vs H Q _ => ∃ (a : Addr) (ns : List Int) (k : Nat), vs = [.ref a, .int (k : Int)] ∧ SqL K H a (ivs ns) ∧ ns.length ≤ 63 ∧ k ≤ 5 ∧ ∀ d H', H d = none → Same H H' → Drw H' d 300 → Q (.ref d) H'
def sp_law_take : Sp := fun vs H Q _ => ∃ (d : Addr) (e : Int) (m : Nat), vs = [.ref d, .int e] ∧ 1 ≤ e ∧ e ≤ 1000000000 ∧ Drw H d m ∧ m ≤ 1000000 ∧ ∀ n H', 0 ≤ n → n < e → Bst d H H' → Drw H' d (m + 1) → Q (.int n) H'
def sp_law_of (K : PySem.W.Frag) : Sp := fun vs H Q _ => ∃ (d a : Addr) (xs : List V) (m : Nat), vs = [.ref d, .ref a] ∧ SqL K H a xs ∧ a ≠ d ∧ xs ≠ [] ∧ xs.length ≤ 1000 ∧ Drw H d m ∧ m ≤ 1000000 ∧ ∀ x H', x ∈ xs → Bst d H H' → Drw H' d (m + 1) → Q x H'
def abcL (s t : Nat) (w : Nat) : List V := (List.range w).map fun k => tx [97 + (s + t * k) % 26]
def sp_law_letters : Sp := fun vs H Q _ => ∃ (d : Addr) (w m : Nat), vs = [.ref d, .int (w : Int)] ∧ w ≤ 5 ∧ Drw H d m ∧ m ≤ 900000 ∧ ∀ p H' s t, s < 26 → 1 ≤ t → t ≤ 11 → H p = none → Bst d H H' → Drw H' d (m + 2) → H' p = some (.lst (abcL s t w)) → Q (.ref p) H'
def sp_law_row (K : PySem.W.Frag) : Sp := fun vs H Q _ => ∃ (d a : Addr) (ls : List Nat) (w m : Nat), vs = [.ref d, .ref a, .int (w : Int)] ∧ SqL K H a (ls.map fun c => tx [c]) ∧ a ≠ d ∧ Lets ls ∧ ls ≠ [] ∧ ls.length ≤ 5 ∧ w ≤ 200 ∧ Drw H d m ∧ m ≤ 900000 ∧
  ∀ p H', Pr p → Bst d H H' → Drw H' d (m + 400) → Q (tx p) H'
def sp_law_lens : Sp := fun vs H Q _ => ∃ l, vs = [tx l] ∧ l.length ≤ 1000 ∧ RL (ivs (lens l)) H Q
def sp_law_far : Sp := fun vs H Q _ => ∃ (d : Addr) (b : Int) (m : Nat), vs = [.ref d, .int b] ∧ 0 ≤ b ∧ Drw H d m ∧ m ≤ 900000 ∧ ∀ n H', 0 ≤ n → n ≤ b → Bst d H H' → Drw H' d (m + 8) → Q (.int n) H'
def sp_law_seen (K : PySem.W.Frag) : Sp := fun vs H Q _ => ∃ (d a : Addr) (p : List Nat) (m : Nat), vs = [.ref d, tx p, .ref a, .int 40] ∧ Pr p ∧ SqL K H a (ivs (lens p)) ∧ a ≠ d ∧ Drw H d m ∧ m ≤ 800000 ∧
  ∀ s n H', s + n ≤ (M p).length → n ≤ 40 → Bst d H H' → Drw H' d (m + 10) → Q (tx (((M p).drop s).take n)) H'
def sp_law_due (K : PySem.W.Frag) : Sp := fun vs H Q _ => ∃ (p : List Nat) (k : Nat) (a : Addr), vs = [tx p, .int (k : Int), .ref a] ∧ Pr p ∧ k ≤ p.length ∧ SqL K H a (ivs (lens p)) ∧ ∀ out, GapsOf p k out → RD (kvI out) H Q
def sp_law_right (K : PySem.W.Frag) : Sp := fun vs H Q _ => ∃ (d a : Addr) (p l : List Nat) (j : Nat) (x : Int) (m : Nat), vs = [.ref d, tx p, .ref a, tx l] ∧ Pr p ∧ Pr l ∧ homeF p l = some (j, x) ∧ SqL K H a (ivs (lens p)) ∧ a ≠ d ∧ Drw H d m ∧ m ≤ 700000 ∧
  ∀ H', Bst d H H' → Drw H' d (m + 36) → Q (.bl true) H'
def sp_law (K : PySem.W.Frag) : Sp := fun vs H Q _ => ∃ (a : Addr) (ns : List Int), vs = [.ref a] ∧ SqL K H a (ivs ns) ∧ ns.length ≤ 63 ∧ ∀ H', Q (.bl true) H'
end Mi
/-! Words for the walks; is_whole. -/
namespace Mi
open PySem PySem.Spec PyProof.Rows L2 SX
theorem iteDF {c A B : Prop} [Decidable c] (hc : ¬ c) (h : B) : if decide c = true then A else B := by
  rw [decide_eq_false hc]; exact iteF h
theorem iteDT {c A B : Prop} [Decidable c] (hc : c) (h : A) : if decide c = true then A else B := by
  rw [decide_eq_true hc]; exact iteT h
theorem iteBF {b : Bool} {A B : Prop} (hb : b = false) (h : B) : if b = true then A else B := by
  subst hb; exact iteF h
theorem iteBT {b : Bool} {A B : Prop} (hb : b = true) (h : A) : if b = true then A else B := by
  subst hb; exact iteT h
theorem kII {K : PySem.W.Frag} : PySem.W.kitOne K (.type "int") (.type "int") = some true := kit_ty (by decide +kernel)
theorem kIB {K : PySem.W.Frag} : PySem.W.kitOne K (.type "int") (.type "bool") = some false := kit_ty (by decide +kernel)
theorem kSS {K : PySem.W.Frag} : PySem.W.kitOne K (.type "str") (.type "str") = some true := kit_ty (by decide +kernel)
/-- the letters -/
abbrev ABC : Str := "abcdefghijklmnopqrstuvwxyz"
theorem abc_list : ABC.cps.toList = List.range' 97 26 := by decide +kernel
theorem in_abc {c : Nat} : c ∈ ABC.cps.toList ↔ 97 ≤ c ∧ c ≤ 122 := by rw [abc_list, List.mem_range'_1]; omega
/-- is_whole, called with most alone -/
structure CalW (P : Program) (w : World) (K : PySem.W.Frag) (mg : Str → Option Value) (base : Heap) : Prop where
  ex : ∃ (f : Addr) (fd : FuncData) (ps : List Str) (g : List Value → List Value → List Value), FnOk P w K mg base C8.CX0 1 f fd ps sp_is_whole ∧ mg "is_whole" = some (.ref f) ∧ PySem.W.keepIn K (.ref f) = true ∧ KBn K fd ps 1 ["most"] g (fun vs zs => vs ++ ([V.int 0] ++ zs))
def tIsw (ta tm : TE) : TE := fun σ H Q => ta σ H fun x H1 => tm σ H1 fun y H2 => [x].length = 1 ∧ [y].length = 1 ∧ sp_is_whole ([x] ++ ([V.int 0] ++ [y])) H2 Q C8.E0
theorem pe_isw {X : Cx} {a m : Expr} {ta tm : TE} {j : Nat} {p pos kpos : Pos} (c : CalW X.prog X.w X.K X.mg X.base) (hr : Room j X.A) (hk : 1 ≤ j) (hg : Gl X "is_whole") (ha : PE X a ta) (hm : PE X m tm)
    (hs : starEach [a] X.env = (false, eval a X.env) :: starEach [] X.env := by rfl)
    (hall : (backToKw pos (keywordEach [⟨some "most", m, kpos⟩] X.env)).all (·.1.isSome) = true := by rfl) (hks : (backToKw pos (keywordEach [⟨some "most", m, kpos⟩] X.env)).filterMap (·.1) = (["most"] : List Str) := by rfl)
    (hpl : ((backTo pos (starEach [a] X.env)).any (·.1) || (backToKw pos (keywordEach [⟨some "most", m, kpos⟩] X.env)).any (·.1.isNone)) = false := by rfl) :
    PE X (.Call (.Name "is_whole" p) [a] [⟨some "most", m, kpos⟩] pos) (tIsw ta tm) := by
  obtain ⟨f, fd, ps, g, F, gm, kp, b⟩ := c.ex
  have B := pe_callN (p := p) F (hr.mono hk) hg gm kp b (C8.pass0 (E := C8.E0)) (pa_cons ha pa_nil hs) (pk_cons hm pk_nil) hall hks rfl hs hpl
  exact ⟨fun pins s σ H Q I h => B.run pins s σ H Q I h⟩
section
variable {P : Program} {w : World} {K : PySem.W.Frag} {mg : Str → Option Value} {base : Heap}
theorem c_is_whole (X : Fx K mg) : CalW P w K mg base := by
  obtain ⟨fd, F⟩ := X.d_is_whole
  have F : FunD K "is_whole" "is_whole" d_is_whole.params d_is_whole.body d_is_whole.scope [] [("least", .int 0), ("most", .non)] (He.ga K "is_whole") fd := F
  obtain ⟨mv, B⟩ := kbinds0 (ps := ["thing", "least", "most"]) F 1 ["most"] [("least", .int 0)] (fun us mv ws => us ++ (mv ++ ws)) (by simp) (by simp) (fun a b c => a.append (b.append c))
    (fun D doc pm an cdv ct us mv ws h1 h2 h3 => match us, mv, ws, h1, h2, h3 with | [a], [b], [c], _, _, _ => ⟨_, _, _, _, _, _, rfl, rfl, rfl⟩)
  refine ⟨_, fd, ["thing", "least", "most"], _, F.ok (N := ["thing", "least", "most"]) (k := 0) (C8.fnScope_by (by decide +kernel)) (fun vs H Q E h => ?_) (fun cdv A outer s H vs Q E hr h => ?_), X.g_is_whole, F.kp, B⟩
  · obtain ⟨i, b, rfl, _⟩ := h; rfl
  obtain ⟨i, b, rfl, q⟩ := h
  refine ⟨_, PSs.nox (pss_one (ps_ret (pe_and (pe_callB call_isi rfl X.f_isinstance (by decide +kernel) (pa2 (pv 0) (pe_bltn (v := .ty "int") (u := .type "int") rfl X.f_int (by decide +kernel) rfl))) (pe_and (pe_not (pe_callB call_isi rfl X.f_isinstance (by decide +kernel) (pa2 (pv 0) (pe_bltn (v := .ty "bool") (u := .type "bool") rfl X.f_bool (by decide +kernel) rfl)))) (pe_and (pe_cmpR op_le (pv 1) (pv 0) (nomark _)) (pe_one (pe_or (pe_cmp (pc_isN (pv 2))) (pe_one (pe_cmpR op_le (pv 0) (pv 2) (nomark _)))))))))), ?_⟩
  refine ⟨_, rfl, _, _, _, _, true, rfl, .ty _, .base (.int _), kII, _, rfl, iteT ?_⟩
  refine ⟨_, rfl, _, _, _, _, false, rfl, .ty _, .base (.int _), kIB, _, rfl, _, rfl, iteT ?_⟩
  refine ⟨_, rfl, _, rfl, _, _, rfl, rfl, _, rfl, ?_⟩
  by_cases h : 0 ≤ i
  · refine iteDT h ?_
    refine ⟨_, rfl, ⟨false, rfl, iteF ?_⟩⟩
    refine ⟨_, rfl, _, rfl, _, _, rfl, rfl, ?_⟩
    rw [decide_eq_true h, Bool.true_and] at q
    exact q
  · refine iteDF h ?_
    rw [decide_eq_false h, Bool.false_and] at q
    exact q
end
end Mi
/-! Walks 1: what is asked of presses, texts, numbers; lengths. -/
namespace Mi
open PySem PySem.Spec PyProof.Rows L2 SX
theorem lastIx_snoc (x c : Nat) (p : List Nat) : lastIx x (p ++ [c]) = if c = x then some p.length else lastIx x p := by
  unfold lastIx
  rw [List.reverse_append, List.reverse_singleton, List.singleton_append]
  show (if c = x then some p.reverse else cut x p.reverse).map List.length = _
  by_cases h : c = x
  · rw [if_pos h, if_pos h]; simp
  · rw [if_neg h, if_neg h]
theorem getD_of {l : List Nat} {i c : Nat} (h : l[i]? = some c) : l.getD i 0 = c := by rw [List.getD_eq_getElem?_getD, h]; rfl
theorem lt_of_get {α : Type} {l : List α} {i : Nat} {c : α} (h : l[i]? = some c) : i < l.length := (List.getElem?_eq_some_iff.mp h).1
theorem lastsV_len (l : List Nat) : (lastsV l).length = l.length := by simp [lastsV]
theorem lastsV_get {l : List Nat} {i c : Nat} (h : l[i]? = some c) : (lastsV l)[i]? = some (lastV (lastIx c (l.take i))) := by
  unfold lastsV
  rw [List.getElem?_map, List.getElem?_range (lt_of_get h), Option.map_some, getD_of h]
theorem lastsV_take {l : List Nat} {i c : Nat} (h : l[i]? = some c) : (lastsV l).take (i + 1) = (lastsV l).take i ++ [lastV (lastIx c (l.take i))] := by
  rw [List.take_add_one, lastsV_get h]; rfl
theorem lens_tk {l : List Nat} {i : Nat} (h : i ≤ l.length) : ivs ((lens l).take (i + 1)) = ivs ((lens l).take i) ++ [V.int (L (l.take i))] := by
  show ((lens l).take (i + 1)).map V.int = _
  rw [List.take_add_one, lens_get h, List.map_append]; rfl
theorem lens_last {l : List Nat} {i : Nat} (h : i ≤ l.length) : atI (ivs ((lens l).take (i + 1))) (-1) = some (V.int (L (l.take i))) := by
  rw [lens_tk h]; exact atI_last _ _
theorem lens_full (l : List Nat) : (lens l).take (l.length + 1) = lens l := List.take_of_length_le (by rw [lens_len]; exact Nat.le_refl _)
theorem lens_end (l : List Nat) : atI (ivs (lens l)) (-1) = some (V.int (L l)) := by
  have := lens_last (l := l) (i := l.length) (Nat.le_refl _)
  rw [lens_full, List.take_length] at this
  exact this
theorem lens_at {l : List Nat} {i j : Nat} (h : j ≤ l.length) (hj : j < i) : (ivs ((lens l).take i))[j]? = some (V.int (L (l.take j))) := by
  show (((lens l).take i).map V.int)[j]? = _
  rw [List.getElem?_map, List.getElem?_take, if_pos hj, lens_get h]; rfl
theorem lens_ix {l : List Nat} {j : Nat} (h : j ≤ l.length) : (ivs (lens l))[j]? = some (V.int (L (l.take j))) := by
  show ((lens l).map V.int)[j]? = _
  rw [List.getElem?_map, lens_get h]; rfl
theorem lens_step_new {l : List Nat} {i c : Nat} (h : l[i]? = some c) (e : lastIx c (l.take i) = none) : L (l.take (i + 1)) = 2 * L (l.take i) + 1 := by rw [take_snoc h]; exact L_new e
theorem lens_step_old {l : List Nat} {i c j : Nat} (h : l[i]? = some c) (e : lastIx c (l.take i) = some j) : L (l.take (i + 1)) = 2 * L (l.take i) - L (l.take j) := by
  rw [take_snoc h, L_old e, List.take_take, Nat.min_eq_left]
  have := lastIx_lt e
  rw [List.length_take] at this
  omega
theorem last_lt {l : List Nat} {i c j : Nat} (e : lastIx c (l.take i) = some j) : j < i := by
  have := lastIx_lt e
  rw [List.length_take] at this
  omega
section
variable {P : Program} {w : World} {K : PySem.W.Frag} {mg : Str → Option Value} {base : Heap}
theorem c_is_letter (X : Fx K mg) : C8.Cal P w K mg base 1 "is_letter" sp_is_letter [] := by
  have nd : (["thing"] : List Str).Nodup := by decide +kernel
  refine mkCal X.d_is_letter X.g_is_letter (N := ["thing"]) (ps := ["thing"]) (k := 0) (C8.fnScope_by (by decide +kernel)) (fun vs H Q E h => ?_) (fun _ _ _ _ _ _ us hl => match us, hl with | [_], _ => rfl) (fun cdv A outer s H vs Q E hr h => ?_)
  · obtain ⟨c, rfl, _⟩ := h; rfl
  obtain ⟨c, rfl, hc, q⟩ := h
  refine ⟨_, (pss_one (ps_ret (pe_and (pe_callB call_isi rfl X.f_isinstance (by decide +kernel) (pa2 (pv 0) (pe_bltn (v := .ty "str") (u := .type "str") rfl X.f_str (by decide +kernel) rfl))) (pe_and (pe_cmpR op_eq (pe_callB call_len_str rfl X.f_len boot_len (pa1 (pv 0))) pe_int (nomark _)) (pe_one (pe_cmpR op_in_sign (pv 0) (C8.pe_gc rfl X.c_LETTERS) rfl)))))), ?_⟩
  refine ⟨_, rfl, _, _, _, _, true, rfl, .ty _, .base (.str _), kSS, _, rfl, iteT ?_⟩
  refine ⟨_, rfl, _, rfl, szS (by simp), rfl, _, rfl, iteBT (by rw [S_len]; rfl) ?_⟩
  refine ⟨_, rfl, c, _, rfl, rfl, ?_⟩
  rw [decide_eq_true (in_abc.mpr hc)]
  exact q
theorem c_odd_place (X : Fx K mg) : C8.Cal P w K mg base 1 "odd_place" sp_odd_place [] := by
  have nd : (["text", "place", "sign"] : List Str).Nodup := by decide +kernel
  refine mkCal X.d_odd_place X.g_odd_place (N := ["text", "place", "sign"]) (ps := ["text"]) (k := 0) (C8.fnScope_by (by decide +kernel)) (fun vs H Q E h => ?_) (fun _ _ _ _ _ _ us hl => match us, hl with | [_], _ => rfl) (fun cdv A outer s H vs Q E hr h => ?_)
  · obtain ⟨l, rfl, _⟩ := h; rfl
  obtain ⟨l, rfl, hl, q⟩ := h
  refine ⟨_, (pss_cons (ps_for PassesOwn.never rfl (pi_enumS rfl X.f_enumerate (pa1 (pv 0))) (pg_tup rfl (pgs_cons (pg_name (i := 1) nd rfl (.inl rfl)) (pgs_cons (pg_name (i := 2) nd rfl (.inl rfl)) pgs_nil)))
    (pss_one (ps_if (pt_cmpR op_notIn_sign (pv 2) (C8.pe_gc rfl X.c_LETTERS) rfl)
      (pss_one (ps_ret (pv 1))) pss_nil)))
  (pss_one (ps_ret pe_non))), ?_⟩
  refine ⟨_, rfl, l, rfl, for_enS (fun _ σ' H' => (∃ a b, σ' = [some (tx l), a, b]) ∧ Same H H') ⟨⟨_, _, rfl⟩, Same.refl H⟩ (fun i c T σ' H' hc p hT => ?_) (fun σ' H' p => q H' p.2)⟩
  obtain ⟨⟨a, b, rfl⟩, e⟩ := p
  refine ⟨T, _, rfl, SqT.of upd_same, rfl, _, _, rfl, _, _, rfl, rfl, ?_⟩
  refine ⟨_, rfl, c, _, rfl, rfl, _, rfl, iteNS (in_abc.mpr (hl.1 c (List.mem_of_getElem? hc))) ?_⟩
  exact ⟨⟨_, _, rfl⟩, e.trans (Same.new hT)⟩
theorem c_need_presses (X : Fx K mg) : C8.Cal P w K mg base 2 "need_presses" sp_need_presses [] := by
  have nd : (["thing", "place"] : List Str).Nodup := by decide +kernel
  refine mkCal X.d_need_presses X.g_need_presses (N := ["thing", "place"]) (ps := ["thing"]) (k := 1) (C8.fnScope_by (by decide +kernel)) (fun vs H Q E h => ?_) (fun _ _ _ _ _ _ us hl => match us, hl with | [_], _ => rfl) (fun cdv A outer s H vs Q E hr h => ?_)
  · obtain ⟨l, rfl, _⟩ := h; rfl
  obtain ⟨l, rfl, hl, q⟩ := h
  refine ⟨_, (pss_cons (ps_if (PW.pt (pw_or (pt_not (pt_val (pe_callB call_isi rfl X.f_isinstance (by decide +kernel) (pa2 (pv 0) (pe_bltn (v := .ty "str") (u := .type "str") rfl X.f_str (by decide +kernel) rfl))))) (pw_or1 (pt_cmpR op_gt (pe_callB call_len_str rfl X.f_len boot_len (pa1 (pv 0))) (C8.pe_gc rfl X.c_MOST_PRESSES) (nomark _)))))
    pss_never pss_nil)
  (pss_cons (ps_set (i := 1) nd rfl (.inl rfl) (C8.pe_c (c_odd_place X) hr (by decide) rfl (pa1 (pv 0))))
  (pss_one (ps_if (pt_cmp (pc_notN (pv 1)))
    pss_never pss_nil)))), ?_⟩
  have hz := hl.2
  refine ⟨_, rfl, _, _, _, _, true, rfl, .ty _, .base (.str _), kSS, _, rfl, iteF ?_⟩
  refine ⟨_, rfl, _, rfl, szS (by omega), _, _, rfl, rfl, _, rfl, iteDF (by rw [S_len]; omega) ?_⟩
  refine ⟨_, rfl, l, rfl, hl, fun H' e => ?_⟩
  exact ⟨_, rfl, _, rfl, iteNS rfl (q H' e)⟩
theorem c_need_text (X : Fx K mg) : C8.Cal P w K mg base 2 "need_text" sp_need_text [] := by
  have nd : (["thing", "place"] : List Str).Nodup := by decide +kernel
  refine mkCal X.d_need_text X.g_need_text (N := ["thing", "place"]) (ps := ["thing"]) (k := 1) (C8.fnScope_by (by decide +kernel)) (fun vs H Q E h => ?_) (fun _ _ _ _ _ _ us hl => match us, hl with | [_], _ => rfl) (fun cdv A outer s H vs Q E hr h => ?_)
  · obtain ⟨l, rfl, _⟩ := h; rfl
  obtain ⟨l, rfl, hl, q⟩ := h
  refine ⟨_, (pss_cons (ps_if (PW.pt (pw_or (pt_not (pt_val (pe_callB call_isi rfl X.f_isinstance (by decide +kernel) (pa2 (pv 0) (pe_bltn (v := .ty "str") (u := .type "str") rfl X.f_str (by decide +kernel) rfl))))) (pw_or1 (pt_cmpR op_gt (pe_callB call_len_str rfl X.f_len boot_len (pa1 (pv 0))) (C8.pe_gc rfl X.c_MOST_TEXT) (nomark _)))))
    pss_never pss_nil)
  (pss_cons (ps_set (i := 1) nd rfl (.inl rfl) (C8.pe_c (c_odd_place X) hr (by decide) rfl (pa1 (pv 0))))
  (pss_one (ps_if (pt_cmp (pc_notN (pv 1)))
    pss_never pss_nil)))), ?_⟩
  have hz := hl.2
  refine ⟨_, rfl, _, _, _, _, true, rfl, .ty _, .base (.str _), kSS, _, rfl, iteF ?_⟩
  refine ⟨_, rfl, _, rfl, szS (by omega), _, _, rfl, rfl, _, rfl, iteDF (by rw [S_len]; omega) ?_⟩
  refine ⟨_, rfl, l, rfl, hl, fun H' e => ?_⟩
  exact ⟨_, rfl, _, rfl, iteNS rfl (q H' e)⟩
theorem c_need_piece (X : Fx K mg) : C8.Cal P w K mg base 3 "need_piece" sp_need_piece [] := by
  have nd : (["piece"] : List Str).Nodup := by decide +kernel
  refine mkCal X.d_need_piece X.g_need_piece (N := ["piece"]) (ps := ["piece"]) (k := 2) (C8.fnScope_by (by decide +kernel)) (fun vs H Q E h => ?_) (fun _ _ _ _ _ _ us hl => match us, hl with | [_], _ => rfl) (fun cdv A outer s H vs Q E hr h => ?_)
  · obtain ⟨l, rfl, _⟩ := h; rfl
  obtain ⟨l, rfl, hl, q⟩ := h
  refine ⟨_, (pss_cons (ps_if (PW.pt (pw_and (pt_val (pe_callB call_isi rfl X.f_isinstance (by decide +kernel) (pa2 (pv 0) (pe_bltn (v := .ty "str") (u := .type "str") rfl X.f_str (by decide +kernel) rfl)))) (pw_and1 (pt_cmpR op_gt (pe_callB call_len_str rfl X.f_len boot_len (pa1 (pv 0))) (C8.pe_gc rfl X.c_MOST_PIECE) (nomark _)))))
    pss_never pss_nil)
  (pss_one (ps_expr (C8.pe_c (c_need_text X) hr (by decide) rfl (pa1 (pv 0)))))), ?_⟩
  have hz := hl.2
  refine ⟨_, rfl, _, _, _, _, true, rfl, .ty _, .base (.str _), kSS, _, rfl, iteT ?_⟩
  refine ⟨_, rfl, _, rfl, szS (by omega), _, _, rfl, rfl, _, rfl, iteDF (by rw [S_len]; omega) ?_⟩
  exact ⟨_, rfl, l, rfl, hl, fun H' e => q H' e⟩
theorem c_need_letter (X : Fx K mg) : C8.Cal P w K mg base 2 "need_letter" sp_need_letter [] := by
  have nd : (["thing"] : List Str).Nodup := by decide +kernel
  refine mkCal X.d_need_letter X.g_need_letter (N := ["thing"]) (ps := ["thing"]) (k := 1) (C8.fnScope_by (by decide +kernel)) (fun vs H Q E h => ?_) (fun _ _ _ _ _ _ us hl => match us, hl with | [_], _ => rfl) (fun cdv A outer s H vs Q E hr h => ?_)
  · obtain ⟨l, rfl, _⟩ := h; rfl
  obtain ⟨c, rfl, hc, q⟩ := h
  refine ⟨_, (pss_one (ps_if (pt_not (pt_val (C8.pe_c (c_is_letter X) hr (by decide) rfl (pa1 (pv 0)))))
    pss_never pss_nil)), ?_⟩
  exact ⟨_, rfl, c, rfl, hc, _, rfl, iteF q⟩
theorem c_need_within (X : Fx K mg) : C8.Cal P w K mg base 2 "need_within" sp_need_within [] := by
  have nd : (["thing", "most"] : List Str).Nodup := by decide +kernel
  refine mkCal X.d_need_within X.g_need_within (N := ["thing", "most"]) (ps := ["thing", "most"]) (k := 1) (C8.fnScope_by (by decide +kernel)) (fun vs H Q E h => ?_) (fun _ _ _ _ _ _ us hl => match us, hl with | [_, _], _ => rfl) (fun cdv A outer s H vs Q E hr h => ?_)
  · obtain ⟨i, b, rfl, _⟩ := h; rfl
  obtain ⟨i, b, rfl, h1, h2, q⟩ := h
  refine ⟨_, (pss_one (ps_if (pt_not (pt_val (pe_isw (c_is_whole X) hr (by decide) rfl (pv 0) (pv 1))))
    pss_never pss_nil)), ?_⟩
  exact ⟨_, rfl, _, rfl, rfl, rfl, i, b, rfl, _, rfl, iteBF (by rw [decide_eq_true h1, decide_eq_true h2]; rfl) q⟩
theorem c_need_cut (X : Fx K mg) : C8.Cal P w K mg base 3 "need_cut" sp_need_cut [] := by
  have nd : (["presses", "cut"] : List Str).Nodup := by decide +kernel
  refine mkCal X.d_need_cut X.g_need_cut (N := ["presses", "cut"]) (ps := ["presses", "cut"]) (k := 2) (C8.fnScope_by (by decide +kernel)) (fun vs H Q E h => ?_) (fun _ _ _ _ _ _ us hl => match us, hl with | [_, _], _ => rfl) (fun cdv A outer s H vs Q E hr h => ?_)
  · obtain ⟨p, k, rfl, _⟩ := h; rfl
  obtain ⟨p, k, rfl, hp, hk, q⟩ := h
  refine ⟨_, (pss_cons (ps_expr (C8.pe_c (c_need_presses X) hr (by decide) rfl (pa1 (pv 0))))
  (pss_one (ps_expr (C8.pe_c (c_need_within X) hr (by decide) rfl (pa2 (pv 1) (pe_callB call_len_str rfl X.f_len boot_len (pa1 (pv 0)))))))), ?_⟩
  have hz := hp.2
  refine ⟨_, rfl, p, rfl, hp, fun H' e => ?_⟩
  exact ⟨_, rfl, _, rfl, _, rfl, szS (by omega), _, _, rfl, by omega, by rw [S_len]; omega, q H' e⟩
theorem c_lasts_of (X : Fx K mg) : C8.Cal P w K mg base 1 "lasts_of" sp_lasts_of [] := by
  have nd : (["presses", "last", "found", "at", "letter"] : List Str).Nodup := by decide +kernel
  refine mkCal X.d_lasts_of X.g_lasts_of (N := ["presses", "last", "found", "at", "letter"]) (ps := ["presses"]) (k := 0) (C8.fnScope_by (by decide +kernel)) (fun vs H Q E h => ?_) (fun _ _ _ _ _ _ us hl => match us, hl with | [_], _ => rfl) (fun cdv A outer s H vs Q E hr h => ?_)
  · obtain ⟨l, rfl, _⟩ := h; rfl
  obtain ⟨l, rfl, hl, q⟩ := h
  have hu := hu_of hr
  have hz := hl.2
  refine ⟨_, (pss_cons (ps_par (i := 1) (j := 2) rfl nd rfl rfl (by decide) rfl rfl (pa2 pe_dnewK (pe_lst pa_nil)) (by rfl))
  (pss_cons (ps_for PassesOwn.never rfl (pi_enumS rfl X.f_enumerate (pa1 (pv 0))) (pg_tup rfl (pgs_cons (pg_name (i := 3) nd rfl (.inl rfl)) (pgs_cons (pg_name (i := 4) nd rfl (.inl rfl)) pgs_nil)))
    (pss_cons (ps_expr (pe_bm PySem.F.plainAttrs_list PySem.F.slot_list_append PySem.F.type_list_append mt_append (pv 2) (pa1 (pe_dget1 hu (pv 1) (pv 4) ⟨rfl, rfl, rfl, rfl⟩))))
    (pss_one (ps_dput hu (pv 1) (pv 4) (pv 3) rfl))))
  (pss_one (ps_ret (pv 2))))), ?_⟩
  refine fun d hd => ⟨Nat.zero_le _, fun f hf => ⟨_, _, rfl, ?_⟩⟩
  have nfd : f ≠ d := (ne_of_none upd_same hf).symm
  have hf0 : H f = none := by rw [upd_ne nfd] at hf; exact hf
  refine ⟨_, rfl, l, rfl, for_enS (fun i σ' H' => (∃ a b, σ' = [some (tx l), some (.ref d), some (.ref f), a, b]) ∧ (∃ kvs : List (Key × V), H' d = some (.dK kvs) ∧ kvs.length ≤ i ∧ ∀ c, valV kvs (Sum.inr (S [c])) = (lastIx c (l.take i)).map fun (j : Nat) => V.int (j : Int)) ∧ H' f = some (.lst ((lastsV l).take i)) ∧ Same H H')
    ⟨⟨_, _, rfl⟩, ⟨[], by rw [upd_ne nfd.symm]; exact upd_same, Nat.zero_le _, fun c => rfl⟩, upd_same, (Same.new hd).mut hf0⟩ (fun i c T σ' H' hc p hT => ?_) (fun σ' H' p => ?_)⟩
  · obtain ⟨⟨a, b, rfl⟩, ⟨kvs, h1, h2, h3⟩, h4, h5⟩ := p
    have hi := lt_of_get hc
    refine ⟨T, _, rfl, SqT.of upd_same, rfl, _, _, rfl, _, _, rfl, rfl, ?_⟩
    have s1 := Same.new (o := .tup [.int (i : Nat), .str (S [c])]) hT
    refine ⟨_, rfl, .inl ⟨rfl, _, SqL.of (s1 _ _ h4)⟩, ?_⟩
    refine ⟨_, rfl, d, rfl, .inl ⟨_, .inl (s1 _ _ h1)⟩, _, rfl, _, DGet.k (k := .inr (S [c])) (s1 _ _ h1), ?_⟩
    refine ⟨_, _, _, rfl, rfl, s1 _ _ h4, szl (by rw [List.length_take]; omega), ?_⟩
    have h1' := s1 _ _ h1
    refine ⟨_, rfl, _, rfl, _, rfl, d, _, rfl, DPut.k (k := .inr (S [c])) (by rw [upd_ne nfd.symm]; exact h1') (szl (by omega)), ?_⟩
    refine ⟨⟨_, _, rfl⟩, ⟨_, upd_same, ?_, fun x => ?_⟩, ?_, ?_⟩
    · unfold putK
      split
      · rw [List.length_map]; omega
      · rw [List.length_append, List.length_singleton]; omega
    · rw [valV_put, take_snoc hc, lastIx_snoc]
      by_cases e : c = x
      · subst e
        rw [if_pos rfl, if_pos rfl, List.length_take, Nat.min_eq_left (by omega)]; rfl
      · rw [if_neg (fun z => e (by have := S_inj (Sum.inr.inj z); simpa using this.symm)), if_neg e]; exact h3 x
    · rw [upd_ne nfd, upd_same, lastsV_take hc, h3 c]
      cases lastIx c (l.take i) <;> rfl
    · exact ((h5.trans s1).mut hf0).mut hd
  · obtain ⟨⟨a, b, rfl⟩, _, h4, h5⟩ := p
    refine ⟨_, rfl, q f H' hf0 h5 ?_⟩
    rw [h4, List.take_of_length_le (by rw [lastsV_len]; exact Nat.le_refl _)]
theorem c_lengths_of (X : Fx K mg) : C8.Cal P w K mg base 2 "lengths_of" sp_lengths_of [] := by
  have nd : (["presses", "found", "shared"] : List Str).Nodup := by decide +kernel
  refine mkCal X.d_lengths_of X.g_lengths_of (N := ["presses", "found", "shared"]) (ps := ["presses"]) (k := 1) (C8.fnScope_by (by decide +kernel)) (fun vs H Q E h => ?_) (fun _ _ _ _ _ _ us hl => match us, hl with | [_], _ => rfl) (fun cdv A outer s H vs Q E hr h => ?_)
  · obtain ⟨l, rfl, _⟩ := h; rfl
  obtain ⟨l, rfl, hl, q⟩ := h
  have hz := hl.2
  refine ⟨_, (pss_cons (ps_set (i := 1) nd rfl (.inl rfl) (pe_lst (pa1 pe_int)))
  (pss_cons (ps_for PassesOwn.never rfl (pi_list (C8.pe_c (c_lasts_of X) hr (by decide) rfl (pa1 (pv 0)))) (pg_name (i := 2) nd rfl (.inl rfl))
    (pss_one (ps_expr (pe_bm PySem.F.plainAttrs_list PySem.F.slot_list_append PySem.F.type_list_append mt_append (pv 1) (pa1 (pe_ifExp (pt_cmp (pc_isN (pv 2))) (pe_op op_add (pe_op op_mul pe_int (pe_ix ix_list (pv 1) (pe_un un_neg pe_int) (fun _ _ => rfl))) pe_int) (pe_op op_sub (pe_op op_mul pe_int (pe_ix ix_list (pv 1) (pe_un un_neg pe_int) (fun _ _ => rfl))) (pe_ix ix_list (pv 1) (pv 2) (fun _ _ => rfl)))))))))
  (pss_one (ps_ret (pv 1))))), ?_⟩
  refine ⟨sz (by decide), fun f hf => ?_⟩
  refine ⟨_, rfl, l, rfl, hl, fun p H' hp e he => ⟨p, rfl, ⟨_, SqL.of he⟩, ?_⟩⟩
  have nfp : f ≠ p := by
    intro z; subst z
    rw [upd_same] at hp; cases hp
  have hp0 : H p = none := by rw [upd_ne nfp.symm] at hp; exact hp
  have e0 : Same H H' := (Same.new hf).trans e
  refine for_list (xs := lastsV l) (fun i σ' H2 => (∃ a, σ' = [some (tx l), some (.ref f), a]) ∧ H2 p = some (.lst (lastsV l)) ∧ H2 f = some (.lst (ivs ((lens l).take (i + 1)))) ∧ Same H H2)
    ⟨⟨_, rfl⟩, he, e _ _ (by rw [upd_same, lens_tk (Nat.zero_le _)]; simp [L_nil]), e0⟩ (fun i σ' H2 hi p => SqL.of p.2.1) (fun i x σ' H2 hx p => ?_) (fun σ' H2 p => ?_)
  · obtain ⟨⟨a, rfl⟩, h1, h2, h3⟩ := p
    have hi : i < l.length := by have := lt_of_get hx; rw [lastsV_len] at this; exact this
    obtain ⟨c, hc⟩ : ∃ c, l[i]? = some c := ⟨_, List.getElem?_eq_getElem hi⟩
    rw [lastsV_get hc] at hx
    cases hx
    have hat := lens_last (l := l) (i := i) (by omega)
    have hsz : (ivs ((lens l).take (i + 1))).length < sizeLine := szl (by rw [List.length_map, List.length_take]; omega)
    refine ⟨_, rfl, .inl ⟨rfl, _, SqL.of h2⟩, ?_⟩
    refine ⟨_, rfl, _, rfl, ?_⟩
    cases hl2 : lastIx c (l.take i) with
    | none =>
      refine iteDT rfl ?_
      refine ⟨_, rfl, _, rfl, _, _, _, _, rfl, rfl, SqL.of h2, hat, _, _, rfl, rfl, .inl ⟨by decide, by decide⟩, _, _, rfl, rfl, ?_⟩
      refine ⟨_, _, _, rfl, rfl, h2, hsz, ⟨_, rfl⟩, ?_, ?_, h3.mut hf⟩
      · rw [upd_ne nfp.symm]; exact h1
      · rw [upd_same, lens_tk (i := i + 1) (by omega), lens_step_new hc hl2]
    | some j =>
      refine iteDF (fun z => by cases z) ?_
      have hj := last_lt hl2
      refine ⟨_, rfl, _, rfl, _, _, _, _, rfl, rfl, SqL.of h2, hat, _, _, rfl, rfl, .inl ⟨by decide, by decide⟩, ?_⟩
      refine ⟨_, rfl, _, rfl, _, _, _, _, rfl, rfl, SqL.of h2, atI_nat (lens_at (j := j) (by omega) (by omega)), _, _, rfl, rfl, ?_⟩
      refine ⟨_, _, _, rfl, rfl, h2, hsz, ⟨_, rfl⟩, ?_, ?_, h3.mut hf⟩
      · rw [upd_ne nfp.symm]; exact h1
      · rw [upd_same, lens_tk (i := i + 1) (by omega), lens_step_old hc hl2]
  · obtain ⟨⟨a, rfl⟩, h1, h2, h3⟩ := p
    refine ⟨_, rfl, q f H2 hf h3 ?_⟩
    rw [h2, lastsV_len, lens_full]
theorem c_length (X : Fx K mg) : C8.Cal P w K mg base 3 "length" sp_length [] := by
  have nd : (["presses"] : List Str).Nodup := by decide +kernel
  refine mkCal X.d_length X.g_length (N := ["presses"]) (ps := ["presses"]) (k := 2) (C8.fnScope_by (by decide +kernel)) (fun vs H Q E h => ?_) (fun _ _ _ _ _ _ us hl => match us, hl with | [_], _ => rfl) (fun cdv A outer s H vs Q E hr h => ?_)
  · obtain ⟨l, rfl, _⟩ := h; rfl
  obtain ⟨l, rfl, hl, q⟩ := h
  refine ⟨_, (pss_cons (ps_expr (C8.pe_c (c_need_presses X) hr (by decide) rfl (pa1 (pv 0))))
  (pss_one (ps_ret (pe_ix ix_list (C8.pe_c (c_lengths_of X) hr (by decide) rfl (pa1 (pv 0))) (pe_un un_neg pe_int) (fun _ _ => rfl))))), ?_⟩
  refine ⟨_, rfl, l, rfl, hl, fun H1 e1 => ?_⟩
  refine ⟨_, rfl, l, rfl, hl, fun p H2 hp e2 he => ?_⟩
  exact ⟨_, rfl, _, _, _, _, rfl, rfl, SqL.of he, lens_end l, q H2 (e1.trans e2)⟩
end
end Mi
/-! Walks 2: growths, letters, windows, counts. -/
namespace Mi
open PySem PySem.Spec PyProof.Rows L2 SX
/-- a dict's comprehension over a list that stays -/
theorem dc_list {K : PySem.W.Frag} {a : Addr} {xs : List V} {g : TG} {tt : TT} {tk tv : TE} {vs : List Nat} {σ : L2.St} {H1 : Hp} {D : Addr} {Qd : Hp → Prop} (Pv : Nat → Hp → Prop) (h0 : Pv 0 (upd H1 D (.dK []))) (hl : ∀ i H, i ≤ xs.length → Pv i H → SqL K H a xs)
    (hs : ∀ i x H, xs[i]? = some x → Pv i H → g x (wipe σ vs) H fun σ2 H2 => wipe σ2 vs = wipe σ vs ∧ tt σ2 H2 fun b H3 =>
      if b = true then tk σ2 H3 fun y H4 => tv σ2 H4 fun z H5 => ∃ kvs k, y = kV k ∧ H5 D = some (.dK kvs) ∧ kvs.length < sizeLine ∧ Pv (i + 1) (upd H5 D (.dK (putK kvs k z))) else Pv (i + 1) H3) (hd : ∀ H, Pv xs.length H → Qd H) :
    ∃ W : Nat → Nat → Hp → Prop, (∃ m, W 0 m (upd H1 D (.dK []))) ∧ ∀ i m H, W i m H →
      ((Itl K a).stop i H ∧ Qd H) ∨ ((Itl K a).go i H ∧ ∃ Nx : Hp → Prop, (∀ H', Nx H' → ∃ m', m' < m ∧ W (i + 1) m' H') ∧ ∀ x H', (Itl K a).yld i H x H' → g x (wipe σ vs) H' fun σ2 H2 => wipe σ2 vs = wipe σ vs ∧ tt σ2 H2 fun b H3 =>
        if b = true then tk σ2 H3 fun y H4 => tv σ2 H4 fun z H5 => ∃ kvs k, y = kV k ∧ H5 D = some (.dK kvs) ∧ kvs.length < sizeLine ∧ Nx (upd H5 D (.dK (putK kvs k z))) else Nx H3) := by
  refine ⟨fun i m H => m = xs.length - i ∧ i ≤ xs.length ∧ Pv i H, ⟨xs.length, by simp, Nat.zero_le _, h0⟩, ?_⟩
  rintro i m H ⟨rfl, hi, p⟩
  have q := hl i H hi p
  by_cases hlt : i < xs.length
  · refine .inr ⟨⟨xs, xs[i], q, by simp [hlt]⟩, Pv (i + 1), fun H' p' => ⟨xs.length - (i + 1), by omega, rfl, hlt, p'⟩, fun x H' y => ?_⟩
    obtain ⟨e, y⟩ := y
    subst e
    exact hs i x _ (y xs q) p
  · have e : i = xs.length := by omega
    subst e
    exact .inl ⟨⟨xs, q, Nat.le_refl _⟩, hd H p⟩
theorem yes {σ : L2.St} {H : Hp} {Q : Bool → Hp → Prop} (h : Q true H) : tYes σ H Q := h
theorem lt_len {hi : Nat} : ∀ (ys : List Nat) (lo : Nat), lo ≤ hi → ys.Pairwise (· < ·) → (∀ c ∈ ys, lo ≤ c ∧ c < hi) → ys.length ≤ hi - lo
  | [], lo, _, _, _ => Nat.zero_le _
  | y :: ys, lo, hl, hp, h => by
    have h1 := h y List.mem_cons_self
    rw [List.pairwise_cons] at hp
    have := lt_len ys (y + 1) (by omega) hp.2 (fun c hc => ⟨hp.1 c hc, (h c (List.mem_cons_of_mem _ hc)).2⟩)
    rw [List.length_cons]; omega
theorem few_letters {ys l : List Nat} (hl : Lets l) (hp : ys.Pairwise (· < ·)) (h : ∀ c, c ∈ ys ↔ c ∈ l) : ys.length ≤ 26 :=
  lt_len (hi := 123) ys 97 (by decide) hp fun c hc => by have := hl c ((h c).mp hc); omega
theorem S1_inj {a b : Nat} (h : (Sum.inr (S [a]) : Key) = Sum.inr (S [b])) : a = b := by
  have := S_inj (Sum.inr.inj h)
  simpa using this
theorem valV_cntD (p : List Nat) (c : Nat) : ∀ zs : List Nat, valV (cntD p zs) (Sum.inr (S [c])) = if c ∈ zs then some (V.int (cnt c p.reverse)) else none
  | [] => rfl
  | z :: zs => by
    show valV ((Sum.inr (S [z]), V.int (cnt z p.reverse)) :: cntD p zs) _ = _
    by_cases e : z = c
    · subst e
      rw [valV_pos rfl, if_pos List.mem_cons_self]
    · rw [valV_neg (fun q => e (S1_inj q)), valV_cntD p c zs]
      by_cases m : c ∈ zs
      · rw [if_pos m, if_pos (List.mem_cons_of_mem _ m)]
      · rw [if_neg m, if_neg (by rw [List.mem_cons, not_or]; exact ⟨fun q => e q.symm, m⟩)]
theorem cutV_from (xs : List V) (k : Nat) : cutV xs (some (k : Int)) none = xs.drop k := by
  unfold cutV
  rw [HT.sIx_nat, HT.sIx_none]
  by_cases h : k ≤ xs.length
  · rw [Nat.min_eq_left h, List.take_of_length_le (by rw [List.length_drop]; exact Nat.le_refl _)]
  · rw [Nat.min_eq_right (by omega), List.drop_of_length_le (Nat.le_refl _), List.drop_of_length_le (by omega)]; simp
theorem from_S {l : List Nat} {n : Int} {k : Nat} (h : n = (k : Int)) : V.str (Txt.slice (S l) (some n) none) = tx (l.drop k) := by
  rw [slice_from (by omega)]; subst h; rfl
theorem to_S {l : List Nat} {n : Int} {k : Nat} (h : n = (k : Int)) : V.str (Txt.slice (S l) none (some n)) = tx (l.take k) := by
  rw [slice_to (by omega)]; subst h; rfl
theorem gro_tk {l : List Nat} {i : Nat} (h : i < l.length) : ivs ((gro l).take (i + 1)) = ivs ((gro l).take i) ++ [V.int (L (l.take (i + 1)) - L (l.take i))] := by
  show ((gro l).take (i + 1)).map V.int = _
  rw [List.take_add_one, gro_get h, List.map_append]; rfl
section
variable {P : Program} {w : World} {K : PySem.W.Frag} {mg : Str → Option Value} {base : Heap}
theorem c_growths (X : Fx K mg) : C8.Cal P w K mg base 3 "growths" sp_growths [] := by
  have nd : (["presses", "lengths", "ahead", "after"] : List Str).Nodup := by decide +kernel
  refine mkCal X.d_growths X.g_growths (N := ["presses", "lengths", "ahead", "after"]) (ps := ["presses"]) (k := 2) (C8.fnScope_by (by decide +kernel)) (fun vs H Q E h => ?_) (fun _ _ _ _ _ _ us hl => match us, hl with | [_], _ => rfl) (fun cdv A outer s H vs Q E hr h => ?_)
  · obtain ⟨l, rfl, _⟩ := h; rfl
  obtain ⟨l, rfl, hl, q⟩ := h
  have hz := hl.2
  refine ⟨_, (pss_cons (ps_expr (C8.pe_c (c_need_presses X) hr (by decide) rfl (pa1 (pv 0))))
  (pss_cons (ps_set (i := 1) nd rfl (.inl rfl) (C8.pe_c (c_lengths_of X) hr (by decide) rfl (pa1 (pv 0))))
  (pss_one (ps_ret (pe_tupleOf rfl X.f_tuple (pe_lc (own := [("ahead", 2), ("after", 3)]) (g := gTup K 2 (gCons (gName 2) (gCons (gName 3) gNil))) rfl nd (pi_zip rfl X.f_zip (pa2 (pv 1) (pe_slice sl_list (pv 1) (po_some pe_int) po_none))) (blkOk_by (N := ["presses", "lengths", "ahead", "after"]) (sc := d_growths.scope) (by decide +kernel)) (fun _ _ _ _ _ => (pg_tup (n := 2) rfl (pgs_cons (pg_name (i := 2) nd rfl (.inl rfl) (.inr rfl)) (pgs_cons (pg_name (i := 3) nd rfl (.inl rfl) (.inr rfl)) pgs_nil)))) (fun _ _ _ _ _ => pts_nil) (fun _ _ _ _ _ => (pe_op op_sub (pv 3) (pv 2))))))))), ?_⟩
  refine ⟨_, rfl, l, rfl, hl, fun H1 e1 => ?_⟩
  refine ⟨_, rfl, l, rfl, hl, fun p H2 hp e2 he => ?_⟩
  refine ⟨_, rfl, _, rfl, _, rfl, _, _, rfl, SqL.of he, fun s hs => ?_⟩
  have e3 : Same H2 (upd H2 s (.lst (cutV (ivs (lens l)) (some 1) none))) := Same.new hs
  refine ⟨p, s, _, _, rfl, SqL.of (e3 _ _ he), SqL.of upd_same, fun D hD => ?_⟩
  have ec : cutV (ivs (lens l)) (some 1) none = (ivs (lens l)).drop 1 := cutV_from _ 1
  have hn : l.length = min (ivs (lens l)).length (cutV (ivs (lens l)) (some 1) none).length := by
    rw [ec, List.length_drop, List.length_map, lens_len]; omega
  refine lc_it (walk_zip hn) (fun i H' => H' D = some (.lst (ivs ((gro l).take i))) ∧ Same (upd H2 s (.lst (cutV (ivs (lens l)) (some 1) none))) H') ⟨upd_same, Same.new hD⟩ (fun i H' _ p => ⟨SqL.of (p.2 _ _ (e3 _ _ he)), SqL.of (p.2 _ _ upd_same)⟩) (fun i x Ha Hb hi p y => ?_) (fun H' p => ?_)
  · obtain ⟨T, x, y, rfl, hT, rfl, hx, hy⟩ := y
    have hx : (ivs (lens l))[i]? = some x := hx
    have hy : (cutV (ivs (lens l)) (some 1) none)[i]? = some y := hy
    rw [lens_ix (j := i) (by omega)] at hx
    rw [ec, List.getElem?_drop, lens_ix (j := 1 + i) (by omega)] at hy
    cases hx; cases hy
    refine ⟨T, _, rfl, SqT.of upd_same, rfl, _, _, rfl, _, _, rfl, rfl, rfl, yes (iteT ?_)⟩
    have s1 := Same.new (o := .tup [V.int (L (l.take i)), V.int (L (l.take (1 + i)))]) hT
    refine ⟨_, rfl, _, rfl, _, _, rfl, rfl, _, s1 _ _ p.1, szl (by rw [List.length_map, List.length_take]; omega), ?_, (p.2.trans s1).mut hD⟩
    rw [upd_same, gro_tk hi, Nat.add_comm 1 i]
  · refine .inl ⟨D, _, rfl, SqL.of p.1, fun t ht => ?_⟩
    have e4 := e1.trans (e2.trans (e3.trans p.2))
    refine q t _ (e4.free ht) (e4.trans (Same.new ht)) ?_
    rw [upd_same, List.take_of_length_le (by rw [gro_len]; exact Nat.le_refl _)]
theorem c_letter_there (X : Fx K mg) : C8.Cal P w K mg base 1 "letter_there" (sp_letter_there K) [] := by
  have nd : (["presses", "lengths", "place", "at"] : List Str).Nodup := by decide +kernel
  refine mkCal X.d_letter_there X.g_letter_there (N := ["presses", "lengths", "place", "at"]) (ps := ["presses", "lengths", "place"]) (k := 0) (C8.fnScope_by (by decide +kernel)) (fun vs H Q E h => ?_) (fun _ _ _ _ _ _ us hl => match us, hl with | [_, _, _], _ => rfl) (fun cdv A outer s H vs Q E hr h => ?_)
  · obtain ⟨p, a, n, rfl, _⟩ := h; rfl
  obtain ⟨p, a, n, rfl, hp, hS, h0, h1, q⟩ := h
  have hz := hp.2
  obtain ⟨y, hy, _⟩ := M_get h0 h1
  have q := q y hy
  have hy : ltR p.reverse n = some y := (ltR_ok p.reverse n h0 h1).trans hy
  refine ⟨_, (pss_cons (ps_for PassesOwn.never rfl (pi_range3 rfl X.f_range (pa3 (pe_op op_sub (pe_callB call_len_str rfl X.f_len boot_len (pa1 (pv 0))) pe_int) (pe_un un_neg pe_int) (pe_un un_neg pe_int))) (pg_name (i := 3) nd rfl (.inl rfl))
    (pss_one (ps_if (pt_cmpR op_ge (pv 2) (pe_ix ix_list (pv 1) (pv 3) (fun _ _ => rfl)) (nomark _))
      (pss_cons (ps_if (PW.pt (pw_and (pt_cmpR op_eq (pv 2) (pe_ix ix_list (pv 1) (pv 3) (fun _ _ => rfl)) (nomark _)) (pw_and1 (pt_cmpR op_eq (pe_ix ix_list (pv 1) (pe_op op_add (pv 3) pe_int) (fun _ _ => rfl)) (pe_op op_add (pe_op op_mul pe_int (pe_ix ix_list (pv 1) (pv 3) (fun _ _ => rfl))) pe_int) (nomark _)))))
        (pss_one (ps_ret (pe_ix ix_str (pv 0) (pv 3) (fun _ _ => rfl)))) pss_nil)
      (pss_one (ps_aug (i := 2) nd rfl (.inl rfl) (pe_op op_sub (pe_ix ix_list (pv 1) (pe_op op_add (pv 3) pe_int) (fun _ _ => rfl)) (pe_ix ix_list (pv 1) (pv 3) (fun _ _ => rfl))) ip_sub))) pss_nil)))
  (pss_one (ps_ret pe_str))), ?_⟩
  refine ⟨_, rfl, _, rfl, szS (by omega), _, _, rfl, rfl, _, rfl, _, rfl, _, _, _, p.length, rfl, ?_, ?_⟩
  · have := RgC.neg (i := ((S p).length : Int) - 1) (j := -1) (by rw [S_len]; omega) (by rw [S_len]; omega) (by decide) (by decide)
    have e : (((S p).length : Int) - 1 - -1).toNat = p.length := by rw [S_len]; omega
    rw [e] at this
    exact this
  refine for_rangeC (fun i σ' H' => H' = H ∧ ∃ m b, σ' = [some (tx p), some (.ref a), some (.int m), b] ∧ ltR (p.take (p.length - i)).reverse m = some y) ⟨rfl, n, _, rfl, by rw [Nat.sub_zero, List.take_length]; exact hy⟩ (fun i σ' H' hi g => ?_) (fun σ' H' g => ?_)
  · obtain ⟨rfl, m, b, rfl, hm⟩ := g
    obtain ⟨k, hk⟩ : ∃ k, p.length - i = k + 1 := ⟨p.length - i - 1, by omega⟩
    have hkl : k < p.length := by omega
    obtain ⟨x, hx⟩ : ∃ x, p[k]? = some x := ⟨_, List.getElem?_eq_getElem hkl⟩
    have eat : ((S p).length : Int) - 1 + (i : Nat) * -1 = (k : Int) := by rw [S_len]; omega
    have etk : (p.take (k + 1)).reverse = x :: (p.take k).reverse := by rw [take_snoc hx]; simp
    rw [hk, etk] at hm
    unfold ltR at hm
    have hi2 : p.length - (i + 1) = k := by omega
    have at0 : atI (ivs (lens p)) (((S p).length : Int) - 1 + (i : Nat) * -1) = some (V.int (L (p.take k))) := at_of eat (lens_ix (by omega))
    have at1 : atI (ivs (lens p)) (((S p).length : Int) - 1 + (i : Nat) * -1 + 1) = some (V.int (L (p.take (k + 1)))) := at_of (j := k + 1) (by rw [eat]; rfl) (lens_ix (by omega))
    have eL1 : Lr (p.take k).reverse = L (p.take k) := rfl
    have eL2 : Lr (x :: (p.take k).reverse) = L (p.take (k + 1)) := by rw [← etk]; rfl
    rw [eL1, eL2] at hm
    refine ⟨_, rfl, _, rfl, _, rfl, _, _, _, _, rfl, rfl, hS, at0, _, _, rfl, rfl, _, rfl, ?_⟩
    by_cases c1 : L (p.take k) ≤ m
    · rw [if_pos c1] at hm
      refine iteDT c1 ?_
      refine ⟨_, rfl, _, rfl, _, rfl, _, _, _, _, rfl, rfl, hS, at0, rfl, _, rfl, ?_⟩
      have aug : ∀ hne : ¬ (m = L (p.take k) ∧ L (p.take (k + 1)) = 2 * L (p.take k) + 1), ltR (p.take (p.length - (i + 1))).reverse (m - (L (p.take (k + 1)) - L (p.take k))) = some y := fun hne => by
        rw [if_neg hne] at hm
        rw [hi2]
        exact hm
      by_cases c2 : m = L (p.take k)
      · refine iteDT (by rw [c2]) ?_
        refine ⟨_, rfl, _, rfl, _, _, rfl, rfl, _, _, _, _, rfl, rfl, hS, at1, _, rfl, _, rfl, _, _, _, _, rfl, rfl, hS, at0, _, _, rfl, rfl, .inl ⟨by decide, by decide⟩, _, _, rfl, rfl, rfl, _, rfl, ?_⟩
        by_cases c3 : L (p.take (k + 1)) = 2 * L (p.take k) + 1
        · refine iteDT (by rw [c3]) ?_
          rw [if_pos ⟨c2, c3⟩] at hm
          cases hm
          refine ⟨_, rfl, _, rfl, _, _, _, rfl, rfl, szS (by omega), ?_, q⟩
          have : atI (S p).cps.toList (((S p).length : Int) - 1 + (i : Nat) * -1) = some y := by
            rw [eat]
            exact atI_nat hx
          exact this
        · refine iteDF (fun z => c3 (by injection z)) ?_
          refine ⟨_, rfl, _, rfl, _, rfl, _, _, rfl, rfl, _, _, _, _, rfl, rfl, hS, at1, _, rfl, _, rfl, _, _, _, _, rfl, rfl, hS, at0, _, _, rfl, rfl, _, _, rfl, rfl, rfl, _, _, rfl, aug fun z => c3 z.2⟩
      · refine iteDF (fun z => c2 (by injection z)) (iteF ?_)
        refine ⟨_, rfl, _, rfl, _, rfl, _, _, rfl, rfl, _, _, _, _, rfl, rfl, hS, at1, _, rfl, _, rfl, _, _, _, _, rfl, rfl, hS, at0, _, _, rfl, rfl, _, _, rfl, rfl, rfl, _, _, rfl, aug fun z => c2 z.1⟩
    · rw [if_neg c1] at hm
      refine iteDF c1 ?_
      exact ⟨rfl, _, _, rfl, by rw [hi2]; exact hm⟩
  · obtain ⟨rfl, m, b, rfl, hm⟩ := g
    rw [Nat.sub_self, List.take_zero] at hm
    cases hm
theorem c_letter_at (X : Fx K mg) : C8.Cal P w K mg base 3 "letter_at" sp_letter_at [] := by
  have nd : (["presses", "place", "lengths"] : List Str).Nodup := by decide +kernel
  refine mkCal X.d_letter_at X.g_letter_at (N := ["presses", "place", "lengths"]) (ps := ["presses", "place"]) (k := 2) (C8.fnScope_by (by decide +kernel)) (fun vs H Q E h => ?_) (fun _ _ _ _ _ _ us hl => match us, hl with | [_, _], _ => rfl) (fun cdv A outer s H vs Q E hr h => ?_)
  · obtain ⟨p, n, rfl, _⟩ := h; rfl
  obtain ⟨p, n, rfl, hp, h0, h1, q⟩ := h
  refine ⟨_, (pss_cons (ps_expr (C8.pe_c (c_need_presses X) hr (by decide) rfl (pa1 (pv 0))))
  (pss_cons (ps_set (i := 2) nd rfl (.inl rfl) (C8.pe_c (c_lengths_of X) hr (by decide) rfl (pa1 (pv 0))))
  (pss_cons (ps_if (pt_not (pt_val (pe_isw (c_is_whole X) hr (by decide) rfl (pv 1) (pe_op op_sub (pe_ix ix_list (pv 2) (pe_un un_neg pe_int) (fun _ _ => rfl)) pe_int))))
    pss_never pss_nil)
  (pss_one (ps_ret (C8.pe_c (c_letter_there X) hr (by decide) rfl (pa3 (pv 0) (pv 2) (pv 1)))))))), ?_⟩
  refine ⟨_, rfl, p, rfl, hp, fun H1 e1 => ?_⟩
  refine ⟨_, rfl, p, rfl, hp, fun t H2 ht e2 he => ?_⟩
  refine ⟨_, rfl, _, rfl, _, rfl, _, _, _, _, rfl, rfl, SqL.of he, lens_end p, _, _, rfl, rfl, rfl, rfl, _, _, rfl, _, rfl, iteBF (by rw [decide_eq_true h0, decide_eq_true (show n ≤ L p - 1 by omega)]; rfl) ?_⟩
  exact ⟨_, rfl, _, rfl, _, rfl, p, t, n, rfl, hp, SqL.of he, h0, h1, fun y hy => q y hy H2 (e1.trans e2)⟩
theorem c_window (X : Fx K mg) : C8.Cal P w K mg base 3 "window" sp_window [] := by
  have nd : (["presses", "start", "many", "lengths", "place"] : List Str).Nodup := by decide +kernel
  refine mkCal X.d_window X.g_window (N := ["presses", "start", "many", "lengths", "place"]) (ps := ["presses", "start", "many"]) (k := 2) (C8.fnScope_by (by decide +kernel)) (fun vs H Q E h => ?_) (fun _ _ _ _ _ _ us hl => match us, hl with | [_, _, _], _ => rfl) (fun cdv A outer s H vs Q E hr h => ?_)
  · obtain ⟨p, n, m, rfl, _⟩ := h; rfl
  obtain ⟨p, a, m, rfl, hp, h0, h1, h2, h3, q⟩ := h
  refine ⟨_, (pss_cons (ps_expr (C8.pe_c (c_need_presses X) hr (by decide) rfl (pa1 (pv 0))))
  (pss_cons (ps_set (i := 3) nd rfl (.inr rfl) (C8.pe_c (c_lengths_of X) hr (by decide) rfl (pa1 (pv 0))))
  (pss_cons (ps_if (pt_not (pt_val (pe_isw (c_is_whole X) hr (by decide) rfl (pv 1) (pe_ix ix_list (pv 3) (pe_un un_neg pe_int) (fun _ _ => rfl)))))
    pss_never pss_nil)
  (pss_cons (ps_if (pt_not (pt_val (pe_isw (c_is_whole X) hr (by decide) rfl (pv 2) (pe_callB (call_min2 rfl) rfl X.f_min (by decide +kernel) (pa2 (C8.pe_gc rfl X.c_MOST_WINDOW) (pe_op op_sub (pe_ix ix_list (pv 3) (pe_un un_neg pe_int) (fun _ _ => rfl)) (pv 1)))))))
    pss_never pss_nil)
  (pss_one (ps_ret (pe_join pe_str (pe_lc (own := [("place", 4)]) rfl nd (pi_rangeA rfl X.f_range (pa2 (pv 1) (pe_op op_add (pv 1) (pv 2)))) (blkOk_by (N := ["presses", "start", "many", "lengths", "place"]) (sc := d_window.scope) (by decide +kernel)) (fun _ _ _ _ _ => (pg_name (i := 4) nd rfl (.inl rfl) (.inr rfl))) (fun _ _ _ _ _ => pts_nil) (fun _ _ _ _ _ => (C8.pe_c (c_letter_there X) hr (by decide) rfl (pa3 (pv 0) (pv 3) (pv 4)))))))))))), ?_⟩
  refine ⟨_, rfl, p, rfl, hp, fun H1 e1 => ?_⟩
  refine ⟨_, rfl, p, rfl, hp, fun t H2 ht e2 he => ?_⟩
  refine ⟨_, rfl, _, rfl, _, rfl, _, _, _, _, rfl, rfl, SqL.of he, lens_end p, rfl, rfl, _, _, rfl, _, rfl, iteBF (by rw [decide_eq_true h0, decide_eq_true (show a ≤ L p by omega)]; rfl) ?_⟩
  refine ⟨_, rfl, _, rfl, _, rfl, _, _, _, _, rfl, rfl, SqL.of he, lens_end p, _, rfl, _, _, rfl, rfl, _, _, rfl, rfl, rfl, _, _, rfl, _, rfl, iteBF ?_ ?_⟩
  · rw [decide_eq_true h1, decide_eq_true (show m ≤ if L p - a < 1000 then L p - a else 1000 by split <;> omega)]; rfl
  refine ⟨⟨_, rfl⟩, _, rfl, _, rfl, _, rfl, _, _, rfl, rfl, _, _, rfl, fun D hD => ?_⟩
  have hml : (M p).length = (L p).toNat := len_M' p
  have hwl : (((M p).drop a.toNat).take m.toNat).length = m.toNat := by rw [List.length_take, List.length_drop]; omega
  refine lc_range (fun i H' => H' D = some (.lst ((((M p).drop a.toNat).take i).map fun c => tx [c])) ∧ Same H2 H') ⟨by rw [upd_same]; rfl, Same.new hD⟩ (fun i H' hi g => ?_) (fun H' g => ?_)
  · refine ⟨rfl, yes (iteT ?_)⟩
    refine ⟨_, rfl, _, rfl, _, rfl, p, t, _, rfl, hp, SqL.of (g.2 _ _ he), by omega, by omega, fun y hy => ?_⟩
    have hy2 : ((M p).drop a.toNat)[i]? = some y := by
      rw [List.getElem?_drop, ← hy]
      congr 1
      omega
    refine ⟨_, g.1, szl (by rw [List.length_map, List.length_take]; omega), ?_, g.2.mut hD⟩
    rw [upd_same, take_snoc hy2, List.map_append]; rfl
  · have em : (a + m - a).toNat = m.toNat := by omega
    rw [em] at g
    refine ⟨_, D, (((M p).drop a.toNat).take m.toNat).map (fun c => S [c]), rfl, rfl, .inl (SqL.of (by rw [g.1, List.map_map]; rfl)), ?_, ?_⟩
    · rw [List.length_map, hwl, List.map_map]
      have : ∀ l : List Nat, (l.map ((fun x : Str => x.length) ∘ fun c => S [c])).sum = l.length := by
        intro l
        induction l with
        | nil => rfl
        | cons x l ih => rw [List.map_cons, List.sum_cons, ih, List.length_cons]; show (S [x]).length + _ = _; rw [S_len]; simp; omega
      rw [this, hwl]
      have : (Str.ofString "").length = 0 := by decide +kernel
      rw [this]; omega
    · have e0 : (Str.ofString "") = S [] := by decide +kernel
      rw [e0, join_signs]
      exact q H' (e1.trans (e2.trans g.2))
theorem c_count_there (X : Fx K mg) : C8.Cal P w K mg base 3 "count_there" sp_count_there [] := by
  have nd : (["presses", "letter", "first"] : List Str).Nodup := by decide +kernel
  refine mkCal X.d_count_there X.g_count_there (N := ["presses", "letter", "first"]) (ps := ["presses", "letter"]) (k := 2) (C8.fnScope_by (by decide +kernel)) (fun vs H Q E h => ?_) (fun _ _ _ _ _ _ us hl => match us, hl with | [_, _], _ => rfl) (fun cdv A outer s H vs Q E hr h => ?_)
  · obtain ⟨p, n, rfl, _⟩ := h; rfl
  obtain ⟨p, c, rfl, hp, q⟩ := h
  have hz := hp.2
  refine ⟨_, (pss_cons (ps_set (i := 2) nd rfl (.inl rfl) (pe_m1 PySem.F.slot_str_find PySem.F.type_str_find mt_find (pv 0) (pv 1)))
  (pss_one (ps_ret (pe_ifExp (pt_cmpR op_ge (pv 2) pe_int (nomark _)) (pe_op op_add (pe_ix ix_list (C8.pe_c (c_lengths_of X) hr (by decide) rfl (pa1 (pe_slice C8.sl_txt (pv 0) (po_some (pe_op op_add (pv 2) pe_int)) po_none))) (pe_un un_neg pe_int) (fun _ _ => rfl)) pe_int) pe_int)))), ?_⟩
  refine ⟨_, rfl, ⟨_, rfl⟩, _, rfl, _, _, rfl, rfl, ?_⟩
  rcases find_sign p c with ⟨hn, e⟩ | ⟨i, h1, h2, e⟩
  · refine ⟨_, rfl, _, _, rfl, rfl, _, rfl, iteDF (by rw [e]; decide) ?_⟩
    have := q H (Same.refl H)
    rw [cnt_not (by simpa using hn)] at this
    exact this
  · rw [e]
    refine ⟨_, rfl, _, _, rfl, rfl, _, rfl, iteDT (by omega) ?_⟩
    refine ⟨_, rfl, _, rfl, _, _, rfl, rfl, _, rfl, _, rfl, szS (by omega), p.drop (i + 1), ?_, hp.drop _, fun t H2 ht e2 he => ?_⟩
    · rw [from_S (k := i + 1) (by rfl)]; rfl
    refine ⟨_, rfl, _, _, _, _, rfl, rfl, SqL.of he, lens_end _, _, _, rfl, rfl, ?_⟩
    have := q H2 e2
    rw [cnt_first h1 h2] at this
    exact this
theorem c_counts (X : Fx K mg) : C8.Cal P w K mg base 4 "counts" sp_counts [] := by
  have nd : (["presses", "letter"] : List Str).Nodup := by decide +kernel
  refine mkCal X.d_counts X.g_counts (N := ["presses", "letter"]) (ps := ["presses"]) (k := 3) (C8.fnScope_by (by decide +kernel)) (fun vs H Q E h => ?_) (fun _ _ _ _ _ _ us hl => match us, hl with | [_], _ => rfl) (fun cdv A outer s H vs Q E hr h => ?_)
  · obtain ⟨p, rfl, _⟩ := h; rfl
  obtain ⟨p, rfl, hp, q⟩ := h
  have hz := hp.2
  refine ⟨_, (pss_cons (ps_expr (C8.pe_c (c_need_presses X) hr (by decide) rfl (pa1 (pv 0))))
  (pss_one (ps_ret (pe_dc (own := [("letter", 1)]) rfl nd (pi_list (pe_callB (cr_sortT rfl) rfl X.f_sorted (by decide +kernel) (pa1 (pe_callTy (cr_setT rfl) rfl X.f_set (by decide +kernel) (pa1 (pv 0)))))) (blkOk_by (N := ["presses", "letter"]) (sc := d_counts.scope) (by decide +kernel)) (fun _ _ _ _ _ => (pg_name (i := 1) nd rfl (.inl rfl) (.inr rfl))) (fun _ _ _ _ _ => pts_nil) (fun _ _ _ _ _ => (pv 1)) (fun _ _ _ _ _ => (C8.pe_c (c_count_there X) hr (by decide) rfl (pa2 (pv 0) (pv 1)))))))), ?_⟩
  refine ⟨_, rfl, p, rfl, hp, fun H1 e1 => ?_⟩
  refine ⟨_, rfl, p, rfl, by omega, fun s hs => ⟨s, p, rfl, upd_same, fun ys t h1 h2 ht => ⟨t, rfl, ⟨_, SqL.of upd_same⟩, fun D hD => ?_⟩⟩⟩
  have e2 : Same H1 (upd (upd H1 s (SetO' _ s p)) t (.lst (ys.map fun c => V.str (S [c])))) := (Same.new hs).trans (Same.new ht)
  have q := q ys h1 h2
  have hyl : ys.length ≤ 26 := few_letters hp.1 h1 h2
  refine dc_list (xs := ys.map fun c => V.str (S [c])) (fun i H' => H' D = some (.dK (cntD p (ys.take i))) ∧ Same (upd (upd H1 s (SetO' _ s p)) t (.lst (ys.map fun c => V.str (S [c])))) H') ⟨upd_same, Same.new hD⟩ (fun i H' _ g => SqL.of (g.2 _ _ upd_same)) (fun i x H' hx g => ?_) (fun H' g => ?_)
  · rw [List.getElem?_map] at hx
    obtain ⟨c, hc, rfl⟩ := Option.map_eq_some_iff.mp hx
    refine ⟨rfl, yes (iteT ?_)⟩
    refine ⟨_, rfl, _, rfl, _, rfl, p, c, rfl, hp, fun H2 e3 => ?_⟩
    refine ⟨_, .inr (S [c]), rfl, e3 _ _ g.1, szl ?_, ?_, (g.2.trans e3).mut hD⟩
    · show ((ys.take i).map _).length < _
      rw [List.length_map, List.length_take]; omega
    · have hi := lt_of_get hc
      have nm : c ∉ ys.take i := fun m => by
        obtain ⟨j, hj⟩ := List.mem_iff_getElem?.mp m
        rw [List.getElem?_take] at hj
        split at hj
        · rename_i hji
          have := nd_ix (nodup_lt h1) hj hc
          omega
        · cases hj
      rw [upd_same, putK_new _ (by rw [valV_cntD, if_neg nm]), take_snoc hc]
      show _ = some (HO.dK (((ys.take i) ++ [c]).map _))
      rw [List.map_append]; rfl
  · rw [List.length_map] at g
    refine q D H' ((e1.trans e2).free hD) (e1.trans (e2.trans g.2)) ?_
    rw [g.1, List.take_of_length_le (Nat.le_refl _)]
end
end Mi
/-! Walks 3: blocks, digits. -/
namespace Mi
open PySem PySem.Spec PyProof.Rows L2 SX
theorem ivs_app (a b : List Int) : ivs (a ++ b) = ivs a ++ ivs b := List.map_append
theorem ivs_rev (a : List Int) : (ivs a).reverse = ivs a.reverse := (List.map_reverse ..).symm
theorem ivs_drop (a : List Int) (k : Nat) : ivs (a.drop k) = (ivs a).drop k := List.map_drop ..
theorem digR_cons (g : Int) (gs : List Int) (n : Int) : digR (g :: gs) n = if g ≤ n then 1 :: digR gs (n - g) else 0 :: digR gs n := rfl
theorem valF_cons (g d : Int) (gs ds : List Int) : valF (g :: gs) (d :: ds) = (if d = 1 then g else 0) + valF gs ds := rfl
theorem walk_zipX {K : PySem.W.Frag} {a b : Addr} {xs ys : List V} {n : Nat} (hn : xs.length = n) (hm : ys.length = n) : Walk (ItzX K a b) n (fun H => SqT K H a xs ∧ SqT K H b ys) (YPair (fun i => xs[i]?) (fun i => ys[i]?)) :=
  ⟨fun i H hi q => ⟨xs, ys, q.1, q.2, by omega, by omega⟩, fun H q => ⟨xs, ys, q.1, q.2, hn, hm⟩, fun i H x H' hi q y => by
    obtain ⟨T, x, y, e1, e2, e3, h1, h2⟩ := y
    exact ⟨T, x, y, e1, e2, e3, h1 xs q.1, h2 ys q.2⟩⟩
theorem full_drop {xs : List V} {k : Nat} (c : HT.sIx xs.length 0 (some (k : Int)) = 0 ∧ HT.sIx xs.length xs.length none = xs.length) : xs.drop k = xs := by
  have c1 := c.1
  rw [HT.sIx_nat] at c1
  by_cases h : k = 0
  · subst h; rfl
  · have : xs.length = 0 := by omega
    rw [List.length_eq_zero_iff.mp this]; simp
section
variable {P : Program} {w : World} {K : PySem.W.Frag} {mg : Str → Option Value} {base : Heap}
theorem c_added_by (X : Fx K mg) : C8.Cal P w K mg base 4 "added_by" sp_added_by [] := by
  have nd : (["presses", "letter", "grown"] : List Str).Nodup := by decide +kernel
  refine mkCal X.d_added_by X.g_added_by (N := ["presses", "letter", "grown"]) (ps := ["presses", "letter"]) (k := 3) (C8.fnScope_by (by decide +kernel)) (fun vs H Q E h => ?_) (fun _ _ _ _ _ _ us hl => match us, hl with | [_, _], _ => rfl) (fun cdv A outer s H vs Q E hr h => ?_)
  · obtain ⟨p, c, rfl, _⟩ := h; rfl
  obtain ⟨p, c, rfl, hp, q⟩ := h
  refine ⟨_, (pss_cons (ps_set (i := 2) nd rfl (.inl rfl) (C8.pe_c (c_growths X) hr (by decide) rfl (pa1 (pv 0))))
  (pss_one (ps_ret (pe_ifExp (pt_cmpR op_in_sign (pv 1) (pv 0) rfl) (pe_callB (cr_sumT rfl) rfl X.f_sum (by decide +kernel) (pa1 (pe_slice sl_tupA (pv 2) (po_some (pe_m1 PySem.F.slot_str_rfind PySem.F.type_str_rfind mt_rfind (pv 0) (pv 1))) po_none))) (pe_op op_add (pe_callB (cr_sumT rfl) rfl X.f_sum (by decide +kernel) (pa1 (pv 2))) pe_int))))), ?_⟩
  refine ⟨_, rfl, p, rfl, hp, fun g H1 hg e1 he => ?_⟩
  refine ⟨_, rfl, _, rfl, c, _, rfl, rfl, _, rfl, ?_⟩
  cases hl : lastIx c p with
  | none =>
    refine iteDF (lastIx_none.mp hl) ?_
    refine ⟨_, rfl, g, gro p, rfl, SqT.of he, _, _, rfl, rfl, ?_⟩
    have e : V.int ((gro p).sum + 1) = V.int (Bk p.reverse c) := by rw [sum_gro, Bk_new hl]
    show Q (V.int ((gro p).sum + 1)) H1
    rw [e]
    exact q H1 e1
  | some j =>
    have hm : c ∈ p := by
      obtain ⟨a, b, e, _⟩ := lastIx_split hl
      rw [e]; simp
    refine iteDT hm ?_
    have fin : ∀ (t : Addr) (H' : Hp), Same H1 H' → SqT K H' t ((ivs (gro p)).drop j) → ∃ (a : Addr) (ns : List Int), [V.ref t] = [V.ref a] ∧ SqT K H' a (ns.map V.int) ∧ Q (.int ns.sum) H' := fun t H' e hS => by
      refine ⟨t, (gro p).drop j, rfl, by rw [List.map_drop]; exact hS, ?_⟩
      rw [sum_gro_drop p.length p rfl j (Nat.le_of_lt (lastIx_lt hl)), ← Bk_old hl]
      exact q H' (e1.trans e)
    refine ⟨_, rfl, _, rfl, ⟨_, rfl⟩, _, rfl, _, _, rfl, rfl, (j : Int), by rw [rfind_sign, hl], _, _, rfl, SqT.of he, fun c => ?_, fun _ t ht => ?_⟩
    · exact fin g H1 (Same.refl _) (by rw [full_drop c]; exact SqT.of he)
    · exact fin t _ (Same.new ht) (by rw [cutV_from]; exact SqT.of upd_same)
theorem c_block_length (X : Fx K mg) : C8.Cal P w K mg base 5 "block_length" sp_block_length [] := by
  have nd : (["presses", "letter"] : List Str).Nodup := by decide +kernel
  refine mkCal X.d_block_length X.g_block_length (N := ["presses", "letter"]) (ps := ["presses", "letter"]) (k := 4) (C8.fnScope_by (by decide +kernel)) (fun vs H Q E h => ?_) (fun _ _ _ _ _ _ us hl => match us, hl with | [_, _], _ => rfl) (fun cdv A outer s H vs Q E hr h => ?_)
  · obtain ⟨p, c, rfl, _⟩ := h; rfl
  obtain ⟨p, c, rfl, hp, hc, q⟩ := h
  refine ⟨_, (pss_cons (ps_expr (C8.pe_c (c_need_presses X) hr (by decide) rfl (pa1 (pv 0))))
  (pss_cons (ps_expr (C8.pe_c (c_need_letter X) hr (by decide) rfl (pa1 (pv 1))))
  (pss_one (ps_ret (C8.pe_c (c_added_by X) hr (by decide) rfl (pa2 (pv 0) (pv 1))))))), ?_⟩
  refine ⟨_, rfl, p, rfl, hp, fun H1 e1 => ?_⟩
  refine ⟨_, rfl, c, rfl, hc, ?_⟩
  exact ⟨_, rfl, _, rfl, p, c, rfl, hp, q.to e1⟩
theorem c_digits_of (X : Fx K mg) : C8.Cal P w K mg base 1 "digits_of" (sp_digits_of K) [] := by
  have nd : (["grown", "place", "found", "left", "growth"] : List Str).Nodup := by decide +kernel
  refine mkCal X.d_digits_of X.g_digits_of (N := ["grown", "place", "found", "left", "growth"]) (ps := ["grown", "place"]) (k := 0) (C8.fnScope_by (by decide +kernel)) (fun vs H Q E h => ?_) (fun _ _ _ _ _ _ us hl => match us, hl with | [_, _], _ => rfl) (fun cdv A outer s H vs Q E hr h => ?_)
  · obtain ⟨p, c, n, rfl, _⟩ := h; rfl
  obtain ⟨a, gs, n, rfl, hS, hz, q⟩ := h
  refine ⟨_, (pss_cons (ps_par (i := 2) (j := 3) rfl nd rfl rfl (by decide) rfl rfl (pa2 (pe_lst pa_nil) (pv 1)) (by rfl))
  (pss_cons (ps_for PassesOwn.never rfl (pi_tup (pe_backT (pv 0))) (pg_name (i := 4) nd rfl (.inl rfl))
    (pss_cons (ps_expr (pe_bm PySem.F.plainAttrs_list PySem.F.slot_list_append PySem.F.type_list_append mt_append (pv 2) (pa1 (pe_callTy call_int1 rfl X.f_int (by decide +kernel) (pa1 (pe_cmpR op_ge (pv 3) (pv 4) (nomark _)))))))
    (pss_one (ps_aug (i := 3) nd rfl (.inl rfl) (pe_op op_mul (pv 4) (pe_ix ix_list (pv 2) (pe_un un_neg pe_int) (fun _ _ => rfl))) ip_sub))))
  (pss_one (ps_ret (pe_tupleOf rfl X.f_tuple (pe_revL (pv 2))))))), ?_⟩
  refine ⟨Nat.zero_le _, fun f hf => ⟨_, rfl, _, _, rfl, ?_⟩⟩
  have s1 : Same H (upd H f (.lst [])) := Same.new hf
  refine ⟨_, rfl, _, _, rfl, s1.tup hS, fun t ht => ⟨t, rfl, ⟨_, SqT.of upd_same⟩, ?_⟩⟩
  have s2 : Same H (upd (upd H f (.lst [])) t (.tup (ivs gs).reverse)) := s1.trans (Same.new ht)
  have ntf : f ≠ t := ne_of_none upd_same ht
  have erev : (ivs gs).reverse = ivs gs.reverse := ivs_rev gs
  refine for_tup (xs := (ivs gs).reverse) (fun i σ' H2 => ∃ (m : Int) (b : Option V) (ds : List Int), σ' = [some (.ref a), some (.int n), some (.ref f), some (.int m), b] ∧ H2 f = some (.lst (ivs ds)) ∧ ds.length = i ∧ digR gs.reverse n = ds ++ digR (gs.reverse.drop i) m ∧ H2 t = some (.tup (ivs gs).reverse) ∧ Same H H2)
    ⟨n, _, [], rfl, by rw [upd_ne ntf]; exact upd_same, rfl, rfl, upd_same, s2⟩ (fun i σ' H2 _ g => by obtain ⟨m, b, ds, _, _, _, _, h5, _⟩ := g; exact SqT.of h5) (fun i x σ' H2 hx g => ?_) (fun σ' H2 g => ?_)
  · obtain ⟨m, b, ds, rfl, h1, h2, h3, h4, h5⟩ := g
    rw [erev, List.getElem?_map] at hx
    obtain ⟨gr, hg, rfl⟩ := Option.map_eq_some_iff.mp hx
    have hi := lt_of_get hg
    have ed : gs.reverse.drop i = gr :: gs.reverse.drop (i + 1) := by
      obtain ⟨hlt, e⟩ := List.getElem?_eq_some_iff.mp hg
      rw [List.drop_eq_getElem_cons hlt, e]
    rw [List.length_reverse] at hi
    rw [ed, digR_cons] at h3
    refine ⟨_, rfl, .inl ⟨rfl, _, SqL.of h1⟩, ?_⟩
    refine ⟨_, rfl, _, rfl, _, _, rfl, rfl, .inr ⟨_, rfl, ?_⟩⟩
    refine ⟨_, _, _, rfl, rfl, h1, szl (by rw [List.length_map]; omega), ?_⟩
    by_cases c : gr ≤ m
    · rw [if_pos c] at h3
      rw [decide_eq_true c]
      refine ⟨_, rfl, _, rfl, _, rfl, _, rfl, _, _, _, _, rfl, rfl, SqL.of upd_same, atI_last _ _, _, _, rfl, rfl, .inr ⟨by decide, by decide⟩, _, _, rfl, rfl, ?_⟩
      refine ⟨_, _, ds ++ [1], rfl, by rw [upd_same, ivs_app]; rfl, by rw [List.length_append, h2]; rfl, ?_, by rw [upd_ne ntf.symm]; exact h4, h5.mut hf⟩
      have e : m - gr * 1 = m - gr := by rw [Int.mul_one]
      show _ = ds ++ [1] ++ digR (gs.reverse.drop (i + 1)) (m - gr * 1)
      rw [h3, List.append_assoc, e]; rfl
    · rw [if_neg c] at h3
      rw [decide_eq_false c]
      refine ⟨_, rfl, _, rfl, _, rfl, _, rfl, _, _, _, _, rfl, rfl, SqL.of upd_same, atI_last _ _, _, _, rfl, rfl, .inr ⟨by decide, by decide⟩, _, _, rfl, rfl, ?_⟩
      refine ⟨_, _, ds ++ [0], rfl, by rw [upd_same, ivs_app]; rfl, by rw [List.length_append, h2]; rfl, ?_, by rw [upd_ne ntf.symm]; exact h4, h5.mut hf⟩
      have e : m - gr * 0 = m := by rw [Int.mul_zero, Int.sub_zero]
      show _ = ds ++ [0] ++ digR (gs.reverse.drop (i + 1)) (m - gr * 0)
      rw [h3, List.append_assoc, e]; rfl
  · obtain ⟨m, b, ds, rfl, h1, h2, h3, h4, h5⟩ := g
    refine ⟨_, rfl, _, _, rfl, SqL.of h1, fun r hr => .inl ⟨r, _, rfl, SqL.of upd_same, fun t2 ht2 => ?_⟩⟩
    have s3 := h5.trans (Same.new (o := .lst (ivs ds).reverse) hr)
    refine q t2 _ (s3.free ht2) (s3.trans (Same.new ht2)) ?_
    rw [erev, List.length_map, List.drop_of_length_le (Nat.le_refl _)] at h3
    have h3 : digR gs.reverse n = ds := by rw [h3]; simp [digR]
    rw [upd_same]
    unfold digF
    rw [h3, ivs_rev]
theorem c_value_of (X : Fx K mg) : C8.Cal P w K mg base 1 "value_of" (sp_value_of K) [] := by
  have nd : (["grown", "digits", "growth", "digit"] : List Str).Nodup := by decide +kernel
  refine mkCal X.d_value_of X.g_value_of (N := ["grown", "digits", "growth", "digit"]) (ps := ["grown", "digits"]) (k := 0) (C8.fnScope_by (by decide +kernel)) (fun vs H Q E h => ?_) (fun _ _ _ _ _ _ us hl => match us, hl with | [_, _], _ => rfl) (fun cdv A outer s H vs Q E hr h => ?_)
  · obtain ⟨p, c, n, m, rfl, _⟩ := h; rfl
  obtain ⟨a, b, gs, ds, rfl, hA, hB, hl, hz, q⟩ := h
  refine ⟨_, (pss_one (ps_ret (pe_callB (cr_sum rfl) rfl X.f_sum (by decide +kernel) (pa1 (pe_lc (own := [("growth", 2), ("digit", 3)]) (g := gTup K 2 (gCons (gName 2) (gCons (gName 3) gNil))) rfl nd (pi_zipX rfl X.f_zip (pa2 (pv 0) (pv 1)) (pk_cons pe_bl pk_nil)) (blkOk_by (N := ["grown", "digits", "growth", "digit"]) (sc := d_value_of.scope) (by decide +kernel)) (fun _ _ _ _ _ => (pg_tup (n := 2) rfl (pgs_cons (pg_name (i := 2) nd rfl (.inl rfl) (.inr rfl)) (pgs_cons (pg_name (i := 3) nd rfl (.inl rfl) (.inr rfl)) pgs_nil)))) (fun _ _ _ _ _ => (pts_one (pt_cmpR op_eq (pv 3) pe_int (nomark _)))) (fun _ _ _ _ _ => (pv 2))))))), ?_⟩
  refine ⟨_, rfl, _, rfl, a, b, _, _, rfl, rfl, hA, hB, fun D hD => ?_⟩
  refine lc_it (walk_zipX (xs := ivs gs) (ys := ivs ds) (n := gs.length) (by simp) (by simp [hl])) (fun i H' => ∃ us : List Int, H' D = some (.lst (ivs us)) ∧ us.length ≤ i ∧ us.sum + valF (gs.drop i) (ds.drop i) = valF gs ds ∧ Same H H')
    ⟨[], upd_same, Nat.zero_le _, by simp, Same.new hD⟩ (fun i H' _ g => by obtain ⟨us, _, _, _, e⟩ := g; exact ⟨e.tup hA, e.tup hB⟩) (fun i x Ha Hb hi g y => ?_) (fun H' g => ?_)
  · obtain ⟨us, g1, g2, g3, g4⟩ := g
    obtain ⟨T, x, y, rfl, hT, rfl, hx, hy⟩ := y
    have hx : (ivs gs)[i]? = some x := hx
    have hy : (ivs ds)[i]? = some y := hy
    rw [List.getElem?_map] at hx hy
    obtain ⟨gr, hgr, rfl⟩ := Option.map_eq_some_iff.mp hx
    obtain ⟨d, hd, rfl⟩ := Option.map_eq_some_iff.mp hy
    have eg : gs.drop i = gr :: gs.drop (i + 1) := by
      obtain ⟨hlt, e⟩ := List.getElem?_eq_some_iff.mp hgr
      rw [List.drop_eq_getElem_cons hlt, e]
    have ed : ds.drop i = d :: ds.drop (i + 1) := by
      obtain ⟨hlt, e⟩ := List.getElem?_eq_some_iff.mp hd
      rw [List.drop_eq_getElem_cons hlt, e]
    rw [eg, ed, valF_cons] at g3
    have s1 := Same.new (o := .tup [V.int gr, V.int d]) hT
    refine ⟨T, _, rfl, SqT.of upd_same, rfl, _, _, rfl, _, _, rfl, rfl, rfl, ?_⟩
    refine ⟨_, rfl, rfl, _, rfl, ?_⟩
    by_cases c : d = 1
    · rw [if_pos c] at g3
      refine iteDT (by rw [c]) ?_
      refine ⟨_, rfl, _, s1 _ _ g1, szl (by rw [List.length_map]; omega), us ++ [gr], by rw [upd_same, ivs_app]; rfl, by rw [List.length_append]; simp; omega, ?_, (g4.trans s1).mut hD⟩
      rw [List.sum_append]
      simp
      omega
    · rw [if_neg c] at g3
      refine iteDF (fun z => c (by injection z)) ?_
      exact ⟨us, s1 _ _ g1, by omega, by omega, g4.trans s1⟩
  · obtain ⟨us, g1, g2, g3, g4⟩ := g
    refine ⟨D, us, rfl, SqL.of g1, ?_⟩
    rw [List.drop_of_length_le (Nat.le_refl _)] at g3
    have : us.sum = valF gs ds := by rw [← g3]; simp [valF]
    rw [this]
    exact q H' g4
theorem c_block_start (X : Fx K mg) : C8.Cal P w K mg base 4 "block_start" sp_block_start [] := by
  have nd : (["presses", "cut", "number", "own"] : List Str).Nodup := by decide +kernel
  refine mkCal X.d_block_start X.g_block_start (N := ["presses", "cut", "number", "own"]) (ps := ["presses", "cut", "number"]) (k := 3) (C8.fnScope_by (by decide +kernel)) (fun vs H Q E h => ?_) (fun _ _ _ _ _ _ us hl => match us, hl with | [_, _, _], _ => rfl) (fun cdv A outer s H vs Q E hr h => ?_)
  · obtain ⟨p, c, n, rfl, _⟩ := h; rfl
  obtain ⟨p, k, n, rfl, hp, hk, h0, h1, q⟩ := h
  have hz := hp.2
  refine ⟨_, (pss_cons (ps_expr (C8.pe_c (c_need_cut X) hr (by decide) rfl (pa2 (pv 0) (pv 1))))
  (pss_cons (ps_set (i := 3) nd rfl (.inl rfl) (C8.pe_c (c_growths X) hr (by decide) rfl (pa1 (pe_slice C8.sl_txt (pv 0) (po_some (pv 1)) po_none))))
  (pss_cons (ps_expr (C8.pe_c (c_need_within X) hr (by decide) rfl (pa2 (pv 2) (pe_callB (cr_sumT rfl) rfl X.f_sum (by decide +kernel) (pa1 (pv 3))))))
  (pss_one (ps_ret (C8.pe_c (c_value_of X) hr (by decide) rfl (pa2 (pe_slice sl_tupA (C8.pe_c (c_growths X) hr (by decide) rfl (pa1 (pv 0))) (po_some (pv 1)) po_none) (C8.pe_c (c_digits_of X) hr (by decide) rfl (pa2 (pv 3) (pv 2)))))))))), ?_⟩
  refine ⟨_, rfl, _, rfl, p, k, rfl, hp, hk, fun H1 e1 => ?_⟩
  refine ⟨_, rfl, _, rfl, _, rfl, _, rfl, szS (by omega), p.drop k, by rw [from_S rfl]; rfl, hp.drop k, fun o H2 ho e2 he => ?_⟩
  refine ⟨_, rfl, _, rfl, o, gro (p.drop k), rfl, SqT.of he, n, _, rfl, h0, by rw [sum_gro]; exact h1, ?_⟩
  refine ⟨_, rfl, p, rfl, hp, fun g H3 hg e3 hge => ?_⟩
  have fin : ∀ (t : Addr) (H' : Hp), Same H3 H' → SqT K H' t (ivs ((gro p).drop k)) → sp_digits_of K [V.ref o, .int n] H' (fun y H4 => sp_value_of K [V.ref t, y] H4 Q C8.E0) C8.E0 := fun t H' e hS => by
    refine ⟨o, gro (p.drop k), n, rfl, SqT.of (e _ _ (e3 _ _ he)), by rw [gro_len, List.length_drop]; omega, fun d H4 hd e4 hde => ?_⟩
    refine ⟨t, d, _, _, rfl, e4.tup hS, SqT.of hde, ?_, by rw [List.length_drop, gro_len]; omega, q.to (e1.trans (e2.trans (e3.trans (e.trans e4))))⟩
    rw [digF_len, gro_len, List.length_drop, List.length_drop, gro_len]
  refine ⟨_, rfl, _, rfl, _, _, rfl, SqT.of hge, fun c => ?_, fun _ t ht => ?_⟩
  · exact ⟨_, rfl, _, rfl, fin g H3 (Same.refl _) (by rw [ivs_drop, full_drop c]; exact SqT.of hge)⟩
  · exact ⟨_, rfl, _, rfl, fin t _ (Same.new ht) (by rw [ivs_drop, ← cutV_from]; exact SqT.of upd_same)⟩
end
end Mi
/-! Walks 4: copies, homes. -/
namespace Mi
open PySem PySem.Spec PyProof.Rows L2 SX
theorem empty_S : (Str.ofString "") = S [] := by decide +kernel
theorem sharedV_len (l : List Nat) : (sharedV l).length = l.length := by simp [sharedV]
theorem sharedV_get {l : List Nat} {i c : Nat} (h : l[i]? = some c) : (sharedV l)[i]? = some (match lastIx c (l.take i) with
  | none => V.non
  | some j => .int (L (l.take j))) := by
  unfold sharedV
  rw [List.getElem?_map, List.getElem?_range (lt_of_get h), Option.map_some, getD_of h]
  all_goals (cases lastIx c (l.take i) <;> rfl)
theorem sharedV_new {l : List Nat} {i c : Nat} (h : l[i]? = some c) (e : lastIx c (l.take i) = none) : (sharedV l)[i]? = some V.non := by rw [sharedV_get h, e]
theorem sharedV_old {l : List Nat} {i c j : Nat} (h : l[i]? = some c) (e : lastIx c (l.take i) = some j) : (sharedV l)[i]? = some (V.int (L (l.take j))) := by rw [sharedV_get h, e]
theorem take_get {α : Type} {l : List α} {i : Nat} {c : α} (h : l[i]? = some c) : l.take (i + 1) = l.take i ++ [c] := by rw [List.take_add_one, h]; rfl
theorem walk_zipS {K : PySem.W.Frag} {l : List Nat} {b : Addr} {ys : List V} {n : Nat} (hn : l.length = n) (hm : ys.length = n) :
    Walk (ItzS K l b) n (fun H => SqL K H b ys) (fun i H v H' => ∃ (T : Addr) (c : Nat) (y : V), v = .ref T ∧ H T = none ∧ H' = upd H T (.tup [.str (S [c]), y]) ∧ l[i]? = some c ∧ ys[i]? = some y) :=
  ⟨fun i H hi q => ⟨by omega, ys, q, by omega⟩, fun H q => ⟨hn, ys, q, hm⟩, fun i H x H' hi q y => by
    obtain ⟨T, c, y, e1, e2, e3, h1, h2⟩ := y
    exact ⟨T, c, y, e1, e2, e3, h1, h2 ys q⟩⟩
theorem bg_eq (p : List Nat) (i k : Nat) : ((M p).take k).take (min k (M (p.take i)).length) = bgT p i k := by
  obtain ⟨t, e⟩ := M_take p i
  rw [List.take_take, Nat.min_eq_left (Nat.min_le_left _ _), e, List.take_append_of_le_length (Nat.min_le_right _ _)]
  unfold bgT
  by_cases h : k ≤ (M (p.take i)).length
  · rw [Nat.min_eq_left h]
  · rw [Nat.min_eq_right (by omega)]
    exact (List.take_of_length_le (Nat.le_refl _)).trans (List.take_of_length_le (by omega)).symm
theorem Bst.mut {d p : Addr} {H H' : Hp} {o : HO} (e : Bst d H H') (h : H p = none) : Bst d H (upd H' p o) := fun b u n hb => by rw [upd_ne (ne_of_none hb h)]; exact e b u n hb
theorem Bst.own {d : Addr} {H H' : Hp} {o : HO} (e : Bst d H H') : Bst d H (upd H' d o) := fun b u n hb => by rw [upd_ne n]; exact e b u n hb
theorem bg_len (p : List Nat) (i k : Nat) : (bgT p i k).length ≤ k := by unfold bgT; rw [List.length_take]; omega
section
variable {P : Program} {w : World} {K : PySem.W.Frag} {mg : Str → Option Value} {base : Heap}
theorem c_Copies (X : Fx K mg) : C8.Mak P w K mg base 3 "Copies" (He.ga K "Copies") (sp_c_init (He.ga K "Copies")) [] := by
  have nd : (["self", "presses", "many", "letter", "shared", "at", "whole"] : List Str).Nodup := by decide +kernel
  refine mkMak X.g_Copies X.mkC X.d_c_init (N := ["self", "presses", "many", "letter", "shared", "at", "whole"]) (ps := ["self", "presses"]) (k := 2) (C8.fnScope_by (by decide +kernel)) (fun vs H Q E h => ?_) (fun _ _ _ _ _ _ us hl => match us, hl with | [_, _], _ => rfl) (fun cdv A outer s H vs Q E hr h => ?_)
  · obtain ⟨a, dx, p, rfl, _⟩ := h; rfl
  obtain ⟨a, dx, p, rfl, hA, hp, q⟩ := h
  have hz := hp.2
  refine ⟨_, (pss_cons (ps_expr (C8.pe_c (c_need_presses X) hr (by decide) rfl (pa1 (pv 1))))
  (pss_cons (ps_fld (pv 0) (pv 1) rfl)
  (pss_cons (ps_fld (pv 0) (pe_lst (pa1 pe_int)) rfl)
  (pss_cons (ps_fld (pv 0) (pe_lst pa_nil) rfl)
  (pss_one (ps_for PassesOwn.never rfl (pi_enumS rfl X.f_enumerate (pa1 (pv 1))) (pg_tup (n := 2) rfl (pgs_cons (pg_name (i := 2) nd rfl (.inl rfl)) (pgs_cons (pg_name (i := 3) nd rfl (.inl rfl)) pgs_nil)))
    (pss_cons (ps_par (i := 5) (j := 6) rfl nd rfl rfl (by decide) rfl rfl (pa2 (pe_bm PySem.F.plainAttrs_str PySem.F.slot_str_rfind PySem.F.type_str_rfind mt_rfind4 (pv 1) (pa3 (pv 3) pe_int (pv 2))) (pe_ix ix_list (pe_fld (pv 0) rfl) (pe_un un_neg pe_int) (fun _ _ => rfl))) (by rfl))
    (pss_cons (ps_set (i := 4) nd rfl (.inl rfl) (pe_ifExp (pt_cmpR op_lt (pv 5) pe_int (nomark _)) pe_non (pe_ix ix_list (pe_fld (pv 0) rfl) (pv 5) (fun _ _ => rfl))))
    (pss_cons (ps_expr (pe_bm PySem.F.plainAttrs_list PySem.F.slot_list_append PySem.F.type_list_append mt_append (pe_fld (pv 0) rfl) (pa1 (pv 4))))
    (pss_one (ps_expr (pe_bm PySem.F.plainAttrs_list PySem.F.slot_list_append PySem.F.type_list_append mt_append (pe_fld (pv 0) rfl) (pa1 (pe_ifExp (pt_cmp (pc_isN (pv 4))) (pe_op op_add (pe_op op_mul pe_int (pv 6)) pe_int) (pe_op op_sub (pe_op op_mul pe_int (pv 6)) (pv 4)))))))))))))))), ?_⟩
  refine ⟨_, rfl, p, rfl, hp, fun H1 e1 => ?_⟩
  refine ⟨_, rfl, _, rfl, a, _, dx, _, rfl, e1 _ _ hA, X.clC, X.n_copy_presses, by decide, ?_⟩
  refine ⟨sz (by decide), fun l1 hl1 => ⟨_, rfl, a, _, dx, [("copy_presses", tx p)], rfl, (Same.new hl1) _ _ upd_same, X.clC, X.n_copy_lengths, by show 1 < 1000; decide, ?_⟩⟩
  have n1a : l1 ≠ a := (ne_of_none upd_same hl1).symm
  have hl1' : H l1 = none := by
    rw [upd_ne n1a] at hl1
    exact e1.free hl1
  refine ⟨Nat.zero_le _, fun l2 hl2 => ⟨_, rfl, a, _, dx, [("copy_presses", tx p), ("copy_lengths", .ref l1)], rfl, (Same.new hl2) _ _ upd_same, X.clC, X.n_copy_shared, by show 2 < 1000; decide, ?_⟩⟩
  have n2a : l2 ≠ a := (ne_of_none upd_same hl2).symm
  have n21 : l2 ≠ l1 := by
    rw [upd_ne n2a] at hl2
    exact (ne_of_none upd_same hl2).symm
  have hl2' : H l2 = none := by
    rw [upd_ne n2a, upd_ne n21, upd_ne n2a] at hl2
    exact e1.free hl2
  refine ⟨_, rfl, p, rfl, for_enS (fun i σ' H2 => (∃ b c d e f, σ' = [some (.ref a), some (tx p), b, c, d, e, f]) ∧ H2 a = some (.ins (He.ga K "Copies") dx [("copy_presses", tx p), ("copy_lengths", .ref l1), ("copy_shared", .ref l2)]) ∧ H2 l1 = some (.lst (ivs ((lens p).take (i + 1)))) ∧ H2 l2 = some (.lst ((sharedV p).take i)) ∧ Bst a H H2)
    ⟨⟨_, _, _, _, _, rfl⟩, by rw [upd_same]; rfl, ?_, ?_, ((((e1.bst (d := a)).own.mut hl1').own.mut hl2').own)⟩ (fun i c T σ' H2 hc g hT => ?_) (fun σ' H2 g => ?_)⟩
  · rw [upd_ne n1a, upd_ne n21.symm, upd_ne n1a, upd_same, lens_tk (Nat.zero_le _)]
    simp [L_nil]
  · rw [upd_ne n2a, upd_same]; rfl
  · obtain ⟨⟨b, cc, d, e, f, rfl⟩, h1, h2, h3, h4⟩ := g
    have hi := lt_of_get hc
    have s1 := Same.new (o := .tup [.int (i : Nat), .str (S [c])]) hT
    have hA2 := s1 _ _ h1
    have hL1 := s1 _ _ h2
    have hL2 := s1 _ _ h3
    have hat := lens_last (l := p) (i := i) (by omega)
    have hsz1 : (ivs ((lens p).take (i + 1))).length < sizeLine := szl (by rw [List.length_map, List.length_take]; omega)
    have hsz2 : ((sharedV p).take i).length < sizeLine := szl (by rw [List.length_take]; omega)
    have fin : ∀ (v : V) (n : Int), (sharedV p)[i]? = some v → L (p.take (i + 1)) = n → ∀ H3 : Hp, H3 = upd (upd (upd H2 T (.tup [.int (i : Nat), .str (S [c])])) l2 (.lst ((sharedV p).take i ++ [v]))) l1 (.lst (ivs ((lens p).take (i + 1)) ++ [V.int n])) →
        H3 a = some (.ins (He.ga K "Copies") dx [("copy_presses", tx p), ("copy_lengths", .ref l1), ("copy_shared", .ref l2)]) ∧ H3 l1 = some (.lst (ivs ((lens p).take (i + 1 + 1)))) ∧ H3 l2 = some (.lst ((sharedV p).take (i + 1))) ∧ Bst a H H3 := fun v n hv hn H3 e3 => by
      subst e3 hn
      refine ⟨?_, ?_, ?_, (((h4.trans s1.bst).mut hl2').mut hl1')⟩
      · rw [upd_ne n1a.symm, upd_ne n2a.symm]; exact hA2
      · rw [upd_same, lens_tk (i := i + 1) (by omega)]
      · rw [upd_ne n21, upd_same, take_get hv]
    have hA3 : ∀ v : V, (upd (upd H2 T (.tup [.int (i : Nat), .str (S [c])])) l2 (.lst ((sharedV p).take i ++ [v]))) a = some (.ins (He.ga K "Copies") dx [("copy_presses", tx p), ("copy_lengths", .ref l1), ("copy_shared", .ref l2)]) := fun v => by rw [upd_ne n2a.symm]; exact hA2
    have hL3 : ∀ v : V, (upd (upd H2 T (.tup [.int (i : Nat), .str (S [c])])) l2 (.lst ((sharedV p).take i ++ [v]))) l1 = some (.lst (ivs ((lens p).take (i + 1)))) := fun v => by rw [upd_ne n21.symm]; exact hL1
    refine ⟨T, _, rfl, SqT.of upd_same, rfl, _, _, rfl, _, _, rfl, rfl, ?_⟩
    refine ⟨_, rfl, rfl, _, rfl, _, rfl, _, _, _, _, rfl, rfl, ?_⟩
    rw [rfindIn_sign p c i (by omega)]
    refine ⟨_, rfl, _, _, _, _, _, rfl, hA2, X.clC, X.n_copy_lengths, rfl, _, rfl, _, _, _, _, rfl, rfl, SqL.of hL1, hat, _, _, rfl, ?_⟩
    cases hl : lastIx c (p.take i) with
    | none =>
      refine ⟨_, rfl, _, _, rfl, rfl, _, rfl, iteDT (by decide) ?_⟩
      refine ⟨_, rfl, _, _, _, _, _, rfl, hA2, X.clC, X.n_copy_shared, rfl, .inl ⟨rfl, _, SqL.of hL2⟩, _, rfl, _, _, _, rfl, rfl, hL2, hsz2, ?_⟩
      refine ⟨_, rfl, _, _, _, _, _, rfl, hA3 _, X.clC, X.n_copy_lengths, rfl, .inl ⟨rfl, _, SqL.of (hL3 _)⟩, ?_⟩
      refine ⟨_, rfl, _, rfl, iteDT rfl ?_⟩
      refine ⟨_, rfl, _, _, rfl, rfl, .inl ⟨by decide, by decide⟩, _, _, rfl, rfl, _, _, _, rfl, rfl, hL3 _, hsz1, ?_⟩
      exact ⟨⟨_, _, _, _, _, rfl⟩, fin _ _ (sharedV_new hc hl) (lens_step_new hc hl) _ rfl⟩
    | some j =>
      have hj := last_lt hl
      refine ⟨_, rfl, _, _, rfl, rfl, _, rfl, iteDF (by dsimp only; omega) ?_⟩
      refine ⟨_, rfl, _, _, _, _, _, rfl, hA2, X.clC, X.n_copy_lengths, rfl, _, rfl, _, _, _, _, rfl, rfl, SqL.of hL1, atI_nat (lens_at (j := j) (by omega) (by omega)), ?_⟩
      refine ⟨_, rfl, _, _, _, _, _, rfl, hA2, X.clC, X.n_copy_shared, rfl, .inl ⟨rfl, _, SqL.of hL2⟩, _, rfl, _, _, _, rfl, rfl, hL2, hsz2, ?_⟩
      refine ⟨_, rfl, _, _, _, _, _, rfl, hA3 _, X.clC, X.n_copy_lengths, rfl, .inl ⟨rfl, _, SqL.of (hL3 _)⟩, ?_⟩
      refine ⟨_, rfl, _, rfl, iteDF (fun z => by cases z) ?_⟩
      refine ⟨_, rfl, _, _, rfl, rfl, .inl ⟨by decide, by decide⟩, _, rfl, _, _, rfl, rfl, _, _, _, rfl, rfl, hL3 _, hsz1, ?_⟩
      exact ⟨⟨_, _, _, _, _, rfl⟩, fin _ _ (sharedV_old hc hl) (lens_step_old hc hl) _ rfl⟩
  · obtain ⟨_, h1, h2, h3, h4⟩ := g
    rw [lens_full] at h2
    rw [List.take_of_length_le (by rw [sharedV_len]; exact Nat.le_refl _)] at h3
    exact q H2 h4 ⟨dx, l1, l2, h1, h2, h3⟩
end
end Mi
/-! Walks 5: a copy's methods, homes, how often, where. -/
namespace Mi
open PySem PySem.Spec PyProof.Rows L2 SX
theorem S_cat3 (f c : List Nat) : V.str (S f ++ (S c ++ S f)) = tx (f ++ (c ++ f)) := by rw [S_cat, S_cat]
section
variable {P : Program} {w : World} {K : PySem.W.Frag} {mg : Str → Option Value} {base : Heap}
theorem m_len (X : Fx K mg) : C8.Met P w K mg base 1 (He.ga K "Copies") "__len__" (sp_c_len (He.ga K "Copies")) [] := by
  have nd : (["self"] : List Str).Nodup := by decide +kernel
  refine mkMet X.clC X.m_len X.d_c_len (N := ["self"]) (ps := ["self"]) (k := 0) (C8.fnScope_by (by decide +kernel)) (fun vs H Q E h => ?_) (fun _ _ _ _ _ _ us hl => match us, hl with | [_], _ => rfl) (fun cdv A outer s H vs Q E hr h => ?_)
  · obtain ⟨a, p, rfl, _⟩ := h; rfl
  obtain ⟨a, p, rfl, ⟨dx, l1, l2, hA, h1, h2⟩, hp, q⟩ := h
  have hz := hp.2
  refine ⟨_, (pss_one (ps_ret (pe_callB call_len_str rfl X.f_len boot_len (pa1 (pe_fld (pv 0) rfl))))), ?_⟩
  refine ⟨_, rfl, _, _, _, _, _, rfl, hA, X.clC, X.n_copy_presses, rfl, _, rfl, szS (by omega), ?_⟩
  rw [S_len]; exact q
theorem m_size (X : Fx K mg) : C8.Met P w K mg base 1 (He.ga K "Copies") "size" (sp_c_size (He.ga K "Copies")) [] := by
  have nd : (["self", "many"] : List Str).Nodup := by decide +kernel
  refine mkMet X.clC X.m_size X.d_c_size (N := ["self", "many"]) (ps := ["self", "many"]) (k := 0) (C8.fnScope_by (by decide +kernel)) (fun vs H Q E h => ?_) (fun _ _ _ _ _ _ us hl => match us, hl with | [_, _], _ => rfl) (fun cdv A outer s H vs Q E hr h => ?_)
  · obtain ⟨a, p, k, rfl, _⟩ := h; rfl
  obtain ⟨a, p, k, rfl, ⟨dx, l1, l2, hA, h1, h2⟩, hk, q⟩ := h
  refine ⟨_, (pss_one (ps_ret (pe_ix ix_list (pe_fld (pv 0) rfl) (pv 1) (fun _ _ => rfl)))), ?_⟩
  exact ⟨_, rfl, _, _, _, _, _, rfl, hA, X.clC, X.n_copy_lengths, rfl, _, rfl, _, _, _, _, rfl, rfl, SqL.of h1, atI_nat (lens_ix hk), q⟩
theorem m_head (X : Fx K mg) : C8.Met P w K mg base 1 (He.ga K "Copies") "head" (sp_c_head (He.ga K "Copies")) [] := by
  have nd : (["self", "many", "found", "letter", "shared"] : List Str).Nodup := by decide +kernel
  refine mkMet X.clC X.m_head X.d_c_head (N := ["self", "many", "found", "letter", "shared"]) (ps := ["self", "many"]) (k := 0) (C8.fnScope_by (by decide +kernel)) (fun vs H Q E h => ?_) (fun _ _ _ _ _ _ us hl => match us, hl with | [_, _], _ => rfl) (fun cdv A outer s H vs Q E hr h => ?_)
  · obtain ⟨a, p, k, rfl, _⟩ := h; rfl
  obtain ⟨a, p, k, rfl, ⟨dx, l1, l2, hA, h1, h2⟩, hp, hk, q⟩ := h
  have hz := hp.2
  refine ⟨_, (pss_cons (ps_set (i := 2) nd rfl (.inl rfl) pe_str)
  (pss_cons (ps_for PassesOwn.never rfl (pi_zipS rfl X.f_zip (pa2 (pe_fld (pv 0) rfl) (pe_fld (pv 0) rfl))) (pg_tup (n := 2) rfl (pgs_cons (pg_name (i := 3) nd rfl (.inl rfl)) (pgs_cons (pg_name (i := 4) nd rfl (.inl rfl)) pgs_nil)))
    (pss_cons (ps_if (pt_cmpR op_ge (pe_callB call_len_str rfl X.f_len boot_len (pa1 (pv 2))) (pv 1) (nomark _))
      (pss_one ps_break) pss_nil)
    (pss_one (ps_aug (i := 2) nd rfl (.inl rfl) (pe_ifExp (pt_cmp (pc_isN (pv 4))) (pe_op op_add_str (pv 3) (pv 2)) (pe_slice C8.sl_txt (pv 2) (po_some (pv 4)) po_none)) ip_addS))))
  (pss_one (ps_ret (pe_slice C8.sl_txt (pv 2) po_none (po_some (pv 1))))))), ?_⟩
  have fin : ∀ (f : List Nat) (b c : Option V) (H' : Hp), f.length ≤ 1000 → f.take k = (M p).take k → Same H H' →
      ∃ v, [some (V.ref a), some (.int (k : Int)), some (tx f), b, c][2]? = some (some v) ∧ ∃ v', [some (V.ref a), some (.int (k : Int)), some (tx f), b, c][1]? = some (some v') ∧ ∃ i : Int, v' = .int i ∧ ∃ z, v = .str z ∧ z.length ≤ sizeLine ∧ Q (.str (Txt.slice z none (some i))) H' := fun f b c H' hf e eH =>
    ⟨_, rfl, _, rfl, _, rfl, _, rfl, szS (by omega), by rw [to_S rfl, e]; exact q H' eH⟩
  rw [empty_S]
  refine ⟨_, rfl, _, _, _, _, _, rfl, hA, X.clC, X.n_copy_presses, rfl, _, rfl, _, _, _, _, _, rfl, hA, X.clC, X.n_copy_shared, rfl, p, l2, sharedV p, rfl, SqL.of h2, ?_⟩
  refine for_it (walk_zipS (l := p) (ys := sharedV p) rfl (sharedV_len p)) (fun i σ' H' => (∃ b c, σ' = [some (.ref a), some (.int (k : Int)), some (tx (M (p.take i))), b, c]) ∧ (M (p.take i)).length ≤ 2 * k ∧ Same H H')
    ⟨⟨_, _, by rw [List.take_zero]; unfold M; rw [List.reverse_nil, Mr_nil]; rfl⟩, by rw [List.take_zero]; unfold M; rw [List.reverse_nil, Mr_nil]; exact Nat.zero_le _, Same.refl H⟩ (fun i σ' H' _ g => g.2.2.seq (SqL.of h2)) (fun i x σ' Ha Hb hi g y => ?_) (fun σ' H' g => ?_)
  · obtain ⟨⟨b, c, rfl⟩, g1, g2⟩ := g
    obtain ⟨T, c, y, rfl, hT, rfl, hc, hy⟩ := y
    have s1 := Same.new (o := .tup [.str (S [c]), y]) hT
    refine ⟨T, _, rfl, SqT.of upd_same, rfl, _, _, rfl, _, _, rfl, rfl, ?_⟩
    refine ⟨_, rfl, _, rfl, szS (by omega), _, rfl, _, _, rfl, rfl, _, rfl, ?_⟩
    by_cases hlen : k ≤ (M (p.take i)).length
    · refine iteDT (by rw [S_len]; omega) ?_
      obtain ⟨t, et⟩ := M_take p i
      refine fin _ _ _ _ (by omega) ?_ (g2.trans s1)
      rw [et, List.take_append_of_le_length hlen]
    · refine iteDF (by rw [S_len]; omega) ?_
      refine ⟨_, rfl, _, rfl, _, rfl, ?_⟩
      cases hl : lastIx c (p.take i) with
      | none =>
        rw [sharedV_new hc hl] at hy
        cases hy
        refine iteDT rfl ?_
        refine ⟨_, rfl, _, rfl, _, _, rfl, rfl, sz (by rw [S_len, S_len, List.length_singleton]; omega), _, _, rfl, rfl, sz (by rw [S_cat, S_len, S_len, List.length_append, List.length_singleton]; omega), ?_⟩
        have e := M_new hl
        rw [← take_snoc hc] at e
        refine ⟨⟨some (.str (S [c])), some .non, ?_⟩, ?_, g2.trans s1⟩
        · rw [S_cat3, e]; rfl
        · rw [e, List.length_append, List.length_cons]; omega
      | some j =>
        rw [sharedV_old hc hl] at hy
        cases hy
        refine iteDF (fun z => by cases z) ?_
        refine ⟨_, rfl, _, rfl, _, rfl, _, rfl, szS (by omega), ?_⟩
        have e0 := L_nonneg (p.take j)
        rw [from_S (k := (L (p.take j)).toNat) (by omega)]
        have hj := last_lt hl
        have e := M_old hl
        rw [← take_snoc hc, List.take_take, Nat.min_eq_left (by omega), len_M'] at e
        refine ⟨_, _, rfl, rfl, sz (by rw [S_len, S_len, List.length_drop]; omega), ⟨some (.str (S [c])), some (.int (L (p.take j))), ?_⟩, ?_, g2.trans s1⟩
        · rw [S_cat, ← e]; rfl
        · rw [e, List.length_append, List.length_drop]; omega
  · obtain ⟨⟨b, c, rfl⟩, g1, g2⟩ := g
    rw [List.take_length] at *
    exact fin _ _ _ _ (by omega) rfl g2
theorem m_midst (X : Fx K mg) : C8.Met P w K mg base 2 (He.ga K "Copies") "midst" (sp_c_midst (He.ga K "Copies")) [] := by
  have nd : (["self", "many", "head", "around", "size", "shared", "begin", "behind"] : List Str).Nodup := by decide +kernel
  refine mkMet X.clC X.m_midst X.d_c_midst (N := ["self", "many", "head", "around", "size", "shared", "begin", "behind"]) (ps := ["self", "many", "head", "around"]) (k := 1) (C8.fnScope_by (by decide +kernel)) (fun vs H Q E h => ?_) (fun _ _ _ _ _ _ us hl => match us, hl with | [_, _, _, _], _ => rfl) (fun cdv A outer s H vs Q E hr h => ?_)
  · obtain ⟨a, p, i, k, rfl, _⟩ := h; rfl
  obtain ⟨a, p, i, k, rfl, cop, hp, hi, hk, q⟩ := h
  obtain ⟨dx, l1, l2, hA, h1, h2⟩ := id cop
  have hz := hp.2
  obtain ⟨c, hc⟩ : ∃ c, p[i]? = some c := ⟨_, List.getElem?_eq_getElem hi⟩
  have hb := bg_len p i k
  have hlM : ((M (p.take i)).length : Int) = L (p.take i) := len_M _
  have eb : Txt.slice (S ((M p).take k)) none (some (if (k : Int) < L (p.take i) then (k : Int) else L (p.take i))) = S (bgT p i k) := by
    have := to_S (l := (M p).take k) (n := if (k : Int) < L (p.take i) then (k : Int) else L (p.take i)) (k := min k (M (p.take i)).length) (by split <;> omega)
    rw [bg_eq] at this
    exact V.str.inj this
  have hsz : ((M p).take k).length ≤ 100000 := by rw [List.length_take]; omega
  have sh : ∃ y, (sharedV p)[i]? = some y := ⟨_, List.getElem?_eq_getElem (by rw [sharedV_len]; exact hi)⟩
  obtain ⟨y, hy⟩ := sh
  refine ⟨_, (pss_cons (ps_par (i := 4) (j := 5) rfl nd rfl rfl (by decide) rfl rfl (pa2 (C8.pe_mt (m_size X) hr (by decide) (pv 0) (pa1 (pv 1))) (pe_ix ix_list (pe_fld (pv 0) rfl) (pv 1) (fun _ _ => rfl))) (by rfl))
  (pss_cons (ps_set (i := 6) nd rfl (.inl rfl) (pe_slice C8.sl_txt (pv 2) po_none (po_some (pe_callB (call_min2 rfl) rfl X.f_min (by decide +kernel) (pa2 (pv 4) (pv 3))))))
  (pss_cons (ps_set (i := 7) nd rfl (.inl rfl) (pe_ifExp (pt_cmp (pc_isN (pv 5))) (pe_op op_add_str (pe_ix ix_str (pe_fld (pv 0) rfl) (pv 1) (fun _ _ => rfl)) (pv 6)) (pe_slice C8.sl_txt (pv 6) (po_some (pv 5)) po_none)))
  (pss_one (ps_ret (pe_tup (pa2 (pe_op op_add_str (pe_backS (pv 6)) (pv 7)) (pe_op op_sub (pv 4) (pe_callB call_len_str rfl X.f_len boot_len (pa1 (pv 6))))))))))), ?_⟩
  refine ⟨_, rfl, a, dx, _, rfl, hA, rfl, _, rfl, a, p, i, rfl, cop, by omega, ?_⟩
  refine ⟨_, rfl, _, _, _, _, _, rfl, hA, X.clC, X.n_copy_shared, rfl, _, rfl, _, _, _, _, rfl, rfl, SqL.of h2, atI_nat hy, _, _, rfl, ?_⟩
  refine ⟨_, rfl, _, rfl, _, rfl, _, _, rfl, _, rfl, _, rfl, szS hsz, ?_⟩
  rw [eb]
  refine ⟨_, rfl, _, rfl, ?_⟩
  have fin : ∀ (b : List Nat), (bgT p i k).reverse ++ b = midT p i k → b.length ≤ 1000 → ∀ (st : L2.St), st = [some (V.ref a), some (.int (i : Int)), some (tx ((M p).take k)), some (.int (k : Int)), some (.int (L (p.take i))), some y, some (tx (bgT p i k)), some (tx b)] →
      ∃ v, st[6]? = some (some v) ∧ ∃ l : List Nat, v = .str (S l) ∧ l.length ≤ sizeLine ∧ ∃ v', st[7]? = some (some v') ∧ ∃ i' j' : Str, V.str (S l.reverse) = .str i' ∧ v' = .str j' ∧ i'.length + j'.length ≤ sizeLine ∧
        (∃ v, st[4]? = some (some v) ∧ ∃ v2, st[6]? = some (some v2) ∧ ∃ z, [v2] = [.str z] ∧ z.length ≤ sizeLine ∧ ∃ i2 j2 : Int, v = .int i2 ∧ V.int z.length = .int j2 ∧ ([V.str (i' ++ j'), .int (i2 - j2)].length ≤ sizeLine ∧ ∀ t, H t = none → Q (.ref t) (upd H t (.tup [V.str (i' ++ j'), .int (i2 - j2)])))) := fun b e hb2 st es => by
    subst es
    refine ⟨_, rfl, _, rfl, sz (by omega), _, rfl, _, _, rfl, rfl, sz (by rw [S_len, S_len, List.length_reverse]; omega), _, rfl, _, rfl, _, rfl, szS (by omega), _, _, rfl, rfl, by show 2 ≤ sizeLine; decide, fun t ht => ?_⟩
    refine q t _ ht (Same.new ht) ?_
    rw [upd_same, S_cat, e, S_len]
  cases hl : lastIx c (p.take i) with
  | none =>
    have e := sharedV_new hc hl
    rw [e] at hy
    cases hy
    refine iteDT rfl ?_
    refine ⟨_, rfl, _, _, _, _, _, rfl, hA, X.clC, X.n_copy_presses, rfl, _, rfl, _, _, c, rfl, rfl, szS (by omega), atI_nat hc, _, rfl, S [c], _, rfl, rfl, sz (by rw [S_len, S_len, List.length_singleton]; omega), ?_⟩
    rw [S_cat]
    exact fin ([c] ++ bgT p i k) (by rw [midT_new hc hl]; rfl) (by rw [List.length_append, List.length_singleton]; omega) _ rfl
  | some j =>
    have e := sharedV_old hc hl
    rw [e] at hy
    cases hy
    refine iteDF (fun z => by cases z) ?_
    have e0 := L_nonneg (p.take j)
    refine ⟨_, rfl, _, rfl, _, rfl, _, rfl, szS (by omega), ?_⟩
    rw [from_S (k := (L (p.take j)).toNat) (by omega)]
    exact fin _ (midT_old hc hl).symm (by rw [List.length_drop]; omega) _ rfl
end
end Mi
/-! Walks 6: homes found, how often, where; gaps. -/
namespace Mi
open PySem PySem.Spec PyProof.Rows L2 SX
section
variable {P : Program} {w : World} {K : PySem.W.Frag} {mg : Str → Option Value} {base : Heap}
theorem c_found_home (X : Fx K mg) : C8.Cal P w K mg base 3 "found_home" (sp_found_home (He.ga K "Copies")) [] := by
  have nd : (["copies", "piece", "head", "around", "many", "at", "text", "begin"] : List Str).Nodup := by decide +kernel
  refine mkCal X.d_found_home X.g_found_home (N := ["copies", "piece", "head", "around", "many", "at", "text", "begin"]) (ps := ["copies", "piece"]) (k := 2) (C8.fnScope_by (by decide +kernel)) (fun vs H Q E h => ?_) (fun _ _ _ _ _ _ us hl => match us, hl with | [_, _], _ => rfl) (fun cdv A outer s H vs Q E hr h => ?_)
  · obtain ⟨a, p, l, j, x, rfl, _⟩ := h; rfl
  obtain ⟨a, p, l, j, x, rfl, cop, hp, hl, hh, q⟩ := h
  obtain ⟨dx, l1, l2, hA, h1, h2⟩ := id cop
  have hz := hp.2
  have hzl := hl.2
  obtain ⟨fL, fdL, psL, dsL, _, me, FL, bL, dL⟩ := (m_len (P := P) (w := w) (base := base) X).ex
  have ed : dsL = [] := by cases dL; rfl
  subst ed
  refine ⟨_, (pss_cons (ps_if (pt_cmpR op_eq (pv 1) pe_str (nomark _))
    (pss_one (ps_ret (pe_tup (pa2 pe_int pe_int)))) pss_nil)
  (pss_cons (ps_par (i := 2) (j := 3) rfl nd rfl rfl (by decide) rfl rfl (pa2 (C8.pe_mt (m_head X) hr (by decide) (pv 0) (pa1 (pe_op op_sub (pe_callB call_len_str rfl X.f_len boot_len (pa1 (pv 1))) pe_int))) (pe_op op_sub (pe_callB call_len_str rfl X.f_len boot_len (pa1 (pv 1))) pe_int)) (by rfl))
  (pss_cons (ps_for PassesOwn.never rfl (pi_range1 rfl X.f_range (pa1 (pe_callB (call_lenOwn me FL (hr.mono (by decide)) bL (C8.pass0 (E := C8.E0))) rfl X.f_len boot_len (pa1 (pv 0))))) (pg_name (i := 4) nd rfl (.inl rfl))
    (pss_cons (ps_asg (C8.pe_mt (m_midst X) hr (by decide) (pv 0) (pa3 (pv 4) (pv 2) (pv 3))) (pg_tup (n := 2) rfl (pgs_cons (pg_name (i := 6) nd rfl (.inl rfl)) (pgs_cons (pg_name (i := 7) nd rfl (.inl rfl)) pgs_nil))))
    (pss_cons (ps_set (i := 5) nd rfl (.inl rfl) (pe_m1 PySem.F.slot_str_find PySem.F.type_str_find mt_find (pv 6) (pv 1)))
    (pss_one (ps_if (pt_cmpR op_ge (pv 5) pe_int (nomark _))
      (pss_one (ps_ret (pe_tup (pa2 (pe_op op_add (pv 4) pe_int) (pe_op op_add (pv 7) (pv 5)))))) pss_nil)))))
  (pss_one (ps_ret pe_non))))), ?_⟩
  refine ⟨_, rfl, rfl, _, rfl, ?_⟩
  by_cases hw : l = []
  · subst hw
    rw [homeF_nil] at hh
    cases hh
    refine iteDT (congrArg V.str empty_S.symm) ?_
    exact ⟨by show 2 ≤ sizeLine; decide, fun t ht => q t _ ht (Same.new ht) upd_same⟩
  · refine iteDF (fun z => hw (by have := V.str.inj z; rw [empty_S] at this; exact S_inj this)) ?_
    have hlen : 1 ≤ l.length := by cases l with | nil => exact absurd rfl hw | cons _ _ => simp
    have ek : ((S l).length : Int) - 1 = ((l.length - 1 : Nat) : Int) := by rw [S_len]; omega
    refine ⟨_, rfl, a, dx, _, rfl, hA, rfl, _, rfl, _, rfl, szS (by omega), _, _, rfl, rfl, a, p, l.length - 1, congrArg (fun z => [V.ref a, V.int z]) ek, cop, hp, by omega, fun H1 e1 => ?_⟩
    refine ⟨_, rfl, _, rfl, szS (by omega), _, _, rfl, rfl, _, _, rfl, ?_⟩
    have cop1 := cop.same e1
    have hA1 := e1 _ _ hA
    refine ⟨_, rfl, a, dx, _, rfl, hA1, a, p, rfl, cop1, hp, p.length, rfl, by omega, _, rfl, by omega, by omega, ?_⟩
    refine for_range (lo := 0) (n := p.length) (fun i σ' H' => (∃ b c d e, σ' = [some (.ref a), some (tx l), some (tx ((M p).take (l.length - 1))), some (.int (((S l).length : Int) - 1)), b, c, d, e]) ∧ Same H H' ∧ ∀ k, k < i → findIx l (midT p k (l.length - 1)) = none)
      ⟨⟨_, _, _, _, rfl⟩, e1, fun k hk => absurd hk (Nat.not_lt_zero _)⟩ (fun i σ' H' hi g => ?_) (fun σ' H' g => ?_)
    · obtain ⟨⟨b, c, d, e, rfl⟩, g1, g2⟩ := g
      have ei : (0 : Int) + (i : Int) = (i : Int) := Int.zero_add _
      refine ⟨_, rfl, a, dx, _, rfl, g1 _ _ hA, rfl, _, rfl, _, rfl, _, rfl, a, p, i, l.length - 1, ?_, cop.same g1, hp, hi, by omega, fun t H2 ht e2 he => ?_⟩
      · rw [ei, ek]; rfl
      refine ⟨t, _, rfl, SqT.of he, rfl, _, _, rfl, _, _, rfl, rfl, ?_⟩
      refine ⟨_, rfl, ⟨_, rfl⟩, _, rfl, _, _, rfl, rfl, ?_⟩
      rw [find_text, ei]
      have e3 := g1.trans e2
      cases hf : findIx l (midT p i (l.length - 1)) with
      | some b =>
        refine ⟨_, rfl, _, _, rfl, rfl, _, rfl, iteDT (Int.natCast_nonneg b) ?_⟩
        refine ⟨_, rfl, _, _, rfl, rfl, _, rfl, _, rfl, _, _, rfl, rfl, by show 2 ≤ sizeLine; decide, fun r hr => ?_⟩
        rw [homeF_of hw hi hf g2] at hh
        have hh := Option.some.inj hh
        have q := q r _ (e3.free hr) (e3.trans (Same.new (o := .tup [.int (j : Nat), .int x]) hr)) upd_same
        rw [← (Prod.mk.inj hh).1, ← (Prod.mk.inj hh).2] at q
        exact q
      | none =>
        refine ⟨_, rfl, _, _, rfl, rfl, _, rfl, iteDF (by decide) ?_⟩
        refine ⟨⟨_, _, _, _, rfl⟩, e3, fun k hk => ?_⟩
        by_cases hki : k < i
        · exact g2 k hki
        · have : k = i := by omega
          subst this; exact hf
    · obtain ⟨_, _, g2⟩ := g
      obtain ⟨i, b, hi, hf, _⟩ := homeF_spec hw hh
      rw [g2 i hi] at hf
      cases hf
theorem c_home (X : Fx K mg) : C8.Cal P w K mg base 5 "home" sp_home [] := by
  have nd : (["presses", "piece", "copies", "found"] : List Str).Nodup := by decide +kernel
  refine mkCal X.d_home X.g_home (N := ["presses", "piece", "copies", "found"]) (ps := ["presses", "piece"]) (k := 4) (C8.fnScope_by (by decide +kernel)) (fun vs H Q E h => ?_) (fun _ _ _ _ _ _ us hl => match us, hl with | [_, _], _ => rfl) (fun cdv A outer s H vs Q E hr h => ?_)
  · obtain ⟨p, l, j, x, rfl, _⟩ := h; rfl
  obtain ⟨p, l, j, x, rfl, hp, hl, hh, q⟩ := h
  refine ⟨_, (pss_cons (ps_set (i := 2) nd rfl (.inl rfl) (C8.pe_mk (c_Copies X) hr (by decide) rfl (pa1 (pv 0))))
  (pss_cons (ps_expr (C8.pe_c (c_need_piece X) hr (by decide) rfl (pa1 (pv 1))))
  (pss_cons (ps_set (i := 3) nd rfl (.inl rfl) (C8.pe_c (c_found_home X) hr (by decide) rfl (pa2 (pv 2) (pv 1))))
  (pss_cons (ps_if (pt_cmp (pc_isN (pv 3)))
    pss_never pss_nil)
  (pss_one (ps_ret (pv 3))))))), ?_⟩
  refine ⟨_, rfl, fun a dx na nd ne => ⟨a, dx, p, rfl, upd_same, hp, fun H1 b1 cop => ⟨rfl, ?_⟩⟩⟩
  have e1 : Same H H1 := Same.made na nd fun b o h n => b1 b o n h
  refine ⟨_, rfl, l, rfl, hl, fun H2 e2 => ?_⟩
  refine ⟨_, rfl, _, rfl, a, p, l, j, x, rfl, cop.same e2, hp, hl, hh, fun t H3 ht e3 he => ?_⟩
  refine ⟨_, rfl, _, rfl, iteDF (fun z => by cases z) ?_⟩
  exact ⟨_, rfl, q t H3 ((e1.trans e2).free ht) ((e1.trans e2).trans e3) he⟩
theorem c_how_often (X : Fx K mg) : C8.Cal P w K mg base 5 "how_often" sp_how_often [] := by
  have nd : (["presses", "piece", "copies", "found"] : List Str).Nodup := by decide +kernel
  refine mkCal X.d_how_often X.g_how_often (N := ["presses", "piece", "copies", "found"]) (ps := ["presses", "piece"]) (k := 4) (C8.fnScope_by (by decide +kernel)) (fun vs H Q E h => ?_) (fun _ _ _ _ _ _ us hl => match us, hl with | [_, _], _ => rfl) (fun cdv A outer s H vs Q E hr h => ?_)
  · obtain ⟨p, l, j, x, rfl, _⟩ := h; rfl
  obtain ⟨p, l, j, x, rfl, hp, hl, hh, q⟩ := h
  have hz := hp.2
  refine ⟨_, (pss_cons (ps_set (i := 2) nd rfl (.inl rfl) (C8.pe_mk (c_Copies X) hr (by decide) rfl (pa1 (pv 0))))
  (pss_cons (ps_expr (C8.pe_c (c_need_piece X) hr (by decide) rfl (pa1 (pv 1))))
  (pss_cons (ps_set (i := 3) nd rfl (.inl rfl) (C8.pe_c (c_found_home X) hr (by decide) rfl (pa2 (pv 2) (pv 1))))
  (pss_one (ps_ret (pe_ifExp (pt_cmp (pc_isN (pv 3))) pe_int (pe_op op_add (C8.pe_c (c_length X) hr (by decide) rfl (pa1 (pe_slice C8.sl_txt (pv 0) (po_some (pe_ix ix_tup (pv 3) pe_int (fun _ _ => rfl))) po_none))) pe_int))))))), ?_⟩
  refine ⟨_, rfl, fun a dx na nd ne => ⟨a, dx, p, rfl, upd_same, hp, fun H1 b1 cop => ⟨rfl, ?_⟩⟩⟩
  have e1 : Same H H1 := Same.made na nd fun b o h n => b1 b o n h
  refine ⟨_, rfl, l, rfl, hl, fun H2 e2 => ?_⟩
  refine ⟨_, rfl, _, rfl, a, p, l, j, x, rfl, cop.same e2, hp, hl, hh, fun t H3 ht e3 he => ?_⟩
  refine ⟨_, rfl, _, rfl, iteDF (fun z => by cases z) ?_⟩
  refine ⟨_, rfl, _, rfl, _, _, _, _, rfl, rfl, SqT.of he, atI_nat (j := 0) rfl, _, rfl, _, rfl, szS (by omega), p.drop j, by rw [from_S rfl]; rfl, hp.drop j, fun H4 e4 => ?_⟩
  exact ⟨_, _, rfl, rfl, q H4 (((e1.trans e2).trans e3).trans e4)⟩
theorem c_place_at (X : Fx K mg) : C8.Cal P w K mg base 6 "place_at" sp_place_at [] := by
  have nd : (["presses", "piece", "number", "many", "at"] : List Str).Nodup := by decide +kernel
  refine mkCal X.d_place_at X.g_place_at (N := ["presses", "piece", "number", "many", "at"]) (ps := ["presses", "piece", "number"]) (k := 5) (C8.fnScope_by (by decide +kernel)) (fun vs H Q E h => ?_) (fun _ _ _ _ _ _ us hl => match us, hl with | [_, _, _], _ => rfl) (fun cdv A outer s H vs Q E hr h => ?_)
  · obtain ⟨p, l, n, j, x, rfl, _⟩ := h; rfl
  obtain ⟨p, l, n, j, x, rfl, hp, hl, hh, h0, h1, q⟩ := h
  have hz := hp.2
  have hj := homeF_le hh
  refine ⟨_, (pss_cons (ps_asg (C8.pe_c (c_home X) hr (by decide) rfl (pa2 (pv 0) (pv 1))) (pg_tup (n := 2) rfl (pgs_cons (pg_name (i := 3) nd rfl (.inl rfl)) (pgs_cons (pg_name (i := 4) nd rfl (.inl rfl)) pgs_nil))))
  (pss_cons (ps_if (pt_not (pt_val (pe_isw (c_is_whole X) hr (by decide) rfl (pv 2) (C8.pe_c (c_length X) hr (by decide) rfl (pa1 (pe_slice C8.sl_txt (pv 0) (po_some (pv 3)) po_none))))))
    pss_never pss_nil)
  (pss_one (ps_ret (pe_op op_add (C8.pe_c (c_block_start X) hr (by decide) rfl (pa3 (pv 0) (pv 3) (pv 2))) (pv 4)))))), ?_⟩
  refine ⟨_, rfl, _, rfl, p, l, j, x, rfl, hp, hl, hh, fun t H1 ht e1 he => ?_⟩
  refine ⟨t, _, rfl, SqT.of he, rfl, _, _, rfl, _, _, rfl, rfl, ?_⟩
  refine ⟨_, rfl, _, rfl, _, rfl, _, rfl, _, rfl, szS (by omega), p.drop j, by rw [from_S rfl]; rfl, hp.drop j, fun H2 e2 => ?_⟩
  refine ⟨rfl, rfl, n, _, rfl, _, rfl, iteBF (by rw [decide_eq_true h0, decide_eq_true h1]; rfl) ?_⟩
  refine ⟨_, rfl, _, rfl, _, rfl, p, j, n, rfl, hp, hj, h0, h1, fun H3 e3 => ?_⟩
  exact ⟨_, rfl, _, _, rfl, rfl, q H3 (e1.trans (e2.trans e3))⟩
theorem c_parted_at (X : Fx K mg) : C8.Cal P w K mg base 6 "parted_at" sp_parted_at [] := by
  have nd : (["presses", "piece", "many", "at"] : List Str).Nodup := by decide +kernel
  refine mkCal X.d_parted_at X.g_parted_at (N := ["presses", "piece", "many", "at"]) (ps := ["presses", "piece"]) (k := 5) (C8.fnScope_by (by decide +kernel)) (fun vs H Q E h => ?_) (fun _ _ _ _ _ _ us hl => match us, hl with | [_, _], _ => rfl) (fun cdv A outer s H vs Q E hr h => ?_)
  · obtain ⟨p, l, j, x, rfl, _⟩ := h; rfl
  obtain ⟨p, l, j, x, rfl, hp, hl, hh, q⟩ := h
  have hz := hp.2
  refine ⟨_, (pss_cons (ps_asg (C8.pe_c (c_home X) hr (by decide) rfl (pa2 (pv 0) (pv 1))) (pg_tup (n := 2) rfl (pgs_cons (pg_name (i := 2) nd rfl (.inl rfl)) (pgs_cons (pg_name (i := 3) nd rfl (.inl rfl)) pgs_nil))))
  (pss_one (ps_ret (pe_tup (pa3 (pe_slice C8.sl_txt (pv 0) po_none (po_some (pv 2))) (pe_slice C8.sl_txt (pv 0) (po_some (pv 2)) po_none) (pv 3)))))), ?_⟩
  refine ⟨_, rfl, _, rfl, p, l, j, x, rfl, hp, hl, hh, fun t H1 ht e1 he => ?_⟩
  refine ⟨t, _, rfl, SqT.of he, rfl, _, _, rfl, _, _, rfl, rfl, ?_⟩
  refine ⟨_, rfl, _, rfl, _, rfl, _, rfl, szS (by omega), ?_⟩
  refine ⟨_, rfl, _, rfl, _, rfl, _, rfl, szS (by omega), ?_⟩
  rw [from_S (k := j) rfl, to_S (k := j) rfl]
  exact ⟨_, rfl, by show 3 ≤ sizeLine; decide, fun r hr => q r _ (e1.free hr) (e1.trans (Same.new hr)) upd_same⟩
theorem c_gap_presses (X : Fx K mg) : C8.Cal P w K mg base 7 "gap_presses" sp_gap_presses [] := by
  have nd : (["presses", "piece"] : List Str).Nodup := by decide +kernel
  refine mkCal X.d_gap_presses X.g_gap_presses (N := ["presses", "piece"]) (ps := ["presses", "piece"]) (k := 6) (C8.fnScope_by (by decide +kernel)) (fun vs H Q E h => ?_) (fun _ _ _ _ _ _ us hl => match us, hl with | [_, _], _ => rfl) (fun cdv A outer s H vs Q E hr h => ?_)
  · obtain ⟨p, l, j, x, rfl, _⟩ := h; rfl
  obtain ⟨p, l, j, x, rfl, hp, hl, hh, q⟩ := h
  refine ⟨_, (pss_one (ps_ret (pe_ix ix_tup (C8.pe_c (c_parted_at X) hr (by decide) rfl (pa2 (pv 0) (pv 1))) pe_int (fun _ _ => rfl)))), ?_⟩
  refine ⟨_, rfl, _, rfl, p, l, j, x, rfl, hp, hl, hh, fun t H1 ht e1 he => ?_⟩
  exact ⟨_, _, _, _, rfl, rfl, SqT.of he, atI_nat (j := 1) rfl, q H1 e1⟩
theorem c_gap_letter (X : Fx K mg) : C8.Cal P w K mg base 8 "gap_letter" sp_gap_letter [] := by
  have nd : (["presses", "piece", "number", "behind"] : List Str).Nodup := by decide +kernel
  refine mkCal X.d_gap_letter X.g_gap_letter (N := ["presses", "piece", "number", "behind"]) (ps := ["presses", "piece", "number"]) (k := 7) (C8.fnScope_by (by decide +kernel)) (fun vs H Q E h => ?_) (fun _ _ _ _ _ _ us hl => match us, hl with | [_, _, _], _ => rfl) (fun cdv A outer s H vs Q E hr h => ?_)
  · obtain ⟨p, l, n, j, x, rfl, _⟩ := h; rfl
  obtain ⟨p, l, n, j, x, rfl, hp, hl, hh, h0, h1, q⟩ := h
  refine ⟨_, (pss_cons (ps_set (i := 3) nd rfl (.inl rfl) (C8.pe_c (c_gap_presses X) hr (by decide) rfl (pa2 (pv 0) (pv 1))))
  (pss_cons (ps_if (pt_not (pt_val (pe_isw (c_is_whole X) hr (by decide) rfl (pv 2) (pe_op op_sub (C8.pe_c (c_length X) hr (by decide) rfl (pa1 (pv 3))) pe_int))))
    pss_never pss_nil)
  (pss_one (ps_ret (C8.pe_c (c_letter_at X) hr (by decide) rfl (pa2 (pv 3) (pv 2))))))), ?_⟩
  refine ⟨_, rfl, _, rfl, p, l, j, x, rfl, hp, hl, hh, fun H1 e1 => ?_⟩
  refine ⟨_, rfl, _, rfl, p.drop j, rfl, hp.drop j, fun H2 e2 => ?_⟩
  refine ⟨_, _, rfl, rfl, rfl, rfl, n, _, rfl, _, rfl, iteBF (by rw [decide_eq_true h0, decide_eq_true (show n ≤ L (p.drop j) - 1 by omega)]; rfl) ?_⟩
  exact ⟨_, rfl, _, rfl, p.drop j, n, rfl, hp.drop j, h0, h1, fun y hy => (q y hy).to (e1.trans e2)⟩
theorem c_gap (X : Fx K mg) : C8.Cal P w K mg base 9 "gap" sp_gap [] := by
  have nd : (["presses", "piece", "number"] : List Str).Nodup := by decide +kernel
  refine mkCal X.d_gap X.g_gap (N := ["presses", "piece", "number"]) (ps := ["presses", "piece", "number"]) (k := 8) (C8.fnScope_by (by decide +kernel)) (fun vs H Q E h => ?_) (fun _ _ _ _ _ _ us hl => match us, hl with | [_, _, _], _ => rfl) (fun cdv A outer s H vs Q E hr h => ?_)
  · obtain ⟨p, l, n, j, x, rfl, _⟩ := h; rfl
  obtain ⟨p, l, n, j, x, rfl, hp, hl, hh, h0, h1, q⟩ := h
  refine ⟨_, (pss_one (ps_ret (C8.pe_c (c_block_length X) hr (by decide) rfl (pa2 (pe_ix ix_tup (C8.pe_c (c_parted_at X) hr (by decide) rfl (pa2 (pv 0) (pv 1))) pe_int (fun _ _ => rfl)) (C8.pe_c (c_gap_letter X) hr (by decide) rfl (pa3 (pv 0) (pv 1) (pv 2))))))), ?_⟩
  refine ⟨_, rfl, _, rfl, p, l, j, x, rfl, hp, hl, hh, fun t H1 ht e1 he => ?_⟩
  refine ⟨_, _, _, _, rfl, rfl, SqT.of he, atI_nat (j := 0) rfl, ?_⟩
  refine ⟨_, rfl, _, rfl, _, rfl, p, l, n, j, x, rfl, hp, hl, hh, h0, h1, fun y hy H2 e2 => ?_⟩
  have hm : y ∈ p.drop j := mem_M (List.mem_of_getElem? hy)
  exact ⟨p.take j, y, rfl, hp.take j, hp.1.drop j y hm, (q y hy).to (e1.trans e2)⟩
end
end Mi
/-! Walks 7: all gaps; as the law tells them. -/
namespace Mi
open PySem PySem.Spec PyProof.Rows L2 SX
theorem valV_kvI (k : Int) : ∀ g : List (Int × Int), valV (kvI g) (Sum.inl k) = (getI g k).map V.int
  | [] => rfl
  | q :: r => by
    show valV ((Sum.inl q.1, V.int q.2) :: kvI r) _ = _
    rw [getI_cons]
    by_cases e : q.1 = k
    · rw [valV_pos (by rw [e]), if_pos e]; rfl
    · rw [valV_neg (fun z => e (Sum.inl.inj z)), if_neg e]; exact valV_kvI k r
theorem getD_kvI (k : Int) (g : List (Int × Int)) : (valV (kvI g) (Sum.inl k)).getD (V.int 0) = V.int ((getI g k).getD 0) := by
  rw [valV_kvI]
  cases getI g k <;> rfl
theorem any_kvI (k : Int) (g : List (Int × Int)) : ((kvI g).any fun kv => decide (kv.1 = Sum.inl k)) = decide (k ∈ g.map (·.1)) := by
  induction g with
  | nil => rfl
  | cons q r ih =>
    show ((Sum.inl q.1, V.int q.2) :: kvI r).any _ = _
    rw [List.any_cons, ih, List.map_cons]
    by_cases e : q.1 = k
    · simp [e]
    · have e2 : ¬ (Sum.inl q.1 : Key) = Sum.inl k := fun z => e (Sum.inl.inj z)
      rw [decide_eq_false e2, Bool.false_or]
      simp [List.mem_cons, show ¬ k = q.1 from fun z => e z.symm]
theorem map_none {k v : Int} : ∀ {g : List (Int × Int)}, k ∉ g.map (·.1) → (kvI g).map (fun kv => if kv.1 = Sum.inl k then (kv.1, V.int v) else kv) = kvI g
  | [], _ => rfl
  | q :: r, h => by
    rw [List.map_cons, List.mem_cons, not_or] at h
    show (if (Sum.inl q.1 : Key) = Sum.inl k then _ else _) :: _ = _
    rw [if_neg (fun z => h.1 (Sum.inl.inj z).symm)]
    show _ :: (kvI r).map _ = _
    rw [map_none h.2]; rfl
theorem put_kvI (k v : Int) : ∀ g : List (Int × Int), (g.map (·.1)).Nodup → putK (kvI g) (Sum.inl k) (V.int v) = kvI (putI g k v)
  | [], _ => rfl
  | q :: r, h => by
    have h0 := h
    rw [List.map_cons, List.nodup_cons] at h
    unfold putK
    rw [any_kvI]
    show _ = kvI (if q.1 = k then (k, v) :: r else q :: putI r k v)
    by_cases e : q.1 = k
    · rw [if_pos e, if_pos (by simp [e])]
      show (if (Sum.inl q.1 : Key) = Sum.inl k then _ else _) :: (kvI r).map _ = _
      rw [if_pos (by rw [e]), map_none (by rw [← e]; exact h.1)]
      show (Sum.inl q.1, V.int v) :: kvI r = (Sum.inl k, V.int v) :: kvI r
      rw [e]
    · rw [if_neg e]
      have ih := put_kvI k v r h.2
      unfold putK at ih
      rw [any_kvI] at ih
      show _ = (Sum.inl q.1, V.int q.2) :: kvI (putI r k v)
      rw [← ih]
      by_cases m : k ∈ r.map (·.1)
      · rw [if_pos (by simpa using .inr (by simpa using m)), if_pos (by simpa using m)]
        show (if (Sum.inl q.1 : Key) = Sum.inl k then _ else _) :: (kvI r).map _ = _
        rw [if_neg (fun z => e (Sum.inl.inj z))]
      · rw [if_neg (by rw [decide_eq_true_eq, List.map_cons, List.mem_cons, not_or]; exact ⟨fun z => e z.symm, m⟩), if_neg (by rw [decide_eq_true_eq]; exact m)]
        rfl
theorem merge_kvI : ∀ (out acc : List (Int × Int)), ((acc ++ out).map (·.1)).Nodup → mergeK (kvI acc) (kvI out) = kvI (acc ++ out)
  | [], acc, _ => by rw [List.append_nil]; rfl
  | q :: r, acc, h => by
    show mergeK (putK (kvI acc) (Sum.inl q.1) (V.int q.2)) (kvI r) = _
    have e : acc ++ q :: r = (acc ++ [q]) ++ r := by simp
    have hq : q.1 ∉ acc.map (·.1) := by
      rw [List.map_append, List.map_cons, List.nodup_append] at h
      exact fun m => h.2.2 q.1 m q.1 List.mem_cons_self rfl
    have ep : putK (kvI acc) (Sum.inl q.1) (V.int q.2) = kvI (acc ++ [q]) := by
      unfold putK
      rw [any_kvI, if_neg (by rw [decide_eq_true_eq]; exact hq)]
      show _ = (acc ++ [q]).map _
      rw [List.map_append]; rfl
    rw [ep, e]
    rw [e] at h
    exact merge_kvI r (acc ++ [q]) h
theorem le_of_lexB {a b : Int × Int} (h : SrtO.lexB b a = false) : leP a b := by
  have h2 : ¬ SrtO.lexB b a = true := by rw [h]; decide
  rw [SrtO.lexB_iff] at h2
  unfold leP
  omega
theorem paired_kvI {K : PySem.W.Frag} {H : Hp} : ∀ {ts : List Addr} {out : List (Int × Int)}, Paired (fun (t : Addr) (q : Int × Int) => H t = some (.tup [.int q.1, .int q.2])) ts out → Paired (fun p (kv : Key × V) => SqT K H p [kV kv.1, kv.2]) ts (kvI out)
  | _, _, .nil => .nil
  | _, _, .cons h t => .cons (SqT.of h) (paired_kvI t)
/-- dict(sorted(d.items())) -/
theorem gaps_end {K : PySem.W.Frag} {σ : L2.St} {H : Hp} {d : Addr} {g : List (Int × Int)} {i : Nat} {Q : VK} (hσ : σ[i]? = some (some (.ref d))) (hd : H d = some (.dK (kvI g))) (hn : (g.map (·.1)).Nodup)
    (q : ∀ out r H', out.Perm g → out.Pairwise leP → H r = none → Same H H' → H' r = some (.dK (kvI out)) → Q (.ref r) H') :
    tCB (fun xs H Q => ∃ (a : Addr) (ps : List Addr) (kvs : List (Key × V)), xs = [.ref a] ∧ SqL K H a (ps.map V.ref) ∧ Paired (fun p kv => SqT K H p [kV kv.1, kv.2]) ps kvs ∧ ∀ p, H p = none → Q (.ref p) (upd H p (.dK (mergeK [] kvs))))
      (tCons (tCB rSortItems (tCons (tItemsV (tVar i)) tNil)) tNil) σ H Q := by
  refine ⟨_, hσ, d, _, rfl, hd, fun v hv => ?_⟩
  refine ⟨v, d, g, rfl, upd_same, (Same.new hv) _ _ hd, fun H5 lst ts out e5 hp hs hl hlst hpair => ?_⟩
  have e6 : Same H H5 := (Same.new hv).trans e5
  refine ⟨lst, ts, kvI out, rfl, SqL.of hlst, paired_kvI hpair, fun r hr => ?_⟩
  have hn2 : ((([] : List (Int × Int)) ++ out).map (·.1)).Nodup := ((hp.map (·.1)).nodup_iff).mpr hn
  have em := merge_kvI out [] hn2
  refine q out r _ hp (hs.imp le_of_lexB) (e6.free hr) (e6.trans (Same.new hr)) ?_
  rw [upd_same]
  exact congrArg (fun z => some (HO.dK z)) em
theorem gapG_nd (u t : List Nat) (ys : List Nat) : ((gapG u t [] ys).map (·.1)).Nodup := (gapG_all u t ys [] (by simp) (by simp)).1
theorem gapG_len (u t : List Nat) (ys : List Nat) : (gapG u t [] ys).length ≤ ys.length := by
  have := (gapG_all u t ys [] (by simp) (by simp)).2.2.2.2.1
  simpa using this
theorem gap_put (u t : List Nat) {ys : List Nat} {i y : Nat} (h : ys[i]? = some y) : putK (kvI (gapG u t [] (ys.take i))) (Sum.inl (Bk u y)) (V.int ((getI (gapG u t [] (ys.take i)) (Bk u y)).getD 0 + cnt y t)) = kvI (gapG u t [] (ys.take (i + 1))) := by
  rw [put_kvI _ _ _ (gapG_nd u t _), take_get h, gapG_snoc]
  rfl
section
variable {P : Program} {w : World} {K : PySem.W.Frag} {mg : Str → Option Value} {base : Heap}
theorem c_gaps (X : Fx K mg) : C8.Cal P w K mg base 7 "gaps" sp_gaps [] := by
  have nd : (["presses", "piece", "own_presses", "behind", "at", "found", "letter", "many", "apart"] : List Str).Nodup := by decide +kernel
  refine mkCal X.d_gaps X.g_gaps (N := ["presses", "piece", "own_presses", "behind", "at", "found", "letter", "many", "apart"]) (ps := ["presses", "piece"]) (k := 6) (C8.fnScope_by (by decide +kernel)) (fun vs H Q E h => ?_) (fun _ _ _ _ _ _ us hl => match us, hl with | [_, _], _ => rfl) (fun cdv A outer s H vs Q E hr h => ?_)
  · obtain ⟨p, l, j, x, rfl, _⟩ := h; rfl
  obtain ⟨p, l, j, x, rfl, hp, hl, hh, q⟩ := h
  have hu := hu_of hr
  have hz := hp.2
  refine ⟨_, (pss_cons (ps_asg (C8.pe_c (c_parted_at X) hr (by decide) rfl (pa2 (pv 0) (pv 1))) (pg_tup (n := 3) rfl (pgs_cons (pg_name (i := 2) nd rfl (.inl rfl)) (pgs_cons (pg_name (i := 3) nd rfl (.inl rfl)) (pgs_cons (pg_name (i := 4) nd rfl (.inl rfl)) pgs_nil)))))
  (pss_cons (ps_set (i := 5) nd rfl (.inl rfl) pe_dnewK)
  (pss_cons (ps_for PassesOwn.never rfl (pi_items (pe_frz (C8.pe_c (c_counts X) hr (by decide) rfl (pa1 (pv 3))))) (pg_tup (n := 2) rfl (pgs_cons (pg_name (i := 6) nd rfl (.inl rfl)) (pgs_cons (pg_name (i := 7) nd rfl (.inl rfl)) pgs_nil)))
    (pss_cons (ps_set (i := 8) nd rfl (.inl rfl) (C8.pe_c (c_block_length X) hr (by decide) rfl (pa2 (pv 2) (pv 6))))
    (pss_one (ps_dput hu (pv 5) (pv 8) (pe_op op_add (pe_dget2 hu (pv 5) (pv 8) pe_int ⟨rfl, rfl, rfl, rfl⟩) (pv 7)) rfl))))
  (pss_one (ps_ret (pe_callTy (call_dictP rfl) rfl X.f_dict (by decide +kernel) (pa1 (pe_callB (cr_sortItems rfl) rfl X.f_sorted (by decide +kernel) (pa1 (pe_itemsV (pv 5))))))))))), ?_⟩
  refine ⟨_, rfl, _, rfl, p, l, j, x, rfl, hp, hl, hh, fun t H1 ht e1 he => ?_⟩
  refine ⟨t, _, rfl, SqT.of he, rfl, _, _, rfl, _, _, rfl, _, _, rfl, rfl, ?_⟩
  refine fun d hd => ?_
  have hd0 : H d = none := e1.free hd
  have e2 : Same H (upd H1 d (.dK [])) := e1.trans (Same.new hd)
  refine ⟨_, rfl, p.drop j, rfl, hp.drop j, ?_⟩
  intro ys y1 y2 cd H2 hcd e3 hc
  have e4 : Same H H2 := e2.trans e3
  have ncd : cd ≠ d := by
    intro z; subst z
    rw [upd_same] at hcd; cases hcd
  have hcd0 : H cd = none := e2.free hcd
  refine ⟨cd, _, rfl, hc, trivial, fun od => ⟨cd, od, _, rfl, upd_same, ?_⟩⟩
  have hyl := few_letters (hp.1.drop j) y1 y2
  refine for_it walk_items (fun i σ' H' => (∃ b c e, σ' = [some (tx p), some (tx l), some (tx (p.take j)), some (tx (p.drop j)), some (.int x), some (.ref d), b, c, e]) ∧ H' cd = some (.frz od (.dK (cntD (p.drop j) ys))) ∧ H' d = some (.dK (kvI (gapG (p.take j).reverse (p.drop j).reverse [] (ys.take i)))) ∧ Same H H')
    ⟨⟨_, _, _, rfl⟩, upd_same, by rw [upd_ne ncd.symm]; exact e3 _ _ upd_same, e4.mut hcd0⟩ (fun i σ' H' _ g => g.2.1) (fun i v σ' Ha Hb hi g y => ?_) (fun σ' H' g => ?_)
  · obtain ⟨⟨b, c, e, rfl⟩, g1, g2, g3⟩ := g
    obtain ⟨T, v1, v2, rfl, hT, rfl, hv1, hv2⟩ := y
    have hi : i < ys.length := by have : (cntD (p.drop j) ys).length = ys.length := List.length_map ..; omega
    obtain ⟨yy, hy⟩ : ∃ yy, ys[i]? = some yy := ⟨_, List.getElem?_eq_getElem hi⟩
    have hk : (cntD (p.drop j) ys)[i]? = some (Sum.inr (S [yy]), V.int (cnt yy (p.drop j).reverse)) := by
      unfold cntD
      rw [List.getElem?_map, hy]; rfl
    have hv1 : (cntD (p.drop j) ys)[i]?.map (fun kv => kV kv.1) = some v1 := hv1
    have hv2 : (cntD (p.drop j) ys)[i]?.map Prod.snd = some v2 := hv2
    rw [hk] at hv1 hv2
    cases hv1; cases hv2
    have hym : yy ∈ p.drop j := (y2 yy).mp (List.mem_of_getElem? hy)
    have s1 := Same.new (o := .tup [.str (S [yy]), V.int (cnt yy (p.drop j).reverse)]) hT
    refine ⟨T, _, rfl, SqT.of upd_same, rfl, _, _, rfl, _, _, rfl, rfl, ?_⟩
    refine ⟨_, rfl, _, rfl, p.take j, yy, rfl, hp.take j, hp.1.drop j yy hym, fun H4 e5 => ?_⟩
    have e6 := s1.trans e5
    have hdd := e6 _ _ g2
    refine ⟨_, rfl, d, rfl, .inl ⟨_, .inl hdd⟩, _, rfl, _, DGet.k (k := .inl (Bk (p.take j).reverse yy)) hdd, _, rfl, _, _, getD_kvI _ _, rfl, ?_⟩
    have hsz : (kvI (gapG (p.take j).reverse (p.drop j).reverse [] (ys.take i))).length < sizeLine := szl (by
      have := gapG_len (p.take j).reverse (p.drop j).reverse (ys.take i)
      rw [List.length_take] at this
      show (List.map _ _).length < _
      rw [List.length_map]; omega)
    refine ⟨_, rfl, _, rfl, d, _, rfl, DPut.k (k := .inl (Bk (p.take j).reverse yy)) hdd hsz, ?_⟩
    refine ⟨⟨_, _, _, rfl⟩, by rw [upd_ne ncd]; exact e6 _ _ g1, ?_, (g3.trans e6).mut hd0⟩
    rw [upd_same, gap_put _ _ hy]
  · obtain ⟨⟨b, c, e, rfl⟩, g1, g2, g3⟩ := g
    have : (cntD (p.drop j) ys).length = ys.length := List.length_map ..
    rw [this, List.take_of_length_le (Nat.le_refl _)] at g2
    exact gaps_end (i := 5) rfl g2 (gapG_nd _ _ _) fun out r H5 h1 h2 h3 h4 h5 => q out ⟨ys, y1, y2, h1, h2⟩ r H5 (g3.free h3) (g3.trans h4) h5
end
end Mi
/-! Walks 8: the law's draws. -/
namespace Mi
open PySem PySem.Spec PyProof.Rows L2 SX
theorem k_lc : ¬ (Sum.inr (Str.ofString "left") : Key) = Sum.inr (Str.ofString "cell") := by decide +kernel
theorem k_la : ¬ (Sum.inr (Str.ofString "left") : Key) = Sum.inr (Str.ofString "at") := by decide +kernel
theorem k_ca : ¬ (Sum.inr (Str.ofString "cell") : Key) = Sum.inr (Str.ofString "at") := by decide +kernel
theorem k_al : ¬ (Sum.inr (Str.ofString "at") : Key) = Sum.inr (Str.ofString "left") := by decide +kernel
theorem k_ac : ¬ (Sum.inr (Str.ofString "at") : Key) = Sum.inr (Str.ofString "cell") := by decide +kernel
theorem k_cl : ¬ (Sum.inr (Str.ofString "cell") : Key) = Sum.inr (Str.ofString "left") := by decide +kernel
theorem s_lc : ¬ Str.ofString "left" = Str.ofString "cell" := by decide +kernel
theorem s_la : ¬ Str.ofString "left" = Str.ofString "at" := by decide +kernel
theorem s_ca : ¬ Str.ofString "cell" = Str.ofString "at" := by decide +kernel
theorem s_al : ¬ Str.ofString "at" = Str.ofString "left" := by decide +kernel
theorem s_ac : ¬ Str.ofString "at" = Str.ofString "cell" := by decide +kernel
theorem s_cl : ¬ Str.ofString "cell" = Str.ofString "left" := by decide +kernel
section
variable {H : Hp} {d : Addr} {a c k : Int}
theorem dget_left (h : H d = some (.dK (drawL a c k))) : DGet H d (V.str "left") (some (V.int a)) := by
  have := DGet.k (k := .inr (Str.ofString "left")) h
  unfold drawL at this
  rw [valV_pos rfl] at this
  exact this
theorem dget_cell (h : H d = some (.dK (drawL a c k))) : DGet H d (V.str "cell") (some (V.int c)) := by
  have := DGet.k (k := .inr (Str.ofString "cell")) h
  unfold drawL at this
  rw [valV_neg k_lc, valV_pos rfl] at this
  exact this
theorem dget_at (h : H d = some (.dK (drawL a c k))) : DGet H d (V.str "at") (some (V.int k)) := by
  have := DGet.k (k := .inr (Str.ofString "at")) h
  unfold drawL at this
  rw [valV_neg k_la, valV_neg k_ca, valV_pos rfl] at this
  exact this
theorem put_left (v : Int) : putK (drawL a c k) (Sum.inr (Str.ofString "left")) (V.int v) = drawL v c k := by
  simp [putK, drawL, s_cl, s_al]
theorem put_at (v : Int) : putK (drawL a c k) (Sum.inr (Str.ofString "at")) (V.int v) = drawL a c v := by
  simp [putK, drawL, s_la, s_ca]
theorem merge_draw : mergeK [] (drawL a c k) = drawL a c k := by
  simp [mergeK, putK, drawL, s_lc, s_la, s_ca]
end
theorem draw_len (a c k : Int) : (drawL a c k).length < sizeLine := szl (by show 3 < 100000; decide)
theorem mod64 {y pr : Int} (h0 : 0 < pr) (h1 : pr < 1099511627776) : -(2 ^ 64) < y % pr ∧ y % pr < 2 ^ 64 := by
  have := Int.emod_nonneg y (show pr ≠ 0 by omega)
  have := Int.emod_lt_of_pos y h0
  omega
theorem Bst.free {d p : Addr} {H H' : Hp} (e : Bst d H H') (n : p ≠ d) (h : H' p = none) : H p = none := by
  cases q : H p with
  | none => rfl
  | some o => rw [e p o n q] at h; cases h
theorem shaped_ints (ns : List Int) : SeqAt.shaped (.list (ns.map PyData.int)) = true := by
  have h1 : PyData.canLayAll0 (ns.map PyData.int) = true := by
    induction ns with
    | nil => rfl
    | cons n ns ih => rw [List.map_cons]; simp [PyData.canLayAll0, PyData.canLay0, ih]
  have h2 : PyData.depthAll (ns.map PyData.int) = 0 := by
    induction ns with
    | nil => rfl
    | cons n ns ih =>
      have ih := ih (by simp [PyData.canLayAll0, PyData.canLay0] at h1; exact h1)
      rw [List.map_cons]; simp [PyData.depthAll, PyData.depth, ih]
  unfold SeqAt.shaped
  simp [PyData.canLay0, PyData.depth, h1, h2]
theorem dp_ints {K : PySem.W.Frag} {H : Hp} : ∀ ns : List Int, DpAll K H (ivs ns) (ns.map PyData.int)
  | [] => .nil
  | n :: ns => .cons (.int n) (dp_ints ns)
theorem mem_repN {c x n : Nat} (h : x ∈ repN [c] n) : x = c := by
  induction n with
  | zero => cases h
  | succ n ih =>
    rw [repN] at h
    rcases List.mem_append.mp h with h | h
    · simpa using h
    · exact ih h
section
variable {P : Program} {w : World} {K : PySem.W.Frag} {mg : Str → Option Value} {base : Heap}
theorem c_law_take (X : Fx K mg) : C8.Cal P w K mg base 1 "_law_take" sp_law_take [] := by
  have nd : (["_law_draw", "_law_edge", "_law_found", "_law_k", "_law_prime", "_law_mixed"] : List Str).Nodup := by decide +kernel
  refine mkCal X.d_law_take X.g_law_take (N := ["_law_draw", "_law_edge", "_law_found", "_law_k", "_law_prime", "_law_mixed"]) (ps := ["_law_draw", "_law_edge"]) (k := 0) (C8.fnScope_by (by decide +kernel)) (fun vs H Q E h => ?_) (fun _ _ _ _ _ _ us hl => match us, hl with | [_, _], _ => rfl) (fun cdv A outer s H vs Q E hr h => ?_)
  · obtain ⟨d, e, m, rfl, _⟩ := h; rfl
  obtain ⟨d, e, m, rfl, he1, he2, ⟨a, c, k, hd, ha, hc, hk, hkm⟩, hm, q⟩ := h
  have hu := hu_of hr
  have e0 : e ≠ 0 := by omega
  refine ⟨_, (pss_cons (ps_if (pt_cmpR op_gt (pe_dget hu (pv 0) pe_str (fun _ _ => rfl)) pe_int (nomark _))
    (pss_cons (ps_set (i := 2) nd rfl (.inl rfl) (pe_op op_mod (pe_dget hu (pv 0) pe_str (fun _ _ => rfl)) (pv 1)))
    (pss_cons (ps_dput hu (pv 0) pe_str (pe_op op_fdiv (pe_dget hu (pv 0) pe_str (fun _ _ => rfl)) (pv 1)) rfl)
    (pss_one (ps_ret (pv 2))))) pss_nil)
  (pss_cons (ps_set (i := 3) nd rfl (.inl rfl) (pe_op op_add (pe_dget hu (pv 0) pe_str (fun _ _ => rfl)) pe_int))
  (pss_cons (ps_dput hu (pv 0) pe_str (pv 3) rfl)
  (pss_cons (ps_set (i := 4) nd rfl (.inl rfl) (pe_ix ix_list (pe_lst (pa_cons pe_int (pa_cons pe_int (pa_cons pe_int (pa_cons pe_int (pa_cons pe_int pa_nil)))))) (pe_op op_mod (pv 3) pe_int) (fun _ _ => rfl)))
  (pss_cons (ps_set (i := 5) nd rfl (.inl rfl) (pe_op op_mod (pe_op op_mul (pe_op op_add (pe_op op_add (pe_op op_add (pe_op op_mod (pe_dget hu (pv 0) pe_str (fun _ _ => rfl)) (pv 4)) (pe_op op_mul (pe_op op_mul pe_int (pv 3)) (pv 3))) (pe_op op_mul pe_int (pv 3))) pe_int) pe_int) (pv 4)))
  (pss_one (ps_ret (pe_op op_mod (pe_op op_mod (pe_op op_mul (pv 5) (pe_op op_add (pe_op op_mod (pv 5) pe_int) pe_int)) pe_int) (pv 1))))))))), ?_⟩
  refine ⟨_, rfl, d, _, rfl, dget_left hd, _, _, rfl, rfl, _, rfl, ?_⟩
  by_cases c0 : 0 < a
  · refine iteDT c0 ?_
    refine ⟨_, rfl, d, _, rfl, dget_left hd, _, rfl, _, _, rfl, rfl, by omega, ?_⟩
    refine ⟨_, rfl, d, _, rfl, dget_left hd, _, rfl, _, _, rfl, rfl, ⟨by omega, by omega⟩, _, rfl, d, _, rfl, DPut.k (k := .inr (Str.ofString "left")) hd (draw_len _ _ _), ?_⟩
    refine ⟨_, rfl, q (a % e) _ (Int.emod_nonneg _ e0) (Int.emod_lt_of_pos _ (by omega)) (Bst.refl d H).own ⟨a / e, c, k, by rw [upd_same, put_left], Int.ediv_nonneg ha (by omega), hc, hk, by omega⟩⟩
  · refine iteDF c0 ?_
    refine ⟨_, rfl, d, _, rfl, dget_at hd, _, _, rfl, rfl, ?_⟩
    refine ⟨_, rfl, _, rfl, d, _, rfl, DPut.k (k := .inr (Str.ofString "at")) hd (draw_len _ _ _), ?_⟩
    rw [put_at]
    refine ⟨sz (by decide), fun pl hpl => ?_⟩
    have npl : d ≠ pl := ne_of_none upd_same hpl
    have hd2 : (upd (upd H d (.dK (drawL a c (k + 1)))) pl (.lst [V.int 2147483629, V.int 2147483587, V.int 2147483579, V.int 2147483563, V.int 2147483549])) d = some (.dK (drawL a c (k + 1))) := by rw [upd_ne npl, upd_same]
    obtain ⟨pr, hpr, hp0, hp1⟩ : ∃ pr : Int, atI [V.int 2147483629, V.int 2147483587, V.int 2147483579, V.int 2147483563, V.int 2147483549] ((k + 1) % 5) = some (V.int pr) ∧ 0 < pr ∧ pr < 1099511627776 := by
      have : (k + 1) % 5 = 0 ∨ (k + 1) % 5 = 1 ∨ (k + 1) % 5 = 2 ∨ (k + 1) % 5 = 3 ∨ (k + 1) % 5 = 4 := by omega
      rcases this with z | z | z | z | z <;> rw [z] <;> exact ⟨_, rfl, by decide, by decide⟩
    refine ⟨_, rfl, _, _, rfl, rfl, (by show (0 : Int) < 5; decide), _, _, _, _, rfl, rfl, SqL.of upd_same, hpr, ?_⟩
    refine ⟨_, rfl, d, _, rfl, dget_cell hd2, _, rfl, _, _, rfl, rfl, hp0, ?_⟩
    refine ⟨_, rfl, _, _, rfl, rfl, .inl ⟨by decide, by decide⟩, _, rfl, _, _, rfl, rfl, .inr ⟨by omega, by omega⟩, _, _, rfl, rfl, ?_⟩
    refine ⟨_, rfl, _, _, rfl, rfl, .inl ⟨by decide, by decide⟩, _, _, rfl, rfl, _, _, rfl, rfl, _, _, rfl, rfl, .inr ⟨by decide, by decide⟩, _, rfl, _, _, rfl, rfl, hp0, ?_⟩
    refine ⟨_, rfl, _, rfl, _, _, rfl, rfl, (by show (0 : Int) < 65521; decide), _, _, rfl, rfl, _, _, rfl, rfl, .inl (mod64 hp0 hp1), _, _, rfl, rfl, (by show (0 : Int) < 2147483647; decide), _, rfl, _, _, rfl, rfl, by omega, ?_⟩
    exact q _ _ (Int.emod_nonneg _ e0) (Int.emod_lt_of_pos _ (by omega)) (fun b o n hb => by rw [upd_ne (fun z => by subst z; rw [upd_ne n] at hpl; rw [hpl] at hb; cases hb), upd_ne n]; exact hb) ⟨a, c, k + 1, hd2, ha, hc, by omega, by omega⟩
theorem c_law_of (X : Fx K mg) : C8.Cal P w K mg base 2 "_law_of" (sp_law_of K) [] := by
  have nd : (["_law_draw", "_law_some"] : List Str).Nodup := by decide +kernel
  refine mkCal X.d_law_of X.g_law_of (N := ["_law_draw", "_law_some"]) (ps := ["_law_draw", "_law_some"]) (k := 1) (C8.fnScope_by (by decide +kernel)) (fun vs H Q E h => ?_) (fun _ _ _ _ _ _ us hl => match us, hl with | [_, _], _ => rfl) (fun cdv A outer s H vs Q E hr h => ?_)
  · obtain ⟨d, a, xs, m, rfl, _⟩ := h; rfl
  obtain ⟨d, a, xs, m, rfl, hS, na, hne, hlen, hD, hm, q⟩ := h
  have h1 : 1 ≤ xs.length := by cases xs with | nil => exact absurd rfl hne | cons _ _ => simp
  refine ⟨_, (pss_one (ps_ret (pe_ix ix_list (pv 1) (C8.pe_c (c_law_take X) hr (by decide) rfl (pa2 (pv 0) (pe_callB call_len_seq rfl X.f_len boot_len (pa1 (pv 1))))) (fun _ _ => rfl)))), ?_⟩
  refine ⟨_, rfl, _, rfl, _, rfl, _, _, rfl, .inl hS, d, _, m, rfl, by omega, by omega, hD, hm, fun n H' h0 h1 b D' => ?_⟩
  obtain ⟨x, hx⟩ : ∃ x, xs[n.toNat]? = some x := ⟨_, List.getElem?_eq_getElem (by omega)⟩
  exact ⟨_, _, _, _, rfl, rfl, b.seq na hS, at_of (j := n.toNat) (by omega) hx, q x H' (List.mem_of_getElem? hx) b D'⟩
theorem c_law_far (X : Fx K mg) : C8.Cal P w K mg base 2 "_law_far" sp_law_far [] := by
  have nd : (["_law_draw", "_law_most", "_law_found", "_law_turn"] : List Str).Nodup := by decide +kernel
  refine mkCal X.d_law_far X.g_law_far (N := ["_law_draw", "_law_most", "_law_found", "_law_turn"]) (ps := ["_law_draw", "_law_most"]) (k := 1) (C8.fnScope_by (by decide +kernel)) (fun vs H Q E h => ?_) (fun _ _ _ _ _ _ us hl => match us, hl with | [_, _], _ => rfl) (fun cdv A outer s H vs Q E hr h => ?_)
  · obtain ⟨d, b, m, rfl, _⟩ := h; rfl
  obtain ⟨d, b, m, rfl, h0, hD, hm, q⟩ := h
  refine ⟨_, (pss_cons (ps_set (i := 2) nd rfl (.inl rfl) pe_int)
  (pss_cons (ps_for PassesOwn.never rfl (pi_range1 rfl X.f_range (pa1 pe_int)) (pg_name (i := 3) nd rfl (.inl rfl))
    (pss_one (ps_set (i := 2) nd rfl (.inl rfl) (pe_op op_add (pe_op op_mul (pv 2) (pe_op op_pow pe_int pe_int)) (C8.pe_c (c_law_take X) hr (by decide) rfl (pa2 (pv 0) (pe_op op_pow pe_int pe_int)))))))
  (pss_one (ps_ret (pe_op op_mod (pv 2) (pe_op op_add (pv 1) pe_int)))))), ?_⟩
  have cpow : CPow 10 9 := ⟨by decide, by decide, by decide⟩
  refine ⟨_, rfl, by decide, by decide, for_range (lo := 0) (n := 8) (fun i σ' H' => (∃ n e, σ' = [some (.ref d), some (.int b), some (.int n), e] ∧ 0 ≤ n) ∧ Bst d H H' ∧ Drw H' d (m + i)) ⟨⟨_, _, rfl, by decide⟩, Bst.refl d H, hD⟩ (fun i σ' H' hi g => ?_) (fun σ' H' g => ?_)⟩
  · obtain ⟨⟨n, e, rfl, hn⟩, g1, g2⟩ := g
    refine ⟨_, rfl, _, _, rfl, rfl, cpow, _, _, rfl, rfl, .inr ⟨by decide, by decide⟩, ?_⟩
    refine ⟨_, rfl, _, _, rfl, rfl, cpow, d, _, m + i, rfl, by decide, by decide, g2, by omega, fun t H2 t0 t1 b2 D2 => ?_⟩
    refine ⟨_, _, rfl, rfl, ⟨_, _, rfl, ?_⟩, g1.trans b2, D2⟩
    have : (0 : Int) ≤ n * 10 ^ (9 : Int).toNat := Int.mul_nonneg hn (by decide)
    omega
  · obtain ⟨⟨n, e, rfl, hn⟩, g1, g2⟩ := g
    refine ⟨_, rfl, _, rfl, _, _, rfl, rfl, _, _, rfl, rfl, by show 0 < b + 1; omega, ?_⟩
    have e0 : b + 1 ≠ 0 := by omega
    have := Int.emod_lt_of_pos n (show 0 < b + 1 by omega)
    exact q _ H' (Int.emod_nonneg _ e0) (by show n % (b + 1) ≤ b; omega) g1 g2
theorem c_law_lens (X : Fx K mg) : C8.Cal P w K mg base 1 "_law_lens" sp_law_lens [] := by
  have nd : (["_law_row_here", "_law_found", "_law_known", "_law_k", "_law_sign"] : List Str).Nodup := by decide +kernel
  refine mkCal X.d_law_lens X.g_law_lens (N := ["_law_row_here", "_law_found", "_law_known", "_law_k", "_law_sign"]) (ps := ["_law_row_here"]) (k := 0) (C8.fnScope_by (by decide +kernel)) (fun vs H Q E h => ?_) (fun _ _ _ _ _ _ us hl => match us, hl with | [_], _ => rfl) (fun cdv A outer s H vs Q E hr h => ?_)
  · obtain ⟨l, rfl, _⟩ := h; rfl
  obtain ⟨l, rfl, hz, q⟩ := h
  have hu := hu_of hr
  refine ⟨_, (pss_cons (ps_par (i := 1) (j := 2) rfl nd rfl rfl (by decide) rfl rfl (pa2 (pe_lst (pa1 pe_int)) pe_dnewK) (by rfl))
  (pss_cons (ps_for PassesOwn.never rfl (pi_enumS rfl X.f_enumerate (pa1 (pv 0))) (pg_tup (n := 2) rfl (pgs_cons (pg_name (i := 3) nd rfl (.inl rfl)) (pgs_cons (pg_name (i := 4) nd rfl (.inl rfl)) pgs_nil)))
    (pss_cons (ps_expr (pe_bm PySem.F.plainAttrs_list PySem.F.slot_list_append PySem.F.type_list_append mt_append (pv 1) (pa1 (pe_ifExp (pt_cmp (pc_din hu (pv 4) (pv 2))) (pe_op op_sub (pe_op op_mul pe_int (pe_ix ix_list (pv 1) (pv 3) (fun _ _ => rfl))) (pe_ix ix_list (pv 1) (pe_dget hu (pv 2) (pv 4) (fun _ _ => rfl)) (fun _ _ => rfl))) (pe_op op_add (pe_op op_mul pe_int (pe_ix ix_list (pv 1) (pv 3) (fun _ _ => rfl))) pe_int)))))
    (pss_one (ps_dput hu (pv 2) (pv 4) (pv 3) rfl))))
  (pss_one (ps_ret (pv 1))))), ?_⟩
  refine ⟨sz (by decide), fun f hf => fun d hd => ⟨_, _, rfl, ?_⟩⟩
  have nfd : f ≠ d := ne_of_none upd_same hd
  have hd0 : H d = none := by rw [upd_ne nfd.symm] at hd; exact hd
  refine ⟨_, rfl, l, rfl, for_enS (fun i σ' H' => (∃ a b, σ' = [some (tx l), some (.ref f), some (.ref d), a, b]) ∧ (∃ kvs : List (Key × V), H' d = some (.dK kvs) ∧ kvs.length ≤ i ∧ ∀ c, valV kvs (Sum.inr (S [c])) = (lastIx c (l.take i)).map fun (j : Nat) => V.int (j : Int)) ∧ H' f = some (.lst (ivs ((lens l).take (i + 1)))) ∧ Same H H')
    ⟨⟨_, _, rfl⟩, ⟨[], upd_same, Nat.zero_le _, fun c => rfl⟩, by rw [upd_ne nfd, upd_same, lens_tk (Nat.zero_le _)]; simp [L_nil], (Same.new hf).mut hd0⟩ (fun i c T σ' H' hc g hT => ?_) (fun σ' H' g => ?_)⟩
  · obtain ⟨⟨a, b, rfl⟩, ⟨kvs, h1, h2, h3⟩, h4, h5⟩ := g
    have hi := lt_of_get hc
    have s1 := Same.new (o := .tup [.int (i : Nat), .str (S [c])]) hT
    have h1' := s1 _ _ h1
    have h4' := s1 _ _ h4
    have hsz : (ivs ((lens l).take (i + 1))).length < sizeLine := szl (by rw [List.length_map, List.length_take]; omega)
    have ati : atI (ivs ((lens l).take (i + 1))) (i : Int) = some (V.int (L (l.take i))) := atI_nat (lens_at (j := i) (by omega) (by omega))
    have hg := DGet.k (k := .inr (S [c])) h1'
    rw [h3 c] at hg
    have fin : ∀ (n : Int) (H3 : Hp), L (l.take (i + 1)) = n → H3 = upd (upd (upd H' T (.tup [.int (i : Nat), .str (S [c])])) f (.lst (ivs ((lens l).take (i + 1)) ++ [V.int n]))) d (.dK (putK kvs (Sum.inr (S [c])) (V.int (i : Nat)))) →
        (∃ kvs : List (Key × V), H3 d = some (.dK kvs) ∧ kvs.length ≤ i + 1 ∧ ∀ c, valV kvs (Sum.inr (S [c])) = (lastIx c (l.take (i + 1))).map fun (j : Nat) => V.int (j : Int)) ∧ H3 f = some (.lst (ivs ((lens l).take (i + 1 + 1)))) ∧ Same H H3 := fun n H3 hn e3 => by
      subst e3 hn
      refine ⟨⟨_, upd_same, ?_, fun x => ?_⟩, ?_, ((h5.trans s1).mut hf).mut hd0⟩
      · unfold putK
        split
        · rw [List.length_map]; omega
        · rw [List.length_append, List.length_singleton]; omega
      · rw [valV_put, take_snoc hc, lastIx_snoc]
        by_cases e : c = x
        · subst e
          rw [if_pos rfl, if_pos rfl, List.length_take, Nat.min_eq_left (by omega)]; rfl
        · rw [if_neg (fun z => e (S1_inj z).symm), if_neg e]; exact h3 x
      · rw [upd_ne nfd, upd_same, lens_tk (i := i + 1) (by omega)]
    have hdd : ∀ v : V, (upd (upd H' T (.tup [.int (i : Nat), .str (S [c])])) f (.lst (ivs ((lens l).take (i + 1)) ++ [v]))) d = some (.dK kvs) := fun v => by rw [upd_ne nfd.symm]; exact h1'
    refine ⟨T, _, rfl, SqT.of upd_same, rfl, _, _, rfl, _, _, rfl, rfl, ?_⟩
    refine ⟨_, rfl, .inl ⟨rfl, _, SqL.of h4'⟩, ?_⟩
    refine ⟨_, rfl, _, rfl, d, _, rfl, hg, _, rfl, ?_⟩
    cases hl : lastIx c (l.take i) with
    | none =>
      refine iteBF rfl ?_
      refine ⟨_, rfl, _, rfl, _, _, _, _, rfl, rfl, SqL.of h4', ati, _, _, rfl, rfl, .inl ⟨by decide, by decide⟩, _, _, rfl, rfl, ?_⟩
      refine ⟨_, _, _, rfl, rfl, h4', hsz, ?_⟩
      exact ⟨_, rfl, _, rfl, _, rfl, d, _, rfl, DPut.k (k := .inr (S [c])) (hdd _) (szl (by omega)), ⟨_, _, rfl⟩, fin _ _ (lens_step_new hc hl) rfl⟩
    | some j =>
      rw [hl] at hg
      have hj := last_lt hl
      refine iteBT rfl ?_
      refine ⟨_, rfl, _, rfl, _, _, _, _, rfl, rfl, SqL.of h4', ati, _, _, rfl, rfl, .inl ⟨by decide, by decide⟩, ?_⟩
      refine ⟨_, rfl, _, rfl, _, rfl, d, _, rfl, hg, _, _, _, _, rfl, rfl, SqL.of h4', atI_nat (lens_at (j := j) (by omega) (by omega)), _, _, rfl, rfl, ?_⟩
      refine ⟨_, _, _, rfl, rfl, h4', hsz, ?_⟩
      exact ⟨_, rfl, _, rfl, _, rfl, d, _, rfl, DPut.k (k := .inr (S [c])) (hdd _) (szl (by omega)), ⟨_, _, rfl⟩, fin _ _ (lens_step_old hc hl) rfl⟩
  · obtain ⟨⟨a, b, rfl⟩, _, h4, h5⟩ := g
    refine ⟨_, rfl, q f H' hf h5 ?_⟩
    rw [h4, lens_full]
theorem c_law_begun (X : Fx K mg) : C8.Cal P w K mg base 1 "_law_begun" (sp_law_begun K) [] := by
  have nd : (["_law_script", "_law_k", "_law_some", "_law_found", "_law_cell", "_law_left"] : List Str).Nodup := by decide +kernel
  refine mkCal X.d_law_begun X.g_law_begun (N := ["_law_script", "_law_k", "_law_some", "_law_found", "_law_cell", "_law_left"]) (ps := ["_law_script", "_law_k"]) (k := 0) (C8.fnScope_by (by decide +kernel)) (fun vs H Q E h => ?_) (fun _ _ _ _ _ _ us hl => match us, hl with | [_, _], _ => rfl) (fun cdv A outer s H vs Q E hr h => ?_)
  · obtain ⟨a, ns, k, rfl, _⟩ := h; rfl
  obtain ⟨a, ns, k, rfl, hS, hlen, hk, q⟩ := h
  have hu64 := hr.units
  refine ⟨_, (pss_cons (ps_par (i := 2) (j := 3) rfl nd rfl rfl (by decide) rfl rfl (pa2 (pe_stepL (by decide) (pv 0) (po_some (pv 1))) pe_int) (by rfl))
  (pss_cons (ps_for PassesOwn.never rfl (pi_list (pv 2)) (pg_name (i := 4) nd rfl (.inl rfl))
    (pss_one (ps_set (i := 3) nd rfl (.inl rfl) (pe_op op_mod (pe_op op_add (pe_op op_mul (pv 3) pe_int) (pv 4)) pe_int))))
  (pss_cons (ps_set (i := 5) nd rfl (.inl rfl) (pe_ifExp (PW.pt (pw_and (pt_cmpR (op_neD hu64) (pv 2) (pe_lst pa_nil) (nomark _)) (pw_and1 (pt_cmpR op_ge (pe_ix ix_list (pv 2) pe_int (fun _ _ => rfl)) (pe_op op_pow pe_int pe_int) (nomark _))))) (pe_ix ix_list (pv 2) pe_int (fun _ _ => rfl)) pe_int))
  (pss_one (ps_ret (pe_disp (pps_cons pe_str (pv 5) (pps_cons pe_str (pv 3) (pps_cons pe_str (pe_op op_mul pe_int (pv 1)) pps_nil))) (by decide) rfl (by simp) (by decide))))))), ?_⟩
  refine ⟨_, rfl, _, rfl, _, rfl, a, ns, rfl, hS, fun ms sl hs hms => ⟨_, _, rfl, ?_⟩⟩
  refine ⟨_, rfl, sl, rfl, ⟨_, SqL.of upd_same⟩, for_list (xs := ivs ms) (fun i σ' H' => (∃ f b e, σ' = [some (.ref a), some (.int (k : Int)), some (.ref sl), some (.int f), b, e] ∧ 0 ≤ f) ∧ H' = upd H sl (.lst (ivs ms))) ⟨⟨_, _, _, rfl, by decide⟩, rfl⟩ (fun i σ' H' _ g => by rw [g.2]; exact SqL.of upd_same) (fun i x σ' H' hx g => ?_) (fun σ' H' g => ?_)⟩
  · obtain ⟨⟨f, b, e, rfl, hf⟩, rfl⟩ := g
    rw [List.getElem?_map] at hx
    obtain ⟨z, hz, rfl⟩ := Option.map_eq_some_iff.mp hx
    exact ⟨_, rfl, _, _, rfl, rfl, .inr ⟨by decide, by decide⟩, _, rfl, _, _, rfl, rfl, _, _, rfl, rfl, (by show (0 : Int) < 45671919084464375650470121801725774452702282179; decide), ⟨_, _, _, rfl, Int.emod_nonneg _ (by decide)⟩, rfl⟩
  · obtain ⟨⟨f, b, e, rfl, hf⟩, rfl⟩ := g
    have cpow : CPow 10 18 := ⟨by decide, by decide, by decide⟩
    have fin : ∀ (z : Int) (el : Addr), 0 ≤ z → (upd H sl (.lst (ivs ms))) el = none → ∀ dd, (upd (upd H sl (.lst (ivs ms))) el (.lst [])) dd = none →
        ∃ kvs : List (Key × V), [(V.str "left", V.int z), (V.str "cell", V.int f), (V.str "at", V.int (60 * (k : Int)))] = kvs.map (fun kv => (kV kv.1, kv.2)) ∧ kvs.length ≤ 15 ∧ Q (.ref dd) (upd (upd (upd (upd H sl (.lst (ivs ms))) el (.lst [])) dd (.dK [])) dd (.dK (mergeK [] kvs))) := fun z el hz hel dd hdd => by
      refine ⟨drawL z f (60 * (k : Int)), rfl, by show 3 ≤ 15; decide, ?_⟩
      have e1 : Same H (upd (upd H sl (.lst (ivs ms))) el (.lst [])) := (Same.new hs).trans (Same.new hel)
      rw [merge_draw, upd_upd]
      exact q dd _ (e1.free hdd) (e1.trans (Same.new hdd)) ⟨z, f, 60 * (k : Int), upd_same, hz, hf, by omega, by omega⟩
    refine ⟨_, rfl, Nat.zero_le _, fun el hel => ?_⟩
    have s2 : SqL K (upd (upd H sl (.lst (ivs ms))) el (.lst [])) sl (ivs ms) := SqL.of ((Same.new hel) _ _ upd_same)
    refine ⟨.list (ms.map PyData.int), .list [], .lst s2 (dp_ints ms), .lst (SqL.of upd_same) .nil, shaped_ints ms, by decide, _, rfl, ?_⟩
    cases ms with
    | nil =>
      refine iteBF rfl (iteF ?_)
      intro dd hdd
      exact ⟨_, rfl, _, rfl, _, rfl, _, _, rfl, rfl, .inl ⟨by decide, by decide⟩, upd_same, fin 0 el (by decide) hel dd hdd⟩
    | cons z zs =>
      refine iteBT rfl ?_
      refine ⟨_, rfl, _, _, _, _, rfl, rfl, s2, atI_nat (j := 0) rfl, _, _, rfl, rfl, cpow, _, _, rfl, rfl, _, rfl, ?_⟩
      by_cases hz : (10 : Int) ^ (18 : Int).toNat ≤ z
      · refine iteDT hz ?_
        have hz0 : 0 ≤ z := Int.le_trans (by decide) hz
        refine ⟨_, rfl, _, _, _, _, rfl, rfl, s2, atI_nat (j := 0) rfl, ?_⟩
        intro dd hdd
        exact ⟨_, rfl, _, rfl, _, rfl, _, _, rfl, rfl, .inl ⟨by decide, by decide⟩, upd_same, fin z el hz0 hel dd hdd⟩
      · refine iteDF hz ?_
        intro dd hdd
        exact ⟨_, rfl, _, rfl, _, rfl, _, _, rfl, rfl, .inl ⟨by decide, by decide⟩, upd_same, fin 0 el (by decide) hel dd hdd⟩
end
end Mi
/-! Walks 9: rows, windows, gaps as the law tells them. -/
namespace Mi
open PySem PySem.Spec PyProof.Rows L2 SX
theorem upd_none {H : Hp} {p q : Addr} {o : HO} (h : (upd H p o) q = none) : H q = none := by
  by_cases e : q = p
  · subst e; rw [upd_same] at h; cases h
  · rw [upd_ne e] at h; exact h
theorem abc_at {n : Int} (h0 : 0 ≤ n) (h1 : n < 26) : atI ABC.cps.toList n = some (97 + n.toNat) := by
  have h := atI_nat (xs := ABC.cps.toList) (j := n.toNat) (v := 97 + n.toNat) (by
    rw [abc_list, List.getElem?_range' (by omega)]
    simp)
  have e : ((n.toNat : Nat) : Int) = n := by omega
  rw [e] at h
  exact h
theorem abcL_tk (s t w : Nat) : abcL s t (w + 1) = abcL s t w ++ [tx [97 + (s + t * w) % 26]] := by
  unfold abcL
  rw [List.range_succ, List.map_append]; rfl
theorem index_first {l : List Nat} {c i : Nat} (h1 : l[i]? = some c) (h2 : ∀ k, k < i → l[k]? ≠ some c) : Txt.index0 (S l) (S [c]) = some i := by
  obtain ⟨j, r, e, j1, j2⟩ := index_sign (List.mem_of_getElem? h1)
  have : j = i := by
    rcases Nat.lt_trichotomy j i with h | h | h
    · exact absurd j1 (h2 j h)
    · exact h
    · exact absurd h1 (j2 i h)
  subst this
  unfold Txt.index0
  rw [e]; rfl
theorem first_of {l : List Nat} {c : Nat} (h : c ∈ l) : ∃ i : Nat, l[i]? = some c ∧ ∀ k, k < i → l[k]? ≠ some c := by
  obtain ⟨j, r, e, j1, j2⟩ := index_sign h
  exact ⟨j, j1, j2⟩
section
variable {P : Program} {w : World} {K : PySem.W.Frag} {mg : Str → Option Value} {base : Heap}
theorem c_law_letters (X : Fx K mg) : C8.Cal P w K mg base 3 "_law_letters" sp_law_letters [] := by
  have nd : (["_law_draw", "_law_wide", "_law_start", "_law_stride", "_law_k"] : List Str).Nodup := by decide +kernel
  refine mkCal X.d_law_letters X.g_law_letters (N := ["_law_draw", "_law_wide", "_law_start", "_law_stride", "_law_k"]) (ps := ["_law_draw", "_law_wide"]) (k := 2) (C8.fnScope_by (by decide +kernel)) (fun vs H Q E h => ?_) (fun _ _ _ _ _ _ us hl => match us, hl with | [_, _], _ => rfl) (fun cdv A outer s H vs Q E hr h => ?_)
  · obtain ⟨d, wd, m, rfl, _⟩ := h; rfl
  obtain ⟨d, wd, m, rfl, hw, hD, hm, q⟩ := h
  refine ⟨_, (pss_cons (ps_asg (pe_tup (pa2 (C8.pe_c (c_law_take X) hr (by decide) rfl (pa2 (pv 0) pe_int)) (C8.pe_c (c_law_of X) hr (by decide) rfl (pa2 (pv 0) (pe_lst (pa_cons pe_int (pa_cons pe_int (pa_cons pe_int (pa_cons pe_int (pa_cons pe_int (pa_cons pe_int pa_nil))))))))))) (pg_tup (n := 2) rfl (pgs_cons (pg_name (i := 2) nd rfl (.inr rfl)) (pgs_cons (pg_name (i := 3) nd rfl (.inr rfl)) pgs_nil))))
  (pss_one (ps_ret (pe_lc (own := [("_law_k", 4)]) rfl nd (pi_range1 rfl X.f_range (pa1 (pv 1))) (blkOk_by (N := ["_law_draw", "_law_wide", "_law_start", "_law_stride", "_law_k"]) (sc := d_law_letters.scope) (by decide +kernel)) (fun _ _ _ _ _ => (pg_name (i := 4) nd rfl (.inl rfl) (.inr rfl))) (fun _ _ _ _ _ => pts_nil) (fun _ _ _ _ _ => (pe_ix ix_str pe_str (pe_op op_mod (pe_op op_add (pv 2) (pe_op op_mul (pv 3) (pv 4))) pe_int) (fun _ _ => rfl))))))), ?_⟩
  refine ⟨_, rfl, d, 26, m, rfl, by decide, by decide, hD, by omega, fun n H1 h0 h1 b1 D1 => ?_⟩
  refine ⟨_, rfl, sz (by decide), fun pl hpl => ?_⟩
  have npl : pl ≠ d := D1.ne hpl
  refine ⟨d, pl, _, m + 1, rfl, SqL.of upd_same, npl, by simp, by decide, D1.same (Same.new hpl), by omega, fun x H2 hx b2 D2 => ?_⟩
  obtain ⟨t, ht1, ht2, rfl⟩ : ∃ t : Nat, 1 ≤ t ∧ t ≤ 11 ∧ x = V.int (t : Int) := by
    simp only [List.mem_cons, List.not_mem_nil, or_false] at hx
    rcases hx with rfl | rfl | rfl | rfl | rfl | rfl
    · exact ⟨1, by decide, by decide, rfl⟩
    · exact ⟨3, by decide, by decide, rfl⟩
    · exact ⟨5, by decide, by decide, rfl⟩
    · exact ⟨7, by decide, by decide, rfl⟩
    · exact ⟨9, by decide, by decide, rfl⟩
    · exact ⟨11, by decide, by decide, rfl⟩
  have b3 : Bst d H H2 := (b1.trans (Same.new hpl).bst).trans b2
  refine ⟨by show 2 ≤ sizeLine; decide, fun tt htt => ?_⟩
  have b4 := b3.trans (Same.new (o := .tup [V.int n, V.int (t : Int)]) htt).bst
  have D4 := D2.same (Same.new (o := .tup [V.int n, V.int (t : Int)]) htt)
  refine ⟨tt, _, rfl, SqT.of upd_same, rfl, _, _, rfl, _, _, rfl, rfl, ?_⟩
  refine ⟨_, rfl, (wd : Int), rfl, by omega, by omega, fun D hDn => ?_⟩
  have nD : D ≠ d := D4.ne hDn
  refine lc_range (lo := 0) (n := wd) (fun i H' => H' D = some (.lst (abcL n.toNat t i)) ∧ Same (upd H2 tt (.tup [V.int n, V.int (t : Int)])) H') ⟨by rw [upd_same]; rfl, Same.new hDn⟩ (fun i H' hi g => ?_) (fun H' g => ?_)
  · refine ⟨rfl, yes (iteT ?_)⟩
    have e0 : (n + (t : Int) * (0 + (i : Int))) % 26 = (((n.toNat + t * i) % 26 : Nat) : Int) := by
      have e1 : n = (n.toNat : Int) := by omega
      rw [e1, Int.zero_add]
      simp
    have hlt : (n.toNat + t * i) % 26 < 26 := Nat.mod_lt _ (by decide)
    refine ⟨_, rfl, _, rfl, _, rfl, _, _, rfl, rfl, .inl ⟨by omega, by omega⟩, _, _, rfl, rfl, _, _, rfl, rfl, (by show (0 : Int) < 26; decide), ABC, _, 97 + (n.toNat + t * i) % 26, rfl, rfl, by decide +kernel, ?_, _, g.1, ?_, ?_, g.2.mut hDn⟩
    · have := abc_at (n := (((n.toNat + t * i) % 26 : Nat) : Int)) (by omega) (by omega)
      rw [← e0] at this
      exact this.trans (by rw [e0]; rfl)
    · refine szl ?_
      unfold abcL
      rw [List.length_map, List.length_range]; omega
    · rw [upd_same, abcL_tk]
  · have b5 := b4.trans g.2.bst
    exact q D H' n.toNat t (by omega) ht1 ht2 (b4.free nD hDn) b5 (D4.same g.2) g.1
theorem c_law_row (X : Fx K mg) : C8.Cal P w K mg base 3 "_law_row" (sp_law_row K) [] := by
  have nd : (["_law_draw", "_law_some", "_law_wide", "_law_found", "_law_k"] : List Str).Nodup := by decide +kernel
  refine mkCal X.d_law_row X.g_law_row (N := ["_law_draw", "_law_some", "_law_wide", "_law_found", "_law_k"]) (ps := ["_law_draw", "_law_some", "_law_wide"]) (k := 2) (C8.fnScope_by (by decide +kernel)) (fun vs H Q E h => ?_) (fun _ _ _ _ _ _ us hl => match us, hl with | [_, _, _], _ => rfl) (fun cdv A outer s H vs Q E hr h => ?_)
  · obtain ⟨d, a, ls, wd, m, rfl, _⟩ := h; rfl
  obtain ⟨d, a, ls, wd, m, rfl, hS, na, hls, hne, hl5, hw, hD, hm, q⟩ := h
  refine ⟨_, (pss_cons (ps_set (i := 3) nd rfl (.inl rfl) pe_str)
  (pss_cons (ps_for PassesOwn.never rfl (pi_range1 rfl X.f_range (pa1 (pv 2))) (pg_name (i := 4) nd rfl (.inl rfl))
    (pss_one (ps_if (pt_cmpR op_lt (pe_callB call_len_str rfl X.f_len boot_len (pa1 (pv 3))) (pv 2) (nomark _))
      (pss_one (ps_set (i := 3) nd rfl (.inl rfl) (pe_op op_add_str (pv 3) (pe_op op_times (C8.pe_c (c_law_of X) hr (by decide) rfl (pa2 (pv 0) (pv 1))) (C8.pe_c (c_law_of X) hr (by decide) rfl (pa2 (pv 0) (pe_lst (pa_cons pe_int (pa_cons pe_int (pa_cons pe_int (pa_cons pe_int (pa_cons pe_int (pa_cons pe_int pa_nil))))))))))))) pss_nil)))
  (pss_one (ps_ret (pe_slice C8.sl_txt (pv 3) po_none (po_some (pv 2))))))), ?_⟩
  rw [empty_S]
  refine ⟨_, rfl, (wd : Int), rfl, by omega, by omega, for_range (lo := 0) (n := wd) (fun i σ' H' => (∃ f b, σ' = [some (.ref d), some (.ref a), some (.int (wd : Int)), some (tx f), b] ∧ Lets f ∧ f.length ≤ wd + 3) ∧ Bst d H H' ∧ Drw H' d (m + 2 * i)) ⟨⟨[], _, rfl, fun c hc => by simp at hc, by simp⟩, Bst.refl d H, hD⟩ (fun i σ' H' hi g => ?_) (fun σ' H' g => ?_)⟩
  · obtain ⟨⟨f, b, rfl, hf, hlen⟩, g1, g2⟩ := g
    refine ⟨_, rfl, _, rfl, szS (by omega), _, rfl, _, _, rfl, rfl, _, rfl, ?_⟩
    by_cases c0 : f.length < wd
    · refine iteDT (by rw [S_len]; omega) ?_
      refine ⟨_, rfl, _, rfl, _, rfl, d, a, _, m + 2 * i, rfl, g1.seq na hS, na, by simpa using hne, by rw [List.length_map]; omega, g2, by omega, fun x H2 hx b2 D2 => ?_⟩
      obtain ⟨c, hc, rfl⟩ := List.mem_map.mp hx
      refine ⟨_, rfl, sz (by decide), fun pl hpl => ?_⟩
      have npl : pl ≠ d := D2.ne hpl
      refine ⟨d, pl, _, m + 2 * i + 1, rfl, SqL.of upd_same, npl, by simp, by decide, D2.same (Same.new hpl), by omega, fun y H3 hy b3 D3 => ?_⟩
      obtain ⟨n, hn, rfl⟩ : ∃ n : Nat, n ≤ 3 ∧ y = V.int (n : Int) := by
        simp only [List.mem_cons, List.not_mem_nil, or_false] at hy
        rcases hy with rfl | rfl | rfl | rfl | rfl | rfl
        · exact ⟨1, by decide, rfl⟩
        · exact ⟨1, by decide, rfl⟩
        · exact ⟨1, by decide, rfl⟩
        · exact ⟨1, by decide, rfl⟩
        · exact ⟨2, by decide, rfl⟩
        · exact ⟨3, by decide, rfl⟩
      have hr3 : (repN [c] n).length ≤ 3 := by rw [len_repN]; simp; exact hn
      refine ⟨[c], n, rfl, rfl, by show 1 ≤ 1000; decide, by omega, _, _, rfl, rfl, sz (by rw [S_len, S_len]; omega), ?_⟩
      rw [S_cat]
      refine ⟨⟨f ++ repN [c] n, _, rfl, fun z hz => ?_, by rw [List.length_append]; omega⟩, ((g1.trans b2).trans (Same.new hpl).bst).trans b3, D3⟩
      rcases List.mem_append.mp hz with hz | hz
      · exact hf z hz
      · rw [mem_repN hz]; exact hls c hc
    · refine iteDF (by rw [S_len]; omega) ?_
      exact ⟨⟨f, _, rfl, hf, hlen⟩, g1, g2.mono (by omega)⟩
  · obtain ⟨⟨f, b, rfl, hf, hlen⟩, g1, g2⟩ := g
    refine ⟨_, rfl, _, rfl, _, rfl, _, rfl, szS (by omega), ?_⟩
    rw [to_S (k := wd) rfl]
    exact q _ H' ⟨hf.take wd, by rw [List.length_take]; omega⟩ g1 (g2.mono (by omega))
theorem c_law_seen (X : Fx K mg) : C8.Cal P w K mg base 4 "_law_seen" (sp_law_seen K) [] := by
  have nd : (["_law_draw", "_law_row_here", "_law_lens_here", "_law_most", "_law_many", "_law_size", "_law_start"] : List Str).Nodup := by decide +kernel
  refine mkCal X.d_law_seen X.g_law_seen (N := ["_law_draw", "_law_row_here", "_law_lens_here", "_law_most", "_law_many", "_law_size", "_law_start"]) (ps := ["_law_draw", "_law_row_here", "_law_lens_here", "_law_most"]) (k := 3) (C8.fnScope_by (by decide +kernel)) (fun vs H Q E h => ?_) (fun _ _ _ _ _ _ us hl => match us, hl with | [_, _, _, _], _ => rfl) (fun cdv A outer s H vs Q E hr h => ?_)
  · obtain ⟨d, a, p, m, rfl, _⟩ := h; rfl
  obtain ⟨d, a, p, m, rfl, hp, hS, na, hD, hm, q⟩ := h
  have hLn := L_nonneg p
  have hml : (M p).length = (L p).toNat := len_M' p
  refine ⟨_, (pss_cons (ps_par (i := 4) (j := 5) rfl nd rfl rfl (by decide) rfl rfl (pa2 (pe_ix ix_list (pv 2) (pe_un un_neg pe_int) (fun _ _ => rfl)) (C8.pe_c (c_law_take X) hr (by decide) rfl (pa2 (pv 0) (pe_op op_add (pe_callB (call_min2 rfl) rfl X.f_min (by decide +kernel) (pa2 (pv 3) (pe_ix ix_list (pv 2) (pe_un un_neg pe_int) (fun _ _ => rfl)))) pe_int)))) (by rfl))
  (pss_cons (ps_set (i := 6) nd rfl (.inl rfl) (C8.pe_c (c_law_of X) hr (by decide) rfl (pa2 (pv 0) (pe_lst (pa_cons (C8.pe_c (c_law_far X) hr (by decide) rfl (pa2 (pv 0) (pe_op op_sub (pv 4) (pv 5)))) (pa_cons pe_int (pa_cons (pe_op op_sub (pv 4) (pv 5)) (pa_cons (pe_op op_fdiv (pe_op op_sub (pv 4) (pv 5)) pe_int) pa_nil))))))))
  (pss_one (ps_ret (C8.pe_c (c_window X) hr (by decide) rfl (pa3 (pv 1) (pv 6) (pv 5))))))), ?_⟩
  refine ⟨_, rfl, _, rfl, _, _, _, _, rfl, rfl, hS, lens_end p, ?_⟩
  refine ⟨_, rfl, _, rfl, _, rfl, _, rfl, _, _, _, _, rfl, rfl, hS, lens_end p, _, _, rfl, _, _, rfl, rfl, ?_⟩
  refine ⟨d, _, m, rfl, ?_, ?_, hD, by omega, fun n H1 h0 h1 b1 D1 => ⟨_, _, rfl, ?_⟩⟩
  · show 1 ≤ (if L p < 40 then L p else 40) + 1
    split <;> omega
  · show (if L p < 40 then L p else 40) + 1 ≤ 1000000000
    split <;> omega
  have hn : n ≤ 40 ∧ n ≤ L p := by
    have h1 : n < (if L p < 40 then L p else 40) + 1 := h1
    split at h1 <;> omega
  refine ⟨_, rfl, _, rfl, _, rfl, _, rfl, _, _, rfl, rfl, d, _, m + 1, rfl, by omega, D1, by omega, fun f H2 f0 f1 b2 D2 => ?_⟩
  refine ⟨_, rfl, _, rfl, _, _, rfl, rfl, _, rfl, _, rfl, _, _, rfl, rfl, _, _, rfl, rfl, ⟨by decide, by decide⟩, ?_⟩
  refine ⟨sz (by show 4 ≤ 100000; decide), fun pl hpl => ?_⟩
  have npl : pl ≠ d := D2.ne hpl
  refine ⟨d, pl, _, m + 9, rfl, SqL.of upd_same, npl, by simp, by show 4 ≤ 1000; decide, (D2.mono (by omega)).same (Same.new hpl), by omega, fun x H3 hx b3 D3 => ?_⟩
  obtain ⟨st, hs0, hs1, rfl⟩ : ∃ st : Int, 0 ≤ st ∧ st ≤ L p - n ∧ x = V.int st := by
    simp only [List.mem_cons, List.not_mem_nil, or_false] at hx
    rcases hx with rfl | rfl | rfl | rfl
    · exact ⟨_, f0, f1, rfl⟩
    · exact ⟨0, by decide, by omega, rfl⟩
    · exact ⟨_, by omega, Int.le_refl _, rfl⟩
    · exact ⟨_, by omega, by omega, rfl⟩
  refine ⟨_, rfl, _, rfl, _, rfl, p, st, n, rfl, hp, hs0, h0, by omega, by omega, fun H4 e4 => ?_⟩
  exact q st.toNat n.toNat H4 (by omega) (by omega) ((((b1.trans b2).trans (Same.new hpl).bst).trans b3).trans e4.bst) (D3.same e4)
theorem c_law_due (X : Fx K mg) : C8.Cal P w K mg base 2 "_law_due" (sp_law_due K) [] := by
  have nd : (["_law_row_here", "_law_own", "_law_lens_here", "_law_rest", "_law_found", "_law_sign", "_law_step"] : List Str).Nodup := by decide +kernel
  refine mkCal X.d_law_due X.g_law_due (N := ["_law_row_here", "_law_own", "_law_lens_here", "_law_rest", "_law_found", "_law_sign", "_law_step"]) (ps := ["_law_row_here", "_law_own", "_law_lens_here"]) (k := 1) (C8.fnScope_by (by decide +kernel)) (fun vs H Q E h => ?_) (fun _ _ _ _ _ _ us hl => match us, hl with | [_, _, _], _ => rfl) (fun cdv A outer s H vs Q E hr h => ?_)
  · obtain ⟨p, k, a, rfl, _⟩ := h; rfl
  obtain ⟨p, k, a, rfl, hp, hk, hS, q⟩ := h
  have hu := hu_of hr
  have hz := hp.2
  refine ⟨_, (pss_cons (ps_par (i := 3) (j := 4) rfl nd rfl rfl (by decide) rfl rfl (pa2 (pe_slice C8.sl_txt (pv 0) (po_some (pv 1)) po_none) pe_dnewK) (by rfl))
  (pss_cons (ps_for PassesOwn.never rfl (pi_list (pe_callB (cr_sortT rfl) rfl X.f_sorted (by decide +kernel) (pa1 (pe_callTy (cr_setT rfl) rfl X.f_set (by decide +kernel) (pa1 (pv 3)))))) (pg_name (i := 5) nd rfl (.inl rfl))
    (pss_cons (ps_set (i := 6) nd rfl (.inl rfl) (pe_op op_sub (pe_ix ix_list (C8.pe_c (c_law_lens X) hr (by decide) rfl (pa1 (pe_op op_add_str (pe_slice C8.sl_txt (pv 0) po_none (po_some (pv 1))) (pv 5)))) (pe_un un_neg pe_int) (fun _ _ => rfl)) (pe_ix ix_list (pv 2) (pv 1) (fun _ _ => rfl))))
    (pss_one (ps_dput hu (pv 4) (pv 6) (pe_op op_add (pe_op op_add (pe_dget2 hu (pv 4) (pv 6) pe_int ⟨rfl, rfl, rfl, rfl⟩) (pe_ix ix_list (C8.pe_c (c_law_lens X) hr (by decide) rfl (pa1 (pe_slice C8.sl_txt (pv 3) (po_some (pe_op op_add (pe_bmS PySem.F.plainAttrs_str PySem.F.slot_str_index PySem.F.type_str_index (mt_indexX rfl takes0) (pv 3) (pa1 (pv 5))) pe_int)) po_none))) (pe_un un_neg pe_int) (fun _ _ => rfl))) pe_int) rfl))))
  (pss_one (ps_ret (pe_callTy (call_dictP rfl) rfl X.f_dict (by decide +kernel) (pa1 (pe_callB (cr_sortItems rfl) rfl X.f_sorted (by decide +kernel) (pa1 (pe_itemsV (pv 4)))))))))), ?_⟩
  refine ⟨_, rfl, _, rfl, _, rfl, _, rfl, szS (by omega), fun d hd => ⟨_, _, rfl, ?_⟩⟩
  rw [from_S (k := k) rfl]
  have e1 : Same H (upd H d (.dK [])) := Same.new hd
  refine ⟨_, rfl, p.drop k, rfl, by rw [List.length_drop]; omega, fun s hs => ?_⟩
  refine ⟨s, p.drop k, rfl, upd_same, fun ys t y1 y2 ht => ⟨t, rfl, ⟨_, SqL.of upd_same⟩, ?_⟩⟩
  have e3 : Same H (upd (upd (upd H d (.dK [])) s (SetO' _ s (p.drop k))) t (.lst (ys.map fun c => V.str (S [c])))) := (e1.trans (Same.new hs)).trans (Same.new ht)
  have nsd : s ≠ d := (ne_of_none upd_same hs).symm
  have ntd : t ≠ d := (ne_of_none (by rw [upd_ne nsd.symm]; exact upd_same) ht).symm
  have hyl := few_letters (hp.1.drop k) y1 y2
  refine for_list (xs := ys.map fun c => V.str (S [c])) (fun i σ' H' => (∃ b c, σ' = [some (tx p), some (.int (k : Int)), some (.ref a), some (tx (p.drop k)), some (.ref d), b, c]) ∧ H' t = some (.lst (ys.map fun c => V.str (S [c]))) ∧ H' d = some (.dK (kvI (gapG (p.take k).reverse (p.drop k).reverse [] (ys.take i)))) ∧ Same H H')
    ⟨⟨_, _, rfl⟩, upd_same, by rw [upd_ne ntd.symm, upd_ne nsd.symm, upd_same]; rfl, e3⟩ (fun i σ' H' _ g => SqL.of g.2.1) (fun i x σ' H' hx g => ?_) (fun σ' H' g => ?_)
  · obtain ⟨⟨b, c, rfl⟩, g1, g2, g3⟩ := g
    rw [List.getElem?_map] at hx
    obtain ⟨y, hy, rfl⟩ := Option.map_eq_some_iff.mp hx
    have hym : y ∈ p.drop k := (y2 y).mp (List.mem_of_getElem? hy)
    obtain ⟨j, hj1, hj2⟩ := first_of hym
    have ecut : Txt.slice (S p) none (some (k : Int)) = S (p.take k) := V.str.inj (to_S (k := k) rfl)
    refine ⟨_, rfl, _, rfl, _, rfl, _, rfl, szS (by omega), _, rfl, _, _, rfl, rfl, sz (by rw [ecut, S_len, S_len, List.length_take, List.length_singleton]; omega), p.take k ++ [y], by rw [ecut, S_cat]; rfl, by rw [List.length_append, List.length_take, List.length_singleton]; omega, fun f H1 hf e4 he => ?_⟩
    refine ⟨_, rfl, _, _, _, _, rfl, rfl, SqL.of he, lens_end _, _, rfl, _, rfl, _, _, _, _, rfl, rfl, (g3.trans e4).seq hS, atI_nat (lens_ix hk), _, _, rfl, rfl, ?_⟩
    rw [show (fun (i j : Int) => V.int (i - j)) (L (p.take k ++ [y])) (L (p.take k)) = V.int (Bk (p.take k).reverse y) by rw [Bk_snoc]]
    have hd1 := e4 _ _ g2
    have e5 := g3.trans e4
    refine ⟨_, rfl, d, rfl, .inl ⟨_, .inl hd1⟩, _, rfl, _, DGet.k (k := .inl (Bk (p.take k).reverse y)) hd1, ?_⟩
    rw [getD_kvI]
    refine ⟨_, rfl, _, rfl, rfl, _, rfl, _, _, rfl, rfl, fun k2 hk2 => ?_, fun hn => ?_⟩
    · rw [index_first hj1 hj2] at hk2
      cases hk2
      refine ⟨_, _, rfl, rfl, _, rfl, _, rfl, szS (by rw [List.length_drop]; omega), (p.drop k).drop (j + 1), by rw [from_S (n := (j : Int) + 1) (k := j + 1) (by omega)]; rfl, by rw [List.length_drop, List.length_drop]; omega, fun f2 H2 hf2 e6 he2 => ?_⟩
      have hd2 := e6 _ _ hd1
      refine ⟨_, rfl, _, _, _, _, rfl, rfl, SqL.of he2, lens_end _, _, _, rfl, rfl, _, _, rfl, rfl, ?_⟩
      have hsz : (kvI (gapG (p.take k).reverse (p.drop k).reverse [] (ys.take i))).length < sizeLine := szl (by
        have := gapG_len (p.take k).reverse (p.drop k).reverse (ys.take i)
        rw [List.length_take] at this
        show (List.map _ _).length < _
        rw [List.length_map]; omega)
      refine ⟨_, rfl, _, rfl, d, _, rfl, DPut.k (k := .inl (Bk (p.take k).reverse y)) hd2 hsz, ?_⟩
      refine ⟨⟨_, _, rfl⟩, by rw [upd_ne ntd]; exact e6 _ _ (e4 _ _ g1), ?_, (e5.trans e6).mut hd⟩
      rw [upd_same, ← gap_put _ _ hy, cnt_first hj1 hj2]
      have ea : ∀ u v : Int, u + v + 1 = u + (v + 1) := fun u v => by omega
      show some (HO.dK (putK _ _ (V.int (_ + _ + 1)))) = _
      rw [ea]
    · rw [index_first hj1 hj2] at hn
      cases hn
  · obtain ⟨⟨b, c, rfl⟩, g1, g2, g3⟩ := g
    rw [List.length_map, List.take_of_length_le (Nat.le_refl _)] at g2
    exact gaps_end (i := 4) rfl g2 (gapG_nd _ _ _) fun out r H5 h1 h2 h3 h4 h5 => q out ⟨ys, y1, y2, h1, h2⟩ r H5 (g3.free h3) (g3.trans h4) h5
end
end Mi
/-! Walks 10: the law's look at a piece. -/
namespace Mi
open PySem PySem.Spec PyProof.Rows L2 SX
structure CalG (P : Program) (w : World) (K : PySem.W.Frag) (mg : Str → Option Value) (base : Heap) (k : Nat) (x : Str) (sp : Sp) : Prop where
  ex : ∃ (f : Addr) (fd : FuncData) (ps : List Str), FnOkG P w K mg base C8.CX0 k f fd ps sp ∧ mg x = some (.ref f) ∧ PySem.W.keepIn K (.ref f) = true ∧ Binds K fd ps []
theorem pe_g {X : Cx} {k j : Nat} {x : Str} {sp : Sp} {p pos : Pos} {e : Expr} {es : List Expr} {t : TA} (c : CalG X.prog X.w X.K X.mg X.base k x sp) (hgd : X.A.guards = some []) (hr : Room j X.A) (hk : k ≤ j) (hg : Gl X x) (ha : PA X (e :: es) t)
    (hdb : (x == ("__debug__" : Str)) = false := by decide) (he : starEach (e :: es) X.env = (false, eval e X.env) :: starEach es X.env := by rfl) (hpl : (backTo pos (starEach es X.env)).any (·.1) = false := by rfl) :
    PE X (.Call (.Name x p) (e :: es) [] pos) (tCall sp [] C8.E0 t) := by
  obtain ⟨f, fd, ps, F, hm, kp, b⟩ := c.ex
  exact pe_callG F hgd (hr.mono hk) hg hm kp b C8.pass0 ha hdb he hpl
theorem mkCalG {P : Program} {w : World} {K : PySem.W.Frag} {mg : Str → Option Value} {base : Heap} {x : Str} {params : Arguments} {body : List Stmt} {scope : Scope} {f : Addr} {N ps : List Str} {k : Nat} {sp : Sp} (F : ∃ fd, FunD K x x params body scope [] [] f fd) (gm : mg x = some (.ref f)) (S : FnScope N ps scope)
    (len : ∀ vs H Q E, sp vs H Q E → vs.length = ps.length)
    (hb : ∀ (kV doc pm : Value) (an : Option Addr) (cdv ct : Value) (us : List Value), us.length = ps.length → bindArgs (PySem.W.fnOf x x params body scope .none kV doc pm an cdv ct) ⟨us, []⟩ = pure (ps.zip us))
    (hbody : ∀ (cdv : Value) (A : Around) (outer : List Env) (s : Shared) (H : Hp) (vs : List V) (Q : VK) (E : XK), A.guards = some [] → Room k (A.deeper (envOfC x scope s.heap.objs.size f cdv)) → sp vs H Q E →
      ∃ t, PSs (cxOf C8.CX0 P w K mg base N x scope f cdv A outer s H E).nox body t ∧ t { nx := fun _ H' => Q .non H', rt := Q } (start N vs) H) : CalG P w K mg base (k + 1) x sp := by
  obtain ⟨fd, F⟩ := F
  refine ⟨f, fd, ps, okG F S len (fun cdv A outer s H vs Q E hg hr h => ?_), gm, F.kp, F.bindsN hb⟩
  obtain ⟨t, a, b⟩ := hbody cdv A outer s H vs Q E hg hr h
  exact ⟨t, a.nox, b⟩
theorem iteNT {c A B : Prop} [Decidable c] (hc : ¬ c) (h : A) : if (!decide c) = true then A else B := by
  rw [decide_eq_false hc]
  exact iteT h
theorem ite_to {b : Bool} {A B : Prop} (h1 : b = true → B → A) (h2 : B) : if b = true then A else B := by
  cases b with
  | false => exact iteF h2
  | true => exact iteT (h1 rfl h2)
theorem isSome_kvI (k : Int) (g : List (Int × Int)) : (valV (kvI g) (Sum.inl k)).isSome = decide (k ∈ g.map (·.1)) := by rw [← valV_any, any_kvI]
theorem smallI_of {i : Int} (h0 : 0 ≤ i) (h1 : i < 2 ^ 201) : SmallI i := by
  unfold SmallI
  by_cases e : i.natAbs = 0
  · rw [e]; decide
  · refine Nat.lt_of_lt_of_le (m := 201) ((Nat.log2_lt e).mpr ?_) (by decide)
    have : (i.natAbs : Int) < ((2 ^ 201 : Nat) : Int) := by
      have e2 : (i.natAbs : Int) = i := by omega
      rw [e2]
      exact h1
    omega
theorem GapsOf.few {p : List Nat} {K : Nat} {out : List (Int × Int)} (h : GapsOf p K out) (hl : Lets p) : out.length ≤ 26 := by
  obtain ⟨ys, y1, y2, y3, y4⟩ := id h
  have := h.len (nodup_lt y1) y2
  have := few_letters (hl.drop K) y1 y2
  omega
theorem GapsOf.smallI {p : List Nat} {K : Nat} {out : List (Int × Int)} (h : GapsOf p K out) (hp : p.length ≤ 200) : ∀ q ∈ out, SmallI q.1 ∧ SmallI q.2 := fun q hq =>
  ⟨smallI_of (h.small hp q hq).1.1 (h.small hp q hq).1.2, smallI_of (h.small hp q hq).2.1 (h.small hp q hq).2.2⟩
theorem strOk_letter {c : Nat} (h : c ≤ 122) : PyData.strOk (S [c]) = true := by
  unfold PyData.strOk
  rw [← Array.all_toList]
  show [c].all _ = true
  simp
  omega
theorem shaped_strs {fs : List Nat} (h : ∀ c ∈ fs, c ≤ 122) : SeqAt.shaped (.list (fs.map fun c => PyData.str (S [c]))) = true := by
  have h1 : PyData.canLayAll0 (fs.map fun c => PyData.str (S [c])) = true := by
    induction fs with
    | nil => rfl
    | cons n ns ih =>
      have ih := ih fun c hc => h c (List.mem_cons_of_mem _ hc)
      rw [List.map_cons]
      simp only [PyData.canLayAll0, PyData.canLay0, ih, strOk_letter (h n List.mem_cons_self), Bool.and_self]
  have h2 : ∀ fs : List Nat, PyData.depthAll (fs.map fun c => PyData.str (S [c])) = 0 := by
    intro fs
    induction fs with
    | nil => rfl
    | cons n ns ih => rw [List.map_cons]; simp only [PyData.depthAll, PyData.depth, ih, Nat.max_self]
  unfold SeqAt.shaped
  simp only [PyData.canLay0, PyData.depth, h1, h2, Bool.true_and, decide_eq_true_eq]
  decide
theorem dp_strs {K : PySem.W.Frag} {H : Hp} : ∀ fs : List Nat, DpAll K H (fs.map fun c => tx [c]) (fs.map fun c => PyData.str (S [c]))
  | [] => .nil
  | n :: ns => .cons (.str _) (dp_strs ns)
theorem inV_mem {y : Nat} {fs : List Nat} (h : inV (tx [y]) (fs.map fun c => tx [c]) = true) : y ∈ fs := by
  unfold inV at h
  rw [List.any_eq_true] at h
  obtain ⟨v, hv, e⟩ := h
  obtain ⟨c, hc, rfl⟩ := List.mem_map.mp hv
  have e : (S [c] == S [y]) = true := e
  rw [S_beq_eq, decide_eq_true_eq] at e
  have : c = y := by simpa using e
  rw [← this]; exact hc
theorem flat_strs (fs : List Nat) : (fs.map fun c => tx [c]).all flatV = true := by
  rw [List.all_eq_true]
  intro v hv
  obtain ⟨c, hc, rfl⟩ := List.mem_map.mp hv
  rfl
section
variable {P : Program} {w : World} {K : PySem.W.Frag} {mg : Str → Option Value} {base : Heap}
theorem c_law_right (X : Fx K mg) : CalG P w K mg base 10 "_law_right" (sp_law_right K) := by
  have nd : (["_law_draw", "_law_row_here", "_law_lens_here", "_law_bit", "_law_many", "_law_told", "_law_rest", "_law_own", "_law_whole", "_law_fresh", "_law_turn", "_law_at", "_law_step", "_law_sign", "_law_often"] : List Str).Nodup := by decide +kernel
  refine mkCalG X.d_law_right X.g_law_right (N := ["_law_draw", "_law_row_here", "_law_lens_here", "_law_bit", "_law_many", "_law_told", "_law_rest", "_law_own", "_law_whole", "_law_fresh", "_law_turn", "_law_at", "_law_step", "_law_sign", "_law_often"]) (ps := ["_law_draw", "_law_row_here", "_law_lens_here", "_law_bit"]) (k := 9) (C8.fnScope_by (by decide +kernel)) (fun vs H Q E h => ?_) (fun _ _ _ _ _ _ us hl => match us, hl with | [_, _, _, _], _ => rfl) (fun cdv A outer s H vs Q E hgd hr h => ?_)
  · obtain ⟨d, a, p, l, j, x, m, rfl, _⟩ := h; rfl
  obtain ⟨dr, a, p, l, j, x, m, rfl, hp, hl, hh, hS, na, hD, hm, q⟩ := h
  have hu := hu_of hr
  have hur := hr.units
  have hu64 := hr.units
  have hz := hp.2
  have hj := homeF_le hh
  have hT0 := L_nonneg (p.drop j)
  have hld : (p.drop j).length = p.length - j := List.length_drop
  have eo : ((S p).length : Int) - ((S (p.drop j)).length : Int) = (j : Int) := by rw [S_len, S_len]; omega
  have ecut : Txt.slice (S p) none (some (j : Int)) = S (p.take j) := V.str.inj (to_S (k := j) rfl)
  refine ⟨_, (pss_cons (ps_par3 (i := 4) (j := 5) (l := 6) rfl nd rfl rfl rfl (by decide) (by decide) (by decide) rfl rfl rfl (pa3 (C8.pe_c (c_how_often X) hr (by decide) rfl (pa2 (pv 1) (pv 3))) (C8.pe_c (c_gaps X) hr (by decide) rfl (pa2 (pv 1) (pv 3))) (C8.pe_c (c_gap_presses X) hr (by decide) rfl (pa2 (pv 1) (pv 3)))) (by rfl))
  (pss_cons (ps_set (i := 7) nd rfl (.inr rfl) (pe_op op_sub (pe_callB call_len_str rfl X.f_len boot_len (pa1 (pv 1))) (pe_callB call_len_str rfl X.f_len boot_len (pa1 (pv 6)))))
  (pss_cons (ps_if (PW.pt (pw_or (pt_cmpR op_ne (pe_slice C8.sl_txt (pv 1) (po_some (pv 7)) po_none) (pv 6) (nomark _)) (pw_or (pt_cmpR op_ne (pe_callB (cr_sumV rfl) rfl X.f_sum (by decide +kernel) (pa1 (pe_vals (pv 5)))) (pe_op op_sub (pv 4) pe_int) (nomark _)) (pw_or1 (pt_cmpR op_ne (pe_callB (cr_reprD hgd hur) rfl X.f_repr (by decide +kernel) (pa1 (pv 5))) (pe_callB (cr_reprD hgd hur) rfl X.f_repr (by decide +kernel) (pa1 (C8.pe_c (c_law_due X) hr (by decide) rfl (pa3 (pv 1) (pv 7) (pv 2))))) (nomark _))))))
    (pss_one (ps_ret pe_bl)) pss_nil)
  (pss_cons (ps_set (i := 8) nd rfl (.inl rfl) (pe_callB (cr_sum rfl) rfl X.f_sum (by decide +kernel) (pa1 (pe_lock (pe_lc (own := [("_law_step", 12), ("_law_often", 14)]) (g := gTup K 2 (gCons (gName 12) (gCons (gName 14) gNil))) rfl nd (pi_items (pv 5)) (blkOk_by (N := ["_law_draw", "_law_row_here", "_law_lens_here", "_law_bit", "_law_many", "_law_told", "_law_rest", "_law_own", "_law_whole", "_law_fresh", "_law_turn", "_law_at", "_law_step", "_law_sign", "_law_often"]) (sc := d_law_right.scope) (by decide +kernel)) (fun _ _ _ _ _ => (pg_tup (n := 2) rfl (pgs_cons (pg_name (i := 12) nd rfl (.inl rfl) (.inr rfl)) (pgs_cons (pg_name (i := 14) nd rfl (.inl rfl) (.inr rfl)) pgs_nil)))) (fun _ _ _ _ _ => pts_nil) (fun _ _ _ _ _ => (pe_op op_mulW (pv 12) (pv 14))))))))
  (pss_cons (ps_if (PW.pt (pw_or (pt_cmpR op_ne (pe_ix ix_list (C8.pe_c (c_law_lens X) hr (by decide) rfl (pa1 (pv 6))) (pe_un un_neg pe_int) (fun _ _ => rfl)) (pe_op op_sub (pv 4) pe_int) (nomark _)) (pw_or1 (pt_cmpR op_ne (pv 8) (pe_op op_sub (pe_ix ix_list (pv 2) (pe_un un_neg pe_int) (fun _ _ => rfl)) (pe_ix ix_list (pv 2) (pv 7) (fun _ _ => rfl))) (nomark _)))))
    (pss_one (ps_ret pe_bl)) pss_nil)
  (pss_cons (ps_setLc (i := 9) (own := [("_law_sign", 13)]) rfl nd rfl rfl (sw_true rfl rfl rfl (by decide +kernel)) (pi_str (pv 6)) (blkOk_by (N := ["_law_draw", "_law_row_here", "_law_lens_here", "_law_bit", "_law_many", "_law_told", "_law_rest", "_law_own", "_law_whole", "_law_fresh", "_law_turn", "_law_at", "_law_step", "_law_sign", "_law_often"]) (sc := d_law_right.scope) (by decide +kernel)) (fun _ _ _ _ _ => (pg_name (i := 13) nd rfl (.inl rfl) (.inr rfl))) (fun _ _ _ _ _ => (pts_one (pt_cmpR op_notIn_sign (pv 13) (pe_slice C8.sl_txt (pv 1) po_none (po_some (pv 7))) rfl))) (fun _ _ _ _ _ => (pv 13)))
  (pss_cons (ps_if (PW.pt (pw_or (PW.pt (pw_and (pt_cmpR (op_neD hu64) (pv 9) (pe_lst pa_nil) (nomark _)) (pw_and1 (pt_cmp (pc_dnotin hu (pe_op op_add (pe_ix ix_list (pv 2) (pv 7) (fun _ _ => rfl)) pe_int) (pv 5)))))) (pw_or1 (pt_cmpR op_gt (pe_callB call_lenD rfl X.f_len boot_len (pa1 (pv 5))) (pe_callB cr_lenSet rfl X.f_len boot_len (pa1 (pe_callTy (cr_setT rfl) rfl X.f_set (by decide +kernel) (pa1 (pv 6))))) (nomark _)))))
    (pss_one (ps_ret pe_bl)) pss_nil)
  (pss_cons (ps_for PassesOwn.never rfl (pi_range1 rfl X.f_range (pa1 (pe_ifExp (pt_cmpR op_gt (pv 4) pe_int (nomark _)) pe_int pe_int))) (pg_name (i := 10) nd rfl (.inl rfl))
    (pss_cons (ps_set (i := 11) nd rfl (.inl rfl) (C8.pe_c (c_law_of X) hr (by decide) rfl (pa2 (pv 0) (pe_lst (pa3 (C8.pe_c (c_law_far X) hr (by decide) rfl (pa2 (pv 0) (pe_op op_sub (pv 4) pe_int))) pe_int (pe_op op_sub (pv 4) pe_int))))))
    (pss_cons (ps_par (i := 12) (j := 13) rfl nd rfl rfl (by decide) rfl rfl (pa2 (C8.pe_c (c_gap X) hr (by decide) rfl (pa3 (pv 1) (pv 3) (pv 11))) (C8.pe_c (c_gap_letter X) hr (by decide) rfl (pa3 (pv 1) (pv 3) (pv 11)))) (by rfl))
    (pss_cons (ps_if (PW.pt (pw_or (pt_cmpR op_ne (pv 12) (C8.pe_c (c_gap X) hr (by decide) rfl (pa3 (pv 1) (pv 3) (pe_op op_sub (pe_op op_sub (pv 4) pe_int) (pv 11)))) (nomark _)) (pw_or (pt_cmp (pc_dnotin hu (pv 12) (pv 5))) (pw_or1 (pt_cmpR op_ne (pv 13) (C8.pe_c (c_letter_at X) hr (by decide) rfl (pa2 (pv 6) (pv 11))) (nomark _))))))
      (pss_one (ps_ret pe_bl)) pss_nil)
    (pss_one (ps_if (PW.pt (pw_or (pt_cmpR op_ne (pe_op op_sub (C8.pe_c (c_place_at X) hr (by decide) rfl (pa3 (pv 1) (pv 3) (pe_op op_add (pv 11) pe_int))) (C8.pe_c (c_place_at X) hr (by decide) rfl (pa3 (pv 1) (pv 3) (pv 11)))) (pv 12) (nomark _)) (pw_or1 (PW.pt (pw_and (pt_cmpR op_in_seq (pv 13) (pv 9) rfl) (pw_and1 (pt_cmpR op_ne (pv 12) (pe_op op_add (pe_ix ix_list (pv 2) (pv 7) (fun _ _ => rfl)) pe_int) (nomark _))))))))
      (pss_one (ps_ret pe_bl)) pss_nil))))))
  (pss_one (ps_ret pe_bl)))))))))), ?_⟩
  refine ⟨_, rfl, _, rfl, p, l, j, x, rfl, hp, hl, hh, fun H1 e1 => ?_⟩
  refine ⟨_, rfl, _, rfl, p, l, j, x, rfl, hp, hl, hh, fun out G td H2 htd e2 hto => ?_⟩
  refine ⟨_, rfl, _, rfl, p, l, j, x, rfl, hp, hl, hh, fun H3 e3 => ⟨_, _, _, rfl, ?_⟩⟩
  have eH3 : Same H H3 := (e1.trans e2).trans e3
  have hto3 := e3 _ _ hto
  have htdH : H td = none := e1.free htd
  refine ⟨_, rfl, _, rfl, szS (by omega), _, rfl, _, rfl, szS (by omega), _, _, rfl, rfl, ?_⟩
  rw [show (fun (i j : Int) => V.int (i - j)) ((S p).length : Int) ((S (p.drop j)).length : Int) = V.int (j : Int) from congrArg V.int eo]
  -- the first test
  refine ⟨_, rfl, _, rfl, _, rfl, _, rfl, szS (by omega), _, rfl, rfl, _, rfl, iteNS (from_S (k := j) rfl) ?_⟩
  refine ⟨_, rfl, td, _, rfl, hto3, fun v hv => ?_⟩
  have e4 : Same H3 (upd H3 v (ValsO v td)) := Same.new hv
  refine ⟨v, td, out.map fun q => (Sum.inl q.1, q.2), rfl, upd_same, by rw [e4 _ _ hto3, List.map_map]; rfl, ?_⟩
  have es : ((out.map fun q => ((Sum.inl q.1 : Key), q.2)).map (·.2)).sum = L (p.drop j) := by rw [List.map_map]; exact G.sum
  refine ⟨_, rfl, _, _, rfl, rfl, rfl, _, rfl, iteNS (by rw [es]; exact congrArg V.int (by omega)) ?_⟩
  refine ⟨_, rfl, td, out, rfl, e4 _ _ hto3, by have := G.few hp.1; omega, G.smallI hz, ?_⟩
  refine ⟨_, rfl, _, rfl, _, rfl, p, j, a, rfl, hp, hj, (eH3.trans e4).seq hS, fun out2 G2 dd H5 hdd e5 hdo => ?_⟩
  refine ⟨dd, out2, rfl, hdo, by have := G2.few hp.1; omega, G2.smallI hz, rfl, _, rfl, iteNS (by rw [G.uniq G2]) ?_⟩
  have eH5 : Same H H5 := (eH3.trans e4).trans e5
  have hto5 := e5 _ _ (e4 _ _ hto3)
  -- all gaps together
  refine ⟨td, _, hto5, trivial, fun od => ⟨_, rfl, td, od, _, rfl, upd_same, fun D hDn => ?_⟩⟩
  have nDt : D ≠ td := (ne_of_none upd_same hDn).symm
  have hD5 : H5 D = none := by rw [upd_ne nDt] at hDn; exact hDn
  refine lc_it walk_items (fun i H' => H' D = some (.lst (ivs ((out.take i).map fun q => q.1 * q.2))) ∧ H' td = some (.frz od (.dK (kvI out))) ∧ Bst td H5 H') ⟨upd_same, by rw [upd_ne nDt.symm, upd_same], fun b o n h => by rw [upd_ne (ne_of_none h hD5), upd_ne n]; exact h⟩ (fun i H' _ g => g.2.1) (fun i v Ha Hb hi g y => ?_) (fun H' g => ?_)
  · obtain ⟨g1, g2, g3⟩ := g
    obtain ⟨T, v1, v2, rfl, hT, rfl, hv1, hv2⟩ := y
    have hi : i < out.length := by have : (kvI out).length = out.length := List.length_map ..; omega
    obtain ⟨qq, hq⟩ : ∃ qq, out[i]? = some qq := ⟨_, List.getElem?_eq_getElem hi⟩
    have hk : (kvI out)[i]? = some (Sum.inl qq.1, V.int qq.2) := by
      unfold kvI
      rw [List.getElem?_map, hq]; rfl
    have hv1 : (kvI out)[i]?.map (fun kv => kV kv.1) = some v1 := hv1
    have hv2 : (kvI out)[i]?.map Prod.snd = some v2 := hv2
    rw [hk] at hv1 hv2
    cases hv1; cases hv2
    have s1 := Same.new (o := .tup [V.int qq.1, V.int qq.2]) hT
    have hsm := G.smallI hz qq (List.mem_of_getElem? hq)
    have few := G.few hp.1
    refine ⟨T, _, rfl, SqT.of upd_same, rfl, _, _, rfl, _, _, rfl, rfl, rfl, yes (iteT ?_)⟩
    refine ⟨_, rfl, _, rfl, _, _, rfl, rfl, ?_, _, s1 _ _ g1, szl (by rw [List.length_map, List.length_map, List.length_take]; omega), ?_, ?_, ?_⟩
    · have h1 := hsm.1
      have h2 := hsm.2
      unfold SmallI at h1 h2
      show qq.1.natAbs.log2 + qq.2.natAbs.log2 < 1000000
      omega
    · rw [upd_same, take_get hq, List.map_append, ivs_app]; rfl
    · rw [upd_ne nDt.symm]; exact s1 _ _ g2
    · exact (g3.trans s1.bst).mut hD5
  · obtain ⟨g1, g2, g3⟩ := g
    have : (kvI out).length = out.length := List.length_map ..
    rw [this, List.take_of_length_le (Nat.le_refl _)] at g1
    refine ⟨g2, ?_⟩
    refine ⟨D, _, rfl, SqL.of (by rw [upd_ne nDt]; exact g1), ?_⟩
    have e6 : Same H5 (upd H' td (.dK (kvI out))) := fun b o h => by
      by_cases e : b = td
      · subst e; rw [upd_same, ← h, hto5]
      · rw [upd_ne e]; exact g3 b o e h
    have hto6 : (upd H' td (.dK (kvI out))) td = some (.dK (kvI out)) := upd_same
    have eH6 := eH5.trans e6
    revert hto6 eH6
    generalize upd H' td (.dK (kvI out)) = H6
    intro hto6 eH6
    have ew : (out.map fun q => q.1 * q.2).sum = L p - L (p.take j) := G.prod
    rw [ew]
    refine ⟨_, rfl, p.drop j, rfl, by omega, fun f H7 hf e7 he => ?_⟩
    have eH7 := eH6.trans e7
    have hto7 := e7 _ _ hto6
    have hS7 := eH7.seq hS
    refine ⟨_, rfl, _, _, _, _, rfl, rfl, SqL.of he, lens_end _, _, rfl, _, _, rfl, rfl, rfl, _, rfl, iteNS (congrArg V.int (by omega)) ?_⟩
    refine ⟨_, rfl, _, rfl, _, rfl, _, _, _, _, rfl, rfl, hS7, lens_end p, _, rfl, _, rfl, _, _, _, _, rfl, rfl, hS7, atI_nat (lens_ix hj), _, _, rfl, rfl, rfl, _, rfl, iteNS rfl ?_⟩
    -- the letters that the home hasn't
    refine ⟨_, rfl, _, rfl, fun F hF => ?_⟩
    have hFH : H F = none := eH7.free hF
    refine lc_it walk_str (fun i H' => ∃ fs : List Nat, H' F = some (.lst (fs.map fun c => tx [c])) ∧ fs.length ≤ i ∧ (∀ c, c ∈ fs ↔ c ∈ (p.drop j).take i ∧ c ∉ p.take j) ∧ Same H7 H') ⟨[], upd_same, Nat.zero_le _, by simp, Same.new hF⟩ (fun _ _ _ _ => trivial) (fun i v Ha Hb hi g y => ?_) (fun H8 g => ?_)
    · obtain ⟨fs, g1, g2, g3, g4⟩ := g
      obtain ⟨rfl, c, hc, rfl⟩ := y
      have hc : (p.drop j)[i]? = some c := S_get hc
      have hi := lt_of_get hc
      refine ⟨rfl, ?_⟩
      refine ⟨_, rfl, _, rfl, _, rfl, _, rfl, _, rfl, szS (by omega), c, _, rfl, rfl, _, rfl, ?_⟩
      rw [ecut]
      by_cases hm2 : c ∈ p.take j
      · refine iteNS hm2 ?_
        refine ⟨fs, g1, by omega, fun z => ?_, g4⟩
        rw [g3 z, take_get hc]
        constructor
        · rintro ⟨h1, h2⟩
          exact ⟨List.mem_append_left _ h1, h2⟩
        · rintro ⟨h1, h2⟩
          rcases List.mem_append.mp h1 with h1 | h1
          · exact ⟨h1, h2⟩
          · rw [List.mem_singleton.mp h1] at h2
            exact absurd hm2 h2
      · refine iteNT hm2 ?_
        refine ⟨_, rfl, _, g1, szl (by rw [List.length_map]; omega), fs ++ [c], by rw [upd_same, List.map_append]; rfl, by rw [List.length_append, List.length_singleton]; omega, fun z => ?_, g4.mut hF⟩
        rw [List.mem_append, g3 z, take_get hc]
        constructor
        · rintro (⟨h1, h2⟩ | h1)
          · exact ⟨List.mem_append_left _ h1, h2⟩
          · rw [List.mem_singleton.mp h1]
            exact ⟨by simp, hm2⟩
        · rintro ⟨h1, h2⟩
          rcases List.mem_append.mp h1 with h1 | h1
          · exact .inl ⟨h1, h2⟩
          · exact .inr h1
    · obtain ⟨fs, hF8, _, hfs, e8⟩ := g
      have esz : (S (p.drop j)).cps.size = (p.drop j).length := S_size _
      rw [esz] at hfs
      have hfs : ∀ c, c ∈ fs ↔ c ∈ p.drop j ∧ c ∉ p.take j := fun c => by rw [hfs c, List.take_of_length_le (Nat.le_refl _)]
      have hfl : ∀ c ∈ fs, c ≤ 122 := fun c hc => (hp.1.drop j c ((hfs c).mp hc).1).2
      have eH8 := eH7.trans e8
      refine ⟨_, rfl, Nat.zero_le _, fun el hel => ?_⟩
      have e9 : Same H8 (upd H8 el (.lst [])) := Same.new hel
      have eH9 := eH8.trans e9
      have hto9 := e9 _ _ (e8 _ _ hto7)
      have hF9 := e9 _ _ hF8
      have hel9 : (upd H8 el (.lst [])) el = some (.lst []) := upd_same
      revert e9 eH9 hto9 hF9 hel9
      generalize upd H8 el (.lst []) = H9
      intro e9 eH9 hto9 hF9 hel9
      refine ⟨.list (fs.map fun c => PyData.str (S [c])), .list [], .lst (SqL.of hF9) (dp_strs fs), .lst (SqL.of hel9) .nil, shaped_strs hfl, by decide, _, rfl, ?_⟩
      refine ite_to (fun hb k => ?_) (iteF ?_)
      · have hne : ∃ c, c ∈ fs := by
          cases fs with
          | nil => exact absurd hb (by decide)
          | cons c _ => exact ⟨c, List.mem_cons_self⟩
        obtain ⟨c, hc⟩ := hne
        have hmem : L (p.take j) + 1 ∈ out.map (·.1) := (G.mem _).mpr ⟨c, ((hfs c).mp hc).1, (fresh_gap ((hfs c).mp hc).2).symm⟩
        refine ⟨_, rfl, _, rfl, _, _, _, _, rfl, rfl, eH9.seq hS, atI_nat (lens_ix hj), _, _, rfl, rfl, _, rfl, td, _, rfl, DGet.k (k := .inl (L (p.take j) + 1)) hto9, false, ?_, k⟩
        rw [isSome_kvI, decide_eq_true hmem]; rfl
      refine ⟨_, rfl, td, _, rfl, hto9, _, rfl, p.drop j, rfl, by omega, fun sp hsp => ⟨sp, p.drop j, rfl, upd_same, fun ks k1 k2 => ⟨_, _, rfl, rfl, _, rfl, iteDF ?_ ?_⟩⟩⟩
      · have h1 := G.len k1 k2
        have h2 : (kvI out).length = out.length := List.length_map ..
        omega
      have e10 : Same H9 (upd H9 sp (SetO' w sp (p.drop j))) := Same.new hsp
      have eHb := eH9.trans e10
      have hto10 := e10 _ _ hto9
      have hF10 := e10 _ _ hF9
      refine ⟨_, rfl, _, _, rfl, rfl, _, rfl, ?_⟩
      revert eHb hto10 hF10
      generalize e11 : upd H9 sp (SetO' w sp (p.drop j)) = Hb
      intro eHb hto10 hF10
      have ntd : td ≠ dr := hD.ne htdH
      have nF : F ≠ dr := hD.ne hFH
      have Db := hD.same eHb
      have b0 : Bst dr Hb (upd H9 sp (SetO' w sp (p.drop j))) := by rw [e11]; exact Bst.refl _ _
      have D0 : Drw (upd H9 sp (SetO' w sp (p.drop j))) dr (m + 9 * 0) := by rw [e11]; exact Db
      have s0 : Same Hb (upd H9 sp (SetO' w sp (p.drop j))) := by rw [e11]; exact Same.refl _
      by_cases hpos : 0 < L (p.drop j)
      · refine iteDT (by omega) ⟨4, rfl, by decide, by decide, ?_⟩
        refine for_range (lo := 0) (n := 4) (fun i σ' H' => (∃ b c d e f, σ' = [some (.ref dr), some (tx p), some (.ref a), some (tx l), some (.int (L (p.drop j) + 1)), some (.ref td), some (tx (p.drop j)), some (.int (j : Int)), some (.int (L p - L (p.take j))), some (.ref F), b, c, d, e, f]) ∧ Bst dr Hb H' ∧ Drw H' dr (m + 9 * i))
          ⟨⟨_, _, _, _, _, rfl⟩, b0, D0⟩ (fun i σ' H' hi g => ?_) (fun σ' H' g => ?_)
        · obtain ⟨⟨b, c, d, e, f, rfl⟩, gB, gD⟩ := g
          refine ⟨_, rfl, _, rfl, _, rfl, _, _, rfl, rfl, dr, _, m + 9 * i, rfl, by omega, gD, by omega, fun t H1 t0 t1 b1 D1 => ?_⟩
          refine ⟨_, rfl, _, _, rfl, rfl, sz (by show 3 ≤ 100000; decide), fun pl hpl => ?_⟩
          have npl : pl ≠ dr := D1.ne hpl
          refine ⟨dr, pl, _, m + 9 * i + 8, rfl, SqL.of upd_same, npl, by simp, by show 3 ≤ 1000; decide, D1.same (Same.new hpl), by omega, fun v H2 hv b2 D2 => ?_⟩
          obtain ⟨n, h0, h1, rfl⟩ : ∃ n : Int, 0 ≤ n ∧ n < L (p.drop j) ∧ v = V.int n := by
            simp only [List.mem_cons, List.not_mem_nil, or_false] at hv
            rcases hv with rfl | rfl | rfl
            · exact ⟨_, t0, by omega, rfl⟩
            · exact ⟨0, by decide, hpos, rfl⟩
            · exact ⟨_, by omega, by omega, rfl⟩
          have gB2 : Bst dr Hb H2 := ((gB.trans b1).trans (Same.new hpl).bst).trans b2
          obtain ⟨y, hy, hyp⟩ := M_get h0 h1
          have hlM : (M (p.drop j)).length = (L (p.drop j)).toNat := len_M' _
          -- the gap, its letter
          refine ⟨_, rfl, _, rfl, _, rfl, p, l, n, j, x, rfl, hp, hl, hh, h0, h1, fun y1 hy1 H3 e3 => ?_⟩
          cases hy.symm.trans hy1
          refine ⟨_, rfl, _, rfl, _, rfl, p, l, n, j, x, rfl, hp, hl, hh, h0, h1, fun y2 hy2 H4 e4 => ⟨_, _, rfl, ?_⟩⟩
          cases hy.symm.trans hy2
          have ey : (M (p.drop j))[(L (p.drop j) + 1 - 2 - n).toNat]? = some y := by
            have := M_sym (p.drop j) n.toNat (by omega)
            rw [hy] at this
            rw [← this]
            congr 1
            omega
          refine ⟨_, rfl, _, rfl, _, rfl, _, rfl, _, _, rfl, rfl, _, rfl, _, _, rfl, rfl, p, l, _, j, x, rfl, hp, hl, hh, by omega, by omega, fun y3 hy3 H5 e5 => ⟨rfl, _, rfl, iteNS ?_ ?_⟩⟩
          · have hy3 : (M (p.drop j))[(L (p.drop j) + 1 - 2 - n).toNat]? = some y3 := hy3
            rw [ey] at hy3
            cases hy3
            rfl
          have gB5 : Bst dr Hb H5 := ((gB2.trans e3.bst).trans e4.bst).trans e5.bst
          have hmem : Bk (p.take j).reverse y ∈ out.map (·.1) := (G.mem _).mpr ⟨y, hyp, rfl⟩
          refine ⟨_, rfl, _, rfl, td, _, rfl, DGet.k (k := .inl (Bk (p.take j).reverse y)) (gB5 _ _ ntd hto10), _, rfl, iteBF (by rw [isSome_kvI, decide_eq_true hmem]; rfl) ?_⟩
          refine ⟨_, rfl, _, rfl, _, rfl, p.drop j, n, rfl, hp.drop j, h0, h1, fun y4 hy4 H6 e6 => ⟨rfl, _, rfl, iteNS ?_ ?_⟩⟩
          · cases hy.symm.trans hy4
            rfl
          -- from one place to the next
          refine ⟨_, rfl, _, rfl, _, rfl, _, _, rfl, rfl, p, l, n + 1, j, x, rfl, hp, hl, hh, by omega, by omega, fun H7 e7 => ?_⟩
          refine ⟨_, rfl, _, rfl, _, rfl, p, l, n, j, x, rfl, hp, hl, hh, h0, by omega, fun H8 e8 => ?_⟩
          refine ⟨_, _, rfl, rfl, _, rfl, rfl, _, rfl, iteNS ?_ ?_⟩
          · have := startF_step p j n.toNat hj hy
            have en : ((n.toNat : Nat) : Int) = n := by omega
            rw [en] at this
            refine congrArg V.int ?_
            omega
          have gB8 : Bst dr Hb H8 := ((gB5.trans e6.bst).trans e7.bst).trans e8.bst
          have D8 : Drw H8 dr (m + 9 * i + 8 + 1) := (((((D2.same e3).same e4).same e5).same e6).same e7).same e8
          refine ⟨_, rfl, _, rfl, F, _, rfl, .inl (SqL.of (gB8 _ _ nF hF10)), rfl, flat_strs fs, _, rfl, ?_⟩
          refine ite_to (fun hb k => ?_) (iteF ?_)
          · have hyf : y ∈ fs := inV_mem hb
            refine ⟨_, rfl, _, rfl, _, rfl, _, _, _, _, rfl, rfl, gB8.seq na (eHb.seq hS), atI_nat (lens_ix hj), _, _, rfl, rfl, rfl, false, ?_, k⟩
            rw [fresh_gap ((hfs y).mp hyf).2]
            simp
          · exact ⟨⟨_, _, _, _, _, rfl⟩, gB8, D8⟩
        · obtain ⟨⟨b, c, d, e, f, rfl⟩, gB, gD⟩ := g
          exact q H' (eHb.bst.trans gB) gD
      · refine iteDF (by omega) ⟨0, rfl, by decide, by decide, ?_⟩
        refine for_range (lo := 0) (n := 0) (fun i σ' H' => Same Hb H') s0 (fun i σ' H' hi g => absurd hi (Nat.not_lt_zero _)) (fun σ' H' g => ?_)
        exact q H' (eHb.trans g).bst ((Db.same g).mono (by omega))
end
end Mi
/-! Walks 11: the law. -/
namespace Mi
open PySem PySem.Spec PyProof.Rows L2 SX
theorem seq_new {K : PySem.W.Frag} {H H' : Hp} {a d : Addr} {xs : List V} (h : SqL K H a xs) (n : H d = none) (b : Bst d H H') : SqL K H' a xs := by
  rcases h with (h | ⟨o, h⟩) | h
  · exact .inl (.inl (b _ _ (ne_of_none h n) h))
  · exact .inl (.inr ⟨o, b _ _ (ne_of_none h n) h⟩)
  · exact .inr h
theorem same_bst_to {d : Addr} {H H1 H' : Hp} (e : Same H H1) (n : H d = none) (b : Bst d H1 H') : Same H H' := fun c o h => b c o (ne_of_none h n) (e c o h)
theorem repN_rep (a n : Nat) : repN [a] n = List.replicate n a := by
  induction n with
  | zero => rfl
  | succ n ih => rw [repN, ih]; rfl
theorem mem_repN2 {a b c n : Nat} (h : c ∈ repN [a, b] n) : c = a ∨ c = b := by
  induction n with
  | zero => cases h
  | succ n ih =>
    rw [repN] at h
    rcases List.mem_append.mp h with h | h
    · simpa using h
    · exact ih h
def abcN (s t w : Nat) : List Nat := (List.range w).map fun k => 97 + (s + t * k) % 26
theorem abcL_eq (s t w : Nat) : abcL s t w = (abcN s t w).map fun c => tx [c] := by
  unfold abcL abcN
  rw [List.map_map]; rfl
theorem abcN_lets (s t w : Nat) : Lets (abcN s t w) := fun c hc => by
  obtain ⟨k, _, rfl⟩ := List.mem_map.mp hc
  have := Nat.mod_lt (s + t * k) (show 0 < 26 by decide)
  omega
theorem win_lets {p : List Nat} (hp : Lets p) (s n : Nat) : Lets (((M p).drop s).take n) := fun c hc => hp c (mem_M (List.mem_of_mem_drop (List.mem_of_mem_take hc)))
section
variable {P : Program} {w : World} {K : PySem.W.Frag} {mg : Str → Option Value} {base : Heap}
theorem mkOkG {x : Str} {params : Arguments} {body : List Stmt} {scope : Scope} {f : Addr} {fd : FuncData} {N ps : List Str} {k : Nat} {sp : Sp} (F : FunD K x x params body scope [] [] f fd) (S : FnScope N ps scope)
    (len : ∀ vs H Q E, sp vs H Q E → vs.length = ps.length)
    (hbody : ∀ (cdv : Value) (A : Around) (outer : List Env) (s : Shared) (H : Hp) (vs : List V) (Q : VK) (E : XK), A.guards = some [] → Room k (A.deeper (envOfC x scope s.heap.objs.size f cdv)) → sp vs H Q E →
      ∃ t, PSs (cxOf C8.CX0 P w K mg base N x scope f cdv A outer s H E).nox body t ∧ t { nx := fun _ H' => Q .non H', rt := Q } (start N vs) H) : FnOkG P w K mg base C8.CX0 (k + 1) f fd ps sp := by
  refine okG F S len (fun cdv A outer s H vs Q E hg hr h => ?_)
  obtain ⟨t, a, b⟩ := hbody cdv A outer s H vs Q E hg hr h
  exact ⟨t, a.nox, b⟩
theorem ok_law (X : Fx K mg) {fd : FuncData} (F : FunD K d_law.name d_law.qual d_law.params d_law.body d_law.scope (d_law.dvs K) (d_law.kws K) (He.fAd K d_law.at_) fd) : FnOkG P w K mg base C8.CX0 11 (He.fAd K d_law.at_) fd ["_law_script"] (sp_law K) := by
  have nd : (["_law_script", "_law_k", "_law_draw", "_law_some", "_law_row_here", "_law_lens_here", "_law_turn", "_law_one", "_law_other", "_law_told"] : List Str).Nodup := by decide +kernel
  refine mkOkG F (N := ["_law_script", "_law_k", "_law_draw", "_law_some", "_law_row_here", "_law_lens_here", "_law_turn", "_law_one", "_law_other", "_law_told"]) (ps := ["_law_script"]) (k := 10) (C8.fnScope_by (by decide +kernel)) (fun vs H Q E h => ?_) (fun cdv A outer s H vs Q E hgd hr h => ?_)
  · obtain ⟨a, ns, rfl, _⟩ := h; rfl
  obtain ⟨a, ns, rfl, hS, hns, q⟩ := h
  have hu64 := hr.units
  have hu0 := hr.units0
  refine ⟨_, (pss_cons (ps_for PassesOwn.never rfl (pi_range1 rfl X.f_range (pa1 (pe_op op_add pe_int (pe_callB (call_min2 rfl) rfl X.f_min (by decide +kernel) (pa2 pe_int (pe_callB call_len_seq rfl X.f_len boot_len (pa1 (pv 0)))))))) (pg_name (i := 1) nd rfl (.inl rfl))
    (pss_cons (ps_set (i := 2) nd rfl (.inl rfl) (C8.pe_c (c_law_begun X) hr (by decide) rfl (pa2 (pv 0) (pv 1))))
    (pss_cons (ps_set (i := 3) nd rfl (.inl rfl) (C8.pe_c (c_law_letters X) hr (by decide) rfl (pa2 (pv 2) (pe_op op_add pe_int (C8.pe_c (c_law_take X) hr (by decide) rfl (pa2 (pv 2) pe_int))))))
    (pss_cons (ps_set (i := 4) nd rfl (.inl rfl) (C8.pe_c (c_law_row X) hr (by decide) rfl (pa3 (pv 2) (pv 3) (pe_op op_add pe_int (C8.pe_c (c_law_of X) hr (by decide) rfl (pa2 (pv 2) (pe_lst (pa3 (C8.pe_c (c_law_take X) hr (by decide) rfl (pa2 (pv 2) pe_int)) pe_int pe_int))))))))
    (pss_cons (ps_set (i := 5) nd rfl (.inl rfl) (C8.pe_c (c_law_lens X) hr (by decide) rfl (pa1 (pv 4))))
    (pss_one (ps_for PassesOwn.never rfl (pi_range1 rfl X.f_range (pa1 pe_int)) (pg_name (i := 6) nd rfl (.inl rfl))
      (pss_one (ps_if (pt_not (pt_val (pe_g (c_law_right X) hgd hr (by decide) rfl (pa_cons (pv 2) (pa_cons (pv 4) (pa_cons (pv 5) (pa_cons (C8.pe_c (c_law_seen X) hr (by decide) rfl (pa_cons (pv 2) (pa_cons (pv 4) (pa_cons (pv 5) (pa_cons pe_int pa_nil))))) pa_nil)))))))
        (pss_one (ps_ret pe_bl)) pss_nil)))))))))
  (pss_cons (ps_asg (C8.pe_c (c_law_letters X) hr (by decide) rfl (pa2 (C8.pe_c (c_law_begun X) hr (by decide) rfl (pa2 (pv 0) pe_int)) pe_int)) (pg_unl (n := 2) rfl (pgs_cons (pg_name (i := 7) nd rfl (.inl rfl)) (pgs_cons (pg_name (i := 8) nd rfl (.inl rfl)) pgs_nil))))
  (pss_cons (ps_if (PW.pt (pw_or (pt_cmpR (op_ne_dictA hu0) (C8.pe_c (c_gaps X) hr (by decide) rfl (pa2 (pe_op op_times (pv 7) pe_int) (pe_op op_times (pv 7) pe_int))) (pe_disp (pps_cons pe_int pe_int pps_nil) (by decide) rfl (by simp) (by decide)) (nomark _)) (pw_or (pt_cmpR op_ne (C8.pe_c (c_gap X) hr (by decide) rfl (pa3 (pe_op op_times (pv 7) pe_int) pe_str pe_int)) pe_int (nomark _)) (pw_or1 (pt_cmpR (op_ne_dictA hu0) (C8.pe_c (c_gaps X) hr (by decide) rfl (pa2 (pe_op op_times (pv 7) pe_int) (pe_op op_times (pv 7) pe_int))) pe_dnewK (nomark _))))))
    (pss_one (ps_ret pe_bl)) pss_nil)
  (pss_cons (ps_set (i := 9) nd rfl (.inl rfl) (C8.pe_c (c_gaps X) hr (by decide) rfl (pa2 (pe_op op_times (pe_op op_add_str (pv 7) (pv 8)) pe_int) (pv 7))))
  (pss_one (ps_ret (pe_and (pe_cmpR op_eq (C8.pe_c (c_gap_presses X) hr (by decide) rfl (pa2 (pe_op op_times (pe_op op_add_str (pv 7) (pv 8)) pe_int) (pv 7))) (pe_slice C8.sl_txt (pe_op op_times (pe_op op_add_str (pv 7) (pv 8)) pe_int) (po_some pe_int) po_none) (nomark _)) (pe_one (pe_cmpR (op_eqD hu64) (pe_callTy (call_list_dK rfl) rfl X.f_list (by decide +kernel) (pa1 (pv 9))) (pe_lst (pa2 pe_int pe_int)) (nomark _)))))))))), ?_⟩
  have hlen : (ivs ns).length = ns.length := List.length_map ..
  refine ⟨_, rfl, _, _, rfl, .inl hS, _, _, rfl, _, _, rfl, rfl, _, rfl, ?_, ?_, ?_⟩
  · show -(2 ^ 62) ≤ (1 : Int) + (if ((ivs ns).length : Int) < 3 then ((ivs ns).length : Int) else 3)
    split <;> omega
  · show (1 : Int) + (if ((ivs ns).length : Int) < 3 then ((ivs ns).length : Int) else 3) < 2 ^ 62
    split <;> omega
  have hN : ((1 : Int) + (if ((ivs ns).length : Int) < 3 then ((ivs ns).length : Int) else 3)).toNat ≤ 4 := by split <;> omega
  refine for_range (lo := 0) (n := ((1 : Int) + (if ((ivs ns).length : Int) < 3 then ((ivs ns).length : Int) else 3)).toNat) (fun i σ' H' => (∃ b c d e f g h i j, σ' = [some (.ref a), b, c, d, e, f, g, h, i, j]) ∧ Same H H')
    ⟨⟨_, _, _, _, _, _, _, _, _, rfl⟩, Same.refl H⟩ (fun i σ' H' hi g => ?_) (fun σ' H' g => ?_)
  · obtain ⟨⟨b, c, d, e, f, g, h, ii, jj, rfl⟩, eH⟩ := g
    have hS' := eH.seq hS
    have ei : (0 : Int) + (i : Int) = (i : Int) := Int.zero_add _
    refine ⟨_, rfl, _, rfl, a, ns, i, by rw [ei]; rfl, hS', hns, by omega, fun dr H1 hdr e1 D1 => ?_⟩
    have hdr0 : H dr = none := eH.free hdr
    refine ⟨_, rfl, _, rfl, dr, 5, 300, rfl, by decide, by decide, D1, by decide, fun n H2 n0 n1 b2 D2 => ⟨_, _, rfl, rfl, ?_⟩⟩
    refine ⟨dr, 1 + n.toNat, 301, ?_, by omega, D2, by decide, fun lp H3 sA tA hsA htA1 htA2 hlp b3 D3 hl3 => ?_⟩
    · exact congrArg (fun z => [V.ref dr, V.int z]) (show (1 : Int) + n = ((1 + n.toNat : Nat) : Int) by omega)
    have nlp : lp ≠ dr := D2.ne hlp
    rw [abcL_eq] at hl3
    refine ⟨_, rfl, _, rfl, _, rfl, ?_⟩
    refine ⟨_, rfl, dr, 40, 303, rfl, by decide, by decide, D3, by decide, fun v4 H4 v40 v41 b4 D4 => ?_⟩
    refine ⟨sz (by show 3 ≤ 100000; decide), fun pl hpl => ?_⟩
    have npl : pl ≠ dr := D4.ne hpl
    refine ⟨dr, pl, _, 304, rfl, SqL.of upd_same, npl, by simp, by show 3 ≤ 1000; decide, D4.same (Same.new hpl), by decide, fun v5 H5 hv5 b5 D5 => ?_⟩
    obtain ⟨wd, hwd, rfl⟩ : ∃ wd : Nat, wd ≤ 190 ∧ v5 = V.int (wd : Int) := by
      simp only [List.mem_cons, List.not_mem_nil, or_false] at hv5
      rcases hv5 with rfl | rfl | rfl
      · exact ⟨v4.toNat, by omega, congrArg V.int (by omega)⟩
      · exact ⟨50, by decide, rfl⟩
      · exact ⟨190, by decide, rfl⟩
    refine ⟨_, _, rfl, rfl, ?_⟩
    have b35 : Bst dr H3 H5 := (b4.trans (Same.new hpl).bst).trans b5
    have hl5 := b35 _ _ nlp hl3
    refine ⟨dr, lp, abcN sA tA (1 + n.toNat), 10 + wd, 305, ?_, SqL.of hl5, nlp, abcN_lets _ _ _, ?_, ?_, by omega, D5, by decide, fun p H6 hp b6 D6 => ?_⟩
    · exact congrArg (fun z => [V.ref dr, V.ref lp, V.int z]) (show (10 : Int) + (wd : Int) = ((10 + wd : Nat) : Int) by omega)
    · intro z
      have := congrArg List.length z
      unfold abcN at this
      rw [List.length_map, List.length_range] at this
      simp at this
    · unfold abcN
      rw [List.length_map, List.length_range]; omega
    have hz := hp.2
    refine ⟨_, rfl, p, rfl, by omega, fun f7 H7 hf7 e7 hfe => ?_⟩
    have nf7 : f7 ≠ dr := D6.ne hf7
    have D7 := D6.same e7
    have b17 : Bst dr H1 H7 := (((b2.trans b3).trans b35).trans b6).trans e7.bst
    refine ⟨_, rfl, by decide, by decide, ?_⟩
    refine for_range (lo := 0) (n := 3) (fun u σ' H' => (∃ b c d e f g, σ' = [some (.ref a), b, some (.ref dr), c, some (tx p), some (.ref f7), d, e, f, g]) ∧ Bst dr H7 H' ∧ Drw H' dr (705 + 46 * u))
      ⟨⟨_, _, _, _, _, _, rfl⟩, Bst.refl _ _, D7⟩ (fun u σ' H' hu g => ?_) (fun σ' H' g => ?_)
    · obtain ⟨⟨b, c, d, e, f, g, rfl⟩, gB, gD⟩ := g
      have hS7 : SqL K H' f7 (ivs (lens p)) := gB.seq nf7 (SqL.of hfe)
      refine ⟨_, rfl, _, rfl, _, rfl, ?_⟩
      refine ⟨_, rfl, _, rfl, _, rfl, dr, f7, p, 705 + 46 * u, rfl, hp, hS7, nf7, gD, by omega, fun sW n8 H8 hw8 hn8 b8 D8 => ?_⟩
      obtain ⟨j, x, hh⟩ := home_win hw8
      refine ⟨dr, f7, p, ((M p).drop sW).take n8, j, x, 705 + 46 * u + 10, rfl, hp, ⟨win_lets hp.1 _ _, ?_⟩, hh, b8.seq nf7 hS7, nf7, D8, by omega, fun H9 b9 D9 => ?_⟩
      · rw [List.length_take]; omega
      · exact ⟨_, rfl, iteF ⟨⟨_, _, _, _, _, _, rfl⟩, (gB.trans b8).trans b9, D9⟩⟩
    · obtain ⟨⟨b, c, d, e, f, g, rfl⟩, gB, gD⟩ := g
      exact ⟨⟨_, _, _, _, _, _, _, _, _, rfl⟩, same_bst_to (eH.trans e1) hdr0 (b17.trans gB)⟩
  · obtain ⟨⟨b, c, d, e, f, g, h, ii, jj, rfl⟩, eH⟩ := g
    have hS' := eH.seq hS
    refine ⟨_, rfl, a, ns, 5, rfl, hS', hns, by decide, fun dr H1 hdr e1 D1 => ?_⟩
    refine ⟨dr, 2, 300, rfl, by decide, D1, by decide, fun lp H2 sA tA hsA htA1 htA2 hlp b2 D2 hl2 => ?_⟩
    obtain ⟨la, lb, hab, hla, hlb, hl2⟩ : ∃ la lb : Nat, la ≠ lb ∧ (97 ≤ la ∧ la ≤ 122) ∧ (97 ≤ lb ∧ lb ≤ 122) ∧ H2 lp = some (.lst [tx [la], tx [lb]]) :=
      ⟨97 + (sA + tA * 0) % 26, 97 + (sA + tA * 1) % 26, by omega, by omega, by omega, hl2⟩
    refine ⟨lp, _, rfl, SqL.of hl2, rfl, _, _, rfl, _, _, rfl, rfl, ?_⟩
    have p200 : Pr (List.replicate 200 la) := ⟨fun c hc => by rw [(List.mem_replicate.mp hc).2]; exact hla, by rw [List.length_replicate]; decide⟩
    have p3 : Pr (List.replicate 3 la) := ⟨fun c hc => by rw [(List.mem_replicate.mp hc).2]; exact hla, by rw [List.length_replicate]; decide⟩
    have pnil : Pr [] := ⟨fun c hc => by simp at hc, by simp⟩
    have pone : Pr [la] := ⟨fun c hc => by rw [List.mem_singleton.mp hc]; exact hla, by simp⟩
    have one1 : [la].length ≤ 1000 := by show 1 ≤ 1000; decide
    have two1 : [la, lb].length ≤ 1000 := by show 2 ≤ 1000; decide
    obtain ⟨x1, hh1⟩ := home_rep la 200 3 (by decide) (by decide)
    obtain ⟨x2, hh2⟩ := home_rep la 200 200 (by decide) (by decide)
    have p2eq : repN [la, lb] 100 = la :: lb :: repN [la, lb] 99 := rfl
    obtain ⟨x3, hh3⟩ := home_first la (lb :: repN [la, lb] 99)
    have p2 : Pr (repN [la, lb] 100) := ⟨fun c hc => by rcases mem_repN2 hc with h | h <;> rw [h] <;> assumption, by rw [len_repN]; show 2 * 100 ≤ 200; decide⟩
    -- one letter
    refine ⟨_, rfl, [la], 200, rfl, rfl, one1, by decide, _, rfl, [la], 3, rfl, rfl, one1, by decide, List.replicate 200 la, List.replicate 3 la, 3, x1, by rw [repN_rep, repN_rep]; rfl, p200, p3, hh1, fun out G r H3 hr e3 hro => ?_⟩
    have eout := gaps_rep la 200 3 (by decide) G
    subst eout
    refine fun dd hdd => ⟨upd_same, [(.inl 1, .int 197)], rfl, by decide, r, dd, _, _, rfl, rfl, by rw [upd_ne (ne_of_none hro hdd), upd_ne (ne_of_none hro hdd)]; exact hro, upd_same, rfl, fun z hz => ?_, _, rfl, iteF ?_⟩
    · have : z = (Sum.inl 1, V.int 197) := List.mem_singleton.mp hz
      subst this
      exact ⟨by decide +kernel, rfl⟩
    refine ⟨_, rfl, [la], 200, rfl, rfl, one1, by decide, List.replicate 200 la, [], 199, 0, 0, by rw [repN_rep, empty_S]; rfl, p200, pnil, homeF_nil _, by decide, by rw [List.drop_zero, L_rep]; decide, fun y hy H5 e5 => ⟨rfl, _, rfl, iteNS (by rw [List.take_zero, Bk_nil]) ?_⟩⟩
    refine ⟨_, rfl, [la], 200, rfl, rfl, one1, by decide, _, rfl, [la], 200, rfl, rfl, one1, by decide, List.replicate 200 la, List.replicate 200 la, 200, x2, by rw [repN_rep]; rfl, p200, p200, hh2, fun out G r H6 hr e6 hro => ?_⟩
    have eout := gaps_all (List.replicate 200 la) (by rw [List.length_replicate]; exact G)
    subst eout
    refine fun dd hdd => ⟨r, dd, _, _, rfl, rfl, by rw [upd_ne (ne_of_none hro hdd)]; exact hro, upd_same, rfl, fun z hz => by simp [kvI] at hz, _, rfl, iteF ?_⟩
    -- two by turns
    have esum : V.str (S [la] ++ S [lb]) = V.str (S [la, lb]) := by rw [S_cat]; rfl
    have hcat : (S [la]).length + (S [lb]).length ≤ sizeLine := sz (by rw [S_len, S_len]; show 2 ≤ 100000; decide)
    refine ⟨_, rfl, _, rfl, _, _, rfl, rfl, hcat, [la, lb], 100, esum, rfl, two1, by decide, _, rfl, repN [la, lb] 100, [la], 1, x3, rfl, p2, pone, hh3, fun out G r H8 hr e8 hro => ?_⟩
    refine ⟨_, rfl, _, rfl, _, _, rfl, rfl, hcat, [la, lb], 100, esum, rfl, two1, by decide, _, rfl, repN [la, lb] 100, [la], 1, x3, rfl, p2, pone, hh3, fun H9 e9 => ?_⟩
    refine ⟨_, rfl, _, rfl, _, _, rfl, rfl, hcat, [la, lb], 100, esum, rfl, two1, by decide, _, rfl, _, rfl, szS (by have := p2.2; omega), rfl, _, rfl, iteDT (from_S (k := 1) rfl).symm ?_⟩
    have keys : out.map (·.1) = [1, 2] := gaps_two hab (fun c => ⟨fun h => ?_, fun h => ?_⟩) G
    · refine ⟨_, rfl, r, _, rfl, e9 _ _ hro, fun ll hll => ⟨sz (by show 2 ≤ 100000; decide), fun l2 hl2' => ?_⟩⟩
      have ek : (kvI out).map (fun kv => kV kv.1) = ivs [1, 2] := by
        rw [← keys]
        show (out.map _).map _ = (out.map _).map _
        rw [List.map_map, List.map_map]; rfl
      rw [ek] at hl2' ⊢
      refine ⟨.list [.int 1, .int 2], .list [.int 1, .int 2], .lst (SqL.of (by rw [upd_ne (ne_of_none upd_same hl2'), upd_same])) (dp_ints [1, 2]), .lst (SqL.of upd_same) (dp_ints [1, 2]), by decide, by decide, ?_⟩
      have e : PyData.eqv (.list [.int 1, .int 2]) (.list [.int 1, .int 2]) = true := by decide +kernel
      rw [e]
      exact q _
    · rcases List.mem_cons.mp h with h | h
      · exact .inr h
      · exact mem_repN2 h
    · rcases h with h | h
      · rw [h]
        exact List.mem_cons_of_mem _ (by show la ∈ la :: lb :: repN [la, lb] 98; exact List.mem_cons_self)
      · rw [h]; exact List.mem_cons_self
end
end Mi
/-! The end: the top's facts to the law's answer. -/
namespace Mi
open PySem PySem.Spec PyProof.Rows L2
theorem facts {P : Program} {w : World} {K : PySem.W.Frag} {h : Heap} {mg : Str → Option Value} {f : Addr} (X : K.In h) (G : h.Ns mainGlobals mg) (hfa : mg ("law" : Str) = some (.ref f)) (c : He.SaysD fa fn K) :
    ∃ fd : FuncData, (∀ (s : Shared) (v : Value), BindsTo s fd ⟨[v], []⟩ [("_law_script", v)]) ∧ ∀ base : Heap, K.In base → base.Ns mainGlobals mg → FnOkG P w K mg base C8.CX0 11 f fd ["_law_script"] (sp_law K) := by
  have FX : Fx K mg := ⟨c, h, X, G⟩
  obtain ⟨fd, F⟩ := FX.d_law
  have e := hfa.symm.trans FX.g_law
  cases e
  have b := FunD.bindsA (ps := ["_law_script"]) F fun _ _ _ _ _ _ us hl => match us, hl with | [_], _ => rfl
  exact ⟨fd, fun s v => b s [v] rfl, fun base _ _ => ok_law FX F⟩
end Mi
open PySem PySem.W PySem.Calls PyProof.Rows
theorem PySem.Challenge.cw_mirrorpress_k34_whole_gaps_of_great_holds : PySem.Challenge.rw_mirrorpress_k34_whole_gaps_of_great.Holds := by
  w_on; o_law
  refine HandSHeadRun.head_any (r := OpenLaw.row PySem.Challenge.rw_mirrorpress_k34_whole_gaps_of_great) (q := view (OpenLaw.row PySem.Challenge.rw_mirrorpress_k34_whole_gaps_of_great).prog [62]) (H := Mi.hk) (ob := Mi.ob) (M := 4000) (loose := Mi.loose) (d := HandSHeadRun.topDef (OpenLaw.row PySem.Challenge.rw_mirrorpress_k34_whole_gaps_of_great).prog 62) (kwd := []) Mi.ob_eq
    (by kernel_rfl) (fun s => by kernel_rfl) Mi.run (by kernel_rfl) (by kernel_rfl) (by kernel_rfl) (by rfl) (by first | assumption | decide +kernel) (by decide +kernel) ⟨rfl, rfl, rfl, rfl, rfl, by decide +kernel⟩ ?hw ?hc
  case hw => w_witness2
  case hc =>
    refine Mi.walkG (l := PySem.Challenge.rw_mirrorpress_k34_whole_gaps_of_great) (n := 63) (k := 11) (x := "_law_script") (CX := C8.CX0) rfl (by decide) (by kernel_rfl) ⟨rfl, by decide, by decide⟩ ?F (fun _ _ _ _ z => z)
    intro w mg fa h Y G hmg0
    obtain ⟨K, KX, c⟩ := Y
    have hmg : mg ("law" : PySem.Str) = some (.ref fa) := by
      have e : (HandSHeadRun.topDef (OpenLaw.row PySem.Challenge.rw_mirrorpress_k34_whole_gaps_of_great).prog 62).name = ("law" : PySem.Str) := by kernel_rfl
      rw [← e]
      exact hmg0
    obtain ⟨fd, hb, hF⟩ := Mi.facts (P := (PySem.Challenge.rw_mirrorpress_k34_whole_gaps_of_great).prog) (w := w) KX G hmg c
    exact ⟨K, fd, Mi.sp_law K, KX, hb, fun H a ns hl _ hS => ⟨a, ns, rfl, hS, hl, fun _ => rfl⟩, hF⟩
