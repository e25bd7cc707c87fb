import PyProof.Rows.All
import HandS.Conv
import HandS.Defaults
import HandS.Dict
import HandS.ForExc
import HandS.ForMost
import HandS.Gcd
import HandS.Head0
import HandS.Head1
import HandS.Head2
import HandS.Head3
import HandS.Head4
import HandS.HeadEnd
import HandS.HeadHook1
import HandS.HeadHook2
import HandS.HeadHook3
import HandS.HeadHook4
import HandS.IsInst
import HandS.More
import HandS.Strs
import HandS.Style
import HandS.TupAny
import HandS.TupMul
import HandS.Walk
import HandS.Zip
import KE.DataMinMax
import KE.GoesEnum
import OpenK.AllK
import PyProof.StrOps2
import Wide.All
import Wide.FinOn
import Lean
import PySem.Challenge.RW_lentlimits_k02_trees_and_buckets_of_anyt
set_option Elab.async false
set_option linter.all false
set_option maxRecDepth 100000
set_option maxHeartbeats 4000000
/-! AbBare: tuples that are known to the object (so that their methods can be looked up): how they are made, their methods. -/
namespace Ab
open PySem PySem.Spec PyProof.Rows L2 HT
/-- a new tuple, its object known -/
def NewT (H : Hp) (xs : List V) (Q : VK) : Prop := ∀ (p : Addr) (ob : Obj), H p = none → ob.dict = none → Q (.ref p) (upd H p (.frz ob (.tup xs)))
section
variable {X : Cx}
def tTupB (t : TA) : TE := fun σ H Q => t σ H fun xs H1 => xs.length ≤ sizeLine ∧ NewT H1 xs Q
theorem pe_tupB {es : List Expr} {x1 : Nat} {pos : Pos} {t : TA} (h : PA X es t) : PE X (.Tuple es x1 pos) (tTupB t) := by
  refine ⟨fun pins s σ H Q I hq => ?_⟩
  refine wpAny_Tuple_spliced (thn (h.run pos pins s σ H _ I hq) fun us s1 ⟨xs, H1, I1, r, z, q⟩ => ⟨by rw [← r.length]; exact z, ?_⟩)
  have hf : H1 s1.heap.objs.size = none := I1.hok.fresh (Nat.le_refl _)
  refine ⟨.ref s1.heap.objs.size, upd H1 s1.heap.objs.size (.frz { cls := .type "tuple", data := .seq us.toArray } (.tup xs)), I1.laid (t' := s1.toks) (fun b u e => Heap.get?_push_of_some _ e) (Nat.le_refl _) ?_, rfl, q _ _ hf rfl⟩
  exact ⟨Heap.get?_push_size _ rfl, z, us, r, ⟨_, Heap.get?_push_size _ rfl, rfl, _, rfl⟩⟩
theorem call_tuple_ofB : CallR X (.type "tuple") (fun xs H Q => ∃ p ys, xs = [V.ref p] ∧ ((SqL X.K H p ys ∧ NewT H ys Q) ∨ (SqT X.K H p ys ∧ Q (.ref p) H))) := by
  intro pins s σ H xs us Q I r h
  obtain ⟨p, ys, rfl, h⟩ := h
  obtain ⟨u, rfl, rx⟩ := vals1 r
  cases rx
  rcases h with ⟨hq, q⟩ | ⟨hq, q⟩
  · obtain ⟨its, r', pl, hz⟩ := I.list hq
    have hlen := r'.length
    refine call_tuple_list pl.isList (fun h' kp => ?_) (by simp only [List.size_toArray] <;> omega)
    have I1 : Inv X pins σ H { s with heap := h' } := I.kept (t' := s.toks) kp
    have I2 : Inv X pins σ (upd H h'.objs.size (.frz { cls := .type "tuple", data := .seq its.toArray } (.tup ys))) { s with heap := h'.push { cls := .type "tuple", data := .seq its.toArray } } :=
      I1.laid (t' := s.toks) (fun b o e => Heap.get?_push_of_some _ e) (Nat.le_refl _) (show ObjOk X.prog X.w _ _ _ (.frz _ (.tup ys)) from ⟨Heap.get?_push_size _ rfl, hz, its, r', IsTup.new _ _⟩)
    exact ⟨.ref h'.objs.size, _, I2, rfl, q _ _ (I1.hok.fresh (Nat.le_refl _)) rfl⟩
  · obtain ⟨its, r', pl, hz⟩ := I.tuple hq
    exact call_tuple_same pl ⟨.ref p, H, I, rfl, q⟩
theorem call_divmodB : CallR X (.builtin "divmod") (fun xs H Q => ∃ i j, xs = [V.int i, V.int j] ∧ CDiv i j ∧ NewT H [.int (i / j), .int (i % j)] Q) := by
  intro pins s σ H xs us Q I r h
  obtain ⟨i, j, rfl, ⟨h1, h2⟩, q⟩ := h
  obtain ⟨u, w', rfl, ⟨t, rfl⟩, ⟨t', rfl⟩⟩ := vals2 r
  refine divmod_int (by omega) ?_ (.inl (PyProof.noPylong_small (by omega)))
  rw [Int.fdiv_eq_ediv_of_nonneg i (by omega), Int.fmod_eq_emod_of_nonneg i (by omega)]
  have hn : H s.heap.objs.size = none := I.hok.fresh (Nat.le_refl _)
  refine ⟨.ref s.heap.objs.size, upd H s.heap.objs.size (.frz { cls := .type "tuple", data := .seq #[.int (i / j) s.toks, .int (i % j) (s.toks + 1)] } (.tup [.int (i / j), .int (i % j)])), ?_, rfl, q _ _ hn rfl⟩
  refine I.laid (fun b o e => Heap.get?_push_of_some _ e) (Nat.le_refl _) ⟨Heap.get?_push_size s.heap rfl, by simp only [List.length_cons, List.length_nil]; rw [sizeLine_eq]; decide, [.int (i / j) s.toks, .int (i % j) (s.toks + 1)], .cons ⟨_, rfl⟩ (.cons ⟨_, rfl⟩ .nil), ?_⟩
  exact ⟨_, Heap.get?_push_size s.heap rfl, rfl, 0, rfl⟩
def rCatB (K : PySem.W.Frag) : R2 := fun x y H Q => ∃ a b xs ys, x = .ref a ∧ y = .ref b ∧ SqT K H a xs ∧ SqT K H b ys ∧ xs.length + ys.length ≤ sizeLine ∧
  (xs = [] → Q (.ref b) H) ∧ (xs ≠ [] → ys = [] → Q (.ref a) H) ∧ (xs ≠ [] → ys ≠ [] → NewT H (xs ++ ys) Q)
theorem op_catB : OpR X (binaryOp .Add) (rCatB X.K) := by
  intro pins s σ H x y v u Q I rx ry h
  obtain ⟨a, b, xs, ys, rfl, rfl, ha, hb, hz, q0, q1, q2⟩ := h
  cases rx
  cases ry
  obtain ⟨its, r1, p1, _⟩ := I.tuple ha
  obtain ⟨its2, r2, p2, _⟩ := I.tuple hb
  by_cases hx : xs = []
  · subst hx
    cases r1
    exact cat_tup0 p1 p2 ⟨.ref b, H, I, rfl, q0 rfl⟩
  · refine HT.cat_tup p1 p2 (fun z => hx (r1.nil_iff.mp z)) (fun z => ⟨.ref a, H, I, rfl, q1 hx (r2.nil_iff.mp z)⟩) (fun z => ?_) (by rw [← r1.length, ← r2.length]; exact hz)
    refine ⟨.ref s.heap.objs.size, _, I.laid (t' := s.toks) (o := .frz { cls := .type "tuple", data := .seq (its ++ its2).toArray } (.tup (xs ++ ys))) (fun b ob q => Heap.get?_push_of_some _ q) (Nat.le_refl _) ?_, rfl, q2 hx (fun w => z (r2.nil_iff.mpr w)) _ _ (I.hok.fresh (Nat.le_refl _)) ?hd⟩
    case hd => rfl
    exact ⟨Heap.get?_push_size _ rfl, by rw [List.length_append]; exact hz, _, r1.append r2, IsTup.new _ _⟩
def rSlB (K : PySem.W.Frag) : V → Option Int → Option Int → Hp → VK → Prop := fun x lo hi H Q => ∃ a xs, x = .ref a ∧ SqT K H a xs ∧
  (HT.sIx xs.length 0 lo = 0 ∧ HT.sIx xs.length xs.length hi = xs.length → Q (.ref a) H) ∧ (¬ (HT.sIx xs.length 0 lo = 0 ∧ HT.sIx xs.length xs.length hi = xs.length) → NewT H (cutV xs lo hi) Q)
theorem sl_tupB : SlR X (rSlB X.K) := by
  intro pins s σ H x v vl vu lo hi sl Q I rx hs pl pu h
  obtain ⟨a, xs, rfl, hx, q1, q2⟩ := h
  cases rx
  obtain ⟨its, r, ht, hz⟩ := I.tuple hx
  have hlen : its.toArray.size = xs.length := by rw [List.size_toArray]; exact r.length.symm
  refine ⟨"tuple", _, PyProof.Rows.slot_tuple_getitem.lookup, ht.typeIs, ?_⟩
  by_cases hw : HT.sIx xs.length 0 lo = 0 ∧ HT.sIx xs.length xs.length hi = xs.length
  · exact getItem_tuple_whole ht hs pl pu (by rw [hlen]; exact hw) ⟨.ref a, H, I, rfl, q1 hw⟩
  · refine HT.getItem_tuple_cut ht hs pl pu (by rw [hlen]; exact hw) ?_ (by rw [hlen]; exact hz)
    rw [hlen]
    refine ⟨.ref s.heap.objs.size, _, I.laid (t' := s.toks) (o := .frz { cls := .type "tuple", data := .seq ((its.drop (HT.sIx xs.length 0 lo)).take (HT.sIx xs.length xs.length hi - HT.sIx xs.length 0 lo)).toArray } (.tup (cutV xs lo hi))) (fun b ob q => Heap.get?_push_of_some _ q) (Nat.le_refl _) ?_, rfl, q2 hw _ _ (I.hok.fresh (Nat.le_refl _)) ?hd⟩
    case hd => rfl
    exact ⟨Heap.get?_push_size _ rfl, Nat.le_trans (cutV_length xs lo hi) hz, _, (r.drop (HT.sIx xs.length 0 lo)).take (HT.sIx xs.length xs.length hi - HT.sIx xs.length 0 lo), IsTup.new _ _⟩
/-- a tuple that is known to the object -/
def SqB (H : Hp) (a : Addr) (vs : List V) : Prop := ∃ ob : Obj, H a = some (.frz ob (.tup vs)) ∧ ob.dict = none
theorem SqB.sq {K : PySem.W.Frag} {H : Hp} {a : Addr} {vs : List V} (h : SqB H a vs) : SqT K H a vs := let ⟨ob, e, _⟩ := h; .inl (.inr ⟨ob, e⟩)
/-- o.m(..) of a list or of a tuple -/
def tBM2 (K : PySem.W.Frag) (T1 : String) (r1 r2 : V → List V → Hp → VK → Prop) (to : TE) (t : TA) : TE := fun σ H Q => to σ H fun x H1 => (tyV K T1 x H1 ∧ t σ H1 fun xs H2 => r1 x xs H2 Q) ∨ ((∃ a vs, x = .ref a ∧ SqB H1 a vs) ∧ t σ H1 fun xs H2 => r2 x xs H2 Q)
theorem pe_bm2 {T1 name id1 id2 : String} {r1 r2 : V → List V → Hp → VK → Prop} {o e : Expr} {es : List Expr} {apos cpos : Pos} {to : TE} {t : TA} (pa1 : PlainAttrs T1) (slot1 : Slot T1 name id1) (hty1 : typeOf (.builtin id1) = pure (.type "method_descriptor")) (hm1 : MtR X id1 r1)
    (slot2 : Slot "tuple" name id2) (hty2 : typeOf (.builtin id2) = pure (.type "method_descriptor")) (hm2 : MtR X id2 r2) (ho : PE X o to) (ha : PA X (e :: es) t)
    (hbase : attributeBase o name X.env (eval o X.env) = eval o X.env)
    (hfew : ((backTo cpos (starEach (e :: es) X.env)).all (fun x => !x.1) && (backToKw cpos (keywordEach [] X.env)).all (fun x => x.1.isSome)
      && decide ((e :: es).length + ([] : List Keyword).length + (if ([] : List Keyword).isEmpty then 0 else 1) < 30)) = true)
    (hline : (apos.endLine == cpos.line) = true) (hs : starEach (e :: es) X.env = (false, eval e X.env) :: starEach es X.env) (hplain : (backTo cpos (starEach es X.env)).any (·.1) = false) :
    PE X (.Call (.Attribute o name apos) (e :: es) [] cpos) (tBM2 X.K T1 r1 r2 to t) := by
  refine ⟨fun pins s σ H Q I h => ?_⟩
  refine wpAny_Call_method_late hbase hfew hline rfl (thn (ho.run pins s σ H _ I h) fun v s1 ⟨x, H1, I1, rx, h⟩ => ?_)
  rcases h with ⟨ty, q1⟩ | ⟨⟨a, vs, rfl, ob, hob, hd⟩, q1⟩
  · obtain ⟨h1, h2⟩ := tyV_is I1 rx ty
    refine ⟨T1, id1, pa1, slot1, hty1, h1, h2, ?_⟩
    have hA := ha.run cpos pins s1 σ H1 _ I1 q1
    rw [hs] at hA ⊢
    refine Calls.callWith_builtin (by show (false || (backTo cpos (starEach es X.env)).any (·.1)) = false; rw [hplain] <;> rfl) (Calls.evalArgs_plain ?_)
    exact thn hA fun us s2 ⟨vs, H2, I2, r2, q2⟩ => hm1 pins s2 σ H2 x vs v us Q I2 rx r2 q2
  · cases rx
    obtain ⟨e1, _, its, _, ob2, e2, hc, _⟩ := I1.hok a _ hob
    refine ⟨"tuple", id2, PySem.F.plainAttrs_tuple, slot2, hty2, ⟨ob2, e2, hc⟩, fun b hb => ?_, ?_⟩
    · cases hb
      exact ⟨ob, e1, hd⟩
    · have hA := ha.run cpos pins s1 σ H1 _ I1 q1
      rw [hs] at hA ⊢
      refine Calls.callWith_builtin (by show (false || (backTo cpos (starEach es X.env)).any (·.1)) = false; rw [hplain] <;> rfl) (Calls.evalArgs_plain ?_)
      exact thn hA fun us s2 ⟨vs', H2, I2, r2, q2⟩ => hm2 pins s2 σ H2 (.ref a) vs' (.ref a) us Q I2 rfl r2 q2
end
end Ab

set_option Elab.async false
set_option linter.all false
set_option maxRecDepth 100000
set_option maxHeartbeats 4000000
/-! AbOpB: xs[::-1] of lists and tuples, tuple(range(n)), math.lcm. -/
namespace Ab
open PySem PySem.Spec PyProof.Rows L2 HT
section
variable {prog : Program} {w : World} {A : Around} {E : Value → Shared → Prop} {s : Shared}
theorem places_rev (n : Nat) : Builtin.Slice.slicePlaces ((n : Int) - 1) (-1) (-1) = n := by
  unfold Builtin.Slice.slicePlaces
  have h1 : ¬ ((-1 : Int) > 0) := by omega
  simp only [h1, if_false]
  split
  · have : -(-1 : Int) = 1 := by omega
    rw [this, Int.ediv_one]
    omega
  · omega
theorem sliceApplied_rev {sl : Addr} {vl vu vs : Value} {n : Nat} {Q : Int × Int × Nat → Shared → Prop} (hs : s.heap.IsSliceOf sl vl vu vs) (pl : IsPart vl none) (pu : IsPart vu none) (ps : IsPart vs (some (-1)))
    (h : Q ((n : Int) - 1, -1, n) s) : wpAny (model prog w) A (Builtin.Slice.sliceApplied (.ref sl) (pure (n : Int))) Q E s := by
  obtain ⟨os, hos, hcs, hds⟩ := id hs
  unfold Builtin.Slice.sliceApplied Builtin.Slice.sliceFields
  refine wpAny_bind (wpAny_bind (wpAny_field hos hds (x := vl) rfl (wpAny_bind (wpAny_field hos hds (x := vu) rfl (wpAny_bind (wpAny_field hos hds (x := vs) rfl (wpAny_pure ?_)))))))
  refine wpAny_bind (slicePart_ ps ?_)
  show wpAny _ _ (if ((-1 : Int) == 0) = true then _ else _) _ _ s
  rw [if_neg (by decide)]
  refine wpAny_bind (slicePart_ pl (wpAny_bind (slicePart_ pu (wpAny_bind (wpAny_pure ?_)))))
  show wpAny _ _ (match Builtin.Slice.sliceAdjust none none (-1) (n : Int) with | (lo, hi) => pure (lo, (-1 : Int), Builtin.Slice.slicePlaces lo hi (-1))) _ _ s
  have e : Builtin.Slice.sliceAdjust none none (-1) (n : Int) = ((n : Int) - 1, -1) := by
    unfold Builtin.Slice.sliceAdjust
    have h1 : (-1 : Int) < 0 := by omega
    simp only [h1, if_true]
  rw [e]
  show wpAny _ _ (pure ((n : Int) - 1, (-1 : Int), Builtin.Slice.slicePlaces ((n : Int) - 1) (-1) (-1))) _ _ s
  rw [places_rev]
  exact wpAny_pure h
theorem pick_rev (xs : Array Value) : ((List.range xs.size).filterMap fun (m : Nat) => xs[(((xs.size : Int) - 1) + (m : Int) * (-1)).toNat]?).toArray = xs.toList.reverse.toArray := by
  congr 1
  have go : ∀ ms : List Nat, (∀ m ∈ ms, m < xs.size) → ms.filterMap (fun (m : Nat) => xs[(((xs.size : Int) - 1) + (m : Int) * (-1)).toNat]?) = ms.map fun m => (xs.toList.reverse[m]?).getD .none := by
    intro ms
    induction ms with
    | nil => intro _; rfl
    | cons m ms ih =>
      intro hms
      have hm := hms m List.mem_cons_self
      have e1 : (((xs.size : Int) - 1) + (m : Int) * (-1)).toNat = xs.size - 1 - m := by omega
      have e2 : xs.toList.reverse[m]? = some xs[xs.size - 1 - m] := by
        rw [List.getElem?_reverse (by simpa using hm), Array.length_toList, Array.getElem?_toList, Array.getElem?_eq_getElem (by omega)]
      rw [List.filterMap_cons, e1, Array.getElem?_eq_getElem (by omega), List.map_cons, e2, ih fun n hn => hms n (List.mem_cons_of_mem _ hn)]
      rfl
  have e := go (List.range xs.size) fun m hm => List.mem_range.mp hm
  rw [e]
  apply List.ext_getElem
  · simp
  · intro i h1 h2
    simp only [List.getElem_map, List.getElem_range]
    rw [List.getElem?_eq_getElem h2]
    rfl
theorem getItem_tuple_rev {t sl : Addr} {items : Array Value} {vl vu vs : Value} {Q : Value → Shared → Prop} (ht : IsTup s.heap t items) (hs : s.heap.IsSliceOf sl vl vu vs) (pl : IsPart vl none) (pu : IsPart vu none) (ps : IsPart vs (some (-1)))
    (h : Q (.ref s.heap.objs.size) { s with heap := s.heap.push { cls := .type "tuple", data := .seq items.toList.reverse.toArray } })
    (hsz : items.size ≤ sizeLine) : wpAny (model prog w) A (getItem (.ref t) (.ref sl)) Q E s := by
  have htake : sizeOk (.seq items.toList.reverse.toArray) := by
    show items.toList.reverse.toArray.size ≤ sizeLine
    rw [List.size_toArray, List.length_reverse, Array.length_toList]
    omega
  obtain ⟨os, hos, hcs, hds⟩ := id hs
  have hTs : s.TypeIs (.ref sl) "slice" := ⟨os, hos, hcs⟩
  unfold getItem
  try with_reducible refine wpAny_holding ?_
  first | refine wpAny_bind (wpAny_pure ?_) | skip
  refine wpAny_bind (wpAny_sequenceKey ht.typeIs (by decide) ?_)
  refine wpAny_bind (wpAny_callSpecial?_slot (name := Str.ofString "__getitem__") ht.typeIs PyProof.Rows.slot_tuple_getitem
    (wpAny_call_entry PyProof.Rows.slot_tuple_getitem ht.typeIs entry_tuple_getitem ?_ (args_tuple_getitem _ _)))
  show wpAny _ _ (Builtin.Tuple.tupleItemsOf (.ref t) >>= _) _ _ s
  refine wpAny_bind (tupleItemsOf_ ht ?_)
  refine wpAny_bind (wpAny_typeOf hTs ?_)
  rw [if_pos (by decide)]
  refine wpAny_bind (sliceApplied_rev hs pl pu ps ?_)
  have hno : ¬ ((((items.size : Int) - 1) == 0 && (-1 : Int) == 1 && items.size == items.size) = true) := by
    intro q
    rw [Bool.and_eq_true, Bool.and_eq_true] at q
    exact absurd q.1.2 (by decide)
  show wpAny _ _ (if (((items.size : Int) - 1) == 0 && (-1 : Int) == 1 && items.size == items.size) = true then _ else _) _ _ s
  rw [if_neg hno, pick_rev]
  first
    | exact wpAny_bind (m := Builtin.Tuple.tupleExact _) (wpAny_newObj_type (wpAny_pure ⟨_, rfl, wpAny_pure h⟩) htake)
    | exact wpAny_bind (m := Builtin.Tuple.tupleExact _) (wpAny_newObj_type (wpAny_bind (wpAny_pure (wpAny_pure ⟨_, rfl, wpAny_pure h⟩))) htake)
    | exact wpAny_bind (wpAny_bind (m := Builtin.Tuple.tupleExact _) (wpAny_newObj_type (wpAny_pure (wpAny_pure ⟨_, rfl, wpAny_pure h⟩)) htake))
    | exact wpAny_bind (wpAny_bind (m := Builtin.Tuple.tupleExact _) (wpAny_newObj_type (wpAny_pure ⟨_, rfl, wpAny_pure h⟩) htake))
end
section
variable {X : Cx}
def tRevB (K : PySem.W.Frag) (te : TE) : TE := fun σ H Q => te σ H fun x H1 => ∃ a xs, x = .ref a ∧ ((SqL K H1 a xs ∧ ∀ p, H1 p = none → Q (.ref p) (upd H1 p (.lst xs.reverse))) ∨ (SqT K H1 a xs ∧ NewT H1 xs.reverse Q))
theorem pe_revB {e : Expr} {te : TE} {k : Nat} {p1 p2 p3 pos : Pos} (he : PE X e te) : PE X (.Subscript e (.Slice none none (some (.UnaryOp .USub (.Constant (.int 1) k p1) p2)) p3) pos) (tRevB X.K te) := by
  refine ⟨fun pins s σ H Q I h => ?_⟩
  refine Subscript_ (thn (he.run pins s σ H _ I h) fun v s1 ⟨x, H1, I1, r1, q1⟩ => ?_)
  obtain ⟨a, xs, ex, q⟩ := q1
  subst ex
  cases r1
  have hst : PO X (some (.UnaryOp .USub (.Constant (.int 1) k p1) p2)) (tPart (tUn (rU fun i => .int (-i)) (tC (.int 1)))) := po_some (pe_un un_neg pe_int)
  refine wpAny_Slice (thn (po_none.run pins s1 σ H1 (fun o H2 => o = none ∧ H2 = H1) I1 ⟨rfl, rfl⟩) fun vl s2 ⟨l, H2, I2, pl, el, e2⟩ => ?_)
  subst el e2
  refine thn (po_none.run pins s2 σ H2 (fun o H3 => o = none ∧ H3 = H2) I2 ⟨rfl, rfl⟩) fun vu s3 ⟨u, H3, I3, pu, eu, e3⟩ => ?_
  subst eu e3
  refine thn (hst.run pins s3 σ H3 (fun o H4 => o = some (-1) ∧ H4 = H3) I3 ⟨1, rfl, -1, rfl, rfl, rfl⟩) fun vs s4 ⟨o, H4, I4, ps, eo, e4⟩ => ?_
  subst eo e4
  have I5 : Inv X pins σ H4 { s4 with heap := s4.heap.push { cls := .type "slice", data := .fields #[vl, vu, vs] } } := I4.kept (t' := s4.toks) fun b ob q => Heap.get?_push_of_some _ q
  show wpAny (model X.prog X.w) X.A (subscriptTail e (.Slice none none (some (.UnaryOp .USub (.Constant (.int 1) k p1) p2)) p3) (.ref a) (.ref s4.heap.objs.size)) (EP X pins σ Q) X.xe { s4 with heap := s4.heap.push { cls := .type "slice", data := .fields #[vl, vu, vs] } }
  rcases q with ⟨hx, q⟩ | ⟨hx, q⟩
  · obtain ⟨its, r, ht, hz⟩ := I5.list hx
    have hlen := r.length
    refine tail_any (ops := [.ref a, .ref s4.heap.objs.size]) ht.isList.typeIs (PySem.slot_list_getitem.lookup) ?_ (by with_unfolding_all rfl)
    refine wpAny_getItem_list_slice ht.isList (Heap.IsSliceOf.new _ vl vu vs) pl pu ps (by decide) ?_ (by rw [List.size_toArray]; omega)
    rw [PySem.W.krv_pick]
    refine ⟨.ref _, _, I5.laid (t' := s4.toks) (o := .lst xs.reverse) (fun b ob q => Heap.get?_push_of_some _ q) (Nat.le_refl _) ?_, rfl, q _ (I5.hok.fresh (Nat.le_refl _))⟩
    exact ⟨by rw [List.length_reverse]; exact hz, _, 0, r.reverse, Heap.get?_push_size _ rfl⟩
  · obtain ⟨its, r, ht, hz⟩ := I5.tuple hx
    have hlen := r.length
    refine tail_any (ops := [.ref a, .ref s4.heap.objs.size]) ht.typeIs (PyProof.Rows.slot_tuple_getitem.lookup) ?_ (by with_unfolding_all rfl)
    refine getItem_tuple_rev ht (Heap.IsSliceOf.new _ vl vu vs) pl pu ps ?_ (by rw [List.size_toArray]; omega)
    refine ⟨.ref _, _, I5.laid (t' := s4.toks) (o := .frz { cls := .type "tuple", data := .seq its.reverse.toArray } (.tup xs.reverse)) (fun b ob q => Heap.get?_push_of_some _ q) (Nat.le_refl _) ?_, rfl, q _ _ (I5.hok.fresh (Nat.le_refl _)) ?hd⟩
    case hd => rfl
    exact ⟨Heap.get?_push_size _ rfl, by rw [List.length_reverse]; exact hz, _, r.reverse, IsTup.new _ _⟩
def tTupRgB (te : L2.St → Hp → (Int → Int → Hp → Prop) → Prop) : TE := fun σ H Q => te σ H fun a b H1 => RgOk a b ∧ NewT H1 (rgV a b) Q
theorem pe_tupRgB {e : Expr} {te : L2.St → Hp → (Int → Int → Hp → Prop) → Prop} {p pos : Pos} (hc : X.calm = true) (hg : Gl X "tuple") (hm : X.mg "tuple" = none) (he : PRg X e te) (na : starEach [e] X.env = (false, eval e X.env) :: starEach [] X.env := by rfl) : PE X (.Call (.Name "tuple" p) [e] [] pos) (tTupRgB te) := by
  refine ⟨fun pins s σ H Q I h => ?_⟩
  refine Call_ (ld_blt I hg hm boot_tuple (PyProof.Rows.callWith_type1 (args_cons (thn (he pins s σ H _ I h) fun x s1 ⟨r, a, b, t, u, v, H1, ex, hr, I1, ok, q⟩ => args_nil ?_) na) na))
  subst ex
  obtain ⟨b1, b2, b3, b4, b5⟩ := ok
  refine call_tuple_range (n := (b - a).toNat) (I1.ok.hd hc) hr (small_one b1 b2 b3 b4) (rangeSize_nat a b) b5 fun h' tk acc hk hi => ?_
  have I2 : Inv X pins σ H1 { s1 with heap := h', toks := tk } := I1.kept hk
  refine ⟨.ref h'.objs.size, upd H1 h'.objs.size (.frz { cls := .type "tuple", data := .seq acc } (.tup (rgV a b))), I2.laid (t' := tk) (fun c o e => Heap.get?_push_of_some _ e) (Nat.le_refl _) (show ObjOk X.prog X.w _ _ _ (.frz _ (.tup (rgV a b))) from ⟨Heap.get?_push_size _ rfl, ?_, acc.toList, vals_rg hi, ?_⟩), rfl, q _ _ (I2.hok.fresh (Nat.le_refl _)) ?hd⟩
  case hd => rfl
  · rw [rgV_length, sizeLine_eq]; omega
  · rw [Array.toArray_toList]; exact IsTup.new _ _
def rLcm : List V → Hp → VK → Prop := fun vs H Q => ∃ a b : Int, vs = [.int a, .int b] ∧ (0 ≤ a ∧ a < 1048576 ∧ 0 ≤ b ∧ b < 1048576) ∧ Q (.int ((Nat.lcm a.toNat b.toNat : Nat) : Int)) H
theorem lcm_lt {a b : Nat} (ha : a < 1048576) (hb : b < 1048576) : Nat.lcm a b < 2 ^ 64 := by
  have h1 : Nat.lcm a b ≤ a * b := Nat.div_le_self _ _
  have h2 : a * b ≤ 1048576 * 1048576 := Nat.mul_le_mul (by omega) (by omega)
  have h3 : 1048576 * 1048576 < 2 ^ 64 := by decide
  omega
theorem cr_lcm : CallR X (.builtin "math.lcm") rLcm := by
  intro pins s σ H vs us Q I r h
  obtain ⟨a, b, rfl, ⟨a0, a1, b0, b1⟩, q⟩ := h
  obtain ⟨t, u, rfl⟩ := Vals.int2 r
  have ea : a.natAbs = a.toNat := by omega
  have eb : b.natAbs = b.toNat := by omega
  have e : (Nat.lcm 1 a.natAbs).lcm b.natAbs = Nat.lcm a.toNat b.toNat := by rw [Nat.lcm_one_left, ea, eb]
  have hl := lcm_lt (a := a.toNat) (b := b.toNat) (by omega) (by omega)
  refine PySem.W.mg_lcm (by omega) (by omega) ?_ ?_
  · rw [e, Int.natAbs_natCast]
    have : (Nat.lcm a.toNat b.toNat).log2 ≤ 63 := PySem.W.mg_log hl
    have : 63 < bitsLine := by decide
    omega
  · rw [e]
    exact ⟨.int _, H, I.tok _, ⟨_, rfl⟩, q⟩
end
/-! tuple * int -/
theorem tuple_mulS (l : Addr) (items : Array Value) (n : Nat) (dd : Option Addr) (sl : Array (Option Value)) (x : Int) (u : Tok) (c0 : (decide (x < -(2 ^ 63)) || decide (x ≥ 2 ^ 63)) = false) (c1 : (items.isEmpty || x == 1) = true) :
    Meets (Builtin.«tuple.__mul__» ⟨[.ref l, .int x u], []⟩) (fun _ R s => s.heap.get? l = some { cls := .type "tuple", dict := dd, data := .seq items n, slots := sl } ∧ R (.ok (.ret (Value.ref l))) s) :=
  .of_wp fun prog w A R s h => by
    obtain ⟨hp, g, d, tk, os⟩ := s
    obtain ⟨hl, h⟩ := h
    have f1 := AutoSeq1.idx_int
    wp_walk using wpAny_loadPart' hl
    repeat (first
      | (refine wpAny_ite_false (decide_eq_false (by rw [c0]; exact Bool.false_ne_true)) ?_; wp_walk using wpAny_loadPart' hl)
      | (refine wpAny_ite_true (decide_eq_true c1) ?_; wp_walk using wpAny_loadPart' hl)
      | (refine wpAny_ite_true (decide_eq_true rfl) ?_; wp_walk using wpAny_loadPart' hl))
    exact ⟨_, rfl, h⟩
theorem tuple_mulE (l : Addr) (items : Array Value) (n : Nat) (dd : Option Addr) (sl : Array (Option Value)) (x : Int) (u : Tok) (c0 : (decide (x < -(2 ^ 63)) || decide (x ≥ 2 ^ 63)) = false) (c1 : (items.isEmpty || x == 1) = false) (c2 : (decide (x ≤ 0) || items.isEmpty) = true) :
    Meets (Builtin.«tuple.__mul__» ⟨[.ref l, .int x u], []⟩) (fun _ R s => s.heap.get? l = some { cls := .type "tuple", dict := dd, data := .seq items n, slots := sl } ∧
      R (.ok (.ret (Value.ref s.heap.objs.size))) { s with heap := s.heap.push { cls := Value.type "tuple", data := Data.seq #[] }, toks := s.toks }) :=
  .of_wp fun prog w A R s h => by
    obtain ⟨hp, g, d, tk, os⟩ := s
    obtain ⟨hl, h⟩ := h
    have f1 := AutoSeq1.idx_int
    wp_walk using wpAny_loadPart' hl
    repeat (first
      | (refine wpAny_ite_false (decide_eq_false (by rw [c0]; exact Bool.false_ne_true)) ?_; wp_walk using wpAny_loadPart' hl)
      | (refine wpAny_ite_false (decide_eq_false (by rw [c1]; exact Bool.false_ne_true)) ?_; wp_walk using wpAny_loadPart' hl)
      | (refine wpAny_ite_true (decide_eq_true c2) ?_; wp_walk using wpAny_loadPart' hl))
    exact ⟨_, rfl, h⟩
def rRepB (K : PySem.W.Frag) : R2 := fun x y H Q => ∃ l k xs, x = .ref l ∧ y = .int k ∧ SqT K H l xs ∧ (-(2 ^ 63) ≤ k ∧ k < 2 ^ 63 ∧ xs.length * k.toNat ≤ sizeLine) ∧
  ((xs = [] ∨ k = 1) → Q (.ref l) H) ∧ (¬ (xs = [] ∨ k = 1) → NewT H (List.replicate k.toNat xs).flatten Q)
section
variable {X : Cx}
theorem op_repB : OpR X (binaryOp .Mult) (rRepB X.K) := by
  intro pins s σ H x y v u Q I rx ry h
  obtain ⟨l, k, xs, rfl, rfl, hT, ⟨k1, k2, k3⟩, q1, q2⟩ := h
  cases rx
  obtain ⟨t, rfl⟩ := ry
  obtain ⟨its, r, ⟨⟨cls, dd, data, sl⟩, ho, hc, n, hd⟩, hs⟩ := I.tuple hT
  simp only at hc hd
  subst hc hd
  have hle : its.length = xs.length := r.length.symm
  have hsz0 : its.toArray.size = xs.length := by rw [List.size_toArray, hle]
  have he : its.toArray.isEmpty = decide (xs = []) := by
    cases its with
    | nil => rw [List.length_nil] at hle; rw [List.eq_nil_of_length_eq_zero hle.symm]; rfl
    | cons a b =>
      cases xs with
      | nil => simp at hle
      | cons c d => simp
  have c0 : (decide (k < -(2 ^ 63)) || decide (k ≥ 2 ^ 63)) = false := by
    rw [decide_eq_false (by omega), decide_eq_false (by omega)] <;> rfl
  have ek : (k == 1) = decide (k = 1) := by rw [Bool.eq_iff_iff]; simp
  refine wpAny_binaryOp_repeat_ref (T := "tuple") (U := "int") (by decide) ⟨_, ho, rfl⟩ (fun s' => typeIs_int s' k t) noFill_tuple_mul F.fills_int_mul F.slot_int_rmul repeat_tuple F.slot_int_index.lookup
    (call_meets F.slot_int_rmul (typeIs_int s k t) F.entry_int_rmul (F.args_int_rmul_2 _ _) (int_rmul_tuple k t l its.toArray n dd sl)
      ⟨ho, rfl, ⟨_, ho, rfl⟩, ?_⟩)
  by_cases hw : xs = [] ∨ k = 1
  · have c1 : (its.toArray.isEmpty || k == 1) = true := by
      rw [he, ek, Bool.or_eq_true, decide_eq_true_iff, decide_eq_true_iff]
      exact hw
    exact call_meets F.slot_tuple_mul ⟨_, ho, rfl⟩ F.entry_tuple_mul (F.args_tuple_mul_2 _ _) (tuple_mulS l its.toArray n dd sl k t c0 c1) ⟨ho, .ref l, H, I, rfl, q1 hw⟩
  · have hx : xs ≠ [] := fun z => hw (.inl z)
    have hk : k ≠ 1 := fun z => hw (.inr z)
    have c1 : (its.toArray.isEmpty || k == 1) = false := by
      rw [he, ek, decide_eq_false hx, decide_eq_false hk]
      rfl
    have hpos : 0 < xs.length := List.length_pos_iff.mpr hx
    by_cases h0 : k ≤ 0
    · have c2 : (decide (k ≤ 0) || its.toArray.isEmpty) = true := by rw [decide_eq_true h0]; rfl
      refine call_meets F.slot_tuple_mul ⟨_, ho, rfl⟩ F.entry_tuple_mul (F.args_tuple_mul_2 _ _) (tuple_mulE l its.toArray n dd sl k t c0 c1 c2) ⟨ho, ?_⟩
      have e0 : (List.replicate k.toNat xs).flatten = [] := by rw [show k.toNat = 0 by omega]; rfl
      rw [e0] at q2
      refine ⟨.ref s.heap.objs.size, _, I.laid (t' := s.toks) (o := .frz { cls := .type "tuple", data := .seq #[] } (.tup [])) (fun b ob q => Heap.get?_push_of_some _ q) (Nat.le_refl _) ?_, rfl, q2 hw _ _ (I.hok.fresh (Nat.le_refl _)) ?hd⟩
      case hd => rfl
      exact ⟨Heap.get?_push_size _ rfl, by rw [List.length_nil]; omega, [], .nil, IsTup.new _ _⟩
    · have ek2 : (k.toNat : Int) = k := by omega
      have hm : ((its.toArray.size : Nat) : Int) * k ≤ 16777216 := by
        rw [hsz0, ← ek2]
        have : sizeLine = 16777216 := sizeLine_eq
        have := Int.ofNat_le.mpr k3
        rw [Int.natCast_mul] at this
        omega
      have flen : (List.replicate k.toNat its).flatten.length ≤ sizeLine := by
        rw [PyProof.Rows.lm_len_rep_flat, hle, Nat.mul_comm]
        exact k3
      have c2 : (decide (k ≤ 0) || its.toArray.isEmpty) = false := by
        rw [decide_eq_false h0, he, decide_eq_false hx]
        rfl
      have c4 : Builtin.Tuple.tupleTooMany (((its.toArray.size : Nat) : Int) * k) = false := by
        unfold Builtin.Tuple.tupleTooMany
        rw [sizeLine_eq]
        exact decide_eq_false (by omega)
      refine call_meets F.slot_tuple_mul ⟨_, ho, rfl⟩ F.entry_tuple_mul (F.args_tuple_mul_2 _ _) (tuple_mulW l its.toArray n dd sl k t c0 c1 c2 (by omega) c4 (by rw [size_rep, List.size_toArray]; exact flen)) ⟨ho, ?_⟩
      rw [size_rep]
      refine ⟨.ref s.heap.objs.size, _, I.laid (t' := s.toks) (o := .frz { cls := .type "tuple", data := .seq (List.replicate k.toNat its).flatten.toArray } (.tup (List.replicate k.toNat xs).flatten)) (fun b ob q => Heap.get?_push_of_some _ q) (Nat.le_refl _) ?_, rfl, q2 hw _ _ (I.hok.fresh (Nat.le_refl _)) ?hd⟩
      case hd => rfl
      exact ⟨Heap.get?_push_size _ rfl, by rw [PyProof.Rows.lm_len_rep_flat, Nat.mul_comm]; exact k3, _, r.rep k.toNat, IsTup.new _ _⟩
end
end Ab

set_option Elab.async false
set_option linter.all false
/-! AbCore: a small language for the defs of a text (slots for names, no places), its values as trees over a store of lists, and what its terms reckon. -/
namespace Ab
open PySem

/-- a value: trees of tuples over the leaves; a list by its number in the store -/
inductive D where
  | non | bl (b : Bool) | int (i : Int) | str (x : Str) | tup (ds : List D) | ref (l : Nat) | fn (x : Str) | itm (ds : List D)
deriving Inhabited

/-- an exception: its class, its fields -/
structure XV where
  cls : Str
  fs : List (Str × D)

/-- what stands in the store -/
inductive AO where
  | lst (frz : Bool) (ds : List D)
  | dct (kvs : List (Sum Int Str × D))
  | ins (c : Str) (fs : List (Str × D))
  | exo (x : XV)
deriving Inhabited

def AO.mut : AO → Bool
  | .lst true _ => false
  | _ => true

abbrev Sto := List AO
abbrev En := List (Option D)

inductive R (α : Type) where
  | ok (a : α) (st : Sto)
  | ex (x : XV) (st : Sto)
  | bad

def R.bind {α β : Type} (r : R α) (f : α → Sto → R β) : R β :=
  match r with
  | .ok a st => f a st
  | .ex x st => .ex x st
  | .bad => .bad

/-- where nothing may be raised -/
def R.noex {α : Type} (r : R α) : R α :=
  match r with
  | .ex _ _ => .bad
  | r => r

/-- in all: what is wanted of a result -/
def R.sat {α : Type} (r : R α) (Q : α → Sto → Prop) (E : XV → Sto → Prop) : Prop :=
  match r with
  | .ok a st => Q a st
  | .ex x st => E x st
  | .bad => False

inductive Lit where
  | non | bl (b : Bool) | int (i : Int) | str (x : Str)
deriving DecidableEq
def Lit.d : Lit → D
  | .non => .non
  | .bl b => .bl b
  | .int i => .int i
  | .str x => .str x

/-- built-in functions -/
inductive Blt where
  | len | all | any | sum | tuple | list | int | abs | divmod | min | max
deriving DecidableEq
/-- methods of built-in types -/
inductive Mth where
  | append | index | pop
deriving DecidableEq
/-- operations of one value, of two -/
inductive Op1 where
  | rev | trg
deriving DecidableEq
inductive Op2 where
  | lcm
deriving DecidableEq
/-- built-in types that isinstance is asked of -/
inductive Ty where
  | int | bool | str | tuple | list | dict
deriving DecidableEq

mutual
inductive CE where
  | var (i : Nat)
  | lit (l : Lit)
  | glob (x : Str)
  | bin (op : Operator) (a b : CE)
  | neg (a : CE)
  | cmp (op : CmpOp) (a b : CE)
  | chain (o1 o2 : CmpOp) (a b c : CE)
  | and_ (a b : CE)
  | or_ (a b : CE)
  | not_ (a : CE)
  | ife (c a b : CE)
  | tup (es : CEs)
  | lst (es : CEs)
  | dnew
  | dlt (ks : List (Sum Int Str)) (es : CEs)
  | sub (a i : CE)
  | slc (a : CE) (lo hi : Pt)
  | call (f : Str) (es : CEs)
  | callk (f : Str) (es : CEs) (ks : List Str) (ws : CEs)
  | blt (b : Blt) (es : CEs)
  | isi (a : CE) (t : Ty)
  | op1 (o : Op1) (a : CE)
  | op2 (o : Op2) (a b : CE)
  | meth (m : Mth) (o : CE) (es : CEs)
  | lc (elt : CE) (tg : Tg) (it : Itr) (cond : Pt) (own : List Nat)
inductive Pt where
  | none
  | some (e : CE)
inductive CEs where
  | nil
  | cons (e : CE) (es : CEs)
inductive Itr where
  | seq (e : CE)
  | rng1 (a : CE)
  | rng2 (a b : CE)
  | rngd (a b : CE)
  | enum (e : CE)
  | zip (a b : CE)
inductive Tg where
  | nm (i : Nat)
  | tp (ts : Tgs)
  | sb (a i : CE)
inductive Tgs where
  | nil
  | cons (t : Tg) (ts : Tgs)
end

mutual
inductive CS where
  | asg (t : Tg) (e : CE)
  | par (ts : List Nat) (es : CEs)
  | expr (e : CE)
  | ret (e : CE)
  | retN
  | ife (c : CE) (a b : CSs)
  | for_ (t : Tg) (it : Itr) (b : CSs)
  | while_ (c : CE) (b : CSs)
  | pass
  | never
inductive CSs where
  | nil
  | cons (s : CS) (ss : CSs)
end

structure Fn where
  ps : List Str
  N : List Str
  body : CSs

abbrev Tab := Str → Option Fn
abbrev Gb := Str → Option D

/-! ### values -/
def optAll {α β : Type} (f : α → Option β) : List α → Option (List β)
  | [] => some []
  | x :: xs => match f x, optAll f xs with
    | some y, some ys => some (y :: ys)
    | _, _ => none
/-- as data: lists by what stands in the store, to a depth -/
def pd (st : Sto) : Nat → D → Option PyData
  | 0, d => match d with
    | .non => some .none
    | .bl b => some (.bool b)
    | .int i => some (.int i)
    | .str x => some (.str x)
    | _ => none
  | n + 1, d => match d with
    | .non => some .none
    | .bl b => some (.bool b)
    | .int i => some (.int i)
    | .str x => some (.str x)
    | .tup ds => (optAll (pd st n) ds).map .tuple
    | .ref l => (match st[l]? with
      | some (.lst _ ds) => (optAll (pd st n) ds).map .list
      | _ => none)
    | .fn _ => none
    | .itm _ => none
def boolOf : D → Option Bool
  | .bl b => some b
  | _ => none
def intOf : D → Option Int
  | .int i => some i
  | _ => none

/-- == -/
def eqD (st : Sto) (d e : D) : Option Bool :=
  match d, e with
  | .int i, .int j => some (decide (i = j))
  | .str x, .str y => some (decide (x = y))
  | .bl x, .bl y => some (decide (x = y))
  | .non, .non => some true
  | d, e => match pd st 60 d, pd st 60 e with
    | some p, some q => some (PyData.eqv p q)
    | _, _ => none
/-- in -/
def inD (st : Sto) (d : D) : List D → Option Bool
  | [] => some false
  | e :: es => match eqD st e d, inD st d es with
    | some b, some c => some (b || c)
    | _, _ => none
def flatD : D → Bool
  | .non => true | .bl _ => true | .int _ => true | .str _ => true | _ => false

def alloc (o : AO) (st : Sto) : R D := .ok (.ref st.length) (st ++ [o])
def ofOpt {α : Type} (x : Option α) (st : Sto) : R α := match x with
  | some a => .ok a st
  | none => .bad

/-- a text n times -/
def repS (x : Str) (n : Nat) : Str := ⟨(List.replicate n x.cps).foldl (· ++ ·) #[]⟩
def binD (op : Operator) (d e : D) (st : Sto) : R D :=
  match op, d, e with
  | .Add, .int i, .int j => .ok (.int (i + j)) st
  | .Add, .str x, .str y => if x.length + y.length ≤ sizeLine then .ok (.str (x ++ y)) st else .bad
  | .Add, .tup xs, .tup ys => if xs.length + ys.length ≤ sizeLine then .ok (.tup (xs ++ ys)) st else .bad
  | .Add, .ref l, .ref k => match st[l]?, st[k]? with
    | some (.lst false xs), some (.lst false ys) => if xs.length + ys.length ≤ sizeLine then alloc (.lst false (xs ++ ys)) st else .bad
    | _, _ => .bad
  | .Sub, .int i, .int j => .ok (.int (i - j)) st
  | .Mult, .int i, .int j => if (-(2 ^ 64) < i ∧ i < 2 ^ 64) ∨ (-(2 ^ 64) < j ∧ j < 2 ^ 64) then .ok (.int (i * j)) st else .bad
  | .Mult, .ref l, .int k => match st[l]? with
    | some (.lst false xs) => if -(2 ^ 63) ≤ k ∧ k < 2 ^ 63 ∧ xs.length * k.toNat ≤ sizeLine then alloc (.lst false (List.replicate k.toNat xs).flatten) st else .bad
    | _ => .bad
  | .Mult, .str z, .int k => if 2 ≤ k ∧ k ≤ 1000 ∧ 0 < z.length ∧ z.length ≤ 1000 then .ok (.str (repS z k.toNat)) st else .bad
  | .Mult, .tup xs, .int k => if -(2 ^ 63) ≤ k ∧ k < 2 ^ 63 ∧ xs.length * k.toNat ≤ sizeLine then .ok (.tup (List.replicate k.toNat xs).flatten) st else .bad
  | .FloorDiv, .int i, .int j => if 0 < j ∧ j < 1073741824 then .ok (.int (i / j)) st else .bad
  | .Mod, .int i, .int j => if 0 < j then .ok (.int (i % j)) st else .bad
  | .Pow, .int i, .int j => if 0 ≤ j ∧ j ≤ 1000000 ∧ i.natAbs < 2 ^ 64 then .ok (.int (i ^ j.toNat)) st else .bad
  | _, _, _ => .bad

/-- a dict's value at a key; a dict with a value put -/
def keyOf : D → Option (Sum Int Str)
  | .int i => some (.inl i)
  | .str x => some (.inr x)
  | _ => none
def dctOf (st : Sto) (l : Nat) : Option (List (Sum Int Str × D)) := match st[l]? with
  | some (.dct kvs) => some kvs
  | _ => none
def getK (kvs : List (Sum Int Str × D)) (k : Sum Int Str) : Option D := (kvs.find? fun kv => decide (kv.1 = k)).map (·.2)
def putD (kvs : List (Sum Int Str × D)) (k : Sum Int Str) (v : D) : List (Sum Int Str × D) :=
  if (kvs.any fun kv => decide (kv.1 = k)) = true then kvs.map (fun kv => if kv.1 = k then (kv.1, v) else kv) else kvs ++ [(k, v)]
def subStr (x y : Str) : Bool := !(Builtin.Str.occurrences y x 0 y.length 1).isEmpty
def inOp (d e : D) (st : Sto) : Option Bool :=
  match e with
  | .str y => (match d with
    | .str x => some (subStr x y)
    | _ => none)
  | .tup es => if flatD d && es.all flatD then inD st d es else none
  | .ref l => (match st[l]? with
    | some (.lst _ es) => if flatD d && es.all flatD then inD st d es else none
    | _ => (dctOf st l).bind fun kvs => (keyOf d).map fun k => (getK kvs k).isSome)
  | _ => none
def cmpD (op : CmpOp) (d e : D) (st : Sto) : Option Bool :=
  match op with
  | .Eq => eqD st d e
  | .NotEq => (eqD st d e).map (!·)
  | .Lt => match d, e with | .int i, .int j => some (decide (i < j)) | _, _ => none
  | .LtE => match d, e with | .int i, .int j => some (decide (i ≤ j)) | _, _ => none
  | .Gt => match d, e with | .int i, .int j => some (decide (j < i)) | _, _ => none
  | .GtE => match d, e with | .int i, .int j => some (decide (j ≤ i)) | _, _ => none
  | .Is => match e with | .non => (match d with | .non => some true | _ => some false) | .bl b => (match d with | .bl a => some (decide (a = b)) | _ => none) | _ => none
  | .IsNot => match e with | .non => (match d with | .non => some false | _ => some true) | .bl b => (match d with | .bl a => some (!decide (a = b)) | _ => none) | _ => none
  | .In => inOp d e st
  | .NotIn => (inOp d e st).map (!·)

def listOf (st : Sto) : D → Option (List D)
  | .ref l => match st[l]? with
    | some (.lst _ ds) => some ds
    | _ => none
  | _ => none
def seqOf (st : Sto) : D → Option (List D)
  | .tup ds => some ds
  | d => listOf st d

def subD (d i : D) (st : Sto) : R D :=
  match i with
  | .int k => (match d with
    | .tup ds => ofOpt (L2.atI ds k) st
    | .ref l => (match st[l]? with
      | some (.lst _ ds) => ofOpt (L2.atI ds k) st
      | _ => ofOpt ((dctOf st l).bind fun kvs => getK kvs (.inl k)) st)
    | .str x => if x.length ≤ sizeLine then ofOpt ((L2.atI x.cps.toList k).map fun c => D.str ⟨#[c]⟩) st else .bad
    | _ => .bad)
  | .str x => (match d with
    | .ref l => ofOpt ((dctOf st l).bind fun kvs => getK kvs (.inr x)) st
    | _ => .bad)
  | _ => .bad
def setD (d i v : D) (st : Sto) : R Unit :=
  match d, i with
  | .ref l, .int k => (match st[l]? with
    | some (.lst false ds) => (match L2.ixN ds.length k with
      | some j => .ok () (st.set l (.lst false (ds.set j v)))
      | none => .bad)
    | _ => (match dctOf st l with
      | some kvs => if kvs.length < sizeLine then .ok () (st.set l (.dct (putD kvs (.inl k) v))) else .bad
      | none => .bad))
  | .ref l, .str x => (match dctOf st l with
    | some kvs => if kvs.length < sizeLine then .ok () (st.set l (.dct (putD kvs (.inr x) v))) else .bad
    | none => .bad)
  | _, _ => .bad
def cut {α : Type} (xs : List α) (lo hi : Option Int) : List α := (xs.drop (HT.sIx xs.length 0 lo)).take (HT.sIx xs.length xs.length hi - HT.sIx xs.length 0 lo)
def slcD (d : D) (lo hi : Option Int) (st : Sto) : R D :=
  match d with
  | .tup ds => .ok (.tup (cut ds lo hi)) st
  | .ref l => (match st[l]? with
    | some (.lst _ ds) => alloc (.lst false (cut ds lo hi)) st
    | _ => .bad)
  | .str x => if x.length ≤ sizeLine then .ok (.str (L2.cutS x lo hi)) st else .bad
  | _ => .bad

def isiD (t : Ty) (d : D) (st : Sto) : Option Bool :=
  match d with
  | .non => some false
  | .bl _ => some (t == .bool || t == .int)
  | .int _ => some (t == .int)
  | .str _ => some (t == .str)
  | .tup _ => some (t == .tuple)
  | .ref l => (match st[l]? with
    | some (.lst _ _) => some (t == .list)
    | _ => (dctOf st l).map fun _ => t == .dict)
  | .fn _ => none
  | .itm _ => none

def maxL : List Int → Option Int
  | [] => none
  | x :: xs => some (xs.foldl max x)
def minL : List Int → Option Int
  | [] => none
  | x :: xs => some (xs.foldl min x)
def bltD (b : Blt) (ds : List D) (st : Sto) : R D :=
  match b, ds with
  | .len, [.str x] => if x.length ≤ sizeLine then .ok (.int x.length) st else .bad
  | .len, [d] => ofOpt ((seqOf st d).map fun xs => D.int xs.length) st
  | .all, [d] => ofOpt (((listOf st d).bind (optAll boolOf)).map fun bs => D.bl (bs.all id)) st
  | .any, [d] => ofOpt (((listOf st d).bind (optAll boolOf)).map fun bs => D.bl (bs.any id)) st
  | .sum, [d] => ofOpt (((seqOf st d).bind (optAll intOf)).map fun ns => D.int ns.sum) st
  | .tuple, [d] => ofOpt ((seqOf st d).map fun xs => D.tup xs) st
  | .list, [d] => match seqOf st d with
    | some xs => alloc (.lst false xs) st
    | none => .bad
  | .int, [.int i] => .ok (.int i) st
  | .int, [.bl b] => .ok (.int (if b then 1 else 0)) st
  | .abs, [.int i] => .ok (.int (if i < 0 then -i else i)) st
  | .divmod, [.int i, .int j] => if 0 < j ∧ j < 1073741824 then .ok (.tup [.int (i / j), .int (i % j)]) st else .bad
  | .min, [.int i, .int j] => .ok (.int (if j < i then j else i)) st
  | .max, [.int i, .int j] => .ok (.int (if j > i then j else i)) st
  | .min, [d] => ofOpt ((((listOf st d).bind (optAll intOf)).bind minL).map D.int) st
  | .max, [d] => ofOpt ((((listOf st d).bind (optAll intOf)).bind maxL).map D.int) st
  | _, _ => .bad

def findD (st : Sto) (d : D) : List D → Nat → Option (Option Nat)
  | [], _ => some none
  | e :: es, k => match eqD st e d with
    | some true => some (some k)
    | some false => findD st d es (k + 1)
    | none => none
def strOf : D → Option Str
  | .str x => some x
  | _ => none
/-- the receivers of a method: lists, and tuples where their places are asked for -/
def rcvD (m : Mth) (st : Sto) (d : D) : Option (List D) := match d with
  | .tup ds => (match m with
    | .index => some ds
    | _ => none)
  | d => listOf st d
def mthD (m : Mth) (o : D) (ds : List D) (st : Sto) : R D :=
  match o with
  | .tup xs => (match m, ds with
    | .index, [.str z] => (match (optAll strOf xs).bind fun ys => ys.findIdx? fun y => decide (y = z) with
      | some k => .ok (.int k) st
      | none => .bad)
    | _, _ => .bad)
  | .ref l => (match st[l]? with
    | some (.lst false xs) => (match m, ds with
      | .append, [d] => if xs.length < sizeLine then .ok .non (st.set l (.lst false (xs ++ [d]))) else .bad
      | .index, [d] => if flatD d && xs.all flatD then (match findD st d xs 0 with
        | some (some k) => .ok (.int k) st
        | _ => .bad) else .bad
      | .pop, [] => (match xs[xs.length - 1]? with
        | some y => .ok y (st.set l (.lst false xs.dropLast))
        | none => .bad)
      | _, _ => .bad)
    | _ => .bad)
  | _ => .bad

/-! ### what a loop walks: the items, and the list that has to stay as it is -/
structure Src where
  items : List D
  lock : List (Nat × List D)
def Src.still (s : Src) (st : Sto) : Prop := ∀ p ∈ s.lock, ∃ f, st[p.1]? = some (.lst f p.2)
def srcSeq (d : D) (st : Sto) : R Src :=
  match d with
  | .tup ds => .ok ⟨ds, []⟩ st
  | .ref l => (match st[l]? with
    | some (.lst _ ds) => .ok ⟨ds, [(l, ds)]⟩ st
    | _ => .bad)
  | .str x => .ok ⟨x.cps.toList.map fun c => D.str ⟨#[c]⟩, []⟩ st
  | _ => .bad
def rangeL (lo : Int) (n : Nat) : List D := (List.range n).map fun (k : Nat) => D.int (lo + (k : Int))
@[irreducible] def srcRng (i j : D) (st : Sto) : R Src :=
  match i, j with
  | .int i, .int j => if -(2 ^ 62) ≤ i ∧ i < 2 ^ 62 ∧ -(2 ^ 62) ≤ j ∧ j < 2 ^ 62 then .ok ⟨rangeL i (j - i).toNat, []⟩ st else .bad
  | _, _ => .bad
def rangeB (hi : Int) (n : Nat) : List D := (List.range n).map fun (k : Nat) => D.int (hi - (k : Int))
/-- down by ones -/
@[irreducible] def srcRngd (i j : D) (st : Sto) : R Src :=
  match i, j with
  | .int i, .int j => if -(2 ^ 62) ≤ i ∧ i < 2 ^ 62 ∧ -(2 ^ 62) ≤ j ∧ j < 2 ^ 62 then .ok ⟨rangeB i (i - j).toNat, []⟩ st else .bad
  | _, _ => .bad
/-- operations -/
def op1D (o : Op1) (d : D) (st : Sto) : R D :=
  match o with
  | .rev => (match d with
    | .tup ds => .ok (.tup ds.reverse) st
    | .ref l => (match st[l]? with
      | some (.lst _ ds) => alloc (.lst false ds.reverse) st
      | _ => .bad)
    | _ => .bad)
  | .trg => (match d with
    | .int j => if -(2 ^ 62) ≤ j ∧ j ≤ 16777216 then .ok (.tup (rangeL 0 j.toNat)) st else .bad
    | _ => .bad)
def op2D (o : Op2) (d e : D) (st : Sto) : R D :=
  match o with
  | .lcm => (match d, e with
    | .int i, .int j => if 0 ≤ i ∧ i < 1048576 ∧ 0 ≤ j ∧ j < 1048576 then .ok (.int ((Nat.lcm i.toNat j.toNat : Nat) : Int)) st else .bad
    | _, _ => .bad)
def enumL (k : Nat) : List D → List D
  | [] => []
  | d :: ds => .itm [.int (k : Int), d] :: enumL (k + 1) ds
def srcEnum (d : D) (st : Sto) : R Src :=
  match d with
  | .tup ds => .ok ⟨enumL 0 ds, []⟩ st
  | .ref l => (match st[l]? with
    | some (.lst _ ds) => .ok ⟨enumL 0 ds, [(l, ds)]⟩ st
    | _ => .bad)
  | _ => .bad
def zipL : List D → List D → List D
  | x :: xs, y :: ys => .itm [x, y] :: zipL xs ys
  | _, _ => []

def srcZip (d e : D) (st : Sto) : R Src :=
  match d, e with
  | .tup xs, .tup ys => .ok ⟨zipL xs ys, []⟩ st
  | .ref l, .ref k => (match st[l]?, st[k]? with
    | some (.lst _ xs), some (.lst _ ys) => .ok ⟨zipL xs ys, [(l, xs), (k, ys)]⟩ st
    | _, _ => .bad)
  | .tup xs, .ref k => (match st[k]? with
    | some (.lst _ ys) => .ok ⟨zipL xs ys, [(k, ys)]⟩ st
    | _ => .bad)
  | .ref l, .tup ys => (match st[l]? with
    | some (.lst _ xs) => .ok ⟨zipL xs ys, [(l, xs)]⟩ st
    | _ => .bad)
  | _, _ => .bad

def wipeE (env : En) : List Nat → En
  | [] => env
  | v :: vs => (wipeE env vs).set v none

open Classical in
/-- the items of a comprehension, one behind another; what it has made stands apart from the store -/
noncomputable def lcLoop (s : Src) (f : D → Sto → R (Option D)) : List D → List D → Sto → R (List D)
  | [], acc, st => if s.still st then .ok acc st else .bad
  | d :: ds, acc, st => if s.still st then (f d st).bind fun r st1 => match r with
    | some y => if acc.length < sizeLine then lcLoop s f ds (acc ++ [y]) st1 else .bad
    | none => lcLoop s f ds acc st1 else .bad

/-! ### statements' ends -/
inductive RS where
  | nx (env : En) (st : Sto)
  | rt (d : D) (st : Sto)
  | bk (env : En) (st : Sto)
  | ct (env : En) (st : Sto)
  | ex (x : XV) (env : En) (st : Sto)
  | bad
def RS.of {α : Type} (env : En) (r : R α) (f : α → Sto → RS) : RS := match r with
  | .ok a st => f a st
  | .ex x st => .ex x env st
  | .bad => .bad
def RS.andThen (r : RS) (f : En → Sto → RS) : RS := match r with
  | .nx env st => f env st
  | r => r

open Classical in
noncomputable def forLoop (s : Src) (g : D → En → Sto → R En) (b : En → Sto → RS) : List D → En → Sto → RS
  | [], env, st => if s.still st then .nx env st else .bad
  | d :: ds, env, st => if s.still st then RS.of env (g d env st) fun env1 st1 => match b env1 st1 with
    | .nx env2 st2 => forLoop s g b ds env2 st2
    | .ct env2 st2 => forLoop s g b ds env2 st2
    | .bk env2 st2 => .nx env2 st2
    | r => r else .bad
def whileLoop (c : En → Sto → R Bool) (b : En → Sto → RS) : Nat → En → Sto → RS
  | 0, _, _ => .bad
  | n + 1, env, st => RS.of env (c env st) fun k st1 => if k = true then (match b env st1 with
    | .nx env2 st2 => whileLoop c b n env2 st2
    | .ct env2 st2 => whileLoop c b n env2 st2
    | .bk env2 st2 => .nx env2 st2
    | r => r) else .nx env st1

/-- the longest while -/
def turns : Nat := 10 ^ 12

def asBool (d : D) (st : Sto) : R Bool := match d with
  | .bl b => .ok b st
  | _ => .bad
def asPart (d : D) (st : Sto) : R (Option Int) := match d with
  | .int i => .ok (some i) st
  | _ => .bad

section
variable (T : Tab) (G : Gb) (F : Str → List D → Sto → R D)
def lookKw (ks : List Str) (ws : List D) (p : Str) : Option D := (ks.zip ws).lookup p
/-- positional values, then the keywords' in the parameters' order -/
def bindKw (ps : List Str) (ds : List D) (ks : List Str) (ws : List D) : Option (List D) :=
  (optAll (lookKw ks ws) (ps.drop ds.length)).map (ds ++ ·)

mutual
noncomputable def evE : CE → En → Sto → R D
  | .var i, env, st => match env[i]? with
    | some (some d) => .ok d st
    | _ => .bad
  | .lit l, _, st => .ok l.d st
  | .glob x, _, st => ofOpt (G x) st
  | .bin op a b, env, st => (evE a env st).bind fun d st1 => (evE b env st1).bind fun e st2 => binD op d e st2
  | .neg a, env, st => (evE a env st).bind fun d st1 => match d with
    | .int i => .ok (.int (-i)) st1
    | _ => .bad
  | .cmp op a b, env, st => (evE a env st).bind fun d st1 => (evE b env st1).bind fun e st2 => ofOpt ((cmpD op d e st2).map D.bl) st2
  | .chain o1 o2 a b c, env, st => (evE a env st).bind fun d st1 => (evE b env st1).bind fun e st2 => (ofOpt (cmpD o1 d e st2) st2).bind fun k st3 =>
      if k = true then (evE c env st3).bind fun h st4 => ofOpt ((cmpD o2 e h st4).map D.bl) st4 else .ok (.bl false) st3
  | .and_ a b, env, st => (evE a env st).bind fun d st1 => (asBool d st1).bind fun k st2 => if k = true then evE b env st2 else .ok (.bl false) st2
  | .or_ a b, env, st => (evE a env st).bind fun d st1 => (asBool d st1).bind fun k st2 => if k = true then .ok (.bl true) st2 else evE b env st2
  | .not_ a, env, st => (evE a env st).bind fun d st1 => (asBool d st1).bind fun k st2 => .ok (.bl (!k)) st2
  | .ife c a b, env, st => (evE c env st).bind fun d st1 => (asBool d st1).bind fun k st2 => if k = true then evE a env st2 else evE b env st2
  | .tup es, env, st => (evEs es env st).bind fun ds st1 => if ds.length ≤ sizeLine then .ok (.tup ds) st1 else .bad
  | .lst es, env, st => (evEs es env st).bind fun ds st1 => if ds.length ≤ sizeLine then alloc (.lst false ds) st1 else .bad
  | .dnew, _, st => alloc (.dct []) st
  | .dlt ks es, env, st => (evEs es env st).bind fun ds st1 => alloc (.dct (ks.zip ds)) st1
  | .sub a i, env, st => (evE a env st).bind fun d st1 => (evE i env st1).bind fun k st2 => subD d k st2
  | .slc a lo hi, env, st => (evE a env st).bind fun d st1 => (evP lo env st1).bind fun l st2 => (evP hi env st2).bind fun h st3 => slcD d l h st3
  | .call f es, env, st => (evEs es env st).bind fun ds st1 => F f ds st1
  | .callk f es ks ws, env, st => (evEs es env st).bind fun ds st1 => (evEs ws env st1).bind fun zs st2 => match T f with
    | some fn => (match bindKw fn.ps ds ks zs with
      | some as => F f as st2
      | none => .bad)
    | none => .bad
  | .blt b es, env, st => (evEs es env st).bind fun ds st1 => bltD b ds st1
  | .isi a t, env, st => (evE a env st).bind fun d st1 => ofOpt ((isiD t d st1).map D.bl) st1
  | .op1 o a, env, st => (evE a env st).bind fun d st1 => op1D o d st1
  | .op2 o a b, env, st => (evE a env st).bind fun d st1 => (evE b env st1).bind fun e st2 => op2D o d e st2
  | .meth m o es, env, st => (evE o env st).bind fun d st1 => match rcvD m st1 d with
    | some _ => (evEs es env st1).bind fun ds st2 => mthD m d ds st2
    | none => .bad
  | .lc elt tg it cond own, env, st => (evI it env st).bind fun s st1 =>
      (lcLoop s (fun d st2 => (setT tg d (wipeE env own) st2).bind fun env2 st3 => (evC cond env2 st3).noex.bind fun k st4 =>
        if k = true then (evE elt env2 st4).noex.bind fun y st5 => .ok (some y) st5 else .ok none st4) s.items [] st1).noex.bind fun ys st6 => alloc (.lst false ys) st6
/-- a clause's test: none is true -/
noncomputable def evC : Pt → En → Sto → R Bool
  | .none, _, st => .ok true st
  | .some c, env, st => (evE c env st).bind fun d st1 => asBool d st1
noncomputable def evP : Pt → En → Sto → R (Option Int)
  | .none, _, st => .ok Option.none st
  | .some e, env, st => (evE e env st).bind fun d st1 => asPart d st1
noncomputable def evEs : CEs → En → Sto → R (List D)
  | .nil, _, st => .ok [] st
  | .cons e es, env, st => (evE e env st).bind fun d st1 => (evEs es env st1).bind fun ds st2 => .ok (d :: ds) st2
noncomputable def evI : Itr → En → Sto → R Src
  | .seq e, env, st => (evE e env st).bind fun d st1 => srcSeq d st1
  | .rng1 a, env, st => (evE a env st).bind fun d st1 => srcRng (.int 0) d st1
  | .rng2 a b, env, st => (evE a env st).bind fun d st1 => (evE b env st1).bind fun e st2 => srcRng d e st2
  | .rngd a b, env, st => (evE a env st).bind fun d st1 => (evE b env st1).bind fun e st2 => srcRngd d e st2
  | .enum e, env, st => (evE e env st).bind fun d st1 => srcEnum d st1
  | .zip a b, env, st => (evE a env st).bind fun d st1 => (evE b env st1).bind fun e st2 => srcZip d e st2
noncomputable def setT : Tg → D → En → Sto → R En
  | .nm i, d, env, st => .ok (env.set i (some d)) st
  | .tp ts, d, env, st => match d with
    | .tup ds => setTs ts ds env st
    | .itm ds => setTs ts ds env st
    | _ => .bad
  | .sb a i, d, env, st => (evE a env st).noex.bind fun o st1 => (evE i env st1).noex.bind fun k st2 => (setD o k d st2).bind fun _ st3 => .ok env st3
noncomputable def setTs : Tgs → List D → En → Sto → R En
  | .nil, ds, env, st => match ds with
    | [] => .ok env st
    | _ => .bad
  | .cons t ts, ds, env, st => match ds with
    | d :: r => (setT t d env st).bind fun env1 st1 => setTs ts r env1 st1
    | [] => .bad
end
/-- c as a test -/
noncomputable def evT (c : CE) (env : En) (st : Sto) : R Bool := (evE T G F c env st).bind fun d st1 => asBool d st1

mutual
noncomputable def evS : CS → En → Sto → RS
  | .asg t e, env, st => RS.of env (evE T G F e env st) fun d st1 => RS.of env (setT T G F t d env st1) fun env1 st2 => .nx env1 st2
  | .par ts es, env, st => RS.of env (evEs T G F es env st) fun ds st1 => if ds.length = ts.length then .nx ((ts.zip ds).foldl (fun (v : En) p => v.set p.1 (some p.2)) env) st1 else .bad
  | .expr e, env, st => RS.of env (evE T G F e env st) fun _ st1 => .nx env st1
  | .ret e, env, st => RS.of env (evE T G F e env st) fun d st1 => .rt d st1
  | .retN, _, st => .rt .non st
  | .ife c a b, env, st => RS.of env (evT T G F c env st) fun k st1 => if k = true then evSs a env st1 else evSs b env st1
  | .for_ t it b, env, st => RS.of env (evI T G F it env st) fun s st1 => forLoop s (setT T G F t) (evSs b) s.items env st1
  | .while_ c b, env, st => whileLoop (evT T G F c) (evSs b) turns env st
  | .pass, env, st => .nx env st
  | .never, _, _ => .bad
noncomputable def evSs : CSs → En → Sto → RS
  | .nil, env, st => .nx env st
  | .cons s ss, env, st => (evS s env st).andThen (evSs ss)
end

/-- a def's body, from its arguments on -/
noncomputable def runFn (fn : Fn) (ds : List D) (st : Sto) : R D :=
  match evSs T G F fn.body (ds.map some ++ List.replicate (fn.N.length - ds.length) none) st with
  | .nx _ st' => .ok .non st'
  | .rt d st' => .ok d st'
  | .ex x _ st' => .ex x st'
  | _ => .bad
end

noncomputable def callN (T : Tab) (G : Gb) : Nat → Str → List D → Sto → R D
  | 0, _, _, _ => .bad
  | k + 1, f, ds, st => match T f with
    | some fn => if ds.length = fn.ps.length then runFn T G (callN T G k) fn ds st else .bad
    | none => .bad
/-- a call, by depth -/
@[irreducible] noncomputable def callF (T : Tab) (G : Gb) : Nat → Str → List D → Sto → R D := callN T G
theorem callF_def {T : Tab} {G : Gb} : callF T G = callN T G := by unfold callF <;> rfl
theorem callF_zero {T : Tab} {G : Gb} {f : Str} {ds : List D} {st : Sto} : callF T G 0 f ds st = .bad := by rw [callF_def] <;> rfl
theorem callF_succ {T : Tab} {G : Gb} {k : Nat} {f : Str} {fn : Fn} {ds : List D} {st : Sto} (h : T f = some fn) (hl : ds.length = fn.ps.length) : callF T G (k + 1) f ds st = runFn T G (callF T G k) fn ds st := by
  rw [callF_def]
  show (match T f with
    | some fn => if ds.length = fn.ps.length then runFn T G (callN T G k) fn ds st else .bad
    | none => .bad) = _
  rw [h]
  exact if_pos hl
theorem callF_len {T : Tab} {G : Gb} {k : Nat} {f : Str} {fn : Fn} (hf : T f = some fn) {ds : List D} {st : Sto} (h : ds.length ≠ fn.ps.length) : callF T G k f ds st = .bad := by
  cases k with
  | zero => exact callF_zero
  | succ k =>
    rw [callF_def]
    show (match T f with
      | some fn => if ds.length = fn.ps.length then runFn T G (callN T G k) fn ds st else .bad
      | none => .bad) = _
    rw [hf]
    exact if_neg h
end Ab

set_option Elab.async false
set_option linter.all false
set_option autoImplicit false
/-! AbRel: how a value and a store lie in the layer's heap; readings that a term's reckoning gives. -/
namespace Ab
open PySem PySem.Spec PyProof.Rows L2

def sOk (x : Str) : Bool := x.cps.all (· < 0x110000)

section
variable (K : PySem.W.Frag) (mg : Str → Option Value) (m : List Addr) (H : Hp)
mutual
def Den : D → V → Prop
  | .non, v => v = .non
  | .bl b, v => v = .bl b
  | .int i, v => v = .int i
  | .str x, v => v = .str x ∧ sOk x = true
  | .tup ds, v => ∃ a vs, v = .ref a ∧ SqB H a vs ∧ Dens ds vs
  | .itm ds, v => ∃ a vs, v = .ref a ∧ SqT K H a vs ∧ Dens ds vs
  | .ref l, v => ∃ a, m[l]? = some a ∧ v = .ref a
  | .fn x, v => ∃ a, mg x = some (.ref a) ∧ v = .ref a
def Dens : List D → List V → Prop
  | [], vs => vs = []
  | d :: ds, vs => ∃ v r, vs = v :: r ∧ Den d v ∧ Dens ds r
end
/-- what stands at a place that the store may change -/
def MutO : HO → Prop
  | .lst _ => True
  | .dK _ => True
  | _ => False
/-- an object of the store -/
def ObjD (a : Addr) : AO → Prop
  | .lst false ds => ∃ vs, H a = some (.lst vs) ∧ Dens K mg m H ds vs
  | .lst true ds => ∃ vs, ((∃ o, H a = some (.frz o (.lst vs))) ∨ (∀ H', SqL K H' a vs)) ∧ Dens K mg m H ds vs
  | .dct kvs => ∃ ws : List (Sum Int Str × V), H a = some (.dK ws) ∧ ws.map (·.1) = kvs.map (·.1) ∧ Dens K mg m H (kvs.map (·.2)) (ws.map (·.2))
  | _ => False
end
/-- a place of the heap that the store may change -/
def Trk (m : List Addr) (st : Sto) (a : Addr) : Prop := ∃ (l : Nat) (o : AO), m[l]? = some a ∧ st[l]? = some o ∧ o.mut = true

structure StOk (K : PySem.W.Frag) (mg : Str → Option Value) (m : List Addr) (H : Hp) (st : Sto) : Prop where
  len : m.length = st.length
  inj : ∀ (l k : Nat) (a : Addr) (o u : AO), m[l]? = some a → m[k]? = some a → st[l]? = some o → st[k]? = some u → o.mut = true → u.mut = true → l = k
  obj : ∀ (l : Nat) (a : Addr) (o : AO), m[l]? = some a → st[l]? = some o → ObjD K mg m H a o

structure Grow (m : List Addr) (H : Hp) (st : Sto) (m' : List Addr) (H' : Hp) (st' : Sto) : Prop where
  ext : ∀ (l : Nat) (a : Addr), m[l]? = some a → m'[l]? = some a
  keep : ∀ a o, H a = some o → ¬ Trk m st a → H' a = some o ∧ ¬ Trk m' st' a

theorem Grow.refl {m : List Addr} {H : Hp} {st : Sto} : Grow m H st m H st := ⟨fun _ _ h => h, fun _ _ h k => ⟨h, k⟩⟩
theorem Grow.trans {m m1 m2 : List Addr} {H H1 H2 : Hp} {st st1 st2 : Sto} (a : Grow m H st m1 H1 st1) (b : Grow m1 H1 st1 m2 H2 st2) : Grow m H st m2 H2 st2 :=
  ⟨fun l c h => b.ext l c (a.ext l c h), fun c o h k => let ⟨h1, k1⟩ := a.keep c o h k; b.keep c o h1 k1⟩

section
variable {K : PySem.W.Frag} {mg : Str → Option Value} {m m' : List Addr} {H H' : Hp} {st st' : Sto}

/-- a tuple's place isn't one that the store changes -/
theorem StOk.noTrk (S : StOk K mg m H st) {a : Addr} {o : HO} (h : H a = some o) (hn : ¬ MutO o) : ¬ Trk m st a := by
  rintro ⟨l, u, h1, h2, h3⟩
  have q := S.obj l a u h1 h2
  cases u with
  | lst f ds =>
    cases f with
    | true => cases h3
    | false =>
      obtain ⟨vs, e, _⟩ := q
      rw [h] at e
      cases e
      exact hn trivial
  | dct _ =>
    obtain ⟨vs, e, _⟩ := q
    rw [h] at e
    cases e
    exact hn trivial
  | ins _ _ => exact q
  | exo _ => exact q
theorem SqT.grow (S : StOk K mg m H st) (g : Grow m H st m' H' st') {a : Addr} {vs : List V} (h : SqT K H a vs) : SqT K H' a vs := by
  rcases h with (h | ⟨o, h⟩) | h
  · exact .inl (.inl (g.keep a _ h (S.noTrk h fun z => z)).1)
  · exact .inl (.inr ⟨o, (g.keep a _ h (S.noTrk h fun z => z)).1⟩)
  · exact .inr h
/-- tuples stay -/
structure Keeps (K : PySem.W.Frag) (H H' : Hp) : Prop where
  t : ∀ a vs, SqT K H a vs → SqT K H' a vs
  b : ∀ a vs, SqB H a vs → SqB H' a vs
theorem Keeps.refl : Keeps K H H := ⟨fun _ _ h => h, fun _ _ h => h⟩
theorem Keeps.grow (S : StOk K mg m H st) (g : Grow m H st m' H' st') : Keeps K H H' := ⟨fun _ _ h => SqT.grow S g h, fun a vs ⟨ob, h, e⟩ => ⟨ob, (g.keep a _ h (S.noTrk h fun z => z)).1, e⟩⟩
mutual
theorem Den.mono (he : ∀ (l : Nat) (a : Addr), m[l]? = some a → m'[l]? = some a) (ht : Keeps K H H') : ∀ (d : D) (v : V), Den K mg m H d v → Den K mg m' H' d v
  | .non, _, h => h
  | .bl _, _, h => h
  | .int _, _, h => h
  | .str _, _, h => h
  | .tup ds, _, h => by
    obtain ⟨a, vs, e, h1, h2⟩ := h
    exact ⟨a, vs, e, ht.b _ _ h1, Dens.mono he ht ds vs h2⟩
  | .itm ds, _, h => by
    obtain ⟨a, vs, e, h1, h2⟩ := h
    exact ⟨a, vs, e, ht.t _ _ h1, Dens.mono he ht ds vs h2⟩
  | .ref _, _, h => by
    obtain ⟨a, h1, h2⟩ := h
    exact ⟨a, he _ _ h1, h2⟩
  | .fn _, _, h => h
theorem Dens.mono (he : ∀ (l : Nat) (a : Addr), m[l]? = some a → m'[l]? = some a) (ht : Keeps K H H') : ∀ (ds : List D) (vs : List V), Dens K mg m H ds vs → Dens K mg m' H' ds vs
  | [], _, h => h
  | d :: ds, _, h => by
    obtain ⟨v, r, e, h1, h2⟩ := h
    exact ⟨v, r, e, Den.mono he ht d v h1, Dens.mono he ht ds r h2⟩
end
theorem Den.grow (S : StOk K mg m H st) (g : Grow m H st m' H' st') {d : D} {v : V} (h : Den K mg m H d v) : Den K mg m' H' d v := Den.mono g.ext (Keeps.grow S g) d v h
theorem Dens.grow (S : StOk K mg m H st) (g : Grow m H st m' H' st') {ds : List D} {vs : List V} (h : Dens K mg m H ds vs) : Dens K mg m' H' ds vs := Dens.mono g.ext (Keeps.grow S g) ds vs h

theorem Dens.length : ∀ {ds : List D} {vs : List V}, Dens K mg m H ds vs → ds.length = vs.length
  | [], _, h => by
    cases h
    rfl
  | _ :: ds, _, h => by
    obtain ⟨v, r, rfl, _, h2⟩ := h
    simp [Dens.length h2]
theorem Dens.get : ∀ {ds : List D} {vs : List V} {i : Nat} {d : D}, Dens K mg m H ds vs → ds[i]? = some d → ∃ v, vs[i]? = some v ∧ Den K mg m H d v
  | [], _, _, _, _, e => by simp at e
  | d :: ds, _, 0, _, h, e => by
    obtain ⟨v, r, rfl, h1, _⟩ := h
    simp at e
    subst e
    exact ⟨v, rfl, h1⟩
  | d :: ds, _, i + 1, _, h, e => by
    obtain ⟨v, r, rfl, _, h2⟩ := h
    obtain ⟨u, q1, q2⟩ := Dens.get (i := i) h2 (by simpa using e)
    exact ⟨u, by simpa using q1, q2⟩
theorem Dens.append : ∀ {ds es : List D} {vs us : List V}, Dens K mg m H ds vs → Dens K mg m H es us → Dens K mg m H (ds ++ es) (vs ++ us)
  | [], _, _, _, h, q => by
    cases h
    exact q
  | _ :: ds, _, _, _, h, q => by
    obtain ⟨v, r, rfl, h1, h2⟩ := h
    exact ⟨v, r ++ _, rfl, h1, Dens.append h2 q⟩
theorem Dens.one {d : D} {v : V} (h : Den K mg m H d v) : Dens K mg m H [d] [v] := ⟨v, [], rfl, h, rfl⟩
theorem Dens.take : ∀ {ds : List D} {vs : List V} (n : Nat), Dens K mg m H ds vs → Dens K mg m H (ds.take n) (vs.take n)
  | _, _, 0, _ => by simp [Dens]
  | [], _, n + 1, h => by
    cases h
    simp [Dens]
  | _ :: ds, _, n + 1, h => by
    obtain ⟨v, r, rfl, h1, h2⟩ := h
    exact ⟨v, r.take n, rfl, h1, Dens.take n h2⟩
theorem Dens.drop : ∀ {ds : List D} {vs : List V} (n : Nat), Dens K mg m H ds vs → Dens K mg m H (ds.drop n) (vs.drop n)
  | _, _, 0, h => by simpa using h
  | [], _, n + 1, h => by
    cases h
    simp [Dens]
  | _ :: ds, _, n + 1, h => by
    obtain ⟨v, r, rfl, h1, h2⟩ := h
    simpa using Dens.drop n h2
theorem Dens.set : ∀ {ds : List D} {vs : List V} {d : D} {v : V} (n : Nat), Dens K mg m H ds vs → Den K mg m H d v → Dens K mg m H (ds.set n d) (vs.set n v)
  | [], _, _, _, n, h, _ => by
    cases h
    simp [Dens]
  | _ :: ds, _, _, _, 0, h, q => by
    obtain ⟨v, r, rfl, h1, h2⟩ := h
    exact ⟨_, r, rfl, q, h2⟩
  | _ :: ds, _, _, _, n + 1, h, q => by
    obtain ⟨v, r, rfl, h1, h2⟩ := h
    exact ⟨v, r.set n _, rfl, h1, Dens.set n h2 q⟩

/-! ### a new list; a list changed -/
theorem Trk.some (S : StOk K mg m H st) {a : Addr} (t : Trk m st a) : ∃ u, MutO u ∧ H a = Option.some u := by
  obtain ⟨l, u, h1, h2, h3⟩ := t
  have q := S.obj l a u h1 h2
  cases u with
  | lst f ds =>
    cases f with
    | true => cases h3
    | false =>
      obtain ⟨vs, e, _⟩ := q
      exact ⟨.lst vs, trivial, e⟩
  | dct _ =>
    obtain ⟨vs, e, _⟩ := q
    exact ⟨.dK vs, trivial, e⟩
  | ins _ _ => exact q.elim
  | exo _ => exact q.elim
theorem get_snoc {α : Type} {xs : List α} {x y : α} {i : Nat} (h : (xs ++ [x])[i]? = some y) : xs[i]? = some y ∨ (i = xs.length ∧ x = y) := by
  by_cases hi : i < xs.length
  · rw [List.getElem?_append_left hi] at h
    exact .inl h
  · rw [List.getElem?_append_right (by omega)] at h
    cases q : i - xs.length with
    | zero =>
      rw [q] at h
      exact .inr ⟨by omega, by simpa using h⟩
    | succ n =>
      rw [q] at h
      simp at h
theorem get_snoc_old {α : Type} {xs : List α} {x y : α} {i : Nat} (h : xs[i]? = some y) : (xs ++ [x])[i]? = some y := by
  rw [List.getElem?_append_left (List.getElem?_eq_some_iff.mp h).1]
  exact h
theorem Trk.snoc {p a : Addr} {o : AO} (hl : m.length = st.length) (t : Trk (m ++ [p]) (st ++ [o]) a) : Trk m st a ∨ a = p := by
  obtain ⟨l, u, h1, h2, h3⟩ := t
  rcases get_snoc h1 with h1 | ⟨e1, h1⟩
  · rcases get_snoc h2 with h2 | ⟨e2, _⟩
    · exact .inl ⟨l, u, h1, h2, h3⟩
    · have := (List.getElem?_eq_some_iff.mp h1).1
      omega
  · exact .inr h1.symm
theorem ObjD.mono {a : Addr} (he : ∀ (l : Nat) (a : Addr), m[l]? = some a → m'[l]? = some a) (ht : Keeps K H H') (hf : ∀ o vs, H a = some (.frz o (.lst vs)) → H' a = some (.frz o (.lst vs))) :
    ∀ {o : AO}, (o.mut = true → ∀ u, MutO u → H a = some u → H' a = some u) → ObjD K mg m H a o → ObjD K mg m' H' a o
  | .lst false ds, hl, h => by
    obtain ⟨vs, h1, h2⟩ := h
    exact ⟨vs, hl rfl _ trivial h1, Dens.mono he ht ds vs h2⟩
  | .lst true ds, _, h => by
    obtain ⟨vs, h1, h2⟩ := h
    refine ⟨vs, ?_, Dens.mono he ht ds vs h2⟩
    rcases h1 with ⟨o, e⟩ | e
    · exact .inl ⟨o, hf o vs e⟩
    · exact .inr e
  | .dct kvs, hl, h => by
    obtain ⟨ws, h1, h2, h3⟩ := h
    exact ⟨ws, hl rfl _ trivial h1, h2, Dens.mono he ht _ _ h3⟩
  | .ins _ _, _, h => h.elim
  | .exo _, _, h => h.elim
/-- a thing that is no tuple changes, the store doesn't know it -/
theorem sqB_upd {p : Addr} {o : HO} (hp : H p = none ∨ (∃ u, MutO u ∧ H p = some u)) : ∀ a vs, SqB H a vs → SqB (upd H p o) a vs := fun a vs ⟨ob, h, e⟩ => by
  refine ⟨ob, ?_, e⟩
  rw [upd_ne (fun z => ?_)]
  · exact h
  · subst z
    rcases hp with q | ⟨_, z, q⟩ <;> (rw [q] at h; cases h) <;> exact z
theorem sqT_upd {p : Addr} {o : HO} (hp : H p = none ∨ (∃ u, MutO u ∧ H p = some u)) : ∀ a vs, SqT K H a vs → SqT K (upd H p o) a vs := fun a vs h => by
  rcases h with (h | ⟨u, h⟩) | h
  · refine .inl (.inl ?_)
    rw [upd_ne (fun z => ?_)]
    · exact h
    · subst z
      rcases hp with q | ⟨_, z, q⟩ <;> (rw [q] at h; cases h) <;> exact z
  · refine .inl (.inr ⟨u, ?_⟩)
    rw [upd_ne (fun z => ?_)]
    · exact h
    · subst z
      rcases hp with q | ⟨_, z, q⟩ <;> (rw [q] at h; cases h) <;> exact z
  · exact .inr h
theorem frz_upd {p : Addr} {o : HO} (hp : H p = none ∨ (∃ u, MutO u ∧ H p = some u)) {a : Addr} {u : Obj} {vs : List V} (e : H a = some (.frz u (.lst vs))) : upd H p o a = some (.frz u (.lst vs)) := by
  rw [upd_ne (fun z => ?_)]
  · exact e
  · subst z
    rcases hp with q | ⟨_, z, q⟩ <;> (rw [q] at e; cases e) <;> exact z
theorem StOk.poke (S : StOk K mg m H st) {p : Addr} {o : HO} (hp : H p = none ∨ (∃ u, MutO u ∧ H p = some u)) (hn : ¬ Trk m st p) : StOk K mg m (upd H p o) st :=
  ⟨S.len, S.inj, fun l a u h1 h2 => (S.obj l a u h1 h2).mono (fun _ _ h => h) ⟨sqT_upd hp, sqB_upd hp⟩ (fun o vs e => frz_upd hp e) (fun hu vs _ e => by
    rw [upd_ne (fun z => hn ⟨l, u, by rw [← z]; exact h1, h2, hu⟩)]
    exact e)⟩
/-- a new thing that the store doesn't know -/
theorem Grow.lay (S : StOk K mg m H st) {p : Addr} {o : HO} (hp : H p = none) : Grow m H st m (upd H p o) st :=
  ⟨fun _ _ h => h, fun a u h k => ⟨by rw [upd_ne (ne_of_none h hp)]; exact h, k⟩⟩
theorem StOk.noTrkNone (S : StOk K mg m H st) {p : Addr} (hp : H p = none) : ¬ Trk m st p := fun t => by
  obtain ⟨vs, _, e⟩ := t.some S
  rw [hp] at e
  cases e
/-- an object that the store doesn't know joins it -/
theorem StOk.joinO (S : StOk K mg m H st) {p : Addr} {w : AO} (hn : ¬ Trk m st p) (hd : ObjD K mg m H p w) : StOk K mg (m ++ [p]) H (st ++ [w]) := by
  have ext : ∀ (l : Nat) (a : Addr), m[l]? = some a → (m ++ [p])[l]? = some a := fun l a h => get_snoc_old h
  refine ⟨by simp [S.len], fun l k a o u h1 h2 h3 h4 h5 h6 => ?_, fun l a o h1 h2 => ?_⟩
  · rcases get_snoc h3 with h3 | ⟨e3, h3⟩
    · rcases get_snoc h1 with h1 | ⟨e1, h1⟩
      · rcases get_snoc h4 with h4 | ⟨e4, h4⟩
        · rcases get_snoc h2 with h2 | ⟨e2, h2⟩
          · exact S.inj l k a o u h1 h2 h3 h4 h5 h6
          · have := (List.getElem?_eq_some_iff.mp h4).1
            have := S.len
            omega
        · rcases get_snoc h2 with h2 | ⟨e2, h2⟩
          · have := (List.getElem?_eq_some_iff.mp h2).1
            have := S.len
            omega
          · exact absurd ⟨l, o, by rw [h2]; exact h1, h3, h5⟩ hn
      · have := (List.getElem?_eq_some_iff.mp h3).1
        have := S.len
        omega
    · rcases get_snoc h4 with h4 | ⟨e4, h4⟩
      · rcases get_snoc h1 with h1 | ⟨e1, h1⟩
        · have := (List.getElem?_eq_some_iff.mp h1).1
          have := S.len
          omega
        · rcases get_snoc h2 with h2 | ⟨e2, h2⟩
          · exact absurd ⟨k, u, by rw [h1]; exact h2, h4, h6⟩ hn
          · have := (List.getElem?_eq_some_iff.mp h4).1
            have := S.len
            omega
      · omega
  · rcases get_snoc h2 with h2 | ⟨e2, h2⟩
    · rcases get_snoc h1 with h1 | ⟨e1, h1⟩
      · exact (S.obj l a o h1 h2).mono ext Keeps.refl (fun _ _ h => h) (fun _ _ _ h => h)
      · have := (List.getElem?_eq_some_iff.mp h2).1
        have := S.len
        omega
    · rcases get_snoc h1 with h1 | ⟨e1, h1⟩
      · have := (List.getElem?_eq_some_iff.mp h1).1
        have := S.len
        omega
      · subst h1
        subst h2
        exact hd.mono ext Keeps.refl (fun _ _ h => h) (fun _ _ _ h => h)
theorem StOk.join (S : StOk K mg m H st) {p : Addr} {vs : List V} {ds : List D} (hp : H p = some (.lst vs)) (hn : ¬ Trk m st p) (hd : Dens K mg m H ds vs) : StOk K mg (m ++ [p]) H (st ++ [.lst false ds]) := S.joinO hn ⟨vs, hp, hd⟩
theorem Grow.join {m0 : List Addr} {H0 : Hp} {st0 : Sto} (g : Grow m0 H0 st0 m H st) (hl : m.length = st.length) {p : Addr} {w : AO} (hp : H0 p = none) : Grow m0 H0 st0 (m ++ [p]) H (st ++ [w]) :=
  ⟨fun l a h => get_snoc_old (g.ext l a h), fun a o h k => by
    obtain ⟨h1, k1⟩ := g.keep a o h k
    refine ⟨h1, fun t => ?_⟩
    rcases Trk.snoc hl t with t | rfl
    · exact k1 t
    · rw [hp] at h
      cases h⟩
theorem Grow.poke {m0 : List Addr} {H0 : Hp} {st0 : Sto} (g : Grow m0 H0 st0 m H st) {p : Addr} {o : HO} (hp : H0 p = none) : Grow m0 H0 st0 m (upd H p o) st :=
  ⟨g.ext, fun a u h k => by
    obtain ⟨h1, k1⟩ := g.keep a u h k
    rw [upd_ne (ne_of_none h hp)]
    exact ⟨h1, k1⟩⟩
/-- a new list -/
theorem StOk.alloc (S : StOk K mg m H st) {p : Addr} {vs : List V} {ds : List D} (hp : H p = none) (hd : Dens K mg m H ds vs) :
    StOk K mg (m ++ [p]) (upd H p (.lst vs)) (st ++ [.lst false ds]) ∧ Grow m H st (m ++ [p]) (upd H p (.lst vs)) (st ++ [.lst false ds]) ∧ (m ++ [p])[st.length]? = some p := by
  have S1 : StOk K mg m (upd H p (.lst vs)) st := S.poke (.inl hp) (S.noTrkNone hp)
  have g1 : Grow m H st m (upd H p (.lst vs)) st := Grow.lay S hp
  refine ⟨S1.join upd_same (S.noTrkNone hp) (Dens.grow S g1 hd), g1.join S.len hp, ?_⟩
  rw [← S.len, List.getElem?_append_right (Nat.le_refl _)]
  simp
/-- a new dict -/
theorem StOk.allocK (S : StOk K mg m H st) {p : Addr} (hp : H p = none) :
    StOk K mg (m ++ [p]) (upd H p (.dK [])) (st ++ [.dct []]) ∧ Grow m H st (m ++ [p]) (upd H p (.dK [])) (st ++ [.dct []]) ∧ (m ++ [p])[st.length]? = some p := by
  have S1 : StOk K mg m (upd H p (.dK [])) st := S.poke (.inl hp) (S.noTrkNone hp)
  have g1 : Grow m H st m (upd H p (.dK [])) st := Grow.lay S hp
  refine ⟨S1.joinO (S.noTrkNone hp) ⟨[], upd_same, rfl, rfl⟩, g1.join S.len hp, ?_⟩
  rw [← S.len, List.getElem?_append_right (Nat.le_refl _)]
  simp
/-- an object changed -/
theorem StOk.putO (S : StOk K mg m H st) {l : Nat} {p : Addr} {o0 w : AO} {u : HO} (hl : m[l]? = some p) (hs : st[l]? = some o0) (h0 : o0.mut = true) (hd : Keeps K H (upd H p u) → ObjD K mg m (upd H p u) p w) :
    StOk K mg m (upd H p u) (st.set l w) ∧ Grow m H st m (upd H p u) (st.set l w) := by
  obtain ⟨u0, hu0, hp⟩ := Trk.some S ⟨l, o0, hl, hs, h0⟩
  have hlt : l < st.length := (List.getElem?_eq_some_iff.mp hs).1
  have trk : ∀ {k : Nat} {o : AO}, (st.set l w)[k]? = some o → o.mut = true → ∃ u, st[k]? = some u ∧ u.mut = true := fun {k o} h hm => by
    by_cases e : l = k
    · subst e
      exact ⟨_, hs, h0⟩
    · rw [List.getElem?_set_ne e] at h
      exact ⟨o, h, hm⟩
  have sq : Keeps K H (upd H p u) := ⟨sqT_upd (K := K) (o := u) (.inr ⟨u0, hu0, hp⟩), sqB_upd (o := u) (.inr ⟨u0, hu0, hp⟩)⟩
  refine ⟨⟨by simp [S.len], fun i k a o u h1 h2 h3 h4 h5 h6 => ?_, fun k a o h1 h2 => ?_⟩, fun _ _ h => h, fun a o h k => ⟨?_, ?_⟩⟩
  · obtain ⟨o', h3, h5⟩ := trk h3 h5
    obtain ⟨u', h4, h6⟩ := trk h4 h6
    exact S.inj i k a o' u' h1 h2 h3 h4 h5 h6
  · by_cases e : l = k
    · subst e
      rw [hl] at h1
      cases h1
      rw [List.getElem?_set_self hlt] at h2
      cases h2
      exact hd sq
    · rw [List.getElem?_set_ne e] at h2
      refine (S.obj k a o h1 h2).mono (fun _ _ h => h) sq (fun o vs e => frz_upd (.inr ⟨u0, hu0, hp⟩) e) (fun hu ws _ q => ?_)
      rw [upd_ne (fun z => e (S.inj l k p _ o hl (by rw [← z]; exact h1) hs h2 h0 hu))]
      exact q
  · rw [upd_ne (fun z => k ⟨l, _, by rw [z]; exact hl, hs, h0⟩)]
    exact h
  · rintro ⟨i, u, h1, h2, h3⟩
    obtain ⟨u', h2, h3⟩ := trk h2 h3
    exact k ⟨i, u', h1, h2, h3⟩
/-- a list changed -/
theorem StOk.put (S : StOk K mg m H st) {l : Nat} {p : Addr} {vs : List V} {ds es : List D} (hl : m[l]? = some p) (hs : st[l]? = some (.lst false es)) (hd : Dens K mg m H ds vs) :
    StOk K mg m (upd H p (.lst vs)) (st.set l (.lst false ds)) ∧ Grow m H st m (upd H p (.lst vs)) (st.set l (.lst false ds)) :=
  S.putO hl hs rfl fun sq => ⟨vs, upd_same, Dens.mono (fun _ _ h => h) sq ds vs hd⟩
/-- a dict changed -/
theorem StOk.putK (S : StOk K mg m H st) {l : Nat} {p : Addr} {ws : List (Sum Int Str × V)} {ks es : List (Sum Int Str × D)} (hl : m[l]? = some p) (hs : st[l]? = some (.dct es)) (hk : ws.map (·.1) = ks.map (·.1)) (hd : Dens K mg m H (ks.map (·.2)) (ws.map (·.2))) :
    StOk K mg m (upd H p (.dK ws)) (st.set l (.dct ks)) ∧ Grow m H st m (upd H p (.dK ws)) (st.set l (.dct ks)) :=
  S.putO hl hs rfl fun sq => ⟨ws, upd_same, hk, Dens.mono (fun _ _ h => h) sq _ _ hd⟩

/-! ### slots -/
def EnOk (K : PySem.W.Frag) (mg : Str → Option Value) (m : List Addr) (H : Hp) (σ : L2.St) (env : En) : Prop :=
  env.length = σ.length ∧ ∀ (i : Nat) (d : D), env[i]? = some (some d) → ∃ v, σ[i]? = some (some v) ∧ Den K mg m H d v
theorem EnOk.grow (S : StOk K mg m H st) (g : Grow m H st m' H' st') {σ : L2.St} {env : En} (h : EnOk K mg m H σ env) : EnOk K mg m' H' σ env :=
  ⟨h.1, fun i d e => let ⟨v, h1, h2⟩ := h.2 i d e; ⟨v, h1, Den.grow S g h2⟩⟩
theorem EnOk.set {σ : L2.St} {env : En} (h : EnOk K mg m H σ env) {d : D} {v : V} (hd : Den K mg m H d v) (i : Nat) : EnOk K mg m H (σ.set i (some v)) (env.set i (some d)) := by
  refine ⟨by simp [h.1], fun j e q => ?_⟩
  by_cases hj : i = j
  · subst hj
    by_cases hi : i < env.length
    · rw [List.getElem?_set_self hi] at q
      cases q
      exact ⟨v, by rw [List.getElem?_set_self (by rw [← h.1]; exact hi)], hd⟩
    · rw [List.getElem?_eq_none (by simpa using hi)] at q
      cases q
  · rw [List.getElem?_set_ne hj] at q
    obtain ⟨u, h1, h2⟩ := h.2 j e q
    exact ⟨u, by rw [List.getElem?_set_ne hj]; exact h1, h2⟩
theorem EnOk.drop {σ : L2.St} {env : En} (h : EnOk K mg m H σ env) (i : Nat) : EnOk K mg m H (σ.set i none) (env.set i none) := by
  refine ⟨by simp [h.1], fun j e q => ?_⟩
  by_cases hj : i = j
  · subst hj
    by_cases hi : i < env.length
    · rw [List.getElem?_set_self hi] at q
      cases q
    · rw [List.getElem?_eq_none (by simpa using hi)] at q
      cases q
  · rw [List.getElem?_set_ne hj] at q
    obtain ⟨u, h1, h2⟩ := h.2 j e q
    exact ⟨u, by rw [List.getElem?_set_ne hj]; exact h1, h2⟩
theorem EnOk.wipe {σ : L2.St} {env : En} (h : EnOk K mg m H σ env) : ∀ vs : List Nat, EnOk K mg m H (L2.wipe σ vs) (wipeE env vs)
  | [] => h
  | v :: vs => (EnOk.wipe h vs).drop v
end
end Ab

set_option Elab.async false
set_option linter.all false
set_option autoImplicit false
set_option maxRecDepth 10000
/-! AbDic: dicts of the store, keys ints and texts. -/
namespace Ab
open PySem PySem.Spec PyProof.Rows L2
section
variable {K : PySem.W.Frag} {mg : Str → Option Value} {m : List Addr} {H : Hp} {st : Sto}
theorem den_dct {l : Nat} {kvs : List (Sum Int Str × D)} {v : V} (S : StOk K mg m H st) (h : Den K mg m H (.ref l) v) (hs : st[l]? = some (.dct kvs)) :
    ∃ a ws, v = .ref a ∧ m[l]? = some a ∧ H a = some (.dK ws) ∧ ws.map (·.1) = kvs.map (·.1) ∧ Dens K mg m H (kvs.map (·.2)) (ws.map (·.2)) := by
  obtain ⟨a, h1, h2⟩ := h
  obtain ⟨ws, h3, h4, h5⟩ := S.obj l a _ h1 hs
  exact ⟨a, ws, h2, h1, h3, h4, h5⟩
theorem dctOf_some {l : Nat} {kvs : List (Sum Int Str × D)} (h : dctOf st l = some kvs) : st[l]? = some (.dct kvs) := by
  unfold dctOf at h
  split at h
  · cases h
    assumption
  · cases h
theorem getK_den : ∀ {kvs : List (Sum Int Str × D)} {ws : List (Sum Int Str × V)} (k : Sum Int Str), ws.map (·.1) = kvs.map (·.1) → Dens K mg m H (kvs.map (·.2)) (ws.map (·.2)) →
    (∀ d, getK kvs k = some d → ∃ w, valV ws k = some w ∧ Den K mg m H d w) ∧ (getK kvs k = none → valV ws k = none)
  | [], [], k, _, _ => ⟨(fun d e => nomatch e), fun _ => rfl⟩
  | [], _ :: _, k, e, _ => nomatch e
  | _ :: _, [], k, e, _ => nomatch e
  | (a, d) :: kvs, (b, w) :: ws, k, e, h => by
    obtain ⟨v, r, e1, h1, h2⟩ := h
    cases e1
    have e1 : b = a := (List.cons.inj e).1
    have e2 : ws.map (·.1) = kvs.map (·.1) := (List.cons.inj e).2
    subst e1
    by_cases q : b = k
    · refine ⟨fun d' hd => ⟨w, valV_pos q, ?_⟩, fun hd => ?_⟩
      · have : getK ((b, d) :: kvs) k = some d := by simp [getK, List.find?_cons, q]
        rw [this] at hd
        cases hd
        exact h1
      · simp [getK, List.find?_cons, q] at hd
    · have e3 : getK ((b, d) :: kvs) k = getK kvs k := by simp [getK, List.find?_cons, q]
      rw [e3, valV_neg q]
      exact getK_den k e2 h2
theorem any_keys {kvs : List (Sum Int Str × D)} {ws : List (Sum Int Str × V)} (k : Sum Int Str) (e : ws.map (·.1) = kvs.map (·.1)) : (ws.any fun kv => decide (kv.1 = k)) = (kvs.any fun kv => decide (kv.1 = k)) := by
  have h1 : (ws.any fun kv => decide (kv.1 = k)) = (ws.map (·.1)).any fun x => decide (x = k) := by rw [List.any_map] <;> rfl
  have h2 : (kvs.any fun kv => decide (kv.1 = k)) = (kvs.map (·.1)).any fun x => decide (x = k) := by rw [List.any_map] <;> rfl
  rw [h1, h2, e]
theorem putK_den : ∀ {kvs : List (Sum Int Str × D)} {ws : List (Sum Int Str × V)} (k : Sum Int Str) {d : D} {w : V}, ws.map (·.1) = kvs.map (·.1) → Dens K mg m H (kvs.map (·.2)) (ws.map (·.2)) → Den K mg m H d w →
    (L2.putK ws k w).map (·.1) = (putD kvs k d).map (·.1) ∧ Dens K mg m H ((putD kvs k d).map (·.2)) ((L2.putK ws k w).map (·.2)) := by
  intro kvs ws k d w e h hd
  unfold L2.putK putD
  rw [any_keys k e]
  split
  · rename_i q
    clear q
    induction kvs generalizing ws with
    | nil => cases ws with
      | nil => exact ⟨rfl, rfl⟩
      | cons => cases e
    | cons p kvs ih => cases ws with
      | nil => cases e
      | cons q ws =>
        obtain ⟨a, d0⟩ := p
        obtain ⟨b, w0⟩ := q
        obtain ⟨v, r, e1, h1, h2⟩ := h
        cases e1
        have e1 : b = a := (List.cons.inj e).1
        subst e1
        obtain ⟨i1, i2⟩ := ih (ws := ws) (List.cons.inj e).2 h2
        by_cases z : b = k
        · simp only [List.map_cons, z, if_true]
          exact ⟨by rw [i1], w, _, rfl, hd, i2⟩
        · simp only [List.map_cons, z, if_false]
          exact ⟨by rw [i1], w0, _, rfl, h1, i2⟩
  · refine ⟨by simp [e], ?_⟩
    rw [List.map_append, List.map_append]
    exact h.append (Dens.one hd)
end
section
variable {X : Cx}
theorem ix_dK (hu : X.A.units + 1 < cLine) : IxR X (fun x y H Q => ∃ a v, x = .ref a ∧ DGet H a y (some v) ∧ Q v H) := by
  intro value slice pins s σ H x y v u Q I rx ry h hs
  obtain ⟨a, r, rfl, g, q⟩ := h
  obtain rfl : v = Value.ref a := rx
  exact tail_any (dict_typeIs I g) PySem.F.slot_dict_getitem.lookup (d_getItem hu I g ry fun w' s3 I3 rw' => ⟨r, H, I3, rw', q⟩) hs
theorem set_dK (hu : X.A.units + 1 < cLine) : PSet X (fun o i v H Q => ∃ a H', o = .ref a ∧ DPut H a i v H' ∧ Q H') := by
  intro pins s σ H o i v ov iv u Q I ro ri rv h
  obtain ⟨a, H', rfl, g, q⟩ := h
  obtain rfl : ov = Value.ref a := ro
  exact d_setItem hu I g ri rv fun s4 I4 => ⟨H', I4, q⟩
theorem op_in_dK (hu : X.A.units + 1 < cLine) : OpR X (compareOp .In) (fun y x H Q => ∃ a o, x = .ref a ∧ DGet H a y o ∧ Q (.bl o.isSome) H) := by
  intro pins s σ H y x u v Q I ry rx h
  obtain ⟨a, o, rfl, g, q⟩ := h
  obtain rfl : v = Value.ref a := rx
  exact d_in hu I g ry fun s3 I3 => ⟨.bl o.isSome, H, I3, rfl, q⟩
theorem op_notIn_dK (hu : X.A.units + 1 < cLine) : OpR X (compareOp .NotIn) (fun y x H Q => ∃ a o, x = .ref a ∧ DGet H a y o ∧ Q (.bl (!o.isSome)) H) := by
  intro pins s σ H y x u v Q I ry rx h
  obtain ⟨a, o, rfl, g, q⟩ := h
  obtain rfl : v = Value.ref a := rx
  exact d_notIn hu I g ry fun s3 I3 => ⟨.bl (!o.isSome), H, I3, rfl, q⟩
end
end Ab

set_option Elab.async false
set_option linter.all false
set_option autoImplicit false
set_option maxRecDepth 10000
/-! AbStr: a text some times over. -/
namespace Ab
open PySem PySem.Spec PyProof.Rows L2
theorem foldl_size (x : Array Nat) : ∀ (n : Nat) (acc : Array Nat), ((List.replicate n x).foldl (· ++ ·) acc).size = acc.size + x.size * n
  | 0, acc => by simp
  | n + 1, acc => by
    rw [List.replicate_succ, List.foldl_cons, foldl_size x n, Array.size_append, Nat.mul_succ]
    omega
theorem repS_size (x : Str) (n : Nat) : (repS x n).cps.size = x.length * n := by
  show ((List.replicate n x.cps).foldl (· ++ ·) #[]).size = _
  rw [foldl_size]
  simp [Str.length]
theorem foldl_ok (x : Array Nat) (hx : x.all (· < 0x110000) = true) : ∀ (n : Nat) (acc : Array Nat), acc.all (· < 0x110000) = true → ((List.replicate n x).foldl (· ++ ·) acc).all (· < 0x110000) = true
  | 0, acc, h => by simpa using h
  | n + 1, acc, h => by
    rw [List.replicate_succ, List.foldl_cons]
    refine foldl_ok x hx n _ ?_
    rw [Array.all_append, h, hx] <;> rfl
theorem repS_ok {x : Str} (h : sOk x = true) (n : Nat) : sOk (repS x n) = true := foldl_ok x.cps h n #[] (by simp)
section
variable {X : Cx}
theorem op_mulS : OpR X (binaryOp .Mult) (fun x y H Q => ∃ (z : Str) (k : Int), x = .str z ∧ y = .int k ∧ 2 ≤ k ∧ k ≤ 1000 ∧ 0 < z.length ∧ z.length ≤ 1000 ∧ Q (.str (repS z k.toNat)) H) := by
  intro pins s σ H x y v u Q I rx ry h
  obtain ⟨z, k, rfl, rfl, h1, h2, h3, h4, q⟩ := h
  obtain ⟨t, rfl⟩ := rx
  obtain ⟨t', rfl⟩ := ry
  have e1 : (k == 1 || z.length == 0) = false := by
    rw [Bool.or_eq_false_iff]
    exact ⟨beq_eq_false_iff_ne.mpr (by omega), beq_eq_false_iff_ne.mpr (by omega)⟩
  have hk : (z.length : Int) * k ≤ 1000 * 1000 := Int.le_trans (Int.mul_le_mul_of_nonneg_right (by omega) (by omega)) (Int.mul_le_mul_of_nonneg_left h2 (by omega))
  have hn : z.length * k.toNat ≤ 1000 * 1000 := Nat.mul_le_mul h4 (by omega)
  refine P.mul_str (by rw [decide_eq_false (by omega), decide_eq_false (by omega)]; rfl) (fun _ _ => ?_) (fun _ _ => ?_) ?_
  · have : (z.length : Int) ≤ (2 ^ 63 - 1) / k := (Int.le_ediv_iff_mul_le (by omega)).mpr (by omega)
    omega
  · exact decide_eq_false (by rw [sizeLine_eq]; omega)
  · rw [if_neg (by omega), e1]
    refine ⟨?_, .str (repS z k.toNat), H, I.tok _, ⟨_, rfl⟩, q⟩
    have : (repS z k.toNat).cps.size = z.length * k.toNat := repS_size z k.toNat
    show (repS z k.toNat).cps.size ≤ _
    rw [this]
    simp only [sizeLine]
    omega
end
end Ab

set_option Elab.async false
set_option linter.all false
set_option autoImplicit false
set_option maxRecDepth 10000
/-! AbTup: the sum of a tuple of ints. -/
namespace L2
open PySem PySem.Spec PyProof.Rows PySem.W
section
variable {prog : Program} {w : World} {A : Around} {E : Value → Shared → Prop} {s : Shared} {l : Addr} {its : List Value} {ns : List Int} {Q : Value → Shared → Prop}
theorem sumT_raw (hh : A.handled = none) (hl : s.heap.IsTuple l its.toArray) (hi : IntsAre its ns)
    (h : ∀ h' tk t', (∀ b o, s.heap.get? b = some o → h'.get? b = some o) → Q (.int ns.sum t') { s with heap := h', toks := tk }) : wpAny (model prog w) A (call (.builtin "sum") [.ref l]) Q E s := by
  obtain ⟨xs, e⟩ := hi.allInts.items
  have hn : numsOf (intItems xs).toList = ns := by rw [← e]; exact hi.numsOf
  rw [nums_intItems] at hn
  rw [e] at hl
  refine call_sum_walkAnyS (iter_tupleW (A := A.in1) hh hl fun s₂ e2 W st hfp hw hk => ?_)
  refine ⟨_, _, _, _, _, _, _, numAt xs, rfl, W, st, hfp, fun _ _ => intItems_at, fun s' t' m => ?_⟩
  obtain ⟨h', tk, rfl, hk'⟩ := moved_old e2 rfl m
  have := h h' tk t' hk'
  rw [preSum_eq, List.take_of_length_le (by simp [intItems]), hn]
  exact this
end
section
variable {X : Cx}
theorem cr_sumT (hc : X.calm = true) : CallR X (.builtin "sum") (fun vs H Q => ∃ (a : Addr) (ns : List Int), vs = [V.ref a] ∧ SqT X.K H a (ns.map V.int) ∧ Q (.int ns.sum) H) := by
  intro pins s σ H vs us Q I r h
  obtain ⟨a, ns, rfl, hs, q⟩ := h
  obtain ⟨its, rv, hl, _⟩ := I.tuple hs
  rw [Vals.ref1 r]
  exact sumT_raw (I.ok.hd hc) hl rv.ints fun h' tk t' hk => ⟨.int _, H, I.kept hk, ⟨_, rfl⟩, q⟩
end
end L2

set_option Elab.async false
set_option linter.all false
set_option autoImplicit false
set_option maxRecDepth 10000
/-! AbOps: each operation on values does what the small language says. -/
namespace Ab
open PySem PySem.Spec PyProof.Rows L2

section
variable {X : Cx} {m : List Addr} {H : Hp} {st : Sto}

/-- what a plain operation's end gives -/
def Ends1 (K : PySem.W.Frag) (mg : Str → Option Value) (m : List Addr) (H : Hp) (st : Sto) (r : R D) (Q : VK) : Prop :=
  ∃ d st', r = .ok d st' ∧ ∀ m' H' v, Grow m H st m' H' st' → StOk K mg m' H' st' → Den K mg m' H' d v → Q v H'
def r2 (K : PySem.W.Frag) (mg : Str → Option Value) (g : D → D → Sto → R D) : R2 := fun x y H Q => ∃ m st d e, StOk K mg m H st ∧ Den K mg m H d x ∧ Den K mg m H e y ∧ Ends1 K mg m H st (g d e st) Q
def r1 (K : PySem.W.Frag) (mg : Str → Option Value) (g : D → Sto → R D) : V → Hp → VK → Prop := fun x H Q => ∃ m st d, StOk K mg m H st ∧ Den K mg m H d x ∧ Ends1 K mg m H st (g d st) Q
def rN (K : PySem.W.Frag) (mg : Str → Option Value) (g : List D → Sto → R D) : List V → Hp → VK → Prop := fun xs H Q => ∃ m st ds, StOk K mg m H st ∧ Dens K mg m H ds xs ∧ Ends1 K mg m H st (g ds st) Q

theorem den_int {K : PySem.W.Frag} {mg : Str → Option Value} {i : Int} {v : V} (h : Den K mg m H (.int i) v) : v = .int i := h
theorem ends_pure {K : PySem.W.Frag} {mg : Str → Option Value} {d : D} {v : V} {Q : VK} (S : StOk K mg m H st) (hd : Den K mg m H d v) (h : Ends1 K mg m H st (.ok d st) Q) : Q v H := by
  obtain ⟨d', st', e, q⟩ := h
  cases e
  exact q m H v Grow.refl S hd
theorem ends_bad {K : PySem.W.Frag} {mg : Str → Option Value} {Q : VK} (h : Ends1 K mg m H st .bad Q) : False := by
  obtain ⟨d', st', e, q⟩ := h
  cases e
theorem ends_int {K : PySem.W.Frag} {mg : Str → Option Value} {i : Int} {Q : VK} (S : StOk K mg m H st) (h : Ends1 K mg m H st (.ok (.int i) st) Q) : Q (.int i) H := ends_pure (v := .int i) S (show Den K mg m H (.int i) (.int i) from rfl) h
theorem ends_bl {K : PySem.W.Frag} {mg : Str → Option Value} {i : Bool} {Q : VK} (S : StOk K mg m H st) (h : Ends1 K mg m H st (.ok (.bl i) st) Q) : Q (.bl i) H := ends_pure (v := .bl i) S (show Den K mg m H (.bl i) (.bl i) from rfl) h
theorem ends_non {K : PySem.W.Frag} {mg : Str → Option Value} {Q : VK} (S : StOk K mg m H st) (h : Ends1 K mg m H st (.ok .non st) Q) : Q .non H := ends_pure (v := .non) S (show Den K mg m H .non .non from rfl) h
theorem ends_str {K : PySem.W.Frag} {mg : Str → Option Value} {i : Str} {Q : VK} (S : StOk K mg m H st) (hs : sOk i = true) (h : Ends1 K mg m H st (.ok (.str i) st) Q) : Q (.str i) H := ends_pure (v := .str i) S (show Den K mg m H (.str i) (.str i) from ⟨rfl, hs⟩) h
theorem ends_tupv {K : PySem.W.Frag} {mg : Str → Option Value} {ds : List D} {a : Addr} {vs : List V} {Q : VK} (S : StOk K mg m H st) (ha : SqB H a vs) (hd : Dens K mg m H ds vs) (h : Ends1 K mg m H st (.ok (.tup ds) st) Q) : Q (.ref a) H := ends_pure (v := .ref a) S (show Den K mg m H (.tup ds) (.ref a) from ⟨a, vs, rfl, ha, hd⟩) h
/-- a new tuple -/
theorem ends_tup {K : PySem.W.Frag} {mg : Str → Option Value} {ds : List D} {vs : List V} {Q : VK} (S : StOk K mg m H st) (hd : Dens K mg m H ds vs) (h : Ends1 K mg m H st (.ok (.tup ds) st) Q) : NewT H vs Q := fun p ob hp hob => by
  obtain ⟨d', st', e, q⟩ := h
  cases e
  have g : Grow m H st m (upd H p (.frz ob (.tup vs))) st := Grow.lay S hp
  exact q m _ (.ref p) g (S.poke (.inl hp) (S.noTrkNone hp)) ⟨p, vs, rfl, ⟨ob, upd_same, hob⟩, Dens.grow S g hd⟩
/-- a new list -/
theorem ends_lst {K : PySem.W.Frag} {mg : Str → Option Value} {ds : List D} {vs : List V} {Q : VK} (S : StOk K mg m H st) (hd : Dens K mg m H ds vs) (h : Ends1 K mg m H st (alloc (.lst false ds) st) Q) : ∀ p, H p = none → Q (.ref p) (upd H p (.lst vs)) := fun p hp => by
  obtain ⟨d', st', e, q⟩ := h
  obtain ⟨S1, g1, e1⟩ := S.alloc hp hd
  cases e
  exact q _ _ (.ref p) g1 S1 ⟨p, e1, rfl⟩
theorem den_tup {K : PySem.W.Frag} {mg : Str → Option Value} {ds : List D} {v : V} (h : Den K mg m H (.tup ds) v) : ∃ a vs, v = .ref a ∧ SqB H a vs ∧ Dens K mg m H ds vs := h
theorem den_itm {K : PySem.W.Frag} {mg : Str → Option Value} {ds : List D} {v : V} (h : Den K mg m H (.itm ds) v) : ∃ a vs, v = .ref a ∧ SqT K H a vs ∧ Dens K mg m H ds vs := h
theorem den_lst {K : PySem.W.Frag} {mg : Str → Option Value} {l : Nat} {ds : List D} {f : Bool} {v : V} (S : StOk K mg m H st) (h : Den K mg m H (.ref l) v) (hs : st[l]? = some (.lst f ds)) : ∃ a vs, v = .ref a ∧ m[l]? = some a ∧ SqL K H a vs ∧ Dens K mg m H ds vs ∧ (f = false → H a = some (.lst vs)) := by
  obtain ⟨a, h1, h2⟩ := h
  have q := S.obj l a _ h1 hs
  cases f with
  | false =>
    obtain ⟨vs, e, hd⟩ := q
    exact ⟨a, vs, h2, h1, SqL.of e, hd, fun _ => e⟩
  | true =>
    obtain ⟨vs, e, hd⟩ := q
    refine ⟨a, vs, h2, h1, ?_, hd, fun z => nomatch z⟩
    rcases e with ⟨o, e⟩ | e
    · exact .inl (.inr ⟨o, e⟩)
    · exact e H

/-! ### + - * // % ** -/
theorem sOk_append {x y : Str} (hx : sOk x = true) (hy : sOk y = true) : sOk (x ++ y) = true := by
  unfold sOk at *
  show ((x.cps ++ y.cps).all fun c => decide (c < 0x110000)) = true
  rw [Array.all_append, hx, hy]
  rfl
def powOk : Operator → Bool
  | .Add | .Sub | .Mult | .FloorDiv | .Mod | .Pow => true
  | _ => false
theorem Dens.nil {K : PySem.W.Frag} {mg : Str → Option Value} {ds : List D} (h : Dens K mg m H ds []) : ds = [] := by
  cases ds with
  | nil => rfl
  | cons d ds => obtain ⟨_, _, e, _⟩ := h; cases e
theorem dens_rev {K : PySem.W.Frag} {mg : Str → Option Value} {m : List Addr} {H : Hp} {ds : List D} {vs : List V} (h : Dens K mg m H ds vs) : Dens K mg m H ds.reverse vs.reverse := by
  induction ds generalizing vs with
  | nil => cases h; rfl
  | cons d ds ih =>
    obtain ⟨v, r, rfl, h1, h2⟩ := h
    rw [List.reverse_cons, List.reverse_cons]
    exact (ih h2).append ⟨v, [], rfl, h1, rfl⟩
theorem dens_maps {K : PySem.W.Frag} {mg : Str → Option Value} {m : List Addr} {H : Hp} {α : Type} (g : α → D) (f : α → V) (h : ∀ x, Den K mg m H (g x) (f x)) : ∀ xs : List α, Dens K mg m H (xs.map g) (xs.map f)
  | [] => rfl
  | x :: xs => ⟨f x, xs.map f, rfl, h x, dens_maps g f h xs⟩
theorem dens_rep {K : PySem.W.Frag} {mg : Str → Option Value} {m : List Addr} {H : Hp} {ds : List D} {vs : List V} (h : Dens K mg m H ds vs) : ∀ n : Nat, Dens K mg m H (List.replicate n ds).flatten (List.replicate n vs).flatten
  | 0 => rfl
  | n + 1 => by
    rw [List.replicate_succ, List.replicate_succ, List.flatten_cons, List.flatten_cons]
    exact h.append (dens_rep h n)
theorem or_bin {op : Operator} (ho : powOk op = true) : OpR X (binaryOp op) (r2 X.K X.mg (binD op)) := by
  intro pins s σ H x y v u Q I rx ry h
  obtain ⟨m, st, d, e, S, hd, he, h⟩ := h
  cases op with
  | Add =>
    unfold binD at h
    split at h
    any_goals contradiction
    · rename_i i j _
      cases hd; cases he
      exact op_add pins s σ H _ _ v u Q I rx ry ⟨i, j, rfl, rfl, ends_int S h⟩
    · rename_i a b _
      obtain ⟨rfl, hx⟩ := hd
      obtain ⟨rfl, hy⟩ := he
      split at h
      · rename_i hz
        exact op_add_str pins s σ H _ _ v u Q I rx ry ⟨a, b, rfl, rfl, hz, ends_str S (sOk_append hx hy) h⟩
      · exact (ends_bad h).elim
    · rename_i xs ys _
      obtain ⟨a, vs, rfl, ha, hda⟩ := den_tup hd
      obtain ⟨b, us, rfl, hb, hdb⟩ := den_tup he
      split at h
      · rename_i hz
        refine op_catB pins s σ H _ _ v u Q I rx ry ⟨a, b, vs, us, rfl, rfl, ha.sq, hb.sq, by rw [← hda.length, ← hdb.length]; exact hz, fun e => ?_, fun _ e => ?_, fun _ _ => ends_tup S (hda.append hdb) h⟩
        · subst e
          obtain rfl := hda.nil
          exact ends_tupv S hb hdb h
        · subst e
          obtain rfl := hdb.nil
          rw [List.append_nil] at h
          exact ends_tupv S ha hda h
      · exact (ends_bad h).elim
    · rename_i l k _
      split at h
      · rename_i xs ys e1 e2
        split at h
        · rename_i hz
          obtain ⟨a, vs, rfl, _, _, hda, ha⟩ := den_lst S hd e1
          obtain ⟨b, us, rfl, _, _, hdb, hb⟩ := den_lst S he e2
          exact op_cat pins s σ H _ _ v u Q I rx ry ⟨a, b, vs, us, rfl, rfl, ha rfl, hb rfl, by rw [← hda.length, ← hdb.length]; exact hz, ends_lst S (hda.append hdb) h⟩
        · exact (ends_bad h).elim
      · exact (ends_bad h).elim
    all_goals exact (ends_bad h).elim
  | Sub =>
    unfold binD at h
    split at h
    any_goals contradiction
    · rename_i i j _
      cases hd; cases he
      exact op_sub pins s σ H _ _ v u Q I rx ry ⟨i, j, rfl, rfl, ends_int S h⟩
    all_goals exact (ends_bad h).elim
  | Mult =>
    unfold binD at h
    split at h
    any_goals contradiction
    · rename_i i j _
      cases hd; cases he
      split at h
      · rename_i hz
        exact op_mul pins s σ H _ _ v u Q I rx ry ⟨i, j, rfl, rfl, hz, ends_int S h⟩
      · exact (ends_bad h).elim
    · rename_i l k _
      cases he
      split at h
      · rename_i xs e1
        split at h
        · rename_i hz
          obtain ⟨a, vs, rfl, _, _, hda, ha⟩ := den_lst S hd e1
          exact op_rep pins s σ H _ _ v u Q I rx ry ⟨a, k, vs, rfl, rfl, ha rfl, hz.1, hz.2.1, by rw [← hda.length]; exact hz.2.2, ends_lst S (dens_rep hda k.toNat) h⟩
        · exact (ends_bad h).elim
      · exact (ends_bad h).elim
    · rename_i z k _
      cases he
      obtain ⟨rfl, hz1⟩ := hd
      split at h
      · rename_i hz
        exact op_mulS pins s σ H _ _ v u Q I rx ry ⟨z, k, rfl, rfl, hz.1, hz.2.1, hz.2.2.1, hz.2.2.2, ends_str S (repS_ok hz1 k.toNat) h⟩
      · exact (ends_bad h).elim
    · rename_i xs k _
      cases he
      obtain ⟨a, vs, rfl, ha, hda⟩ := den_tup hd
      split at h
      · rename_i hz
        refine op_repB pins s σ H _ _ v u Q I rx ry ⟨a, k, vs, rfl, rfl, ha.sq, ⟨hz.1, hz.2.1, by rw [← hda.length]; exact hz.2.2⟩, fun w => ?_, fun _ => ends_tup S (dens_rep hda k.toNat) h⟩
        rcases w with w | w
        · subst w
          obtain rfl := hda.nil
          have e : (List.replicate k.toNat ([] : List D)).flatten = [] := by simp
          rw [e] at h
          exact ends_tupv S ha hda h
        · subst w
          have e : (List.replicate (1 : Int).toNat xs).flatten = xs := by simp
          rw [e] at h
          exact ends_tupv S ha hda h
      · exact (ends_bad h).elim
    all_goals exact (ends_bad h).elim
  | FloorDiv =>
    unfold binD at h
    split at h
    any_goals contradiction
    · rename_i i j _
      cases hd; cases he
      split at h
      · rename_i hz
        exact op_fdiv pins s σ H _ _ v u Q I rx ry ⟨i, j, rfl, rfl, hz, ends_int S h⟩
      · exact (ends_bad h).elim
    all_goals exact (ends_bad h).elim
  | Mod =>
    unfold binD at h
    split at h
    any_goals contradiction
    · rename_i i j _
      cases hd; cases he
      split at h
      · rename_i hz
        exact op_mod pins s σ H _ _ v u Q I rx ry ⟨i, j, rfl, rfl, hz, ends_int S h⟩
      · exact (ends_bad h).elim
    all_goals exact (ends_bad h).elim
  | Pow =>
    unfold binD at h
    split at h
    any_goals contradiction
    · rename_i i j _
      cases hd; cases he
      split at h
      · rename_i hz
        exact op_pow pins s σ H _ _ v u Q I rx ry ⟨i, j, rfl, rfl, hz, ends_int S h⟩
      · exact (ends_bad h).elim
    all_goals exact (ends_bad h).elim
  | _ => cases ho
theorem un_negD : UnR X (unaryOp .USub) (r1 X.K X.mg fun d st => match d with | .int i => .ok (.int (-i)) st | _ => .bad) := by
  intro pins s σ H x v Q I rx h
  obtain ⟨m, st, d, S, hd, h⟩ := h
  cases d with
  | int i =>
    cases hd
    exact un_neg pins s σ H _ v Q I rx ⟨i, rfl, ends_int S h⟩
  | _ => exact (ends_bad h).elim

/-! ### data -/
theorem optAll_some {α β : Type} {f : α → Option β} : ∀ {xs : List α} {ys : List β}, optAll f xs = some ys → xs.length = ys.length ∧ ∀ (i : Nat) (x : α), xs[i]? = some x → ∃ y, ys[i]? = some y ∧ f x = some y
  | [], ys, h => by
    cases h
    exact ⟨rfl, fun i x e => by simp at e⟩
  | x :: xs, ys, h => by
    unfold optAll at h
    split at h
    · rename_i y zs e1 e2
      cases h
      obtain ⟨h1, h2⟩ := optAll_some e2
      refine ⟨by simp [h1], fun i z e => ?_⟩
      cases i with
      | zero =>
        simp at e
        subst e
        exact ⟨y, rfl, e1⟩
      | succ i => exact by simpa using h2 i z (by simpa using e)
    · cases h
theorem dps {K : PySem.W.Frag} {mg : Str → Option Value} {f : D → Option PyData} (ih : ∀ d v p, Den K mg m H d v → f d = some p → Dp K H v p) : ∀ {ds : List D} {vs : List V} {ps : List PyData}, Dens K mg m H ds vs → optAll f ds = some ps → DpAll K H vs ps
  | [], vs, ps, h, e => by
    cases h
    cases e
    exact .nil
  | d :: ds, vs, ps, h, e => by
    obtain ⟨v, r, rfl, h1, h2⟩ := h
    unfold optAll at e
    split at e
    · rename_i y zs e1 e2
      cases e
      exact .cons (ih d v y h1 e1) (dps ih h2 e2)
    · cases e
theorem dp_of {K : PySem.W.Frag} {mg : Str → Option Value} (S : StOk K mg m H st) : ∀ (n : Nat) (d : D) (v : V) (p : PyData), Den K mg m H d v → pd st n d = some p → Dp K H v p
  | 0, d, v, p, h, e => by
    cases d with
    | non => cases h; cases e; exact .non
    | bl b => cases h; cases e; exact .bl b
    | int i => cases h; cases e; exact .int i
    | str x => cases h.1; cases e; exact .str x
    | _ => cases e
  | n + 1, d, v, p, h, e => by
    cases d with
    | non => cases h; cases e; exact .non
    | bl b => cases h; cases e; exact .bl b
    | int i => cases h; cases e; exact .int i
    | str x => cases h.1; cases e; exact .str x
    | tup ds =>
      obtain ⟨a, vs, rfl, ha, hd⟩ := den_tup h
      unfold pd at e
      simp only [Option.map_eq_some_iff] at e
      obtain ⟨ps, e, rfl⟩ := e
      exact .tup ha.sq (dps (fun d v p h q => dp_of S n d v p h q) hd e)
    | ref l =>
      unfold pd at e
      simp only at e
      split at e
      · rename_i f ds hs
        simp only [Option.map_eq_some_iff] at e
        obtain ⟨ps, e, rfl⟩ := e
        obtain ⟨a, vs, rfl, _, ha, hd, _⟩ := den_lst S h hs
        exact .lst ha (dps (fun d v p h q => dp_of S n d v p h q) hd e)
      · cases e
    | fn x => cases e
    | itm x => cases e
theorem lay_all {f : D → Option PyData} {n : Nat} : ∀ {ds : List D} {ps : List PyData}, (∀ d ∈ ds, ∀ p, f d = some p → p.canLay0 = true ∧ p.depth ≤ n) → optAll f ds = some ps → PyData.canLayAll0 ps = true ∧ PyData.depthAll ps ≤ n
  | [], ps, h, e => by
    cases e
    exact ⟨rfl, Nat.zero_le _⟩
  | d :: ds, ps, h, e => by
    unfold optAll at e
    split at e
    · rename_i y zs e1 e2
      cases e
      obtain ⟨h1, h2⟩ := h d List.mem_cons_self y e1
      obtain ⟨h3, h4⟩ := lay_all (fun d hd => h d (List.mem_cons_of_mem _ hd)) e2
      exact ⟨by simp [PyData.canLayAll0, h1, h3], by simp [PyData.depthAll]; omega⟩
    · cases e
theorem Dens.each {K : PySem.W.Frag} {mg : Str → Option Value} : ∀ {ds : List D} {vs : List V}, Dens K mg m H ds vs → ∀ d ∈ ds, ∃ v, Den K mg m H d v
  | [], _, _, d, hd => by cases hd
  | e :: ds, _, h, d, hd => by
    obtain ⟨v, r, rfl, h1, h2⟩ := h
    rcases List.mem_cons.mp hd with rfl | hd
    · exact ⟨v, h1⟩
    · exact Dens.each h2 d hd
theorem lay_of {K : PySem.W.Frag} {mg : Str → Option Value} (S : StOk K mg m H st) : ∀ (n : Nat) (d : D) (v : V) (p : PyData), Den K mg m H d v → pd st n d = some p → p.canLay0 = true ∧ p.depth ≤ n
  | 0, d, v, p, h, e => by
    cases d with
    | non => cases e; exact ⟨rfl, Nat.zero_le _⟩
    | bl b => cases e; exact ⟨rfl, Nat.zero_le _⟩
    | int i => cases e; exact ⟨rfl, Nat.zero_le _⟩
    | str x => cases e; exact ⟨h.2, Nat.zero_le _⟩
    | _ => cases e
  | n + 1, d, v, p, h, e => by
    cases d with
    | non => cases e; exact ⟨rfl, Nat.zero_le _⟩
    | bl b => cases e; exact ⟨rfl, Nat.zero_le _⟩
    | int i => cases e; exact ⟨rfl, Nat.zero_le _⟩
    | str x => cases e; exact ⟨h.2, Nat.zero_le _⟩
    | tup ds =>
      obtain ⟨a, vs, rfl, ha, hd⟩ := den_tup h
      unfold pd at e
      simp only [Option.map_eq_some_iff] at e
      obtain ⟨ps, e, rfl⟩ := e
      obtain ⟨h1, h2⟩ := lay_all (n := n) (fun d hm p q => let ⟨v, hv⟩ := hd.each d hm; lay_of S n d v p hv q) e
      exact ⟨by simpa [PyData.canLay0] using h1, by simp [PyData.depth]; omega⟩
    | ref l =>
      unfold pd at e
      simp only at e
      split at e
      · rename_i f ds hs
        simp only [Option.map_eq_some_iff] at e
        obtain ⟨ps, e, rfl⟩ := e
        obtain ⟨a, vs, rfl, _, ha, hd, _⟩ := den_lst S h hs
        obtain ⟨h1, h2⟩ := lay_all (n := n) (fun d hm p q => let ⟨v, hv⟩ := hd.each d hm; lay_of S n d v p hv q) e
        exact ⟨by simpa [PyData.canLay0] using h1, by simp [PyData.depth]; omega⟩
      · cases e
    | fn x => cases e
    | itm x => cases e
theorem shaped_of {K : PySem.W.Frag} {mg : Str → Option Value} (S : StOk K mg m H st) {d : D} {v : V} {p : PyData} (h : Den K mg m H d v) (e : pd st 60 d = some p) : SeqAt.shaped p = true := by
  obtain ⟨h1, h2⟩ := lay_of S 60 d v p h e
  unfold SeqAt.shaped
  rw [h1, decide_eq_true (show p.depth ≤ 64 by omega)]
  rfl

/-! ### == -/
theorem ends_opt {K : PySem.W.Frag} {mg : Str → Option Value} {o : Option D} {Q : VK} (h : Ends1 K mg m H st (ofOpt o st) Q) : ∃ d, o = some d ∧ Ends1 K mg m H st (.ok d st) Q := by
  cases o with
  | none => exact (ends_bad h).elim
  | some d => exact ⟨d, rfl, h⟩
def cmpE (op : CmpOp) (d e : D) (st : Sto) : R D := ofOpt ((cmpD op d e st).map D.bl) st
theorem or_eq (hu : X.A.units + 64 < cLine) : OpR X (compareOp .Eq) (r2 X.K X.mg (cmpE .Eq)) := by
  intro pins s σ H x y v u Q I rx ry h
  obtain ⟨m, st, d, e, S, hd, he, h⟩ := h
  obtain ⟨r, h1, h⟩ := ends_opt h
  simp only [cmpD, Option.map_eq_some_iff] at h1
  obtain ⟨b, h1, rfl⟩ := h1
  have q := ends_bl S h
  unfold eqD at h1
  split at h1
  · cases h1; cases hd; cases he
    exact op_eq pins s σ H _ _ v u Q I rx ry ⟨rfl, by simpa using q⟩
  · cases h1
    obtain ⟨rfl, _⟩ := hd
    obtain ⟨rfl, _⟩ := he
    exact op_eq pins s σ H _ _ v u Q I rx ry ⟨rfl, by simpa using q⟩
  · cases h1; cases hd; cases he
    exact op_eq pins s σ H _ _ v u Q I rx ry ⟨rfl, by simpa using q⟩
  · cases h1; cases hd; cases he
    exact op_eq pins s σ H _ _ v u Q I rx ry ⟨rfl, by simpa using q⟩
  · split at h1
    · rename_i p1 p2 e1 e2
      cases h1
      exact op_eqD hu pins s σ H _ _ v u Q I rx ry ⟨p1, p2, dp_of S 60 _ _ _ hd e1, dp_of S 60 _ _ _ he e2, shaped_of S hd e1, shaped_of S he e2, q⟩
    · cases h1
theorem or_ne (hu : X.A.units + 64 < cLine) : OpR X (compareOp .NotEq) (r2 X.K X.mg (cmpE .NotEq)) := by
  intro pins s σ H x y v u Q I rx ry h
  obtain ⟨m, st, d, e, S, hd, he, h⟩ := h
  obtain ⟨r, h1, h⟩ := ends_opt h
  simp only [cmpD, Option.map_eq_some_iff] at h1
  obtain ⟨b', ⟨b, h1, rfl⟩, rfl⟩ := h1
  have q := ends_bl S h
  unfold eqD at h1
  split at h1
  · cases h1; cases hd; cases he
    exact op_ne pins s σ H _ _ v u Q I rx ry ⟨rfl, by simpa using q⟩
  · cases h1
    obtain ⟨rfl, _⟩ := hd
    obtain ⟨rfl, _⟩ := he
    exact op_ne pins s σ H _ _ v u Q I rx ry ⟨rfl, by simpa using q⟩
  · cases h1; cases hd; cases he
    exact op_ne pins s σ H _ _ v u Q I rx ry ⟨rfl, by simpa using q⟩
  · cases h1; cases hd; cases he
    exact op_ne pins s σ H _ _ v u Q I rx ry ⟨rfl, by simpa using q⟩
  · split at h1
    · rename_i p1 p2 e1 e2
      cases h1
      exact op_neD hu pins s σ H _ _ v u Q I rx ry ⟨p1, p2, dp_of S 60 _ _ _ hd e1, dp_of S 60 _ _ _ he e2, shaped_of S hd e1, shaped_of S he e2, q⟩
    · cases h1

/-! ### in -/
theorem flat_den {K : PySem.W.Frag} {mg : Str → Option Value} {d : D} {v : V} (h : Den K mg m H d v) (f : flatD d = true) : flatV v = true := by
  cases d with
  | non => cases h; rfl
  | bl b => cases h; rfl
  | int i => cases h; rfl
  | str x => cases h.1; rfl
  | _ => cases f
theorem eqD_flat {K : PySem.W.Frag} {mg : Str → Option Value} {d e : D} {x y : V} (hd : Den K mg m H d x) (he : Den K mg m H e y) (fd : flatD d = true) (fe : flatD e = true) : eqD st e d = some (eqV y x) := by
  cases d with
  | non => cases hd; cases e with
    | non => cases he; rfl
    | bl b => cases he; rfl
    | int i => cases he; rfl
    | str z => cases he.1; rfl
    | _ => cases fe
  | bl b => cases hd; cases e with
    | non => cases he; rfl
    | bl c => cases he; simp [eqD, eqV, Bool.beq_eq_decide_eq]
    | int i => cases he; rfl
    | str z => cases he.1; rfl
    | _ => cases fe
  | int i => cases hd; cases e with
    | non => cases he; rfl
    | bl b => cases he; rfl
    | int j => cases he; simp [eqD, eqV, Bool.beq_eq_decide_eq]
    | str z => cases he.1; rfl
    | _ => cases fe
  | str z => cases hd.1; cases e with
    | non => cases he; rfl
    | bl b => cases he; rfl
    | int j => cases he; rfl
    | str w =>
      cases he.1
      simp only [eqD, eqV, Option.some.injEq]
      rw [Bool.eq_iff_iff]
      simp
    | _ => cases fe
  | _ => cases fd
theorem inD_flat {K : PySem.W.Frag} {mg : Str → Option Value} {d : D} {x : V} (hd : Den K mg m H d x) (fd : flatD d = true) : ∀ {es : List D} {ys : List V}, Dens K mg m H es ys → es.all flatD = true → inD st d es = some (inV x ys) ∧ ys.all flatV = true
  | [], _, h, _ => by
    cases h
    exact ⟨rfl, rfl⟩
  | e :: es, _, h, f => by
    obtain ⟨y, r, rfl, h1, h2⟩ := h
    simp only [List.all_cons, Bool.and_eq_true] at f
    obtain ⟨i1, i2⟩ := inD_flat hd fd h2 f.2
    refine ⟨?_, by simp [flat_den h1 f.1, i2]⟩
    unfold inD
    rw [eqD_flat hd h1 fd f.1, i1]
    rfl
theorem or_in (hu : X.A.units + 64 < cLine) : OpR X (compareOp .In) (r2 X.K X.mg (cmpE .In)) := by
  intro pins s σ H x y v u Q I rx ry h
  obtain ⟨m, st, d, e, S, hd, he, h⟩ := h
  obtain ⟨r, h1, h⟩ := ends_opt h
  simp only [cmpD, Option.map_eq_some_iff] at h1
  obtain ⟨b, h1, rfl⟩ := h1
  have q := ends_bl S h
  unfold inOp at h1
  split at h1
  · split at h1
    · cases h1
      obtain ⟨rfl, _⟩ := hd
      obtain ⟨rfl, _⟩ := he
      exact op_in_str pins s σ H _ _ v u Q I rx ry ⟨_, _, rfl, rfl, q⟩
    · cases h1
  · split at h1
    · rename_i hf
      simp only [Bool.and_eq_true] at hf
      obtain ⟨a, vs, rfl, ha, hds⟩ := den_tup he
      obtain ⟨i1, i2⟩ := inD_flat (st := st) hd hf.1 hds hf.2
      rw [i1] at h1
      cases h1
      exact op_in_seq pins s σ H _ _ v u Q I rx ry ⟨a, vs, rfl, .inr ha.sq, flat_den hd hf.1, i2, q⟩
    · cases h1
  · split at h1
    · rename_i hs
      split at h1
      · rename_i hf
        simp only [Bool.and_eq_true] at hf
        obtain ⟨a, vs, rfl, _, ha, hds, _⟩ := den_lst S he hs
        obtain ⟨i1, i2⟩ := inD_flat (st := st) hd hf.1 hds hf.2
        rw [i1] at h1
        cases h1
        exact op_in_seq pins s σ H _ _ v u Q I rx ry ⟨a, vs, rfl, .inl ha, flat_den hd hf.1, i2, q⟩
      · cases h1
    · simp only [Option.bind_eq_some_iff, Option.map_eq_some_iff] at h1
      obtain ⟨kvs, hs, κ, h1, rfl⟩ := h1
      obtain ⟨a, ws, rfl, _, ha, hk, hds⟩ := den_dct S he (dctOf_some hs)
      obtain ⟨z1, z2⟩ := getK_den κ hk hds
      have ek : x = kV κ := by
        cases d with
        | int i =>
          have h1 : some (Sum.inl i) = some κ := h1
          cases h1
          exact hd
        | str z =>
          have h1 : some (Sum.inr z) = some κ := h1
          cases h1
          exact hd.1
        | _ => cases h1
      have es : (valV ws κ).isSome = (getK kvs κ).isSome := by
        cases e : getK kvs κ with
        | none => rw [z2 e] <;> rfl
        | some d' =>
          obtain ⟨w', e', _⟩ := z1 d' e
          rw [e'] <;> rfl
      exact op_in_dK (by omega) pins s σ H _ _ v u Q I rx ry ⟨a, _, rfl, .inl ⟨ws, κ, .inl ha, ek, rfl⟩, by rw [es]; exact q⟩
  · cases h1
theorem or_notin (hu : X.A.units + 64 < cLine) : OpR X (compareOp .NotIn) (r2 X.K X.mg (cmpE .NotIn)) := by
  intro pins s σ H x y v u Q I rx ry h
  obtain ⟨m, st, d, e, S, hd, he, h⟩ := h
  obtain ⟨r, h1, h⟩ := ends_opt h
  simp only [cmpD, Option.map_eq_some_iff] at h1
  obtain ⟨b', ⟨b, h1, rfl⟩, rfl⟩ := h1
  have q := ends_bl S h
  unfold inOp at h1
  split at h1
  · split at h1
    · cases h1
      obtain ⟨rfl, _⟩ := hd
      obtain ⟨rfl, _⟩ := he
      exact L2.op_notIn_str pins s σ H _ _ v u Q I rx ry ⟨_, _, rfl, rfl, q⟩
    · cases h1
  · split at h1
    · rename_i hf
      simp only [Bool.and_eq_true] at hf
      obtain ⟨a, vs, rfl, ha, hds⟩ := den_tup he
      obtain ⟨i1, i2⟩ := inD_flat (st := st) hd hf.1 hds hf.2
      rw [i1] at h1
      cases h1
      exact op_notIn_seq pins s σ H _ _ v u Q I rx ry ⟨a, vs, rfl, .inr ha.sq, flat_den hd hf.1, i2, q⟩
    · cases h1
  · split at h1
    · rename_i hs
      split at h1
      · rename_i hf
        simp only [Bool.and_eq_true] at hf
        obtain ⟨a, vs, rfl, _, ha, hds, _⟩ := den_lst S he hs
        obtain ⟨i1, i2⟩ := inD_flat (st := st) hd hf.1 hds hf.2
        rw [i1] at h1
        cases h1
        exact op_notIn_seq pins s σ H _ _ v u Q I rx ry ⟨a, vs, rfl, .inl ha, flat_den hd hf.1, i2, q⟩
      · cases h1
    · simp only [Option.bind_eq_some_iff, Option.map_eq_some_iff] at h1
      obtain ⟨kvs, hs, κ, h1, rfl⟩ := h1
      obtain ⟨a, ws, rfl, _, ha, hk, hds⟩ := den_dct S he (dctOf_some hs)
      obtain ⟨z1, z2⟩ := getK_den κ hk hds
      have ek : x = kV κ := by
        cases d with
        | int i =>
          have h1 : some (Sum.inl i) = some κ := h1
          cases h1
          exact hd
        | str z =>
          have h1 : some (Sum.inr z) = some κ := h1
          cases h1
          exact hd.1
        | _ => cases h1
      have es : (valV ws κ).isSome = (getK kvs κ).isSome := by
        cases e : getK kvs κ with
        | none => rw [z2 e] <;> rfl
        | some d' =>
          obtain ⟨w', e', _⟩ := z1 d' e
          rw [e'] <;> rfl
      exact op_notIn_dK (by omega) pins s σ H _ _ v u Q I rx ry ⟨a, _, rfl, .inl ⟨ws, κ, .inl ha, ek, rfl⟩, by rw [es]; exact q⟩
  · cases h1
theorem den_non {K : PySem.W.Frag} {mg : Str → Option Value} {d : D} {v : V} (h : Den K mg m H d v) : (v = .non ∧ d = .non) ∨ (v ≠ .non ∧ d ≠ .non) := by
  cases d with
  | non => cases h; exact .inl ⟨rfl, rfl⟩
  | bl b => cases h; exact .inr ⟨fun z => (nomatch z), fun z => (nomatch z)⟩
  | int b => cases h; exact .inr ⟨fun z => (nomatch z), fun z => (nomatch z)⟩
  | str b => cases h.1; exact .inr ⟨fun z => (nomatch z), fun z => (nomatch z)⟩
  | tup b => obtain ⟨a, vs, rfl, _⟩ := h; exact .inr ⟨fun z => (nomatch z), fun z => (nomatch z)⟩
  | ref b => obtain ⟨a, _, rfl⟩ := h; exact .inr ⟨fun z => (nomatch z), fun z => (nomatch z)⟩
  | fn b => obtain ⟨a, _, rfl⟩ := h; exact .inr ⟨fun z => (nomatch z), fun z => (nomatch z)⟩
  | itm b => obtain ⟨a, vs, rfl, _⟩ := h; exact .inr ⟨fun z => (nomatch z), fun z => (nomatch z)⟩
theorem or_cmp (hu : X.A.units + 64 < cLine) (op : CmpOp) : OpR X (compareOp op) (r2 X.K X.mg (cmpE op)) := by
  have ords : ∀ (o : CmpOp) (p : Int → Int → Bool), (∀ d e st b, cmpD o d e st = some b → ∃ i j, d = .int i ∧ e = .int j ∧ b = p i j) → OpR X (compareOp o) (rI0 fun i j => .bl (p i j)) → OpR X (compareOp o) (r2 X.K X.mg (cmpE o)) := by
    intro o p hp ho pins s σ H x y v u Q I rx ry h
    obtain ⟨m, st, d, e, S, hd, he, h⟩ := h
    obtain ⟨r, h1, h⟩ := ends_opt h
    simp only [Option.map_eq_some_iff] at h1
    obtain ⟨b, h1, rfl⟩ := h1
    obtain ⟨i, j, rfl, rfl, rfl⟩ := hp d e st b h1
    cases hd; cases he
    exact ho pins s σ H _ _ v u Q I rx ry ⟨i, j, rfl, rfl, ends_bl S h⟩
  cases op with
  | Eq => exact or_eq hu
  | NotEq => exact or_ne hu
  | Lt => exact ords _ _ (fun d e st b h => by unfold cmpD at h; simp only at h; split at h <;> cases h; exact ⟨_, _, rfl, rfl, rfl⟩) op_lt
  | LtE => exact ords _ _ (fun d e st b h => by unfold cmpD at h; simp only at h; split at h <;> cases h; exact ⟨_, _, rfl, rfl, rfl⟩) op_le
  | Gt => exact ords _ _ (fun d e st b h => by unfold cmpD at h; simp only at h; split at h <;> cases h; exact ⟨_, _, rfl, rfl, rfl⟩) op_gt
  | GtE => exact ords _ _ (fun d e st b h => by unfold cmpD at h; simp only at h; split at h <;> cases h; exact ⟨_, _, rfl, rfl, rfl⟩) op_ge
  | In => exact or_in hu
  | NotIn => exact or_notin hu
  | Is =>
    intro pins s σ H x y v u Q I rx ry h
    obtain ⟨m, st, d, e, S, hd, he, h⟩ := h
    obtain ⟨r, h1, h⟩ := ends_opt h
    simp only [cmpD, Option.map_eq_some_iff] at h1
    obtain ⟨b, h1, rfl⟩ := h1
    have q := ends_bl S h
    cases e with
    | non =>
      cases he
      refine op_isN pins s σ H _ _ v u Q I rx ry ⟨rfl, ?_⟩
      rcases den_non hd with ⟨rfl, rfl⟩ | ⟨hv, hn⟩
      · cases h1
        exact q
      · rw [decide_eq_false hv]
        cases d <;> first | exact absurd rfl hn | (cases h1; exact q)
    | bl b' =>
      cases d with
      | bl a =>
        cases hd
        cases he
        cases h1
        exact op_isBl pins s σ H _ _ v u Q I rx ry ⟨a, b', rfl, rfl, q⟩
      | _ => cases h1
    | _ => cases h1
  | IsNot =>
    intro pins s σ H x y v u Q I rx ry h
    obtain ⟨m, st, d, e, S, hd, he, h⟩ := h
    obtain ⟨r, h1, h⟩ := ends_opt h
    simp only [cmpD, Option.map_eq_some_iff] at h1
    obtain ⟨b, h1, rfl⟩ := h1
    have q := ends_bl S h
    cases e with
    | non =>
      cases he
      refine op_notN pins s σ H _ _ v u Q I rx ry ⟨rfl, ?_⟩
      rcases den_non hd with ⟨rfl, rfl⟩ | ⟨hv, hn⟩
      · cases h1
        exact q
      · rw [decide_eq_false hv]
        cases d <;> first | exact absurd rfl hn | (cases h1; exact q)
    | bl b' =>
      cases d with
      | bl a =>
        cases hd
        cases he
        cases h1
        exact op_notBl pins s σ H _ _ v u Q I rx ry ⟨a, b', rfl, rfl, q⟩
      | _ => cases h1
    | _ => cases h1
end
end Ab

set_option Elab.async false
set_option linter.all false
set_option autoImplicit false
set_option maxRecDepth 10000
/-! AbOps2: subscripts, slices, stores, built-in functions and methods. -/
namespace Ab
open PySem PySem.Spec PyProof.Rows L2

section
variable {X : Cx} {m : List Addr} {H : Hp} {st : Sto}

theorem ends_get {K : PySem.W.Frag} {mg : Str → Option Value} {ds : List D} {vs : List V} {k : Int} {Q : VK} (S : StOk K mg m H st) (hd : Dens K mg m H ds vs) (h : Ends1 K mg m H st (ofOpt (atI ds k) st) Q) : ∃ v, atI vs k = some v ∧ Q v H := by
  obtain ⟨d, h1, h⟩ := ends_opt h
  unfold atI at h1 ⊢
  rw [← hd.length]
  cases e : ixN ds.length k with
  | none => rw [e] at h1; cases h1
  | some j =>
    rw [e] at h1
    obtain ⟨v, h2, h3⟩ := hd.get h1
    exact ⟨v, h2, ends_pure S h3 h⟩
theorem sOk_one {x : Str} {c : Nat} (h : sOk x = true) (hc : c ∈ x.cps.toList) : sOk ⟨#[c]⟩ = true := by
  unfold sOk at h ⊢
  rw [Array.all_eq_true'] at h
  have := h c (by simpa using hc)
  simp at this
  simpa using this
theorem ix_d (hu : X.A.units + 64 < cLine) : IxR X (r2 X.K X.mg subD) := by
  intro value slice pins s σ H x y v u Q I rx ry h hs
  obtain ⟨m, st, d, e, S, hd, he, h⟩ := h
  unfold subD at h
  split at h
  · rename_i k
    cases he
    split at h
    · obtain ⟨a, vs, rfl, ha, hds⟩ := den_tup hd
      obtain ⟨w, h1, h2⟩ := ends_get S hds h
      exact ix_tup value slice pins s σ H _ _ v u Q I rx ry ⟨a, vs, k, w, rfl, rfl, ha.sq, h1, h2⟩ hs
    · split at h
      · rename_i hl
        obtain ⟨a, vs, rfl, _, ha, hds, _⟩ := den_lst S hd hl
        obtain ⟨w, h1, h2⟩ := ends_get S hds h
        exact ix_list value slice pins s σ H _ _ v u Q I rx ry ⟨a, vs, k, w, rfl, rfl, ha, h1, h2⟩ hs
      · obtain ⟨d, h1, h⟩ := ends_opt h
        simp only [Option.bind_eq_some_iff] at h1
        obtain ⟨kvs, hl, h1⟩ := h1
        obtain ⟨a, ws, rfl, _, ha, hk, hds⟩ := den_dct S hd (dctOf_some hl)
        obtain ⟨w, h2, h3⟩ := (getK_den (.inl k) hk hds).1 d h1
        exact ix_dK (by omega) value slice pins s σ H _ _ v u Q I rx ry ⟨a, w, rfl, .inl ⟨ws, .inl k, .inl ha, rfl, h2.symm⟩, ends_pure S h3 h⟩ hs
    · split at h
      · rename_i z hz
        obtain ⟨rfl, hok⟩ := hd
        obtain ⟨d, h1, h⟩ := ends_opt h
        simp only [Option.map_eq_some_iff] at h1
        obtain ⟨c, h1, rfl⟩ := h1
        refine ix_str value slice pins s σ H _ _ v u Q I rx ry ⟨_, k, c, rfl, rfl, hz, h1, ends_str S (sOk_one hok ?_) h⟩ hs
        obtain ⟨j, _, h2, _⟩ := atI_get h1
        exact List.mem_of_getElem? h2
      · exact (ends_bad h).elim
    · exact (ends_bad h).elim
  · rename_i x
    obtain ⟨rfl, _⟩ := he
    split at h
    · obtain ⟨d, h1, h⟩ := ends_opt h
      simp only [Option.bind_eq_some_iff] at h1
      obtain ⟨kvs, hl, h1⟩ := h1
      obtain ⟨a, ws, rfl, _, ha, hk, hds⟩ := den_dct S hd (dctOf_some hl)
      obtain ⟨w, h2, h3⟩ := (getK_den (.inr x) hk hds).1 d h1
      exact ix_dK (by omega) value slice pins s σ H _ _ v u Q I rx ry ⟨a, w, rfl, .inl ⟨ws, .inr x, .inl ha, rfl, h2.symm⟩, ends_pure S h3 h⟩ hs
    · exact (ends_bad h).elim
  · exact (ends_bad h).elim

theorem cut_nil {α : Type} (xs : List α) (lo hi : Option Int) (h : HT.sIx xs.length 0 lo = 0 ∧ HT.sIx xs.length xs.length hi = xs.length) : cut xs lo hi = xs := by
  unfold cut
  rw [h.1, h.2]
  simp
theorem Dens.cut {K : PySem.W.Frag} {mg : Str → Option Value} {ds : List D} {vs : List V} (h : Dens K mg m H ds vs) (lo hi : Option Int) : Dens K mg m H (cut ds lo hi) (cutV vs lo hi) := by
  unfold Ab.cut cutV
  rw [h.length]
  exact (h.drop _).take _
theorem sOk_cut {x : Str} {lo hi : Option Int} (h : sOk x = true) : sOk (L2.cutS x lo hi) = true := by
  unfold sOk L2.cutS at *
  rw [← Array.all_toList] at h ⊢
  rw [List.all_eq_true] at h ⊢
  exact fun c hc => h c (List.mem_of_mem_drop (List.mem_of_mem_take hc))
def rS (K : PySem.W.Frag) (mg : Str → Option Value) : V → Option Int → Option Int → Hp → VK → Prop := fun x lo hi H Q => ∃ m st d, StOk K mg m H st ∧ Den K mg m H d x ∧ Ends1 K mg m H st (slcD d lo hi st) Q
theorem sl_d : SlR X (rS X.K X.mg) := by
  intro pins s σ H x v vl vu lo hi sl Q I rx hs pl pu h
  obtain ⟨m, st, d, S, hd, h⟩ := h
  unfold slcD at h
  split at h
  · obtain ⟨a, vs, rfl, ha, hds⟩ := den_tup hd
    refine sl_tupB pins s σ H _ v vl vu lo hi sl Q I rx hs pl pu ⟨a, vs, rfl, ha.sq, fun e => ?_, fun _ => ends_tup S (hds.cut lo hi) h⟩
    rw [cut_nil _ _ _ (by rw [hds.length]; exact e)] at h
    exact ends_tupv S ha hds h
  · split at h
    · rename_i hl
      obtain ⟨a, vs, rfl, _, ha, hds, _⟩ := den_lst S hd hl
      exact sl_list pins s σ H _ v vl vu lo hi sl Q I rx hs pl pu ⟨a, vs, rfl, ha, ends_lst S (hds.cut lo hi) h⟩
    · exact (ends_bad h).elim
  · split at h
    · rename_i z hz
      obtain ⟨rfl, hs2⟩ := hd
      exact sl_str pins s σ H _ v vl vu lo hi sl Q I rx hs pl pu ⟨z, rfl, hz, ends_str S (sOk_cut hs2) h⟩
    · exact (ends_bad h).elim
  · exact (ends_bad h).elim

/-- o[i] = v -/
def rPut (K : PySem.W.Frag) (mg : Str → Option Value) : V → V → V → Hp → (Hp → Prop) → Prop := fun o i v H Q => ∃ m st d k e st', StOk K mg m H st ∧ Den K mg m H d o ∧ Den K mg m H k i ∧ Den K mg m H e v ∧ setD d k e st = .ok () st' ∧
  ∀ m' H', Grow m H st m' H' st' → StOk K mg m' H' st' → Q H'
theorem set_d (hu : X.A.units + 64 < cLine) : PSet X (rPut X.K X.mg) := by
  intro pins s σ H o i v ov iv u Q I ro ri rv h
  obtain ⟨m, st, d, k, e, st', S, hd, hk, he, h, q⟩ := h
  unfold setD at h
  split at h
  · rename_i l j
    split at h
    · rename_i ds hl
      split at h
      · rename_i n hn
        cases h
        cases hk
        obtain ⟨a, vs, rfl, hm, _, hds, ha⟩ := den_lst S hd hl
        obtain ⟨S1, g1⟩ := S.put hm hl (hds.set n he)
        exact set_list pins s σ H _ _ v ov iv u Q I ro ri rv ⟨a, vs, j, n, rfl, rfl, ha rfl, by rw [← hds.length]; exact hn, q m _ g1 S1⟩
      · cases h
    · split at h
      · rename_i kvs hl
        split at h
        · rename_i hz
          cases h
          cases hk
          obtain ⟨a, ws, rfl, hm, ha, hks, hds⟩ := den_dct S hd (dctOf_some hl)
          obtain ⟨k1, k2⟩ := putK_den (.inl j) hks hds he
          obtain ⟨S1, g1⟩ := S.putK hm (dctOf_some hl) k1 k2
          exact set_dK (by omega) pins s σ H _ _ v ov iv u Q I ro ri rv ⟨a, _, rfl, .inl ⟨ws, .inl j, ha, rfl, by have := congrArg List.length hks; simp at this; omega, rfl⟩, q m _ g1 S1⟩
        · cases h
      · cases h
  · rename_i l x
    split at h
    · rename_i kvs hl
      split at h
      · rename_i hz
        cases h
        obtain ⟨rfl, _⟩ := hk
        obtain ⟨a, ws, rfl, hm, ha, hks, hds⟩ := den_dct S hd (dctOf_some hl)
        obtain ⟨k1, k2⟩ := putK_den (.inr x) hks hds he
        obtain ⟨S1, g1⟩ := S.putK hm (dctOf_some hl) k1 k2
        exact set_dK (by omega) pins s σ H _ _ v ov iv u Q I ro ri rv ⟨a, _, rfl, .inl ⟨ws, .inr x, ha, rfl, by have := congrArg List.length hks; simp at this; omega, rfl⟩, q m _ g1 S1⟩
      · cases h
    · cases h
  · cases h

/-! ### built-in functions -/
theorem ints_of {K : PySem.W.Frag} {mg : Str → Option Value} : ∀ {ds : List D} {vs : List V} {ns : List Int}, Dens K mg m H ds vs → optAll intOf ds = some ns → vs = ns.map V.int
  | [], vs, ns, h, e => by
    cases h
    cases e
    rfl
  | d :: ds, vs, ns, h, e => by
    obtain ⟨v, r, rfl, h1, h2⟩ := h
    unfold optAll at e
    split at e
    · rename_i y zs e1 e2
      cases e
      cases d <;> cases e1
      cases h1
      rw [ints_of h2 e2]
      rfl
    · cases e
theorem bools_of {K : PySem.W.Frag} {mg : Str → Option Value} : ∀ {ds : List D} {vs : List V} {ns : List Bool}, Dens K mg m H ds vs → optAll boolOf ds = some ns → vs = ns.map V.bl
  | [], vs, ns, h, e => by
    cases h
    cases e
    rfl
  | d :: ds, vs, ns, h, e => by
    obtain ⟨v, r, rfl, h1, h2⟩ := h
    unfold optAll at e
    split at e
    · rename_i y zs e1 e2
      cases e
      cases d <;> cases e1
      cases h1
      rw [bools_of h2 e2]
      rfl
    · cases e
theorem dens1 {K : PySem.W.Frag} {mg : Str → Option Value} {d : D} {xs : List V} (h : Dens K mg m H [d] xs) : ∃ v, xs = [v] ∧ Den K mg m H d v := by
  obtain ⟨v, r, rfl, h1, h2⟩ := h
  cases h2
  exact ⟨v, rfl, h1⟩
theorem dens2 {K : PySem.W.Frag} {mg : Str → Option Value} {d e : D} {xs : List V} (h : Dens K mg m H [d, e] xs) : ∃ v u, xs = [v, u] ∧ Den K mg m H d v ∧ Den K mg m H e u := by
  obtain ⟨v, r, rfl, h1, h2⟩ := h
  obtain ⟨u, rfl, h3⟩ := dens1 h2
  exact ⟨v, u, rfl, h1, h3⟩
theorem listOf_some {st : Sto} {d : D} {ds : List D} (h : listOf st d = some ds) : ∃ l f, d = .ref l ∧ st[l]? = some (.lst f ds) := by
  unfold listOf at h
  split at h
  · split at h
    · rename_i hl
      cases h
      exact ⟨_, _, rfl, hl⟩
    · cases h
  · cases h
theorem seqOf_some {K : PySem.W.Frag} {mg : Str → Option Value} {d : D} {ds : List D} {v : V} (S : StOk K mg m H st) (hd : Den K mg m H d v) (h : seqOf st d = some ds) :
    ∃ a vs, v = .ref a ∧ (SqL K H a vs ∨ (SqB H a vs ∧ d = .tup ds)) ∧ Dens K mg m H ds vs := by
  unfold seqOf at h
  split at h
  · cases h
    obtain ⟨a, vs, rfl, ha, hds⟩ := den_tup hd
    exact ⟨a, vs, rfl, .inr ⟨ha, rfl⟩, hds⟩
  · obtain ⟨l, f, rfl, hl⟩ := listOf_some h
    obtain ⟨a, vs, rfl, _, ha, hds, _⟩ := den_lst S hd hl
    exact ⟨a, vs, rfl, .inl ha, hds⟩
theorem strs_of {K : PySem.W.Frag} {mg : Str → Option Value} : ∀ {ds : List D} {vs : List V} {ns : List Str}, Dens K mg m H ds vs → optAll strOf ds = some ns → vs = ns.map V.str
  | [], vs, ns, h, e => by
    cases h
    cases e
    rfl
  | d :: ds, vs, ns, h, e => by
    obtain ⟨v, r, rfl, h1, h2⟩ := h
    unfold optAll at e
    split at e
    · rename_i y zs e1 e2
      cases e
      cases d <;> cases e1
      cases h1.1
      rw [strs_of h2 e2]
      rfl
    · cases e
theorem maxL_ok : ∀ {ns : List Int} {k : Int}, maxL ns = some k → ∀ m, m ∈ ns → (∀ y, y ∈ ns → y ≤ m) → m = k
  | [], k, h => by cases h
  | x :: xs, k, h => by
    cases h
    have key : ∀ (ys : List Int) (a : Int), (a ≤ ys.foldl max a ∧ ∀ y ∈ ys, y ≤ ys.foldl max a) ∧ (ys.foldl max a = a ∨ ys.foldl max a ∈ ys) := by
      intro ys
      induction ys with
      | nil => intro a; exact ⟨⟨Int.le_refl _, fun y hy => by cases hy⟩, .inl rfl⟩
      | cons y ys ih =>
        intro a
        obtain ⟨⟨h1, h2⟩, h3⟩ := ih (max a y)
        simp only [List.foldl_cons]
        refine ⟨⟨by omega, fun z hz => ?_⟩, ?_⟩
        · rcases List.mem_cons.mp hz with rfl | hz
          · omega
          · exact h2 z hz
        · rcases h3 with h3 | h3
          · by_cases hay : a ≤ y
            · right
              rw [h3, show max a y = y by omega]
              exact List.mem_cons_self
            · left
              rw [h3]
              omega
          · exact .inr (List.mem_cons_of_mem _ h3)
    intro m hm hall
    obtain ⟨⟨h1, h2⟩, h3⟩ := key xs x
    have a1 : m ≤ xs.foldl max x := by
      rcases List.mem_cons.mp hm with rfl | hm
      · exact h1
      · exact h2 m hm
    have a2 : xs.foldl max x ≤ m := by
      rcases h3 with h3 | h3
      · rw [h3]
        exact hall x List.mem_cons_self
      · exact hall _ (List.mem_cons_of_mem _ h3)
    omega
theorem minL_ok : ∀ {ns : List Int} {k : Int}, minL ns = some k → ∀ m, m ∈ ns → (∀ y, y ∈ ns → m ≤ y) → m = k
  | [], k, h => by cases h
  | x :: xs, k, h => by
    cases h
    have key : ∀ (ys : List Int) (a : Int), (ys.foldl min a ≤ a ∧ ∀ y ∈ ys, ys.foldl min a ≤ y) ∧ (ys.foldl min a = a ∨ ys.foldl min a ∈ ys) := by
      intro ys
      induction ys with
      | nil => intro a; exact ⟨⟨Int.le_refl _, fun y hy => by cases hy⟩, .inl rfl⟩
      | cons y ys ih =>
        intro a
        obtain ⟨⟨h1, h2⟩, h3⟩ := ih (min a y)
        simp only [List.foldl_cons]
        refine ⟨⟨by omega, fun z hz => ?_⟩, ?_⟩
        · rcases List.mem_cons.mp hz with rfl | hz
          · omega
          · exact h2 z hz
        · rcases h3 with h3 | h3
          · by_cases hay : a ≤ y
            · left
              rw [h3]
              omega
            · right
              rw [h3, show min a y = y by omega]
              exact List.mem_cons_self
          · exact .inr (List.mem_cons_of_mem _ h3)
    intro m hm hall
    obtain ⟨⟨h1, h2⟩, h3⟩ := key xs x
    have a1 : xs.foldl min x ≤ m := by
      rcases List.mem_cons.mp hm with rfl | hm
      · exact h1
      · exact h2 m hm
    have a2 : m ≤ xs.foldl min x := by
      rcases h3 with h3 | h3
      · rw [h3]
        exact hall x List.mem_cons_self
      · exact hall _ (List.mem_cons_of_mem _ h3)
    omega
theorem maxL_pos {ns : List Int} {k : Int} (h : maxL ns = some k) : 0 < ns.length := by cases ns <;> simp_all [maxL]
theorem minL_pos {ns : List Int} {k : Int} (h : minL ns = some k) : 0 < ns.length := by cases ns <;> simp_all [minL]

/-- what a built-in is called as, what stands behind it -/
def Blt.val : Blt → Value
  | .len => .builtin "len" | .all => .builtin "all" | .any => .builtin "any" | .sum => .builtin "sum" | .tuple => .type "tuple" | .list => .type "list"
  | .int => .type "int" | .abs => .builtin "abs" | .divmod => .builtin "divmod" | .min => .builtin "min" | .max => .builtin "max"
theorem ends_opti {K : PySem.W.Frag} {mg : Str → Option Value} {α : Type} {o : Option α} {f : α → D} {Q : VK} (h : Ends1 K mg m H st (ofOpt (o.map f) st) Q) : ∃ a, o = some a ∧ Ends1 K mg m H st (.ok (f a) st) Q := by
  obtain ⟨d, h1, h⟩ := ends_opt h
  simp only [Option.map_eq_some_iff] at h1
  obtain ⟨a, h1, rfl⟩ := h1
  exact ⟨a, h1, h⟩
theorem call_d (hc : X.calm = true) (b : Blt) : CallR X b.val (rN X.K X.mg (bltD b)) := by
  intro pins s σ H xs us Q I r h
  obtain ⟨m, st, ds, S, hds, h⟩ := h
  unfold bltD at h
  split at h
  · obtain ⟨v, rfl, hv⟩ := dens1 hds
    obtain ⟨rfl, _⟩ := hv
    split at h
    · rename_i hz
      exact call_len_str pins s σ H _ us Q I r ⟨_, rfl, hz, ends_int S h⟩
    · exact (ends_bad h).elim
  · obtain ⟨v, rfl, hv⟩ := dens1 hds
    obtain ⟨xs, h1, h⟩ := ends_opti h
    obtain ⟨a, vs, rfl, ha, hx⟩ := seqOf_some S hv h1
    refine call_len_seq pins s σ H _ us Q I r ⟨a, vs, rfl, ?_, by rw [← hx.length]; exact ends_int S h⟩
    rcases ha with ha | ⟨ha, _⟩
    · exact .inl ha
    · exact .inr ha.sq
  · obtain ⟨v, rfl, hv⟩ := dens1 hds
    obtain ⟨bs, h1, h9⟩ := ends_opti h
    simp only [Option.bind_eq_some_iff] at h1
    obtain ⟨ds, h1, h2⟩ := h1
    obtain ⟨l, f, rfl, hl⟩ := listOf_some h1
    obtain ⟨a, vs, rfl, _, ha, hx, _⟩ := den_lst S hv hl
    rw [bools_of hx h2] at ha
    exact cr_all hc pins s σ H _ us Q I r ⟨a, bs, rfl, ha, ends_bl S h9⟩
  · obtain ⟨v, rfl, hv⟩ := dens1 hds
    obtain ⟨bs, h1, h9⟩ := ends_opti h
    simp only [Option.bind_eq_some_iff] at h1
    obtain ⟨ds, h1, h2⟩ := h1
    obtain ⟨l, f, rfl, hl⟩ := listOf_some h1
    obtain ⟨a, vs, rfl, _, ha, hx, _⟩ := den_lst S hv hl
    rw [bools_of hx h2] at ha
    exact cr_any hc pins s σ H _ us Q I r ⟨a, bs, rfl, ha, ends_bl S h9⟩
  · obtain ⟨v, rfl, hv⟩ := dens1 hds
    obtain ⟨bs, h1, h9⟩ := ends_opti h
    simp only [Option.bind_eq_some_iff] at h1
    obtain ⟨ds, h1, h2⟩ := h1
    obtain ⟨a, vs, rfl, ha, hx⟩ := seqOf_some S hv h1
    rcases ha with ha | ⟨ha, _⟩
    · rw [ints_of hx h2] at ha
      exact cr_sum hc pins s σ H _ us Q I r ⟨a, bs, rfl, ha, ends_int S h9⟩
    · rw [ints_of hx h2] at ha
      exact cr_sumT hc pins s σ H _ us Q I r ⟨a, bs, rfl, ha.sq, ends_int S h9⟩
  · obtain ⟨v, rfl, hv⟩ := dens1 hds
    obtain ⟨xs, h1, h⟩ := ends_opti h
    obtain ⟨a, vs, rfl, ha, hx⟩ := seqOf_some S hv h1
    refine call_tuple_ofB pins s σ H _ us Q I r ⟨a, vs, rfl, ?_⟩
    rcases ha with ha | ⟨ha, e⟩
    · exact .inl ⟨ha, ends_tup S hx h⟩
    · exact .inr ⟨ha.sq, ends_tupv S ha hx h⟩
  · obtain ⟨v, rfl, hv⟩ := dens1 hds
    split at h
    · rename_i xs h1
      obtain ⟨a, vs, rfl, ha, hx⟩ := seqOf_some S hv h1
      refine call_list_of pins s σ H _ us Q I r ⟨a, vs, rfl, ?_, ends_lst S hx h⟩
      rcases ha with ha | ⟨ha, e⟩
      · exact .inl ha
      · exact .inr ha.sq
    · exact (ends_bad h).elim
  · obtain ⟨v, rfl, hv⟩ := dens1 hds
    cases hv
    exact call_int1 pins s σ H _ us Q I r (.inl ⟨_, rfl, ends_int S h⟩)
  · obtain ⟨v, rfl, hv⟩ := dens1 hds
    cases hv
    exact call_int1 pins s σ H _ us Q I r (.inr ⟨_, rfl, ends_int S h⟩)
  · obtain ⟨v, rfl, hv⟩ := dens1 hds
    cases hv
    exact call_abs pins s σ H _ us Q I r ⟨_, rfl, ends_int S h⟩
  · obtain ⟨v, u, rfl, hv, hu⟩ := dens2 hds
    cases hv
    cases hu
    split at h
    · rename_i hz
      refine call_divmodB pins s σ H _ us Q I r ⟨_, _, rfl, hz, ends_tup S ?_ h⟩
      exact ⟨_, _, rfl, rfl, _, _, rfl, rfl, rfl⟩
    · exact (ends_bad h).elim
  · obtain ⟨v, u, rfl, hv, hu⟩ := dens2 hds
    cases hv
    cases hu
    exact call_min2 hc pins s σ H _ us Q I r ⟨_, _, rfl, ends_int S h⟩
  · obtain ⟨v, u, rfl, hv, hu⟩ := dens2 hds
    cases hv
    cases hu
    exact call_max2 hc pins s σ H _ us Q I r ⟨_, _, rfl, ends_int S h⟩
  · obtain ⟨v, rfl, hv⟩ := dens1 hds
    obtain ⟨k, h1, h9⟩ := ends_opti h
    simp only [Option.bind_eq_some_iff] at h1
    obtain ⟨ns, ⟨ds, h1, h2⟩, h3⟩ := h1
    obtain ⟨l, f, rfl, hl⟩ := listOf_some h1
    obtain ⟨a, vs, rfl, _, ha, hx, _⟩ := den_lst S hv hl
    rw [ints_of hx h2] at ha
    exact cr_min hc pins s σ H _ us Q I r ⟨a, ns, rfl, ha, minL_pos h3, fun m h4 h5 => by rw [minL_ok h3 m h4 h5]; exact ends_int S h9⟩
  · obtain ⟨v, rfl, hv⟩ := dens1 hds
    obtain ⟨k, h1, h9⟩ := ends_opti h
    simp only [Option.bind_eq_some_iff] at h1
    obtain ⟨ns, ⟨ds, h1, h2⟩, h3⟩ := h1
    obtain ⟨l, f, rfl, hl⟩ := listOf_some h1
    obtain ⟨a, vs, rfl, _, ha, hx, _⟩ := den_lst S hv hl
    rw [ints_of hx h2] at ha
    exact cr_max hc pins s σ H _ us Q I r ⟨a, ns, rfl, ha, maxL_pos h3, fun m h4 h5 => by rw [maxL_ok h3 m h4 h5]; exact ends_int S h9⟩
  · exact (ends_bad h).elim
end
end Ab

set_option Elab.async false
set_option linter.all false
set_option autoImplicit false
set_option maxRecDepth 100000
/-! AbIter: enumerate of a tuple, walked. -/
namespace L2
open PySem PySem.Spec PyProof.Rows
open AutoSeq1 (wpAny_loadPart')

set_option maxHeartbeats 1000000 in
theorem meets_enumerate_newT {v : Value} {o : Obj} {H : Heap → Prop} (B : Begins v o H) :
    Meets (Builtin.«enumerate.__new__» ⟨[.type "enumerate", v], []⟩) (fun _ R s => H s.heap ∧
      R (.ok (.ret (.ref (s.heap.push o).objs.size))) { s with heap := (s.heap.push o).push { cls := .type "enumerate", data := .fields #[.none, .bool false, .ref s.heap.objs.size, rawInt 0, .none, .none] } }) :=
  .of_wp fun prog w A R s h => by
    obtain ⟨hp, g, d, tk, os⟩ := s; obtain ⟨h1, h⟩ := h
    have hsub := sub_enumerate
    have q1 : ∀ {A' : Around} {E : Value → Shared → Prop} {Q : Value → Shared → Prop}, Q (.ref hp.objs.size) ⟨hp.push o, g, d, tk, os⟩ → wpAny (model prog w) A' (pyIter v) Q E ⟨hp, g, d, tk, os⟩ :=
      fun q => B.iter prog w _ _ ⟨hp, g, d, tk, os⟩ _ h1 q
    wp_walk using q1
    refine wpAny_stack_any fun st => wpAny_pure ?_
    split
    · rename_i c _ _ _ _ _
      cases (c == Value.type "enumerate")
      · wp_walk using q1
        exact ⟨_, rfl, h⟩
      · wp_walk using q1
        exact ⟨_, rfl, h⟩
    · wp_walk using q1
      exact ⟨_, rfl, h⟩
section
variable {prog : Program} {w : World} {A : Around} {E : Value → Shared → Prop} {s : Shared}
theorem call_enumerate_begins {v : Value} {o : Obj} {H : Heap → Prop} {Q : Value → Shared → Prop} (B : Begins v o H) (h1 : H s.heap)
    (h : ∀ h', IsEnum h' (s.heap.objs.size + 1) s.heap.objs.size 0 .none → h'.get? s.heap.objs.size = some o → h'.objs.size = s.heap.objs.size + 2 →
      (∀ b o, s.heap.get? b = some o → h'.get? b = some o) → Q (.ref (s.heap.objs.size + 1)) { s with heap := h' }) :
    wpAny (model prog w) A (call (.type "enumerate") [v]) Q E s := by
  refine callType_new F.called_enumerate (by decide) (F.typeCall_enumerate_1 _) (F.newCall_enumerate_1 _) (fun obj => F.args_object_init_2 obj _) F.entry_enumerate_new
    (meets_enumerate_newT B) ⟨h1, ?_⟩
  have hz : (s.heap.push o).objs.size = s.heap.objs.size + 1 := Heap.size_push ..
  show _ ∧ _
  rw [hz]
  have he : IsEnum ((s.heap.push o).push { cls := .type "enumerate", data := .fields #[.none, .bool false, .ref s.heap.objs.size, rawInt 0, .none, .none] }) (s.heap.objs.size + 1) s.heap.objs.size 0 .none := by
    have := Heap.get?_push_size (s.heap.push o) (o := { cls := .type "enumerate", data := .fields #[.none, .bool false, .ref s.heap.objs.size, rawInt 0, .none, .none] }) rfl
    rw [hz] at this; exact this
  refine ⟨⟨_, he, rfl⟩, h _ he (Heap.get?_push_of_some _ (Heap.get?_push_size _ B.free)) (by rw [Heap.size_push, hz]) fun b o x => Heap.get?_push_of_some _ (Heap.get?_push_of_some _ x)⟩
end

/-- the tuple at a, each item in a new pair -/
def IteT (K : PySem.W.Frag) (a : Addr) : It :=
  ⟨fun i H => ∃ (xs : List V) (x : V), SqT K H a xs ∧ xs[i]? = some x, fun i H v H' => ∃ T x, v = .ref T ∧ H T = none ∧ H' = upd H T (.tup [.int (i : Nat), x]) ∧ ∀ xs, SqT K H a xs → xs[i]? = some x, fun i H => ∃ xs : List V, SqT K H a xs ∧ xs.length = i⟩
theorem turn_enumT {P : Program} {w : World} {K : PySem.W.Frag} {elts : List Expr} {kk : Nat} {tpos : Pos} (a e it : Addr) :
    Turn P w K (.Tuple elts kk tpos) (IteT K a) [e, it] e (fun i h => (∃ old, IsEnum h e it ((i : Nat) : Int) old) ∧ h.IsTupleIter it a i ∧ e ≠ it ∧ a ≠ it ∧ a ≠ e) where
  mem := by simp
  obj := fun i h st b hb => by
    obtain ⟨⟨old, he⟩, ⟨o, ho, hc, hd⟩, _⟩ := st
    have e' : b = e ∨ b = it := by simpa using hb
    rcases e' with z | z
    · rw [z]; exact ⟨_, he, fun v q => nomatch q⟩
    · rw [z]; exact ⟨o, ho, fun v q => by rw [hd] at q; cases q⟩
  keep := fun i h h' st k => let ⟨⟨old, he⟩, hi, hne⟩ := st; ⟨⟨old, k e (by simp) _ he⟩, hi.at fun o q => k it (by simp) o q, hne⟩
  item := by
    intro X hP hw hK hc i pins s σ H E I hf st hg
    subst hP hw hK
    obtain ⟨⟨old, he⟩, hit, hne, hni, hnE⟩ := st
    obtain ⟨xs, x, hq, hx⟩ := hg
    obtain ⟨its, rv, p, hz⟩ := I.tuple hq
    obtain ⟨u, hu, ru⟩ := rv.get hx
    have hel : e < s.heap.objs.size := Heap.lt_size he
    have hil : it < s.heap.objs.size := by obtain ⟨_, q, _⟩ := hit; exact Heap.lt_size q
    have hlt : i < its.toArray.size := by
      have := (List.getElem?_eq_some_iff.mp hu).1
      simpa using this
    refine wpAny_pyNext_enum_itemD (Draws.tuple (A := X.A.in1) (I.ok.hd hc) it a hni its.toArray) he ⟨hit, p⟩ hlt hne (by simp [hne, Ne.symm hnE]) fun y h' tk hy ho hit' hT hsz hk => ?_
    have hyu : y = u := by
      have hy : its.toArray[i]? = some y := hy
      rw [show its.toArray[i]? = some u by simpa using hu] at hy
      exact (Option.some.inj hy).symm
    subst hyu
    refine ⟨_, rfl, wpAny_letOwnedTupleGo_enum (s := { s with heap := h', toks := tk + 1 }) ho fun h'' he' sb => ?_⟩
    have hT2 : h''.get? s.heap.objs.size = some { cls := .type "tuple", data := .seq #[.int i tk, y] } := (sb.2 _ (Nat.ne_of_gt hel)).trans hT
    have new : ObjOk X.prog X.w (upd H s.heap.objs.size (.tup [.int (i : Nat), x])) h'' s.heap.objs.size (.tup [.int (i : Nat), x]) :=
      ⟨by show 2 ≤ sizeLine; decide, [.int i tk, y], .cons ⟨_, rfl⟩ (.cons ru .nil), ⟨_, hT2, rfl, _, rfl⟩⟩
    have I1 : Inv X pins σ (upd H s.heap.objs.size (.tup [.int (i : Nat), x])) { s with heap := h'', toks := tk + 1 } :=
      I.turnedNew (ch := [e, it]) (fun b ob hb q => (sb.2 b (fun z => hb (by simp [z]))).trans (hk b ob (fun z => hb (by simp [z])) (fun z => hb (by simp [z])) q)) hf (Nat.le_refl _) new
    refine ⟨.ref s.heap.objs.size, _, I1, rfl, ⟨_, x, rfl, I.hok.fresh (Nat.le_refl _), rfl, fun ys hy => by rw [I.tuple_inj hy hq]; exact hx⟩, ⟨⟨y, ?_⟩, hit'.1.at fun o q => (sb.2 it (Ne.symm hne)).trans q, hne, hni, hnE⟩, fun b hb => ?_⟩
    · have e1 : ((i + 1 : Nat) : Int) = (i : Int) + 1 := by omega
      rw [e1]; exact he'
    · have hb' : b < s.heap.objs.size := by
        have e' : b = e ∨ b = it := by simpa using hb
        rcases e' with z | z
        · rw [z]; exact hel
        · rw [z]; exact hil
      rw [upd_ne (Nat.ne_of_lt hb')]
      exact (hf b hb).1
  done := by
    intro X hP hw hK hc i pins s σ H E I hf st hg
    subst hP hw hK
    obtain ⟨⟨old, he⟩, hit, hne, hni, hnE⟩ := st
    obtain ⟨xs, hq, hx⟩ := hg
    obtain ⟨its, rv, p, hz⟩ := I.tuple hq
    obtain ⟨f0, f1, f2, f3, f4, f5⟩ := hf it (by simp)
    have hl := rv.length
    have e1 : its.toArray.size = i := by simp; omega
    subst e1
    exact wpAny_pyNext_enum_endD (Draws.tuple (A := X.A.in1) (I.ok.hd hc) it a hni its.toArray) he ⟨hit, p⟩ fun h' eb => ⟨rfl, I.turned (t' := s.toks) (fun b o hb q => eb b o hb q) f0 f1 f3 f4 f5⟩
  self := fun A i s Q E st h => let ⟨⟨_, he⟩, _⟩ := st; wpAny_pyIter_enum he h
def iEnumT (K : PySem.W.Frag) (ta : TA) : TI := fun σ H R => ta σ H fun vs H1 => ∃ a xs, vs = [.ref a] ∧ SqT K H1 a xs ∧ R (IteT K a) H1
theorem pi_enumT {X : Cx} {e : Expr} {ta : TA} {p pos tpos : Pos} {elts : List Expr} {kk : Nat} (hg : Gl X "enumerate") (hm : X.mg "enumerate" = none) (ha : PA X [e] ta) (hs : starEach [e] X.env = [(false, eval e X.env)] := by rfl) :
    PI X (.Tuple elts kk tpos) (.Call (.Name "enumerate" p) [e] [] pos) (iEnumT X.K ta) := by
  refine ⟨fun pins s σ H R I h => ?_⟩
  refine Call_ (ld_blt I hg hm boot_enumerate (PyProof.Rows.callWith_type1 (thn (ha.run pos pins s σ H _ I h) fun us s1 ⟨vs, H1, I1, r1, q1⟩ => ?_) hs rfl))
  obtain ⟨a, xs, ex, hq, q⟩ := q1
  subst ex
  cases r1 with
  | cons r rr =>
    cases rr
    cases r
    obtain ⟨its, rv, p', hz⟩ := I1.tuple hq
    have hal : a < s1.heap.objs.size := by obtain ⟨o, q, _⟩ := p'; exact Heap.lt_size q
    refine call_enumerate_begins (begins_tuple a its.toArray) p' fun h' he hit hsz hk => wpAny_pyIter_enum he ?_
    have I2 : Inv X pins σ H1 { s1 with heap := h' } := I1.kept (t' := s1.toks) hk
    refine ⟨s1.heap.objs.size + 1, [s1.heap.objs.size + 1, s1.heap.objs.size], _, _, H1, rfl, I2, turn_enumT a (s1.heap.objs.size + 1) s1.heap.objs.size, ⟨⟨.none, he⟩, ⟨_, hit, rfl, rfl⟩, Nat.succ_ne_self _, Nat.ne_of_lt hal, Nat.ne_of_lt (Nat.lt_succ_of_lt hal)⟩, fun b hb => ?_, q⟩
    have e' : b = s1.heap.objs.size + 1 ∨ b = s1.heap.objs.size := by simpa using hb
    have hle : s1.heap.objs.size ≤ b := by
      rcases e' with z | z
      · rw [z]; exact Nat.le_add_right _ _
      · rw [z]; exact Nat.le_refl _
    exact I1.fpOk hle (I1.hok.fresh hle)
theorem walk_enumT {K : PySem.W.Frag} {a : Addr} {xs : List V} : Walk (IteT K a) xs.length (fun H => SqT K H a xs) (YPair (fun i => some (.int (i : Nat))) (fun i => xs[i]?)) := by
  refine ⟨fun i _ hi q => ⟨xs, xs[i], q, by simp [hi]⟩, fun _ q => ⟨xs, q, rfl⟩, fun i H v H' _ q y => ?_⟩
  obtain ⟨T, x, h1, h2, h3, h4⟩ := y
  exact ⟨T, .int (i : Nat), x, h1, h2, h3, rfl, h4 xs q⟩
/-- two ways to walk, one text -/
theorem PI.or {X : Cx} {tg l : Expr} {w1 w2 : TI} (h1 : PI X tg l w1) (h2 : PI X tg l w2) : PI X tg l (fun σ H R => w1 σ H R ∨ w2 σ H R) :=
  ⟨fun pins s σ H R I h => h.elim (fun q => h1.run pins s σ H R I q) fun q => h2.run pins s σ H R I q⟩
theorem PI.weak {X : Cx} {tg l : Expr} {w1 w2 : TI} (h1 : PI X tg l w1) (h : ∀ σ H R, w2 σ H R → w1 σ H R) : PI X tg l w2 :=
  ⟨fun pins s σ H R I q => h1.run pins s σ H R I (h _ _ _ q)⟩
end L2

set_option Elab.async false
set_option linter.all false
set_option autoImplicit false
set_option maxRecDepth 10000
/-! AbOps3: isinstance, methods of lists. -/
namespace Ab
open PySem PySem.Spec PyProof.Rows L2
section
variable {X : Cx} {m : List Addr} {H : Hp} {st : Sto}
def Ty.name : Ty → String
  | .int => "int" | .bool => "bool" | .str => "str" | .tuple => "tuple" | .list => "list" | .dict => "dict"
theorem isi_kit {K : PySem.W.Frag} {mg : Str → Option Value} (S : StOk K mg m H st) {d : D} {v : V} {t : Ty} {b : Bool} (hd : Den K mg m H d v) (h : isiD t d st = some b) : ∃ tv, TyX K H v tv ∧ PySem.W.kitOne K tv (.type t.name) = some b := by
  cases d with
  | non =>
    cases hd; cases h
    exact ⟨_, .base .non, by cases t <;> exact kit_ty (by decide +kernel)⟩
  | bl c =>
    cases hd; cases h
    exact ⟨_, .base (.bl c), by cases t <;> exact kit_ty (by decide +kernel)⟩
  | int i =>
    cases hd; cases h
    exact ⟨_, .base (.int i), by cases t <;> exact kit_ty (by decide +kernel)⟩
  | str x =>
    cases hd.1; cases h
    exact ⟨_, .base (.str x), by cases t <;> exact kit_ty (by decide +kernel)⟩
  | tup ds =>
    cases h
    obtain ⟨a, vs, rfl, ha, hx⟩ := den_tup hd
    have ty : TyX K H (.ref a) (.type "tuple") := by
      obtain ⟨o, ha, _⟩ := ha
      exact .fTuple ha
    exact ⟨_, ty, by cases t <;> exact kit_ty (by decide +kernel)⟩
  | ref l =>
    unfold isiD at h
    simp only at h
    split at h
    · rename_i f ds hl
      cases h
      obtain ⟨a, vs, rfl, _, ha, hx, _⟩ := den_lst S hd hl
      have ty : TyX K H (.ref a) (.type "list") := by
        rcases ha with (ha | ⟨o, ha⟩) | ⟨o, its, n, hk, hc, _⟩
        · exact .base (.lst ha)
        · exact .base (.frz ha)
        · exact .kList hk hc
      exact ⟨_, ty, by cases t <;> exact kit_ty (by decide +kernel)⟩
    · cases q : dctOf st l with
      | none => rw [q] at h; cases h
      | some kvs =>
        rw [q] at h
        have h : some (t == .dict) = some b := h
        cases h
        obtain ⟨a, ws, rfl, _, ha, _⟩ := den_dct S hd (dctOf_some q)
        have ty : TyX K H (.ref a) (.type "dict") := .base (.dK ha)
        exact ⟨_, ty, by cases t <;> exact kit_ty (by decide +kernel)⟩
  | fn x => cases h
  | itm x => cases h

def Mth.id : Mth → String
  | .append => "list.append" | .index => "list.index" | .pop => "list.pop"
def Mth.nm : Mth → Str
  | .append => "append" | .index => "index" | .pop => "pop"
theorem findD_at {K : PySem.W.Frag} {mg : Str → Option Value} {d : D} {y : V} (hd : Den K mg m H d y) (fd : flatD d = true) : ∀ {es : List D} {ys : List V} {b k : Nat}, Dens K mg m H es ys → es.all flatD = true → findD st d es b = some (some k) →
    b ≤ k ∧ (∃ z, ys[k - b]? = some z ∧ eqV z y = true) ∧ ∀ (j : Nat) (z : V), j < k - b → ys[j]? = some z → eqV z y = false
  | [], ys, b, k, h, f, e => by cases e
  | d' :: es, ys, b, k, h, f, e => by
    obtain ⟨z, r, rfl, h1, h2⟩ := h
    simp only [List.all_cons, Bool.and_eq_true] at f
    unfold findD at e
    rw [eqD_flat hd h1 fd f.1] at e
    cases q : eqV z y with
    | true =>
      rw [q] at e
      cases e
      refine ⟨Nat.le_refl _, ⟨z, by simp, q⟩, fun j z' hj _ => by omega⟩
    | false =>
      rw [q] at e
      obtain ⟨i1, ⟨z1, i2, i3⟩, i4⟩ := findD_at hd fd h2 f.2 e
      refine ⟨by omega, ⟨z1, ?_, i3⟩, fun j z' hj hz => ?_⟩
      · have : k - b = (k - (b + 1)) + 1 := by omega
        rw [this]
        simpa using i2
      · cases j with
        | zero =>
          simp at hz
          subst hz
          exact q
        | succ j => exact i4 j z' (by omega) (by simpa using hz)
def rM (K : PySem.W.Frag) (mg : Str → Option Value) (g : D → List D → Sto → R D) : V → List V → Hp → VK → Prop := fun x xs H Q => ∃ m st d ds, StOk K mg m H st ∧ Den K mg m H d x ∧ (∀ ys, d ≠ .tup ys) ∧ Dens K mg m H ds xs ∧ Ends1 K mg m H st (g d ds st) Q
theorem dens0 {K : PySem.W.Frag} {mg : Str → Option Value} {xs : List V} (h : Dens K mg m H [] xs) : xs = [] := h
theorem Dens.dropLast {K : PySem.W.Frag} {mg : Str → Option Value} {ds : List D} {vs : List V} (h : Dens K mg m H ds vs) : Dens K mg m H ds.dropLast vs.dropLast := by
  rw [List.dropLast_eq_take, List.dropLast_eq_take, h.length]
  exact h.take _
def idT : String := "tuple.index"
theorem mth_t : MtR X "tuple.index" (fun x xs H Q => ∃ m st d ds, StOk X.K X.mg m H st ∧ Den X.K X.mg m H (.tup d) x ∧ Dens X.K X.mg m H ds xs ∧ Ends1 X.K X.mg m H st (mthD .index (.tup d) ds st) Q) := by
  intro pins s σ H x xs v us Q I rx r h
  obtain ⟨m, st, ys, ds, S, hd, hds, h⟩ := h
  obtain ⟨a, vs, rfl, ha, hx⟩ := den_tup hd
  unfold mthD at h
  dsimp only at h
  split at h
  · rename_i z _
    obtain ⟨u, rfl, hu⟩ := dens1 hds
    obtain ⟨rfl, _⟩ := hu
    split at h
    · rename_i k hk
      simp only [Option.bind_eq_some_iff] at hk
      obtain ⟨ss, h1, h2⟩ := hk
      rw [strs_of hx h1] at ha
      rw [List.findIdx?_eq_some_iff_getElem] at h2
      obtain ⟨hlt, h3, h4⟩ := h2
      refine mt_tup_index pins s σ H _ _ v us Q I rx r ⟨a, ss, z, k, rfl, rfl, ha.sq, ?_, fun j hj e => ?_, ends_int S h⟩
      · rw [List.getElem?_eq_getElem hlt]
        exact congrArg some (of_decide_eq_true h3)
      · have hj' : j < ss.length := by omega
        rw [List.getElem?_eq_getElem hj'] at e
        have := h4 j hj
        rw [Option.some.inj e] at this
        simp at this
    · exact (ends_bad h).elim
  · exact (ends_bad h).elim
theorem mth_d (mt : Mth) : MtR X mt.id (rM X.K X.mg (mthD mt)) := by
  intro pins s σ H x xs v us Q I rx r h
  obtain ⟨m, st, d, ds, S, hd, nt, hds, h⟩ := h
  unfold mthD at h
  split at h
  · exact absurd rfl (nt _)
  · split at h
    · rename_i ys hl
      obtain ⟨a, vs, rfl, hm, ha, hx, hw⟩ := den_lst S hd hl
      split at h
      · obtain ⟨u, rfl, hu⟩ := dens1 hds
        split at h
        · rename_i hz
          obtain ⟨S1, g1⟩ := S.put hm hl (hx.append (Dens.one hu))
          obtain ⟨d', st', e, q⟩ := h
          cases e
          exact mt_append pins s σ H _ _ v us Q I rx r ⟨a, vs, u, rfl, rfl, hw rfl, by rw [← hx.length]; exact hz, q m _ .non g1 S1 rfl⟩
        · exact (ends_bad h).elim
      · obtain ⟨u, rfl, hu⟩ := dens1 hds
        split at h
        · rename_i hf
          simp only [Bool.and_eq_true] at hf
          split at h
          · rename_i k hk
            obtain ⟨_, ⟨z, i2, i3⟩, i4⟩ := findD_at hu hf.1 hx hf.2 hk
            have i5 := (inD_flat (st := st) hu hf.1 hx hf.2).2
            exact mt_index pins s σ H _ _ v us Q I rx r ⟨a, vs, u, k, z, rfl, rfl, ha, flat_den hu hf.1, i5, i2, i3, i4, ends_int S h⟩
          · exact (ends_bad h).elim
        · exact (ends_bad h).elim
      · cases dens0 hds
        split at h
        · rename_i y hy
          obtain ⟨u, hu, hdu⟩ := hx.get hy
          obtain ⟨S1, g1⟩ := S.put hm hl hx.dropLast
          obtain ⟨d', st', e, q⟩ := h
          cases e
          exact mt_pop pins s σ H _ _ v us Q I rx r ⟨a, vs, u, rfl, rfl, hw rfl, by rw [← hx.length]; exact hu, q m _ u g1 S1 (Den.grow S g1 hdu)⟩
        · exact (ends_bad h).elim
      · exact (ends_bad h).elim
    · exact (ends_bad h).elim
  · exact (ends_bad h).elim
end
end Ab

set_option Elab.async false
set_option linter.all false
set_option autoImplicit false
set_option maxRecDepth 10000
/-! AbChk: whether a term of the small language is a text's own term. -/
namespace Ab
open PySem PySem.Spec PyProof.Rows L2

def dunder (x : Str) : Bool := x == ("__debug__" : Str) || x == ("__classdict__" : Str)
def visB (sc : Scope) (x : Str) : Bool := match sc.names.lookup x with
  | some .local => true
  | some .cell => true
  | some .free => true
  | _ => false
def glbB (sc : Scope) (x : Str) : Bool := match sc.names.lookup x with
  | some .globalImplicit => !(x == ("__debug__" : Str)) && decide (x ≠ "__name__")
  | _ => false
/-- a name that is stored here: raw is the block's own scope -/
def stoB (sc raw : Scope) (x : Str) : Bool := match sc.names.lookup x with
  | some .local => true
  | some .cell => (match raw.names.lookup x with
    | some .cell => true
    | _ => false)
  | _ => false
def isCall0 : Expr → Bool
  | .Call (.Name _ _) [] [] _ => true
  | _ => false
def isSlice : Expr → Bool
  | .Slice .. => true
  | _ => false
def isStar : Expr → Bool
  | .Starred .. => true
  | _ => false
def isSet : Expr → Bool
  | .Set .. => true
  | _ => false
def isComp : Expr → Bool
  | .ListComp .. => true
  | .SetComp .. => true
  | .DictComp .. => true
  | _ => false
/-- an expression whose truth is its value's -/
def plainT : Expr → Bool
  | .UnaryOp .Not _ _ => false
  | .BoolOp .. => false
  | .IfExp .. => false
  | .Compare .. => false
  | _ => true
def Blt.nm : Blt → Str
  | .len => "len" | .all => "all" | .any => "any" | .sum => "sum" | .tuple => "tuple" | .list => "list" | .int => "int" | .abs => "abs" | .divmod => "divmod" | .min => "min" | .max => "max"
def Ty.nm : Ty → Str
  | .int => "int" | .bool => "bool" | .str => "str" | .tuple => "tuple" | .list => "list" | .dict => "dict"
def ownP (N : List Str) (own : List Nat) : List (Str × Nat) := own.map fun i => (N.getD i "", i)
mutual
def tgIn (own : List Nat) : Tg → Bool
  | .nm i => own.contains i
  | .tp ts => tgsIn own ts
  | .sb _ _ => false
def tgsIn (own : List Nat) : Tgs → Bool
  | .nil => true
  | .cons t ts => tgIn own t && tgsIn own ts
end
def isTup : Expr → Bool
  | .Tuple .. => true
  | _ => false

/-- the defs' names; the calls with keywords: the name, how many values ahead, the keywords -/
structure Tx where
  fs : List Str
  kw : List (Str × Nat × List Str)
  imp : List (Str × String) := []
section
variable (N : List Str) (KW : Tx)
def keyE : Sum Int Str → Option Expr → Bool
  | .inl i, some (.Constant (.int j) _ _) => decide (i = j)
  | .inr x, some (.Constant (.str y) _ _) => decide (x = y) && sOk x
  | _, _ => false
def keysE : List (Sum Int Str) → List (Option Expr) → Bool
  | [], [] => true
  | k :: ks, e :: es => keyE k e && keysE ks es
  | _, _ => false
mutual
def chkE (sc raw : Scope) : CE → Expr → Bool
  | .var i, e => match e with
    | .Name x _ => decide (N[i]? = some x) && visB sc x && !dunder x
    | _ => false
  | .lit l, e => match l, e with
    | .non, .Constant .none _ _ => true
    | .bl b, .Constant (.bool c) _ _ => b == c
    | .int i, .Constant (.int j) _ _ => decide (i = j)
    | .str x, .Constant (.str y) _ _ => decide (x = y) && sOk x
    | _, _ => false
  | .glob x, e => match e with
    | .Name y _ => decide (x = y) && glbB sc x
    | _ => false
  | .bin op a b, e => match e with
    | .BinOp x o y _ => decide (op = o) && powOk op && chkE sc raw a x && chkE sc raw b y
    | _ => false
  | .neg a, e => match e with
    | .UnaryOp .USub x _ => chkE sc raw a x
    | _ => false
  | .cmp op a b, e => match e with
    | .Compare x [o] [y] _ => decide (op = o) && !isSet y && chkE sc raw a x && chkE sc raw b y
    | _ => false
  | .chain o1 o2 a b c, e => match e with
    | .Compare x [p1, p2] [y, z] _ => decide (o1 = p1) && decide (o2 = p2) && !isSet y && !isSet z && chkE sc raw a x && chkE sc raw b y && chkE sc raw c z
    | _ => false
  | .and_ a b, e => match e with
    | .BoolOp .And [x, y] _ => chkE sc raw a x && chkE sc raw b y
    | .BoolOp .And (x :: y :: z :: r) pos => chkE sc raw a x && chkE sc raw b (.BoolOp .And (y :: z :: r) pos)
    | _ => false
  | .or_ a b, e => match e with
    | .BoolOp .Or [x, y] _ => chkE sc raw a x && chkE sc raw b y
    | .BoolOp .Or (x :: y :: z :: r) pos => chkE sc raw a x && chkE sc raw b (.BoolOp .Or (y :: z :: r) pos)
    | _ => false
  | .not_ a, e => match e with
    | .UnaryOp .Not x _ => chkE sc raw a x
    | _ => false
  | .ife c a b, e => match e with
    | .IfExp t x y _ => chkT sc raw c t && chkE sc raw a x && chkE sc raw b y
    | _ => false
  | .tup es, e => match e with
    | .Tuple xs _ _ => chkEs sc raw es xs
    | _ => false
  | .lst es, e => match e with
    | .List xs _ => chkEs sc raw es xs
    | _ => false
  | .dnew, e => match e with
    | .Dict [] [] _ => true
    | _ => false
  | .dlt ks es, e => match e with
    | .Dict keys xs _ => keysE ks keys && decide (ks.length = xs.length) && decide (ks ≠ []) && decide (ks.length ≤ 15) && decide ks.Nodup && chkEs sc raw es xs
    | _ => false
  | .sub a i, e => match e with
    | .Subscript x y _ => !isSlice y && chkE sc raw a x && chkE sc raw i y
    | _ => false
  | .slc a lo hi, e => match e with
    | .Subscript x (.Slice l h none _) _ => chkE sc raw a x && chkP sc raw lo l && chkP sc raw hi h
    | _ => false
  | .call f es, e => match e with
    | .Call (.Name g _) xs [] _ => decide (f = g) && decide (f ∈ KW.fs) && glbB sc g && chkEs sc raw es xs
    | _ => false
  | .callk f es ks ws, e => match e with
    | .Call (.Name g _) xs kws _ => decide (f = g) && glbB sc g && chkEs sc raw es xs && decide (f ∈ KW.fs) && decide ((f, xs.length, ks) ∈ KW.kw) && decide (ks ≠ []) && decide (kws.map (·.arg) = ks.map some) && chkEs sc raw ws (kws.map (·.value))
    | _ => false
  | .blt b es, e => match e with
    | .Call (.Name g _) (x :: xs) [] _ => decide (g = b.nm) && glbB sc g && chkEs sc raw es (x :: xs)
    | _ => false
  | .isi a t, e => match e with
    | .Call (.Name g _) [x, .Name h _] [] _ => decide (g = ("isinstance" : Str)) && glbB sc g && decide (h = t.nm) && glbB sc h && !isStar x && chkE sc raw a x
    | _ => false
  | .op1 o a, e => (match o with
    | .rev => (match e with
      | .Subscript x (.Slice none none (some (.UnaryOp .USub (.Constant (.int 1) _ _) _)) _) _ => chkE sc raw a x
      | _ => false)
    | .trg => (match e with
      | .Call (.Name g _) [.Call (.Name h _) [x] [] _] [] _ => decide (g = ("tuple" : Str)) && glbB sc g && decide (h = ("range" : Str)) && glbB sc h && !isStar x && chkE sc raw a x
      | _ => false))
  | .op2 o a b, e => (match o with
    | .lcm => (match e with
      | .Call (.Name g _) [x, y] [] _ => decide ((g, "math.lcm") ∈ KW.imp) && glbB sc g && !isStar x && !isStar y && chkE sc raw a x && chkE sc raw b y
      | _ => false))
  | .meth m o es, e => match e with
    | .Call (.Attribute x nm apos) xs [] cpos => decide (nm = m.nm) && (apos.endLine == cpos.line) && decide (xs.length < 20) && !isCall0 x && chkE sc raw o x && chkEs sc raw es xs
    | _ => false
  | .lc elt tg it cond own, e => match e with
    | .ListComp x [⟨tgt, iter, ifs, k⟩] scope _ => (k == 0) && !isSet iter && blkC N sc scope (ownP N own) && tgIn own tg && chkI sc raw it iter (isTup tgt) && chkTg (relS scope sc) scope tg tgt && chkC (relS scope sc) scope cond ifs && chkE (relS scope sc) scope elt x
    | _ => false
/-- .. as a test -/
def chkT (sc raw : Scope) : CE → Expr → Bool
  | .not_ a, e => match e with
    | .UnaryOp .Not x _ => chkT sc raw a x
    | _ => false
  | .and_ a b, e => match e with
    | .BoolOp .And [x, y] _ => chkT sc raw a x && chkT sc raw b y
    | .BoolOp .And (x :: y :: z :: r) pos => chkT sc raw a x && chkT sc raw b (.BoolOp .And (y :: z :: r) pos)
    | _ => false
  | .or_ a b, e => match e with
    | .BoolOp .Or [x, y] _ => chkT sc raw a x && chkT sc raw b y
    | .BoolOp .Or (x :: y :: z :: r) pos => chkT sc raw a x && chkT sc raw b (.BoolOp .Or (y :: z :: r) pos)
    | _ => false
  | .cmp op a b, e => match e with
    | .Compare x [o] [y] _ => decide (op = o) && !isSet y && chkE sc raw a x && chkE sc raw b y
    | _ => false
  | .chain o1 o2 a b c, e => match e with
    | .Compare x [p1, p2] [y, z] _ => decide (o1 = p1) && decide (o2 = p2) && !isSet y && !isSet z && chkE sc raw a x && chkE sc raw b y && chkE sc raw c z
    | _ => false
  | .var i, e => match e with
    | .Name x _ => decide (N[i]? = some x) && visB sc x && !dunder x
    | _ => false
  | .lit l, e => match l, e with
    | .non, .Constant .none _ _ => true
    | .bl b, .Constant (.bool c) _ _ => b == c
    | .int i, .Constant (.int j) _ _ => decide (i = j)
    | .str x, .Constant (.str y) _ _ => decide (x = y) && sOk x
    | _, _ => false
  | .sub a i, e => match e with
    | .Subscript x y _ => !isSlice y && chkE sc raw a x && chkE sc raw i y
    | _ => false
  | .call f es, e => match e with
    | .Call (.Name g _) xs [] _ => decide (f = g) && decide (f ∈ KW.fs) && glbB sc g && chkEs sc raw es xs
    | _ => false
  | .callk f es ks ws, e => match e with
    | .Call (.Name g _) xs kws _ => decide (f = g) && glbB sc g && chkEs sc raw es xs && decide (f ∈ KW.fs) && decide ((f, xs.length, ks) ∈ KW.kw) && decide (ks ≠ []) && decide (kws.map (·.arg) = ks.map some) && chkEs sc raw ws (kws.map (·.value))
    | _ => false
  | .blt b es, e => match e with
    | .Call (.Name g _) (x :: xs) [] _ => decide (g = b.nm) && glbB sc g && chkEs sc raw es (x :: xs)
    | _ => false
  | .isi a t, e => match e with
    | .Call (.Name g _) [x, .Name h _] [] _ => decide (g = ("isinstance" : Str)) && glbB sc g && decide (h = t.nm) && glbB sc h && !isStar x && chkE sc raw a x
    | _ => false
  | _, _ => false
def chkP (sc raw : Scope) : Pt → Option Expr → Bool
  | .none, e => match e with
    | none => true
    | some _ => false
  | .some c, e => match e with
    | some x => chkE sc raw c x
    | none => false
/-- a clause's tests -/
def chkC (sc raw : Scope) : Pt → List Expr → Bool
  | .none, es => match es with
    | [] => true
    | _ => false
  | .some c, es => match es with
    | [x] => chkT sc raw c x
    | _ => false
def chkEs (sc raw : Scope) : CEs → List Expr → Bool
  | .nil, es => match es with
    | [] => true
    | _ => false
  | .cons c cs, es => match es with
    | x :: xs => !isStar x && chkE sc raw c x && chkEs sc raw cs xs
    | [] => false
def chkI (sc raw : Scope) : Itr → Expr → Bool → Bool
  | .seq c, e, _ => chkE sc raw c e
  | .rng1 a, e, _ => match e with
    | .Call (.Name g _) [x] [] _ => decide (g = ("range" : Str)) && glbB sc g && !isStar x && chkE sc raw a x
    | _ => false
  | .rng2 a b, e, _ => match e with
    | .Call (.Name g _) [x, y] [] _ => decide (g = ("range" : Str)) && glbB sc g && !isStar x && !isStar y && chkE sc raw a x && chkE sc raw b y
    | _ => false
  | .rngd a b, e, _ => match e with
    | .Call (.Name g _) [x, y, z] [] _ => decide (g = ("range" : Str)) && glbB sc g && !isStar x && !isStar y && !isStar z && chkE sc raw a x && chkE sc raw b y && (match z with
      | .UnaryOp .USub (.Constant (.int 1) _ _) _ => true
      | _ => false)
    | _ => false
  | .enum a, e, t => match e with
    | .Call (.Name g _) [x] [] _ => t && decide (g = ("enumerate" : Str)) && glbB sc g && !isStar x && chkE sc raw a x
    | _ => false
  | .zip a b, e, t => match e with
    | .Call (.Name g _) [x, y] [] _ => t && decide (g = ("zip" : Str)) && glbB sc g && !isStar x && !isStar y && chkE sc raw a x && chkE sc raw b y
    | _ => false
def chkTg (sc raw : Scope) : Tg → Expr → Bool
  | .nm i, e => match e with
    | .Name x _ => decide (N[i]? = some x) && stoB sc raw x
    | _ => false
  | .tp ts, e => match e with
    | .Tuple xs _ _ => chkTgs sc raw ts xs
    | _ => false
  | .sb a i, e => match e with
    | .Subscript x y _ => !isSlice y && chkE sc raw a x && chkE sc raw i y
    | _ => false
def chkTgs (sc raw : Scope) : Tgs → List Expr → Bool
  | .nil, es => match es with
    | [] => true
    | _ => false
  | .cons t ts, es => match es with
    | x :: xs => !isStar x && chkTg sc raw t x && chkTgs sc raw ts xs
    | [] => false
end
theorem chkT_var {sc raw : Scope} {i : Nat} {e : Expr} (h : chkT N KW sc raw (.var i) e = true) : (plainT e && chkE N KW sc raw (.var i) e) = true := by
  cases e <;> first | (simp [chkT] at h; done) | (simp only [plainT, Bool.true_and]; unfold chkT at h; unfold chkE; exact h)
theorem chkT_lit {sc raw : Scope} {l : Lit} {e : Expr} (h : chkT N KW sc raw (.lit l) e = true) : (plainT e && chkE N KW sc raw (.lit l) e) = true := by
  cases e <;> first | (cases l <;> simp [chkT] at h; done) | (simp only [plainT, Bool.true_and]; unfold chkT at h; unfold chkE; exact h)

/-- no stores that are exchanged -/
def swapNo (sc : Scope) (t v : Expr) : Bool := match t, v with
  | .Tuple ts _ _, .Tuple vs _ _ =>
    !(ts.length == 2 || ts.length == 3) || (vs.length != ts.length) || (!(vs.any isStar) && (ts.any fun t => match t with | .Name x p => !(decide (sc.names.lookup x = some .local) && (p.line == ((ts.head?.map (·.pos.line)).getD 0))) | _ => true))
  | .List .., _ => false
  | _, _ => true
/-- the comprehension goes straight to the name -/
def swapLc (sc : Scope) (y : Str) (py : Pos) (v : Expr) : Bool := match v with
  | .ListComp _ _ scope pos => decide (sc.names.lookup y = some .local) && (py.line == pos.line) && !(scope.names.any fun (n, k) => n == y && (k == .local || k == .cell))
  | _ => false
def nmLocal (sc : Scope) (i : Nat) (e : Expr) : Bool := match e with
  | .Name x _ => decide (N[i]? = some x) && decide (sc.names.lookup x = some .local)
  | _ => false
def firstLine (ts : List Expr) : Nat := (ts.head?.map (·.pos.line)).getD 0
def parOk (sc : Scope) (ts : List Expr) (vs : List Expr) : Bool :=
  !(vs.any isStar) && (ts.all fun t => t.pos.line == firstLine ts) && !(vs.all (foldedForSure 8)) && !(vs.all (constantsAlone 8))

mutual
def chkS (sc : Scope) : CS → Stmt → Bool
  | .asg t e, s => match s with
    | .Assign [tgt] v _ => chkTg N KW sc sc t tgt && chkE N KW sc sc e v && swapNo sc tgt v
    | _ => false
  | .par is es, s => match s with
    | .Assign [.Tuple [x, y] _ _] (.Tuple [a, b] _ _) _ => (match is with
      | [i, j] => nmLocal N sc i x && nmLocal N sc j y && decide (i ≠ j) && parOk sc [x, y] [a, b] && chkEs N KW sc sc es [a, b]
      | _ => false)
    | .Assign [.Tuple [x, y, z] _ _] (.Tuple [a, b, c] _ _) _ => (match is with
      | [i, j, k] => nmLocal N sc i x && nmLocal N sc j y && nmLocal N sc k z && decide (i ≠ j) && decide (i ≠ k) && decide (j ≠ k) && parOk sc [x, y, z] [a, b, c] && chkEs N KW sc sc es [a, b, c]
      | _ => false)
    | _ => false
  | .expr e, s => match s with
    | .Expr v _ => !isComp v && chkE N KW sc sc e v
    | _ => false
  | .ret e, s => match s with
    | .Return (some v) _ => chkE N KW sc sc e v
    | _ => false
  | .retN, s => match s with
    | .Return none _ => true
    | _ => false
  | .ife c a b, s => match s with
    | .If t x y _ => chkT N KW sc sc c t && chkSs sc a x && chkSs sc b y
    | _ => false
  | .for_ t it b, s => match s with
    | .For tgt iter body [] _ => !isSet iter && chkI N KW sc sc it iter (isTup tgt) && chkTg N KW sc sc t tgt && chkSs sc b body
    | _ => false
  | .while_ c b, s => match s with
    | .While t body [] _ => chkT N KW sc sc c t && chkSs sc b body
    | _ => false
  | .pass, s => match s with
    | .Pass _ => true
    | _ => false
  | .never, _ => true
def chkSs (sc : Scope) : CSs → List Stmt → Bool
  | .nil, ss => match ss with
    | [] => true
    | _ => false
  | .cons c cs, ss => match ss with
    | s :: r => chkS sc c s && chkSs sc cs r
    | [] => false
end
end
end Ab

set_option Elab.async false
set_option linter.all false
set_option autoImplicit false
set_option maxRecDepth 10000
/-! AbLift: readings made of the small language's reckoning, how they follow one another. -/
namespace Ab
open PySem PySem.Spec PyProof.Rows L2

/-- how an exception lies -/
def XR (K : PySem.W.Frag) (mg : Str → Option Value) (m : List Addr) (H : Hp) (x : XV) (cls : Value) (d : Option Addr) : Prop :=
  ∃ C, mg x.cls = some (.ref C) ∧ cls = .ref C ∧ match x.fs with
    | [] => True
    | [(f, e)] => ∃ a v, d = some a ∧ H a = some (.xd [(f, v)]) ∧ Den K mg m H e v
    | _ => False

/-- a result, its end wanted -/
def Res (K : PySem.W.Frag) (mg : Str → Option Value) (W : WX) (σ : L2.St) (m : List Addr) (H : Hp) (st : Sto) {α : Type} (r : R α) (Q : α → List Addr → Hp → Sto → Prop) : Prop :=
  match r with
  | .ok a st' => ∀ m' H', Grow m H st m' H' st' → StOk K mg m' H' st' → Q a m' H' st'
  | .ex x st' => ∀ m' H' cls d, Grow m H st m' H' st' → StOk K mg m' H' st' → XR K mg m' H' x cls d → W cls d σ H'
  | .bad => False
section
variable {K : PySem.W.Frag} {mg : Str → Option Value} {W : WX} {σ : L2.St} {m : List Addr} {H : Hp} {st : Sto} {α β : Type}
theorem Res.bind {r : R α} {f : α → Sto → R β} {Q : β → List Addr → Hp → Sto → Prop} (h : Res K mg W σ m H st (r.bind f) Q) : Res K mg W σ m H st r (fun a m1 H1 st1 => Res K mg W σ m1 H1 st1 (f a st1) Q) := by
  cases r with
  | ok a st1 =>
    intro m1 H1 g1 S1
    have h : Res K mg W σ m H st (f a st1) Q := h
    cases q : f a st1 with
    | ok b st2 =>
      rw [q] at h
      exact fun m2 H2 g2 S2 => h m2 H2 (g1.trans g2) S2
    | ex x st2 =>
      rw [q] at h
      exact fun m2 H2 c d g2 S2 => h m2 H2 c d (g1.trans g2) S2
    | bad =>
      rw [q] at h
      exact h
  | ex x st1 => exact h
  | bad => exact h
theorem Res.imp {r : R α} {Q Q' : α → List Addr → Hp → Sto → Prop} (h : Res K mg W σ m H st r Q) (i : ∀ a m' H' st', Grow m H st m' H' st' → StOk K mg m' H' st' → Q a m' H' st' → Q' a m' H' st') : Res K mg W σ m H st r Q' := by
  cases r with
  | ok a st1 => exact fun m1 H1 g1 S1 => i a m1 H1 st1 g1 S1 (h m1 H1 g1 S1)
  | ex x st1 => exact h
  | bad => exact h
theorem Res.pure {a : α} {Q : α → List Addr → Hp → Sto → Prop} (S : StOk K mg m H st) (h : Res K mg W σ m H st (.ok a st) Q) : Q a m H st := h m H Grow.refl S

/-- no exception -/
def R.plain (r : R α) : Prop := match r with
  | .ex _ _ => False
  | _ => True
theorem Res.ends {r : R D} {Q : VK} (h : Res K mg W σ m H st r (fun d m' H' _ => ∀ v, Den K mg m' H' d v → Q v H')) (hp : r.plain) : Ends1 K mg m H st r Q := by
  cases r with
  | ok d st1 => exact ⟨d, st1, rfl, fun m' H' v g S hd => h m' H' g S v hd⟩
  | ex x st1 => exact hp.elim
  | bad => exact h.elim
theorem plain_ofOpt {o : Option α} {st : Sto} : (ofOpt o st).plain := by
  cases o <;> trivial
theorem plain_ite {c : Prop} [Decidable c] {a b : R α} (ha : a.plain) (hb : b.plain) : (if c then a else b).plain := by
  by_cases h : c
  · rw [if_pos h]; exact ha
  · rw [if_neg h]; exact hb
theorem plain_alloc {o : AO} {st : Sto} : (Ab.alloc o st).plain := trivial
theorem plain_bin {op : Operator} {d e : D} {st : Sto} : (binD op d e st).plain := by
  unfold binD
  split
  any_goals trivial
  any_goals exact plain_ite trivial trivial
  all_goals
    split
    · exact plain_ite trivial trivial
    · trivial
theorem plain_sub {d e : D} {st : Sto} : (subD d e st).plain := by
  unfold subD
  split
  · split
    · exact plain_ofOpt
    · split
      · exact plain_ofOpt
      · exact plain_ofOpt
    · exact plain_ite plain_ofOpt trivial
    · trivial
  · split
    · exact plain_ofOpt
    · trivial
  · trivial
theorem plain_slc {d : D} {lo hi : Option Int} {st : Sto} : (slcD d lo hi st).plain := by
  unfold slcD
  split
  · trivial
  · split <;> trivial
  · exact plain_ite trivial trivial
  · trivial
theorem plain_blt {b : Blt} {ds : List D} {st : Sto} : (bltD b ds st).plain := by
  unfold bltD
  split
  any_goals trivial
  any_goals exact plain_ofOpt
  any_goals exact plain_ite trivial trivial
  split <;> trivial
theorem plain_op1 {o : Op1} {d : D} {st : Sto} : (op1D o d st).plain := by
  unfold op1D
  repeat' (first | trivial | (exact plain_ite trivial trivial) | split)
theorem plain_op2 {o : Op2} {d e : D} {st : Sto} : (op2D o d e st).plain := by
  unfold op2D
  repeat' (first | trivial | (exact plain_ite trivial trivial) | split)
theorem plain_mth {mt : Mth} {d : D} {ds : List D} {st : Sto} : (mthD mt d ds st).plain := by
  unfold mthD
  split
  · split
    · split <;> trivial
    · trivial
  · split
    · split
      · exact plain_ite trivial trivial
      · refine plain_ite ?_ trivial
        split <;> trivial
      · split <;> trivial
      · trivial
    · trivial
  · trivial
end

section
variable (X : Cx) (W : WX)
/-- a reading by what is reckoned -/
def Lf {α β : Type} (f : En → Sto → R α) (rel : α → List Addr → Hp → β → Prop) : L2.St → Hp → (β → Hp → Prop) → Prop := fun σ H Q =>
  ∃ m env st, StOk X.K X.mg m H st ∧ EnOk X.K X.mg m H σ env ∧ Res X.K X.mg W σ m H st (f env st) (fun a m' H' _ => ∀ b, rel a m' H' b → Q b H')
abbrev LfE (f : En → Sto → R D) : TE := Lf X W f (fun d m H v => Den X.K X.mg m H d v)
abbrev LfT (f : En → Sto → R Bool) : TT := Lf X W f (fun k _ _ b => b = k)
abbrev LfA (f : En → Sto → R (List D)) : TA := Lf X W f (fun ds m H vs => Dens X.K X.mg m H ds vs)
abbrev LfP (f : En → Sto → R (Option Int)) : TO := Lf X W f (fun k _ _ b => b = k)
variable {X W}
theorem Lf.of {α β γ : Type} {f : En → Sto → R α} {rel : α → List Addr → Hp → β → Prop} {m : List Addr} {H : Hp} {st : Sto} {σ : L2.St} {env : En} {k : α → Sto → R γ} {Q : γ → List Addr → Hp → Sto → Prop} {B : β → Hp → Prop}
    (S : StOk X.K X.mg m H st) (E : EnOk X.K X.mg m H σ env) (h : Res X.K X.mg W σ m H st ((f env st).bind k) Q)
    (nx : ∀ a m1 H1 st1 b, Grow m H st m1 H1 st1 → StOk X.K X.mg m1 H1 st1 → EnOk X.K X.mg m1 H1 σ env → rel a m1 H1 b → Res X.K X.mg W σ m1 H1 st1 (k a st1) Q → B b H1) : Lf X W f rel σ H B :=
  ⟨m, env, st, S, E, h.bind.imp fun a m1 H1 st1 g1 S1 q b hb => nx a m1 H1 st1 b g1 S1 (E.grow S g1) hb q⟩
theorem Lf.to {α β : Type} {f : En → Sto → R α} {rel : α → List Addr → Hp → β → Prop} {m : List Addr} {H : Hp} {st : Sto} {σ : L2.St} {env : En} {Q : α → List Addr → Hp → Sto → Prop} {B : β → Hp → Prop}
    (S : StOk X.K X.mg m H st) (E : EnOk X.K X.mg m H σ env) (h : Res X.K X.mg W σ m H st (f env st) Q)
    (nx : ∀ a m1 H1 st1 b, Grow m H st m1 H1 st1 → StOk X.K X.mg m1 H1 st1 → rel a m1 H1 b → Q a m1 H1 st1 → B b H1) : Lf X W f rel σ H B :=
  ⟨m, env, st, S, E, h.imp fun a m1 H1 st1 g1 S1 q b hb => nx a m1 H1 st1 b g1 S1 hb q⟩
end

theorem PE.weak {X : Cx} {e : Expr} {t u : TE} (h : PE X e t) (w : ∀ σ H Q, u σ H Q → t σ H Q) : PE X e u := ⟨fun pins s σ H Q I q => h.run pins s σ H Q I (w σ H Q q)⟩
theorem PT.weak {X : Cx} {e : Expr} {t u : TT} (h : PT X e t) (w : ∀ σ H Q, u σ H Q → t σ H Q) : PT X e u := ⟨fun pins s σ H Q I q => h.run pins s σ H Q I (w σ H Q q)⟩
theorem PW.weak {X : Cx} {e : Expr} {t u : TT} (h : PW X e t) (w : ∀ σ H Q, u σ H Q → t σ H Q) : PW X e u := ⟨fun wh pins s σ H Q I q => h.run wh pins s σ H Q I (w σ H Q q)⟩
theorem PA.weak {X : Cx} {e : List Expr} {t u : TA} (h : PA X e t) (w : ∀ σ H Q, u σ H Q → t σ H Q) : PA X e u := ⟨fun pos pins s σ H Q I q => h.run pos pins s σ H Q I (w σ H Q q)⟩
theorem PK.weak {X : Cx} {e : List Keyword} {t u : TA} (h : PK X e t) (w : ∀ σ H Q, u σ H Q → t σ H Q) : PK X e u := ⟨fun pos pins s σ H Q I q => h.run pos pins s σ H Q I (w σ H Q q)⟩
theorem PO.weak {X : Cx} {e : Option Expr} {t u : TO} (h : PO X e t) (w : ∀ σ H Q, u σ H Q → t σ H Q) : PO X e u := ⟨fun pins s σ H Q I q => h.run pins s σ H Q I (w σ H Q q)⟩
theorem PTs.weak {X : Cx} {e : List Expr} {t u : TT} (h : PTs X e t) (w : ∀ σ H Q, u σ H Q → t σ H Q) : PTs X e u := ⟨fun pins s σ H Q I q => h.run pins s σ H Q I (w σ H Q q)⟩
theorem PS.weak {X : Cx} {e : Stmt} {t u : TS} (h : PS X e t) (w : ∀ D σ H, u D σ H → t D σ H) : PS X e u := ⟨fun pins s σ H D I q => h.run pins s σ H D I (w D σ H q)⟩
theorem PSs.weak {X : Cx} {e : List Stmt} {t u : TS} (h : PSs X e t) (w : ∀ D σ H, u D σ H → t D σ H) : PSs X e u := ⟨fun pins s σ H D I q => h.run pins s σ H D I (w D σ H q)⟩
theorem PG.weak {X : Cx} {e : Expr} {t u : TG} (h : PG X e t) (w : ∀ v σ H Q, u v σ H Q → t v σ H Q) : PG X e u := ⟨fun pins s σ H v uu Q I r q => h.run pins s σ H v uu Q I r (w v σ H Q q)⟩
theorem PGs.weak {X : Cx} {e : List Expr} {t u : TGs} (h : PGs X e t) (w : ∀ v σ H Q, u v σ H Q → t v σ H Q) : PGs X e u := ⟨fun pins s σ H v uu Q I r q => h.run pins s σ H v uu Q I r (w v σ H Q q)⟩

/-! ### stars, sets -/
theorem star_cons {e : Expr} {es : List Expr} {env : Env} (h : isStar e = false) : starEach (e :: es) env = (false, eval e env) :: starEach es env := by
  cases e <;> first | rfl | cases h
theorem behind_no {op : CmpOp} {b : Expr} (h : isSet b = false) : behindInMarks op b = false := by
  cases b <;> first | rfl | cases h
theorem folded_no {e : Expr} {env : Env} (h : isSet e = false) : ∀ x, foldedSetIterable e env x = pure x := by
  intro x
  cases e <;> first | rfl | cases h
theorem plain_ix {b : Expr} (h : isSlice b = false) : PlainIx b := by
  intro o i
  cases b <;> first | rfl | cases h
theorem plain_true {e : Expr} (h : plainT e = true) {env : Env} : ∀ whole, isTrue e env whole = (do let v ← whole; standAt e.pos; holding [v] (truthy v)) := by
  intro whole
  cases e with
  | UnaryOp op x p => cases op <;> first | rfl | cases h
  | _ => first | rfl | cases h
end Ab

set_option Elab.async false
set_option linter.all false
set_option maxRecDepth 100000
set_option maxHeartbeats 1000000
/-! zip of two runs, each a tuple or a list: the library's zip laws turned to both kinds at once -/
namespace Ab
open PySem PySem.Spec PyProof.Rows L2
open PySem.Sem (wp)
def itN (b : Bool) : String := if b then "tuple_iterator" else "list_iterator"
def ItB (b : Bool) (h : Heap) (a l : Addr) (i : Nat) : Prop := ∃ o, h.get? a = some o ∧ o.cls = .type (itN b) ∧ o.data = .fields #[.ref l, .int (i : Nat) 0]
def VcB (b : Bool) (h : Heap) (l : Addr) (xs : Array Value) : Prop := match b with
  | true => h.IsTuple l xs
  | false => h.IsList l xs
theorem ItB.extBut {p : Bool} {h h' : Heap} {a b l i} (x : ItB p h a l i) (hs : Heap.ExtBut b h h') (hab : a ≠ b) : ItB p h' a l i := by
  cases p with
  | true => exact Heap.IsTupleIter.extBut x hs hab
  | false => exact Heap.IsListIter.extBut x hs hab
theorem ItB.at {p : Bool} {h h' : Heap} {a l i} (x : ItB p h a l i) (e : ∀ o, h.get? a = some o → h'.get? a = some o) : ItB p h' a l i := by
  cases p with
  | true => exact Heap.IsTupleIter.at x e
  | false => exact Heap.IsListIter.at x e
theorem VcB.extBut {p : Bool} {h h' : Heap} {l b} {xs : Array Value} (x : VcB p h l xs) (hs : Heap.ExtBut b h h') (hab : l ≠ b) : VcB p h' l xs := by
  cases p with
  | true => exact Heap.IsTuple.extBut x hs hab
  | false => exact Heap.IsList.extBut x hs hab
section
variable {prog : Program} {w : World} {A : Around} {E : Value → Shared → Prop} {s : Shared}
theorem nextB_item {bp : Bool} {it l : Addr} {i : Nat} {items : Array Value} {x : Value} {Q : Value → Shared → Prop} (hit : ItB bp s.heap it l i)
    (hl : VcB bp s.heap l items) (hx : items[i]? = some x)
    (hQ : ∀ h', ItB bp h' it l (i + 1) → Heap.SameBut it s.heap h' → Q x { s with heap := h' }) :
    wpAny (model prog w) A (Builtin.SmallTypes.nextOf (.ref it)) Q E s := by
  cases bp with
  | true => exact RZ.nextOf_tuple_item hit hl hx hQ
  | false => exact wpAny_nextOf_list_item hit hl hx hQ
theorem nextB_end {bp : Bool} {it l : Addr} {i : Nat} {items : Array Value} {Q : Value → Shared → Prop} (hh : A.handled = none)
    (hit : ItB bp s.heap it l i) (hl : VcB bp s.heap l items) (hx : items[i]? = none)
    (hE : ∀ h' e, Heap.ExtBut it s.heap h' → (∃ o, h'.get? e = some o ∧ o.cls = .type "StopIteration") → E (.ref e) { s with heap := h' }) :
    wpAny (model prog w) A (Builtin.SmallTypes.nextOf (.ref it)) Q E s := by
  cases bp with
  | true => exact RZ.nextOf_tuple_end hh hit hl hx hE
  | false => exact wpAny_nextOf_list_end hh hit hl hx hE
theorem zipB_next_item {bp bq : Bool} {z TI TO i1 i2 l1 l2 : Addr} {k1 k2 : Nat} {xs ys : Array Value} {x y a b : Value} {Q : Value → Shared → Prop} (D : ZipApart z TI TO i1 i2 l1 l2)
    (hz : IsZip s.heap z TI TO .none) (hTI : IsPair s.heap TI (.ref i1) (.ref i2)) (hTO : IsPair s.heap TO a b)
    (h1 : ItB bp s.heap i1 l1 k1) (h2 : ItB bq s.heap i2 l2 k2) (hl1 : VcB bp s.heap l1 xs) (hl2 : VcB bq s.heap l2 ys) (hx : xs[k1]? = some x) (hy : ys[k2]? = some y)
    (hQ : ∀ h', IsZip h' z TI TO (rawInt s.heap.objs.size) → IsPair h' TO x y → ItB bp h' i1 l1 (k1 + 1) → ItB bq h' i2 l2 (k2 + 1) → IsPair h' s.heap.objs.size x y → h'.objs.size = s.heap.objs.size + 1 →
      (∀ c o, c ≠ z → c ≠ TO → c ≠ i1 → c ≠ i2 → s.heap.get? c = some o → h'.get? c = some o) → Q (.ref s.heap.objs.size) { s with heap := h' }) :
    wpAny (model prog w) A (Builtin.«zip.__next__» ⟨[.ref z], []⟩) (fun fin s' => ∃ v, fin = .done (.ret v) ∧ Q v s') E s := by
  show wpAny _ _ (field (.ref z) 2 >>= _) _ _ _
  refine wpAny_bind (wpAny_field hz rfl (x := .bool false) rfl ?_)
  show wpAny _ _ (field (.ref z) 3 >>= _) _ _ _
  refine wpAny_bind (wpAny_field hz rfl (x := .ref TI) rfl ?_)
  refine wpAny_bind (wpAny_seqItems hTI rfl ?_)
  show wpAny _ _ (Builtin.SmallTypes.ownedTupleIsFree (.ref z) >>= _) _ _ _
  refine wpAny_bind ?_
  unfold Builtin.SmallTypes.ownedTupleIsFree
  refine wpAny_bind (wpAny_field hz rfl (x := .none) rfl (wpAny_pure ?_))
  simp only [if_true]
  refine wpAny_bind (wpAny_rule ?_)
  refine wpAny_bind (wpAny_field hz rfl (x := .ref TO) rfl ?_)
  refine wpAny_bind (wpAny_setField_rec hz (by simp) fun h₁ hz₁ hs₁ => ?_)
  replace hz₁ : IsZip h₁ z TI TO .ellipsis := hz₁
  refine wpAny_bind ?_
  simp only [List.zipIdx_cons, List.zipIdx_nil, List.forIn_cons, List.forIn_nil]

  refine wpAny_bind (wpAny_bind (wpAny_onRaise ?_))
  show wpAny _ _ (Builtin.SmallTypes.nextOf (.ref i1) >>= _) _ _ _
  refine wpAny_bind (nextB_item (h1.extBut hs₁.extBut D.i1z) (hl1.extBut hs₁.extBut D.l1z) hx fun h₂ h1₂ hs₂ => wpAny_pure ?_)
  have hTO₂ : IsPair h₂ TO a b := hs₂.extBut _ _ D.TOi1 (hs₁.extBut _ _ D.TOz hTO)
  refine wpAny_bind (wpAny_seqItems hTO₂ rfl ?_)
  refine wpAny_bind (wpAny_updateSeq_pair hTO₂ fun h₃ hTO₃ hs₃ => ?_)
  replace hTO₃ : IsPair h₃ TO x b := hTO₃
  refine wpAny_bind (wpAny_letGo (wpAny_pure ?_))

  refine wpAny_bind (wpAny_bind (wpAny_onRaise ?_))
  show wpAny _ _ (Builtin.SmallTypes.nextOf (.ref i2) >>= _) _ _ _
  refine wpAny_bind (nextB_item (((h2.extBut hs₁.extBut D.i2z).extBut hs₂.extBut D.i12.symm).extBut hs₃.extBut D.TOi2.symm)
    (((hl2.extBut hs₁.extBut D.l2z).extBut hs₂.extBut D.l2i1).extBut hs₃.extBut D.l2TO) hy fun h₄ h2₄ hs₄ => wpAny_pure ?_)
  have hTO₄ : IsPair h₄ TO x b := hs₄.extBut _ _ D.TOi2 hTO₃
  refine wpAny_bind (wpAny_seqItems hTO₄ rfl ?_)
  refine wpAny_bind (wpAny_updateSeq_pair hTO₄ fun h₅ hTO₅ hs₅ => ?_)
  replace hTO₅ : IsPair h₅ TO x y := hTO₅
  refine wpAny_bind (wpAny_letGo (wpAny_pure (wpAny_pure ?_)))

  refine wpAny_bind (wpAny_seqItems hTO₅ rfl ?_)
  refine wpAny_bind (wpAny_newTuple ?_)
  have hsz : h₅.objs.size = s.heap.objs.size := by rw [hs₅.1, hs₄.1, hs₃.1, hs₂.1, hs₁.1]
  have hz₅ : IsZip h₅ z TI TO .ellipsis := hs₅.extBut _ _ D.TOz.symm (hs₄.extBut _ _ D.i2z.symm (hs₃.extBut _ _ D.TOz.symm (hs₂.extBut _ _ D.i1z.symm hz₁)))
  have hk₅ : ∀ c o, c ≠ z → c ≠ TO → c ≠ i1 → c ≠ i2 → s.heap.get? c = some o → h₅.get? c = some o := fun c o c1 c2 c3 c4 e =>
    hs₅.extBut _ _ c2 (hs₄.extBut _ _ c4 (hs₃.extBut _ _ c2 (hs₂.extBut _ _ c3 (hs₁.extBut _ _ c1 e))))
  have h1₅ : ItB bp h₅ i1 l1 (k1 + 1) := ((h1₂.extBut hs₃.extBut D.TOi1.symm).extBut hs₄.extBut D.i12).extBut hs₅.extBut D.TOi1.symm
  have h2₅ : ItB bq h₅ i2 l2 (k2 + 1) := h2₄.extBut hs₅.extBut D.TOi2.symm
  have hzlt : z < h₅.objs.size := Heap.lt_size hz₅
  have hTOlt : TO < h₅.objs.size := Heap.lt_size hTO₅
  have hi1lt : i1 < h₅.objs.size := by obtain ⟨_, e, _⟩ := h1₅; exact Heap.lt_size e
  have hi2lt : i2 < h₅.objs.size := by obtain ⟨_, e, _⟩ := h2₅; exact Heap.lt_size e
  show wpAny _ _ (Builtin.SmallTypes.ownedTupleHandOut (.ref z) (.ref h₅.objs.size) >>= _) _ _ _
  refine wpAny_bind ?_
  unfold Builtin.SmallTypes.ownedTupleHandOut
  have hz₆ : IsZip (h₅.push { cls := .type "tuple", data := .seq #[x, y] }) z TI TO .ellipsis := Heap.get?_push_of_some _ hz₅
  refine wpAny_bind (wpAny_setField_rec hz₆ (by simp) fun h₇ hz₇ hs₇ => ?_)
  replace hz₇ : IsZip h₇ z TI TO (rawInt h₅.objs.size) := hz₇
  refine wpAny_setField_rec hz₇ (by simp) fun h₈ hz₈ hs₈ => ?_
  replace hz₈ : IsZip h₈ z TI TO (rawInt h₅.objs.size) := hz₈
  have up : ∀ c o, c ≠ z → h₅.get? c = some o → h₈.get? c = some o := fun c o c1 e => hs₈.extBut _ _ c1 (hs₇.extBut _ _ c1 (Heap.get?_push_of_some _ e))
  have hT₈ : IsPair h₈ h₅.objs.size x y := hs₈.extBut _ _ (Nat.ne_of_gt hzlt) (hs₇.extBut _ _ (Nat.ne_of_gt hzlt) (Heap.get?_push_size _ rfl))
  have hz8 : h₈.objs.size = h₅.objs.size + 1 := by rw [hs₈.1, hs₇.1, Heap.size_push]
  rw [hsz] at hz₈ hT₈ hz8
  refine wpAny_pure ⟨_, rfl, ?_⟩
  show Q (.ref h₅.objs.size) _
  rw [hsz]
  exact hQ h₈ hz₈ (up _ _ D.TOz hTO₅) (h1₅.at fun o e => up _ o D.i1z e) (h2₅.at fun o e => up _ o D.i2z e) hT₈ hz8 fun c o c1 c2 c3 c4 e => up c o c1 (hk₅ c o c1 c2 c3 c4 e)

theorem zipB_next_end {bp bq : Bool} {z TI TO i1 i2 l1 l2 : Addr} {k1 k2 : Nat} {xs ys : Array Value} {a b : Value} {Q : Fin → Shared → Prop} (hh : A.handled = none) (D : ZipApart z TI TO i1 i2 l1 l2)
    (hz : IsZip s.heap z TI TO .none) (hTI : IsPair s.heap TI (.ref i1) (.ref i2)) (hTO : IsPair s.heap TO a b)
    (h1 : ItB bp s.heap i1 l1 k1) (h2 : ItB bq s.heap i2 l2 k2) (hl1 : VcB bp s.heap l1 xs) (hl2 : VcB bq s.heap l2 ys) (hend : xs[k1]? = none ∨ ys[k2]? = none)
    (hE : ∀ h' e, (∀ c o, c ≠ z → c ≠ TO → c ≠ i1 → c ≠ i2 → s.heap.get? c = some o → h'.get? c = some o) → (∃ o, h'.get? e = some o ∧ o.cls = .type "StopIteration") → E (.ref e) { s with heap := h' }) :
    wpAny (model prog w) A (Builtin.«zip.__next__» ⟨[.ref z], []⟩) Q E s := by
  show wpAny _ _ (field (.ref z) 2 >>= _) _ _ _
  refine wpAny_bind (wpAny_field hz rfl (x := .bool false) rfl ?_)
  show wpAny _ _ (field (.ref z) 3 >>= _) _ _ _
  refine wpAny_bind (wpAny_field hz rfl (x := .ref TI) rfl ?_)
  refine wpAny_bind (wpAny_seqItems hTI rfl ?_)
  show wpAny _ _ (Builtin.SmallTypes.ownedTupleIsFree (.ref z) >>= _) _ _ _
  refine wpAny_bind ?_
  unfold Builtin.SmallTypes.ownedTupleIsFree
  refine wpAny_bind (wpAny_field hz rfl (x := .none) rfl (wpAny_pure ?_))
  simp only [if_true]
  refine wpAny_bind (wpAny_rule ?_)
  refine wpAny_bind (wpAny_field hz rfl (x := .ref TO) rfl ?_)
  refine wpAny_bind (wpAny_setField_rec hz (by simp) fun h₁ hz₁ hs₁ => ?_)
  replace hz₁ : IsZip h₁ z TI TO .ellipsis := hz₁
  refine wpAny_bind ?_
  simp only [List.zipIdx_cons, List.zipIdx_nil, List.forIn_cons, List.forIn_nil]
  refine wpAny_bind (wpAny_bind (wpAny_onRaise ?_))
  show wpAny _ _ (Builtin.SmallTypes.nextOf (.ref i1) >>= _) _ _ _
  cases hx : xs[k1]? with
  | none =>
    refine wpAny_bind (nextB_end hh (h1.extBut hs₁.extBut D.i1z) (hl1.extBut hs₁.extBut D.l1z) hx fun h₂ e hs₂ he => ?_)
    obtain ⟨oe, hoe, hce⟩ := he
    have hz₂ : IsZip h₂ z TI TO .ellipsis := hs₂ _ _ D.i1z.symm hz₁
    have hez : e ≠ z := fun x => by subst x; rw [hz₂] at hoe; cases hoe; simp at hce
    refine wpAny_setField_rec hz₂ (by simp) fun h₃ _ hs₃ => hE h₃ e (fun c o c1 _ c3 _ x => hs₃.extBut _ _ c1 (hs₂ _ _ c3 (hs₁.extBut _ _ c1 x))) ⟨oe, hs₃.extBut _ _ hez hoe, hce⟩
  | some x =>
    have hy : ys[k2]? = none := by rcases hend with h | h; rw [hx] at h; cases h; exact h
    refine wpAny_bind (nextB_item (h1.extBut hs₁.extBut D.i1z) (hl1.extBut hs₁.extBut D.l1z) hx fun h₂ h1₂ hs₂ => wpAny_pure ?_)
    have hTO₂ : IsPair h₂ TO a b := hs₂.extBut _ _ D.TOi1 (hs₁.extBut _ _ D.TOz hTO)
    refine wpAny_bind (wpAny_seqItems hTO₂ rfl ?_)
    refine wpAny_bind (wpAny_updateSeq_pair hTO₂ fun h₃ hTO₃ hs₃ => ?_)
    refine wpAny_bind (wpAny_letGo (wpAny_pure ?_))
    refine wpAny_bind (wpAny_bind (wpAny_onRaise ?_))
    show wpAny _ _ (Builtin.SmallTypes.nextOf (.ref i2) >>= _) _ _ _
    refine wpAny_bind (nextB_end hh (((h2.extBut hs₁.extBut D.i2z).extBut hs₂.extBut D.i12.symm).extBut hs₃.extBut D.TOi2.symm)
      (((hl2.extBut hs₁.extBut D.l2z).extBut hs₂.extBut D.l2i1).extBut hs₃.extBut D.l2TO) hy fun h₄ e hs₄ he => ?_)
    obtain ⟨oe, hoe, hce⟩ := he
    have hz₄ : IsZip h₄ z TI TO .ellipsis := hs₄ _ _ D.i2z.symm (hs₃.extBut _ _ D.TOz.symm (hs₂.extBut _ _ D.i1z.symm hz₁))
    have hez : e ≠ z := fun x => by subst x; rw [hz₄] at hoe; cases hoe; simp at hce
    refine wpAny_setField_rec hz₄ (by simp) fun h₅ _ hs₅ => hE h₅ e (fun c o c1 c2 c3 c4 x => hs₅.extBut _ _ c1 (hs₄ _ _ c4 (hs₃.extBut _ _ c2 (hs₂.extBut _ _ c3 (hs₁.extBut _ _ c1 x))))) ⟨oe, hs₅.extBut _ _ hez hoe, hce⟩

theorem pyNext_zipB_item {bp bq : Bool} {z TI TO i1 i2 l1 l2 : Addr} {k1 k2 : Nat} {xs ys : Array Value} {x y a b : Value} {Q : Option Value → Shared → Prop} (D : ZipApart z TI TO i1 i2 l1 l2)
    (hz : IsZip s.heap z TI TO .none) (hTI : IsPair s.heap TI (.ref i1) (.ref i2)) (hTO : IsPair s.heap TO a b)
    (h1 : ItB bp s.heap i1 l1 k1) (h2 : ItB bq s.heap i2 l2 k2) (hl1 : VcB bp s.heap l1 xs) (hl2 : VcB bq s.heap l2 ys) (hx : xs[k1]? = some x) (hy : ys[k2]? = some y)
    (hQ : ∀ h', IsZip h' z TI TO (rawInt s.heap.objs.size) → IsPair h' TO x y → ItB bp h' i1 l1 (k1 + 1) → ItB bq h' i2 l2 (k2 + 1) → IsPair h' s.heap.objs.size x y → h'.objs.size = s.heap.objs.size + 1 →
      (∀ c o, c ≠ z → c ≠ TO → c ≠ i1 → c ≠ i2 → s.heap.get? c = some o → h'.get? c = some o) → Q (some (.ref s.heap.objs.size)) { s with heap := h' }) :
    wpAny (model prog w) A (pyNext (.ref z)) Q E s := by
  have hT : s.TypeIs (.ref z) "zip" := ⟨_, hz, rfl⟩
  unfold pyNext
  exact wpAny_bind (wpAny_attempt (wpAny_callSpecial?_slot (name := Str.ofString "__next__") hT F.slot_zip_next
    (wpAny_call_entry F.slot_zip_next hT F.entry_zip_next
      (zipB_next_item D hz hTI hTO h1 h2 hl1 hl2 hx hy fun h' a1 a2 a3 a4 a5 a6 a7 => wpAny_pure (hQ h' a1 a2 a3 a4 a5 a6 a7)) (F.args_zip_next_1 _))))

theorem pyNext_zipB_end {bp bq : Bool} {z TI TO i1 i2 l1 l2 : Addr} {k1 k2 : Nat} {xs ys : Array Value} {a b : Value} {Q : Option Value → Shared → Prop} (hh : A.handled = none) (D : ZipApart z TI TO i1 i2 l1 l2)
    (hz : IsZip s.heap z TI TO .none) (hTI : IsPair s.heap TI (.ref i1) (.ref i2)) (hTO : IsPair s.heap TO a b)
    (h1 : ItB bp s.heap i1 l1 k1) (h2 : ItB bq s.heap i2 l2 k2) (hl1 : VcB bp s.heap l1 xs) (hl2 : VcB bq s.heap l2 ys) (hend : xs[k1]? = none ∨ ys[k2]? = none)
    (hQ : ∀ h', (∀ c o, c ≠ z → c ≠ TO → c ≠ i1 → c ≠ i2 → s.heap.get? c = some o → h'.get? c = some o) → Q none { s with heap := h' }) : wpAny (model prog w) A (pyNext (.ref z)) Q E s := by
  have hT : s.TypeIs (.ref z) "zip" := ⟨_, hz, rfl⟩
  unfold pyNext
  refine wpAny_bind (wpAny_attempt (wpAny_callSpecial?_slot (name := Str.ofString "__next__") hT F.slot_zip_next
    (wpAny_call_entry F.slot_zip_next hT F.entry_zip_next (zipB_next_end hh D hz hTI hTO h1 h2 hl1 hl2 hend fun h' e hk he => ?_) (F.args_zip_next_1 _))))
  obtain ⟨o, ho, hc⟩ := he
  refine wpAny_bind (wpAny_isInstance (T := "StopIteration") (b := true) ⟨o, ho, hc⟩ isSubtype_stop ?_)
  exact wpAny_pure (hQ _ hk)
end

abbrev zipBH1 (bp : Bool) (h : Heap) (l1 : Addr) : Heap := h.push { cls := .type (itN bp), data := .fields #[.ref l1, .int 0 0] }
abbrev zipBH2 (bp bq : Bool) (h : Heap) (l1 l2 : Addr) : Heap := (zipBH1 bp h l1).push { cls := .type (itN bq), data := .fields #[.ref l2, .int 0 0] }
abbrev zipBH3 (bp bq : Bool) (h : Heap) (l1 l2 : Addr) : Heap := (zipBH2 bp bq h l1 l2).push { cls := .type "tuple", data := .seq #[.ref h.objs.size, .ref (zipBH1 bp h l1).objs.size] }
abbrev zipBH4 (bp bq : Bool) (h : Heap) (l1 l2 : Addr) : Heap := (zipBH3 bp bq h l1 l2).push { cls := .type "tuple", data := .seq #[.none, .none] }
abbrev zipBH5 (bp bq : Bool) (h : Heap) (l1 l2 : Addr) : Heap := (zipBH4 bp bq h l1 l2).push { cls := .type "zip", data := .fields #[.none, .bool false, .bool false, .ref (zipBH2 bp bq h l1 l2).objs.size, .ref (zipBH3 bp bq h l1 l2).objs.size] }

theorem meets_zipB_new (bp bq : Bool) (l1 l2 : Addr) (xs ys : Array Value) :
    Meets (Builtin.«zip.__new__» ⟨[.type "zip", .ref l1, .ref l2], []⟩) (fun _ R s => VcB bp s.heap l1 xs ∧ VcB bq s.heap l2 ys ∧
      R (.ok (.ret (.ref (zipBH4 bp bq s.heap l1 l2).objs.size))) { s with heap := zipBH5 bp bq s.heap l1 l2 }) :=
  .of_wp fun prog w A R s h => by
    obtain ⟨hp, g, d, tk, os⟩ := s
    obtain ⟨hl1, hl2, h⟩ := h
    have hsub := sub_zip
    cases bp with
    | true =>
      have hL1 : Heap.IsTuple (Shared.heap ⟨hp, g, d, tk, os⟩) l1 xs := hl1
      cases bq with
      | true =>
        have hL2 : Heap.IsTuple (Shared.heap ⟨hp.push { cls := .type "tuple_iterator", data := .fields #[.ref l1, .int 0 0] }, g, d, tk, os⟩) l2 ys := Heap.IsTuple.push hl2 _
        wp_walk using wpAny_pyIter_tuple hL1, wpAny_pyIter_tuple hL2
        exact ⟨_, rfl, h⟩
      | false =>
        have hL2 : Heap.IsList (Shared.heap ⟨hp.push { cls := .type "tuple_iterator", data := .fields #[.ref l1, .int 0 0] }, g, d, tk, os⟩) l2 ys := Heap.IsList.push hl2 _
        wp_walk using wpAny_pyIter_tuple hL1, wpAny_pyIter_list hL2
        exact ⟨_, rfl, h⟩
    | false =>
      have hL1 : Heap.IsList (Shared.heap ⟨hp, g, d, tk, os⟩) l1 xs := hl1
      cases bq with
      | true =>
        have hL2 : Heap.IsTuple (Shared.heap ⟨hp.push { cls := .type "list_iterator", data := .fields #[.ref l1, .int 0 0] }, g, d, tk, os⟩) l2 ys := Heap.IsTuple.push hl2 _
        wp_walk using wpAny_pyIter_list hL1, wpAny_pyIter_tuple hL2
        exact ⟨_, rfl, h⟩
      | false =>
        have hL2 : Heap.IsList (Shared.heap ⟨hp.push { cls := .type "list_iterator", data := .fields #[.ref l1, .int 0 0] }, g, d, tk, os⟩) l2 ys := Heap.IsList.push hl2 _
        wp_walk using wpAny_pyIter_list hL1, wpAny_pyIter_list hL2
        exact ⟨_, rfl, h⟩
section
variable {prog : Program} {w : World} {A : Around} {E : Value → Shared → Prop} {s : Shared}

theorem call_zipB {bp bq : Bool} {l1 l2 : Addr} {xs ys : Array Value} {Q : Value → Shared → Prop} (hl1 : VcB bp s.heap l1 xs) (hl2 : VcB bq s.heap l2 ys)
    (h : ∀ h', IsZip h' (s.heap.objs.size + 4) (s.heap.objs.size + 2) (s.heap.objs.size + 3) .none → IsPair h' (s.heap.objs.size + 2) (.ref s.heap.objs.size) (.ref (s.heap.objs.size + 1)) →
      IsPair h' (s.heap.objs.size + 3) .none .none → ItB bp h' s.heap.objs.size l1 0 → ItB bq h' (s.heap.objs.size + 1) l2 0 → h'.objs.size = s.heap.objs.size + 5 →
      (∀ c o, s.heap.get? c = some o → h'.get? c = some o) → Q (.ref (s.heap.objs.size + 4)) { s with heap := h' }) :
    wpAny (model prog w) A (call (.type "zip") [.ref l1, .ref l2]) Q E s := by
  refine callType_new F.called_zip (by decide) (F.typeCall_zip_2 _ _) (F.newCall_zip_2 _ _) (fun obj => F.args_object_init_3 obj _ _) F.entry_zip_new
    (meets_zipB_new bp bq l1 l2 xs ys) ⟨hl1, hl2, ?_⟩
  have z1 : (zipBH1 bp s.heap l1).objs.size = s.heap.objs.size + 1 := Heap.size_push ..
  have z2 : (zipBH2 bp bq s.heap l1 l2).objs.size = s.heap.objs.size + 2 := by rw [Heap.size_push, z1]
  have z3 : (zipBH3 bp bq s.heap l1 l2).objs.size = s.heap.objs.size + 3 := by rw [Heap.size_push, z2]
  have z4 : (zipBH4 bp bq s.heap l1 l2).objs.size = s.heap.objs.size + 4 := by rw [Heap.size_push, z3]
  have z5 : (zipBH5 bp bq s.heap l1 l2).objs.size = s.heap.objs.size + 5 := by rw [Heap.size_push, z4]
  have g5 : (zipBH5 bp bq s.heap l1 l2).get? (zipBH4 bp bq s.heap l1 l2).objs.size = some _ := Heap.get?_push_size _ rfl
  have g4 : (zipBH5 bp bq s.heap l1 l2).get? (zipBH3 bp bq s.heap l1 l2).objs.size = some _ := Heap.get?_push_of_some _ (Heap.get?_push_size _ rfl)
  have g3 : (zipBH5 bp bq s.heap l1 l2).get? (zipBH2 bp bq s.heap l1 l2).objs.size = some _ := Heap.get?_push_of_some _ (Heap.get?_push_of_some _ (Heap.get?_push_size _ rfl))
  have g2 : (zipBH5 bp bq s.heap l1 l2).get? (zipBH1 bp s.heap l1).objs.size = some _ := Heap.get?_push_of_some _ (Heap.get?_push_of_some _ (Heap.get?_push_of_some _ (Heap.get?_push_size _ rfl)))
  have g1 : (zipBH5 bp bq s.heap l1 l2).get? s.heap.objs.size = some _ := Heap.get?_push_of_some _ (Heap.get?_push_of_some _ (Heap.get?_push_of_some _ (Heap.get?_push_of_some _ (Heap.get?_push_size _ rfl))))
  show _ ∧ _
  rw [z2, z3, z4] at g5
  rw [z1, z2] at g3
  rw [z3] at g4
  rw [z1] at g2
  rw [z4]
  exact ⟨⟨_, g5, rfl⟩, h _ g5 g3 g4 ⟨_, g1, rfl, rfl⟩ ⟨_, g2, rfl, rfl⟩ z5 fun c o x =>
    Heap.get?_push_of_some _ (Heap.get?_push_of_some _ (Heap.get?_push_of_some _ (Heap.get?_push_of_some _ (Heap.get?_push_of_some _ x))))⟩
end
def SqV (b : Bool) (K : PySem.W.Frag) (H : Hp) (l : Addr) (xs : List V) : Prop := match b with
  | true => SqT K H l xs
  | false => SqL K H l xs
theorem vec_of {X : Cx} {pins : List (Addr × Obj)} {σ : L2.St} {H : Hp} {s : Shared} {xs : List V} {l : Addr} {b : Bool} (I : Inv X pins σ H s) (h : SqV b X.K H l xs) : ∃ its, Vals xs its ∧ VcB b s.heap l its.toArray := by
  cases b with
  | true =>
    obtain ⟨its, rv, p, _⟩ := I.tuple h
    exact ⟨its, rv, p⟩
  | false =>
    obtain ⟨its, rv, p, _⟩ := I.list h
    exact ⟨its, rv, p.isList⟩
theorem vec_inj {X : Cx} {pins : List (Addr × Obj)} {σ : L2.St} {H : Hp} {s : Shared} {xs ys : List V} {l : Addr} {b : Bool} (I : Inv X pins σ H s) (h : SqV b X.K H l xs) (h' : SqV b X.K H l ys) : xs = ys := by
  cases b with
  | true => exact I.tuple_inj h h'
  | false => exact I.list_inj h h'
theorem VcB.lt {b : Bool} {h : Heap} {l : Addr} {xs : Array Value} (p : VcB b h l xs) : l < h.objs.size := by
  cases b with
  | true =>
    obtain ⟨o, ho, _⟩ := id (show h.IsTuple l xs from p)
    exact Heap.lt_size ho
  | false =>
    obtain ⟨o, ho, _⟩ := id (show h.IsList l xs from p)
    exact Heap.lt_size ho
/-- the tuples at a and b as they stand at each turn, the items in new pairs -/
def ItzB (bp bq : Bool) (K : PySem.W.Frag) (a b : Addr) : It :=
  ⟨fun i H => ∃ (xs ys : List V) (x y : V), SqV bp K H a xs ∧ SqV bq K H b ys ∧ xs[i]? = some x ∧ ys[i]? = some y,
    fun i H v H' => ∃ T x y, v = .ref T ∧ H T = none ∧ H' = upd H T (.tup [x, y]) ∧ (∀ xs, SqV bp K H a xs → xs[i]? = some x) ∧ ∀ ys, SqV bq K H b ys → ys[i]? = some y,
    fun i H => ∃ xs ys : List V, SqV bp K H a xs ∧ SqV bq K H b ys ∧ (xs.length ≤ i ∨ ys.length ≤ i)⟩
theorem turn_zipB {bp bq : Bool} {P : Program} {w : World} {K : PySem.W.Frag} {elts : List Expr} {kk : Nat} {tpos : Pos} {a b z TI TO i1 i2 : Addr} (D : ZipApart z TI TO i1 i2 a b) :
    Turn P w K (.Tuple elts kk tpos) (ItzB bp bq K a b) [z, TI, TO, i1, i2] z (fun i h => IsZip h z TI TO .none ∧ IsPair h TI (.ref i1) (.ref i2) ∧ (∃ x y, IsPair h TO x y) ∧ ItB bp h i1 a i ∧ ItB bq h i2 b i) where
  mem := by simp
  obj := fun i h st c hc => by
    obtain ⟨hz, hTI, ⟨x, y, hTO⟩, ⟨o1, e1, _, d1⟩, ⟨o2, e2, _, d2⟩⟩ := st
    have e' : c = z ∨ c = TI ∨ c = TO ∨ c = i1 ∨ c = i2 := by simpa using hc
    rcases e' with q | q | q | q | q
    · rw [q]; exact ⟨_, hz, fun v q => nomatch q⟩
    · rw [q]; exact ⟨_, hTI, fun v q => nomatch q⟩
    · rw [q]; exact ⟨_, hTO, fun v q => nomatch q⟩
    · rw [q]; exact ⟨o1, e1, fun v q => by rw [d1] at q; cases q⟩
    · rw [q]; exact ⟨o2, e2, fun v q => by rw [d2] at q; cases q⟩
  keep := fun i h h' st k => by
    obtain ⟨hz, hTI, ⟨x, y, hTO⟩, h1, h2⟩ := st
    exact ⟨k z (by simp) _ hz, k TI (by simp) _ hTI, ⟨x, y, k TO (by simp) _ hTO⟩, h1.at fun o q => k i1 (by simp) o q, h2.at fun o q => k i2 (by simp) o q⟩
  item := by
    intro X hP hw hK hc i pins s σ H E I hf st hg
    subst hP hw hK
    obtain ⟨hz, hTI, ⟨x0, y0, hTO⟩, h1, h2⟩ := st
    obtain ⟨xs, ys, x, y, hqx, hqy, hx, hy⟩ := hg
    obtain ⟨its, rv, p⟩ := vec_of I hqx
    obtain ⟨its2, rv2, p2⟩ := vec_of I hqy
    obtain ⟨u, hu, ru⟩ := rv.get hx
    obtain ⟨u2, hu2, ru2⟩ := rv2.get hy
    have hzl : z < s.heap.objs.size := Heap.lt_size hz
    refine pyNext_zipB_item D hz hTI hTO h1 h2 p p2 (x := u) (y := u2) (by simpa using hu) (by simpa using hu2) fun h' z' TO' h1' h2' hT hsz hk => ?_
    refine ⟨_, rfl, wpAny_letOwnedTupleGo_zip (s := { s with heap := h' }) z' fun h'' z'' sb => ?_⟩
    have hT2 : h''.get? s.heap.objs.size = some { cls := .type "tuple", data := .seq #[u, u2] } := (sb.2 _ (Nat.ne_of_gt hzl)).trans hT
    have new : ObjOk X.prog X.w (upd H s.heap.objs.size (.tup [x, y])) h'' s.heap.objs.size (.tup [x, y]) :=
      ⟨by show 2 ≤ sizeLine; decide, [u, u2], .cons ru (.cons ru2 .nil), ⟨_, hT2, rfl, _, rfl⟩⟩
    have I1 : Inv X pins σ (upd H s.heap.objs.size (.tup [x, y])) { s with heap := h'' } :=
      I.turnedNew (t' := s.toks) (ch := [z, TI, TO, i1, i2]) (fun c o hb q => (sb.2 c (fun q' => hb (by simp [q']))).trans (hk c o (fun q' => hb (by simp [q'])) (fun q' => hb (by simp [q'])) (fun q' => hb (by simp [q'])) (fun q' => hb (by simp [q'])) q)) hf (Nat.le_refl _) new
    refine ⟨.ref s.heap.objs.size, _, I1, rfl, ⟨_, x, y, rfl, I.hok.fresh (Nat.le_refl _), rfl, fun l hl => by rw [vec_inj I hl hqx]; exact hx, fun l hl => by rw [vec_inj I hl hqy]; exact hy⟩, ⟨z'', ?_, ⟨u, u2, ?_⟩, ?_, ?_⟩, fun c hcm => ?_⟩
    · exact (sb.2 _ D.TIz).trans (hk _ _ D.TIz D.TITO D.TIi1 D.TIi2 hTI)
    · exact (sb.2 _ D.TOz).trans TO'
    · exact h1'.at fun o q => (sb.2 _ D.i1z).trans q
    · exact h2'.at fun o q => (sb.2 _ D.i2z).trans q
    · have hlt : c < s.heap.objs.size := by
        have e' : c = z ∨ c = TI ∨ c = TO ∨ c = i1 ∨ c = i2 := by simpa using hcm
        rcases e' with q | q | q | q | q
        · rw [q]; exact hzl
        · rw [q]; exact Heap.lt_size hTI
        · rw [q]; exact Heap.lt_size hTO
        · rw [q]; obtain ⟨_, e1, _⟩ := h1; exact Heap.lt_size e1
        · rw [q]; obtain ⟨_, e2, _⟩ := h2; exact Heap.lt_size e2
      rw [upd_ne (Nat.ne_of_lt hlt)]
      exact (hf c hcm).1
  done := by
    intro X hP hw hK hc i pins s σ H E I hf st hg
    subst hP hw hK
    obtain ⟨hz, hTI, ⟨x0, y0, hTO⟩, h1, h2⟩ := st
    obtain ⟨xs, ys, hqx, hqy, hend⟩ := hg
    obtain ⟨its, rv, p⟩ := vec_of I hqx
    obtain ⟨its2, rv2, p2⟩ := vec_of I hqy
    have l1 := rv.length
    have l2 := rv2.length
    have he : its.toArray[i]? = none ∨ its2.toArray[i]? = none := by
      rcases hend with q | q
      · exact .inl (by simp; omega)
      · exact .inr (by simp; omega)
    exact pyNext_zipB_end (I.ok.hd hc) D hz hTI hTO h1 h2 p p2 he fun h' hk => ⟨rfl, I.turnedL (t' := s.toks) (ch := [z, TI, TO, i1, i2]) (fun c o hb q =>
      hk c o (fun q' => hb (by simp [q'])) (fun q' => hb (by simp [q'])) (fun q' => hb (by simp [q'])) (fun q' => hb (by simp [q'])) q) hf⟩
  self := fun A i s Q E st h => wpAny_pyIter_zip st.1 h

def iZipB (K : PySem.W.Frag) (ta : TA) : TI := fun σ H R => ta σ H fun vs H1 => ∃ bp bq a b xs ys, vs = [.ref a, .ref b] ∧ SqV bp K H1 a xs ∧ SqV bq K H1 b ys ∧ R (ItzB bp bq K a b) H1
theorem pi_zipB {X : Cx} {e e2 : Expr} {ta : TA} {p pos tpos : Pos} {elts : List Expr} {kk : Nat} (hg : Gl X "zip") (hm : X.mg "zip" = none) (ha : PA X [e, e2] ta)
    (hs : starEach [e, e2] X.env = (false, eval e X.env) :: starEach [e2] X.env := by rfl) (hpl : (backTo pos (starEach [e2] X.env)).any (·.1) = false := by rfl) :
    PI X (.Tuple elts kk tpos) (.Call (.Name "zip" p) [e, e2] [] pos) (iZipB X.K ta) := by
  refine ⟨fun pins s σ H R I h => ?_⟩
  refine Call_ (ld_blt I hg hm PyProof.Rows.boot_zip (PyProof.Rows.callWith_type1 (thn (ha.run pos pins s σ H _ I h) fun us s1 ⟨vs, H1, I1, r1, q1⟩ => ?_) hs hpl))
  obtain ⟨bp, bq, a, b, xs, ys, ex, hqx, hqy, q⟩ := q1
  subst ex
  cases r1 with
  | cons r rr =>
    cases rr with
    | cons r' rr =>
      cases rr
      cases r
      cases r'
      have fresh5 : ∀ c, c ∈ [s1.heap.objs.size + 4, s1.heap.objs.size + 2, s1.heap.objs.size + 3, s1.heap.objs.size, s1.heap.objs.size + 1] → FpOk X pins H1 c := fun c hcm => by
        have e' : c = s1.heap.objs.size + 4 ∨ c = s1.heap.objs.size + 2 ∨ c = s1.heap.objs.size + 3 ∨ c = s1.heap.objs.size ∨ c = s1.heap.objs.size + 1 := by simpa using hcm
        have hle : s1.heap.objs.size ≤ c := by
          rcases e' with z | z | z | z | z
          · rw [z]; exact Nat.le_add_right _ _
          · rw [z]; exact Nat.le_add_right _ _
          · rw [z]; exact Nat.le_add_right _ _
          · rw [z]; exact Nat.le_refl _
          · rw [z]; exact Nat.le_add_right _ _
        exact I1.fpOk hle (I1.hok.fresh hle)
      obtain ⟨its, rv, p1⟩ := vec_of I1 hqx
      obtain ⟨its2, rv2, p2⟩ := vec_of I1 hqy
      refine call_zipB p1 p2 fun h' hz hTI hTO h1 h2 hsz hk => wpAny_pyIter_zip hz ?_
      have I2 : Inv X pins σ H1 { s1 with heap := h' } := I1.kept (t' := s1.toks) hk
      exact ⟨s1.heap.objs.size + 4, [s1.heap.objs.size + 4, s1.heap.objs.size + 2, s1.heap.objs.size + 3, s1.heap.objs.size, s1.heap.objs.size + 1], _, _, H1, rfl, I2, turn_zipB (PySem.W.ktu_apart s1.heap.objs.size a b p1.lt p2.lt), ⟨hz, hTI, ⟨_, _, hTO⟩, h1, h2⟩, fresh5, q⟩
end Ab

set_option Elab.async false
set_option linter.all false
set_option autoImplicit false
set_option maxRecDepth 10000
/-! AbSrc: what a loop walks, by the layer's walks. -/
namespace Ab
open PySem PySem.Spec PyProof.Rows L2

def SrcOk (K : PySem.W.Frag) (mg : Str → Option Value) (J : It) (m : List Addr) (H : Hp) (st : Sto) (s : Src) : Prop :=
  ∀ m' H' st', Grow m H st m' H' st' → StOk K mg m' H' st' → s.still st' →
    (∀ i, i < s.items.length → J.go i H') ∧ J.stop s.items.length H' ∧
    ∀ i x H'', i < s.items.length → J.yld i H' x H'' → Grow m' H' st' m' H'' st' ∧ StOk K mg m' H'' st' ∧ ∃ d, s.items[i]? = some d ∧ Den K mg m' H'' d x
def LfI (X : Cx) (W : WX) (f : En → Sto → R Src) : TI := fun σ H Q =>
  ∃ m env st, StOk X.K X.mg m H st ∧ EnOk X.K X.mg m H σ env ∧ Res X.K X.mg W σ m H st (f env st) (fun s m' H' st' => ∀ J, SrcOk X.K X.mg J m' H' st' s → Q J H')

section
variable {K : PySem.W.Frag} {mg : Str → Option Value} {m : List Addr} {H : Hp} {st : Sto}
theorem walk_src {J : It} {n : Nat} {G : Hp → Prop} {Y : Nat → Hp → V → Hp → Prop} {s : Src} (hn : n = s.items.length) {H' : Hp} (w : Walk J n G Y) (hG : G H') {P : Nat → V → Hp → Prop} (hY : ∀ i x H'', i < n → Y i H' x H'' → P i x H'') :
    (∀ i, i < s.items.length → J.go i H') ∧ J.stop s.items.length H' ∧ ∀ i x H'', i < s.items.length → J.yld i H' x H'' → P i x H'' := by
  subst hn
  exact ⟨fun i hi => w.goes i H' hi hG, w.stops H' hG, fun i x H'' hi y => hY i x H'' hi (w.yields i H' x H'' hi hG y)⟩
theorem src_tup (S : StOk K mg m H st) {ds : List D} {a : Addr} {vs : List V} (ha : SqT K H a vs) (hd : Dens K mg m H ds vs) : SrcOk K mg (Itt K a) m H st ⟨ds, []⟩ := by
  intro m' H' st' g S' _
  have hd' := Dens.grow S g hd
  refine walk_src (hd.length.symm) walk_tup (SqT.grow S g ha) fun i x H'' hi y => ?_
  obtain ⟨rfl, hx⟩ := y
  refine ⟨Grow.refl, S', ?_⟩
  have hi' : i < ds.length := by rw [hd.length]; exact hi
  obtain ⟨u, h1, h2⟩ := hd'.get (List.getElem?_eq_getElem hi')
  rw [hx] at h1
  cases h1
  exact ⟨_, List.getElem?_eq_getElem hi', h2⟩
theorem src_lst (S : StOk K mg m H st) {l : Nat} {ds : List D} {a : Addr} (hm : m[l]? = some a) : SrcOk K mg (Itl K a) m H st ⟨ds, [(l, ds)]⟩ := by
  intro m' H' st' g S' hs
  obtain ⟨f, hl⟩ := hs (l, ds) (by simp)
  obtain ⟨a', vs, e1, e2, ha, hd, _⟩ := den_lst (v := .ref a) S' ⟨a, g.ext _ _ hm, rfl⟩ hl
  cases e1
  refine walk_src (hd.length.symm) walk_list ha fun i x H'' hi y => ?_
  obtain ⟨rfl, hx⟩ := y
  refine ⟨Grow.refl, S', ?_⟩
  have hi' : i < ds.length := by rw [hd.length]; exact hi
  obtain ⟨u, h1, h2⟩ := hd.get (List.getElem?_eq_getElem hi')
  rw [hx] at h1
  cases h1
  exact ⟨_, List.getElem?_eq_getElem hi', h2⟩
theorem src_str (S : StOk K mg m H st) {x : Str} (hx : sOk x = true) : SrcOk K mg (Its x) m H st ⟨x.cps.toList.map fun c => D.str ⟨#[c]⟩, []⟩ := by
  intro m' H' st' g S' _
  refine walk_src (by simp) walk_str trivial fun i v H'' hi y => ?_
  obtain ⟨rfl, c, hc, rfl⟩ := y
  refine ⟨Grow.refl, S', .str ⟨#[c]⟩, by simp [hc], rfl, sOk_one hx ?_⟩
  rw [← Array.getElem?_toList] at hc
  exact List.mem_of_getElem? hc
theorem src_rng {lo : Int} {n : Nat} (S : StOk K mg m H st) : SrcOk K mg (L2.Itr lo n) m H st ⟨rangeL lo n, []⟩ := by
  intro m' H' st' g S' _
  refine walk_src (by simp [rangeL]) walk_range trivial fun i v H'' hi y => ?_
  obtain ⟨rfl, rfl⟩ := y
  exact ⟨Grow.refl, S', .int (lo + (i : Int)), by simp [rangeL, hi], rfl⟩
theorem src_rngd {hi : Int} {n : Nat} (S : StOk K mg m H st) : SrcOk K mg (L2.Itc hi (-1) n) m H st ⟨rangeB hi n, []⟩ := by
  intro m' H' st' g S' _
  refine walk_src (by simp [rangeB]) walk_rangeC trivial fun i v H'' hi' y => ?_
  obtain ⟨rfl, rfl⟩ := y
  exact ⟨Grow.refl, S', .int (hi - (i : Int)), by simp [rangeB, hi'], by
    have e : hi + (i : Int) * (-1) = hi - (i : Int) := by omega
    exact congrArg V.int e⟩
theorem enumL_get : ∀ (ds : List D) (k i : Nat), (enumL k ds)[i]? = (ds[i]?).map fun d => D.itm [.int ((k + i : Nat) : Int), d]
  | [], _, _ => by simp [enumL]
  | d :: ds, k, 0 => by simp [enumL]
  | d :: ds, k, i + 1 => by
    unfold enumL
    rw [List.getElem?_cons_succ, enumL_get ds (k + 1) i, List.getElem?_cons_succ]
    simp only [show k + 1 + i = k + (i + 1) by omega]
theorem enumL_len : ∀ (ds : List D) (k : Nat), (enumL k ds).length = ds.length
  | [], _ => rfl
  | d :: ds, k => by simp [enumL, enumL_len ds (k + 1)]
theorem zipL_get : ∀ (xs ys : List D) (i : Nat) (x y : D), xs[i]? = some x → ys[i]? = some y → (zipL xs ys)[i]? = some (.itm [x, y])
  | [], _, _, _, _, h, _ => by simp at h
  | _ :: _, [], _, _, _, _, h => by simp at h
  | a :: xs, b :: ys, 0, x, y, h1, h2 => by
    simp at h1 h2
    subst h1 h2
    rfl
  | a :: xs, b :: ys, i + 1, x, y, h1, h2 => by
    unfold zipL
    rw [List.getElem?_cons_succ]
    exact zipL_get xs ys i x y (by simpa using h1) (by simpa using h2)
theorem zipL_len : ∀ (xs ys : List D), (zipL xs ys).length = min xs.length ys.length
  | [], _ => by simp [zipL]
  | _ :: _, [] => by simp [zipL]
  | a :: xs, b :: ys => by
    simp only [zipL, List.length_cons, zipL_len xs ys]
    omega
/-- a new pair -/
theorem new_pair (S : StOk K mg m H st) {d e : D} {x y : V} (hd : Den K mg m H d x) (he : Den K mg m H e y) {T : Addr} (hT : H T = none) :
    Grow m H st m (upd H T (.tup [x, y])) st ∧ StOk K mg m (upd H T (.tup [x, y])) st ∧ Den K mg m (upd H T (.tup [x, y])) (.itm [d, e]) (.ref T) := by
  have g : Grow m H st m (upd H T (.tup [x, y])) st := Grow.lay S hT
  exact ⟨g, S.poke (.inl hT) (S.noTrkNone hT), T, [x, y], rfl, SqT.of upd_same, x, [y], rfl, Den.grow S g hd, y, [], rfl, Den.grow S g he, rfl⟩
theorem src_enumT (S : StOk K mg m H st) {ds : List D} {a : Addr} {vs : List V} (ha : SqT K H a vs) (hd : Dens K mg m H ds vs) : SrcOk K mg (IteT K a) m H st ⟨enumL 0 ds, []⟩ := by
  intro m' H' st' g S' _
  have hd' := Dens.grow S g hd
  refine walk_src (by rw [enumL_len, hd.length]) walk_enumT (SqT.grow S g ha) fun i x H'' hi y => ?_
  obtain ⟨T, x1, x2, rfl, hT, rfl, h1, h2⟩ := y
  cases h1
  have hi' : i < ds.length := by rw [hd.length]; exact hi
  obtain ⟨u, h3, h4⟩ := hd'.get (List.getElem?_eq_getElem hi')
  have h2 : vs[i]? = some x2 := h2
  rw [h2] at h3
  cases h3
  obtain ⟨q1, q2, q3⟩ := new_pair S' (d := .int (i : Int)) (x := .int (i : Int)) rfl h4 hT
  refine ⟨q1, q2, _, ?_, q3⟩
  rw [enumL_get, List.getElem?_eq_getElem hi']
  simp
theorem src_enumL (S : StOk K mg m H st) {l : Nat} {ds : List D} {a : Addr} (hm : m[l]? = some a) : SrcOk K mg (Ite K a) m H st ⟨enumL 0 ds, [(l, ds)]⟩ := by
  intro m' H' st' g S' hs
  obtain ⟨f, hl⟩ := hs (l, ds) (by simp)
  obtain ⟨a', vs, e1, e2, ha, hd, _⟩ := den_lst (v := .ref a) S' ⟨a, g.ext _ _ hm, rfl⟩ hl
  cases e1
  refine walk_src (by rw [enumL_len, hd.length]) walk_enum ha fun i x H'' hi y => ?_
  obtain ⟨T, x1, x2, rfl, hT, rfl, h1, h2⟩ := y
  cases h1
  have hi' : i < ds.length := by rw [hd.length]; exact hi
  obtain ⟨u, h3, h4⟩ := hd.get (List.getElem?_eq_getElem hi')
  have h2 : vs[i]? = some x2 := h2
  rw [h2] at h3
  cases h3
  obtain ⟨q1, q2, q3⟩ := new_pair S' (d := .int (i : Int)) (x := .int (i : Int)) rfl h4 hT
  refine ⟨q1, q2, _, ?_, q3⟩
  rw [enumL_get, List.getElem?_eq_getElem hi']
  simp
theorem walk_zipB {bp bq : Bool} {K : PySem.W.Frag} {a b : Addr} {xs ys : List V} {n : Nat} (hn : n = min xs.length ys.length) : Walk (ItzB bp bq K a b) n (fun H => SqV bp K H a xs ∧ SqV bq K H b ys) (YPair (fun i => xs[i]?) (fun i => ys[i]?)) := by
  subst hn
  refine ⟨fun i _ hi q => ?_, fun _ q => ⟨xs, ys, q.1, q.2, by omega⟩, fun i H v H' _ q y => ?_⟩
  · have h1 : i < xs.length := by omega
    have h2 : i < ys.length := by omega
    exact ⟨xs, ys, xs[i], ys[i], q.1, q.2, by simp [h1], by simp [h2]⟩
  · obtain ⟨T, x, z, h1, h2, h3, h4, h5⟩ := y
    exact ⟨T, x, z, h1, h2, h3, h4 xs q.1, h5 ys q.2⟩
theorem src_zip_at (S' : StOk K mg m H st) {xs ys : List D} {vs us : List V} (hd : Dens K mg m H xs vs) (he : Dens K mg m H ys us) {i : Nat} (hi : i < min vs.length us.length) {x : V} {H'' : Hp}
    (y : YPair (fun i => vs[i]?) (fun i => us[i]?) i H x H'') : Grow m H st m H'' st ∧ StOk K mg m H'' st ∧ ∃ d, (zipL xs ys)[i]? = some d ∧ Den K mg m H'' d x := by
  obtain ⟨T, x1, x2, rfl, hT, rfl, h1, h2⟩ := y
  have l1 := hd.length
  have l2 := he.length
  have hi1 : i < xs.length := by omega
  have hi2 : i < ys.length := by omega
  obtain ⟨u, h3, h4⟩ := hd.get (List.getElem?_eq_getElem hi1)
  obtain ⟨w, h5, h6⟩ := he.get (List.getElem?_eq_getElem hi2)
  have h1 : vs[i]? = some x1 := h1
  have h2 : us[i]? = some x2 := h2
  rw [h1] at h3
  cases h3
  rw [h2] at h5
  cases h5
  obtain ⟨q1, q2, q3⟩ := new_pair S' h4 h6 hT
  exact ⟨q1, q2, _, zipL_get xs ys i _ _ (List.getElem?_eq_getElem hi1) (List.getElem?_eq_getElem hi2), q3⟩
theorem src_zipTT (S : StOk K mg m H st) {xs ys : List D} {a b : Addr} {vs us : List V} (ha : SqT K H a vs) (hd : Dens K mg m H xs vs) (hb : SqT K H b us) (he : Dens K mg m H ys us) : SrcOk K mg (ItzB true true K a b) m H st ⟨zipL xs ys, []⟩ := by
  intro m' H' st' g S' _
  have hd' := Dens.grow S g hd
  have he' := Dens.grow S g he
  exact walk_src (n := min vs.length us.length) (by rw [zipL_len, hd.length, he.length]) (walk_zipB (bp := true) (bq := true) rfl) ⟨SqT.grow S g ha, SqT.grow S g hb⟩ fun i x H'' hi y => src_zip_at S' hd' he' hi y
theorem src_zipTL (S : StOk K mg m H st) {k : Nat} {xs ys : List D} {a b : Addr} {vs : List V} (ha : SqT K H a vs) (hd : Dens K mg m H xs vs) (hk : m[k]? = some b) : SrcOk K mg (ItzB true false K a b) m H st ⟨zipL xs ys, [(k, ys)]⟩ := by
  intro m' H' st' g S' hs
  have hd' := Dens.grow S g hd
  obtain ⟨f', hl'⟩ := hs (k, ys) (by simp)
  obtain ⟨b', us, e3, e4, hb, he, _⟩ := den_lst (v := .ref b) S' ⟨b, g.ext _ _ hk, rfl⟩ hl'
  cases e3
  exact walk_src (n := min vs.length us.length) (by rw [zipL_len, hd.length, he.length]) (walk_zipB (bp := true) (bq := false) rfl) ⟨SqT.grow S g ha, hb⟩ fun i x H'' hi y => src_zip_at S' hd' he hi y
theorem src_zipLT (S : StOk K mg m H st) {l : Nat} {xs ys : List D} {a b : Addr} {us : List V} (hm : m[l]? = some a) (hb : SqT K H b us) (he : Dens K mg m H ys us) : SrcOk K mg (ItzB false true K a b) m H st ⟨zipL xs ys, [(l, xs)]⟩ := by
  intro m' H' st' g S' hs
  have he' := Dens.grow S g he
  obtain ⟨f, hl⟩ := hs (l, xs) (by simp)
  obtain ⟨a', vs, e1, e2, ha, hd, _⟩ := den_lst (v := .ref a) S' ⟨a, g.ext _ _ hm, rfl⟩ hl
  cases e1
  exact walk_src (n := min vs.length us.length) (by rw [zipL_len, hd.length, he.length]) (walk_zipB (bp := false) (bq := true) rfl) ⟨ha, SqT.grow S g hb⟩ fun i x H'' hi y => src_zip_at S' hd he' hi y
theorem src_zipLL (S : StOk K mg m H st) {l k : Nat} {xs ys : List D} {a b : Addr} (hm : m[l]? = some a) (hk : m[k]? = some b) : SrcOk K mg (ItzB false false K a b) m H st ⟨zipL xs ys, [(l, xs), (k, ys)]⟩ := by
  intro m' H' st' g S' hs
  obtain ⟨f, hl⟩ := hs (l, xs) (by simp)
  obtain ⟨f', hl'⟩ := hs (k, ys) (by simp)
  obtain ⟨a', vs, e1, e2, ha, hd, _⟩ := den_lst (v := .ref a) S' ⟨a, g.ext _ _ hm, rfl⟩ hl
  cases e1
  obtain ⟨b', us, e3, e4, hb, he, _⟩ := den_lst (v := .ref b) S' ⟨b, g.ext _ _ hk, rfl⟩ hl'
  cases e3
  exact walk_src (n := min vs.length us.length) (by rw [zipL_len, hd.length, he.length]) (walk_zipB (bp := false) (bq := false) rfl) ⟨ha, hb⟩ fun i x H'' hi y => src_zip_at S' hd he hi y
end

section
variable {X : Cx} {W : WX} {tg iter : Expr} {f g : En → Sto → R D}
theorem Res.pureI {σ : L2.St} {m : List Addr} {H : Hp} {st : Sto} {α : Type} {K : PySem.W.Frag} {mg : Str → Option Value} {a : α} {Q : α → List Addr → Hp → Sto → Prop} (S : StOk K mg m H st) (h : Res K mg W σ m H st (.ok a st) Q) : Q a m H st := h m H Grow.refl S
/-- what stands at e is walked -/
theorem pi_seq (h : PE X iter (LfE X W f)) : PI X tg iter (LfI X W fun env st => (f env st).bind fun d st1 => srcSeq d st1) := by
  refine PI.weak (PI.or (pi_list h) (PI.or (pi_tup h) (pi_str h))) ?_
  rintro σ H R ⟨m, env, st, S, E, hr⟩
  have hr : Res X.K X.mg W σ m H st ((f env st).bind fun d st1 => srcSeq d st1) _ := hr
  cases q : f env st with
  | bad =>
    rw [q] at hr
    exact hr.elim
  | ex x st1 =>
    refine .inl ⟨m, env, st, S, E, ?_⟩
    rw [q] at hr ⊢
    exact hr
  | ok d st1 =>
    rw [q] at hr
    have hr : Res X.K X.mg W σ m H st (srcSeq d st1) _ := hr
    have key : ∀ {Q : V → Hp → Prop}, (∀ m1 H1 v, Grow m H st m1 H1 st1 → StOk X.K X.mg m1 H1 st1 → Den X.K X.mg m1 H1 d v → Q v H1) → LfE X W f σ H Q := fun {Q} hq => by
      refine ⟨m, env, st, S, E, ?_⟩
      rw [q]
      exact fun m1 H1 g1 S1 v hv => hq m1 H1 v g1 S1 hv
    unfold srcSeq at hr
    split at hr
    · refine .inr (.inl (key fun m1 H1 v g1 S1 hv => ?_))
      obtain ⟨a, vs, rfl, ha, hd⟩ := den_tup hv
      exact ⟨a, rfl, ⟨vs, ha.sq⟩, hr m1 H1 g1 S1 _ (src_tup S1 ha.sq hd)⟩
    · split at hr
      · rename_i hl
        refine .inl (key fun m1 H1 v g1 S1 hv => ?_)
        obtain ⟨a, vs, rfl, hm, ha, hd, _⟩ := den_lst S1 hv hl
        exact ⟨a, rfl, ⟨vs, ha⟩, hr m1 H1 g1 S1 _ (src_lst S1 hm)⟩
      · exact hr.elim
    · refine .inr (.inr (key fun m1 H1 v g1 S1 hv => ?_))
      obtain ⟨rfl, hx⟩ := hv
      exact ⟨_, rfl, hr m1 H1 g1 S1 _ (src_str S1 hx)⟩
    · exact hr.elim
theorem pa1 {e : Expr} (hs : isStar e = false) (h : PE X e (LfE X W f)) : PA X [e] (tCons (LfE X W f) tNil) := pa_cons h pa_nil (star_cons hs)
theorem pa2 {e e' : Expr} (hs : isStar e = false) (hs' : isStar e' = false) (h : PE X e (LfE X W f)) (h' : PE X e' (LfE X W g)) : PA X [e, e'] (tCons (LfE X W f) (tCons (LfE X W g) tNil)) := pa_cons h (pa1 hs' h') (star_cons hs)
theorem pi_rng1 {e : Expr} {p pos : Pos} (hg : Gl X "range") (hm : X.mg "range" = none) (hs : isStar e = false) (h : PE X e (LfE X W f)) : PI X tg (.Call (.Name "range" p) [e] [] pos) (LfI X W fun env st => (f env st).bind fun d st1 => srcRng (.int 0) d st1) := by
  refine PI.weak (pi_range1 hg hm (pa1 hs h) (by rw [star_cons hs]; rfl)) ?_
  rintro σ H R ⟨m, env, st, S, E, hr⟩
  refine Lf.of S E hr fun d m1 H1 st1 v g1 S1 E1 hv hr => ?_
  cases d with
  | int j =>
    cases hv
    unfold srcRng at hr
    simp only at hr
    split at hr
    · rename_i hz
      refine ⟨j, rfl, hz.2.2.1, hz.2.2.2, ?_⟩
      have := Res.pureI S1 hr _ (src_rng S1)
      simpa using this
    · exact hr.elim
  | _ => unfold srcRng at hr; exact hr.elim
theorem pi_rng2 {e e' : Expr} {p pos : Pos} (hg : Gl X "range") (hm : X.mg "range" = none) (hs : isStar e = false) (hs' : isStar e' = false) (h : PE X e (LfE X W f)) (h' : PE X e' (LfE X W g)) :
    PI X tg (.Call (.Name "range" p) [e, e'] [] pos) (LfI X W fun env st => (f env st).bind fun d st1 => (g env st1).bind fun d' st2 => srcRng d d' st2) := by
  refine PI.weak (pi_range2 hg hm (pa2 hs hs' h h') (by rw [star_cons hs, star_cons hs']; rfl) (by rw [star_cons hs']; rfl)) ?_
  rintro σ H R ⟨m, env, st, S, E, hr⟩
  refine Lf.of S E hr fun d m1 H1 st1 v g1 S1 E1 hv hr => ?_
  refine Lf.of S1 E1 hr fun d' m2 H2 st2 v' g2 S2 E2 hv' hr => ?_
  cases d with
  | int i =>
    cases hv
    cases d' with
    | int j =>
      cases hv'
      unfold srcRng at hr
      simp only at hr
      split at hr
      · rename_i hz
        exact ⟨i, j, rfl, hz, Res.pureI S2 hr _ (src_rng S2)⟩
      · exact hr.elim
    | _ => unfold srcRng at hr; exact hr.elim
  | _ => unfold srcRng at hr; exact hr.elim
theorem pi_rngd {e e' e'' : Expr} {p pos : Pos} {k : En → Sto → R D} (hk : ∀ env st, k env st = .ok (.int (-1)) st) (hg : Gl X "range") (hm : X.mg "range" = none) (hs : isStar e = false) (hs' : isStar e' = false) (hs'' : isStar e'' = false) (h : PE X e (LfE X W f)) (h' : PE X e' (LfE X W g)) (h'' : PE X e'' (LfE X W k)) :
    PI X tg (.Call (.Name "range" p) [e, e', e''] [] pos) (LfI X W fun env st => (f env st).bind fun d st1 => (g env st1).bind fun d' st2 => srcRngd d d' st2) := by
  refine PI.weak (pi_range3 hg hm (pa_cons h (pa2 hs' hs'' h' h'') (star_cons hs)) (star_cons hs) (by rw [star_cons hs', star_cons hs'']; rfl)) ?_
  rintro σ H R ⟨m, env, st, S, E, hr⟩
  refine Lf.of S E hr fun d m1 H1 st1 v g1 S1 E1 hv hr => ?_
  refine Lf.of S1 E1 hr fun d' m2 H2 st2 v' g2 S2 E2 hv' hr => ?_
  have hr : Res X.K X.mg W σ m2 H2 st2 ((k env st2).bind fun d'' st3 => match d'' with
    | .int c => if c = -1 then srcRngd d d' st3 else .bad
    | _ => .bad) (fun s m' H' st' => ∀ (J : It), SrcOk X.K X.mg J m' H' st' s → R J H') := by rw [hk]; exact hr
  refine Lf.of S2 E2 hr fun d'' m3 H3 st3 v'' g3 S3 E3 hv'' hr => ?_
  cases d'' with
  | int c =>
    cases hv''
    by_cases hc : c = -1
    · subst hc
      have hr : Res X.K X.mg W σ m3 H3 st3 (srcRngd d d' st3) (fun s m' H' st' => ∀ (J : It), SrcOk X.K X.mg J m' H' st' s → R J H') := hr
      cases d with
      | int i =>
        cases hv
        cases d' with
        | int j =>
          cases hv'
          unfold srcRngd at hr
          simp only at hr
          split at hr
          · rename_i hz
            exact ⟨i, j, -1, _, rfl, RgC.neg hz.1 hz.2.1 hz.2.2.1 hz.2.2.2, Res.pureI S3 hr _ (src_rngd S3)⟩
          · exact hr.elim
        | _ => unfold srcRngd at hr; exact hr.elim
      | _ => unfold srcRngd at hr; exact hr.elim
    · dsimp only at hr
      rw [if_neg hc] at hr
      exact hr.elim
  | _ => exact hr.elim
theorem pi_enm {elts : List Expr} {kk : Nat} {tpos : Pos} {e : Expr} {p pos : Pos} (hg : Gl X "enumerate") (hm : X.mg "enumerate" = none) (hs : isStar e = false) (h : PE X e (LfE X W f)) :
    PI X (.Tuple elts kk tpos) (.Call (.Name "enumerate" p) [e] [] pos) (LfI X W fun env st => (f env st).bind fun d st1 => srcEnum d st1) := by
  have hss : starEach [e] X.env = [(false, eval e X.env)] := by rw [star_cons hs]; rfl
  refine PI.weak (PI.or (pi_enum hg hm (pa1 hs h) hss) (pi_enumT hg hm (pa1 hs h) hss)) ?_
  rintro σ H R ⟨m, env, st, S, E, hr⟩
  have hr : Res X.K X.mg W σ m H st ((f env st).bind fun d st1 => srcEnum d st1) _ := hr
  cases q : f env st with
  | bad =>
    rw [q] at hr
    exact hr.elim
  | ex x st1 =>
    refine .inl ⟨m, env, st, S, E, ?_⟩
    rw [q] at hr ⊢
    exact hr
  | ok d st1 =>
    rw [q] at hr
    have hr : Res X.K X.mg W σ m H st (srcEnum d st1) _ := hr
    have key : ∀ {Q : V → Hp → Prop}, (∀ m1 H1 v, Grow m H st m1 H1 st1 → StOk X.K X.mg m1 H1 st1 → Den X.K X.mg m1 H1 d v → Q v H1) → LfE X W f σ H Q := fun {Q} hq => by
      refine ⟨m, env, st, S, E, ?_⟩
      rw [q]
      exact fun m1 H1 g1 S1 v hv => hq m1 H1 v g1 S1 hv
    unfold srcEnum at hr
    split at hr
    · refine .inr (key fun m1 H1 v g1 S1 hv => ?_)
      obtain ⟨a, vs, rfl, ha, hd⟩ := den_tup hv
      exact ⟨a, vs, rfl, ha.sq, hr m1 H1 g1 S1 _ (src_enumT S1 ha.sq hd)⟩
    · split at hr
      · rename_i hl
        refine .inl (key fun m1 H1 v g1 S1 hv => ?_)
        obtain ⟨a, vs, rfl, hm, ha, hd, _⟩ := den_lst S1 hv hl
        exact ⟨a, vs, rfl, ha, hr m1 H1 g1 S1 _ (src_enumL S1 hm)⟩
      · exact hr.elim
    · exact hr.elim
theorem pi_zp {elts : List Expr} {kk : Nat} {tpos : Pos} {e e' : Expr} {p pos : Pos} (hg : Gl X "zip") (hm : X.mg "zip" = none) (hs : isStar e = false) (hs' : isStar e' = false) (h : PE X e (LfE X W f)) (h' : PE X e' (LfE X W g)) :
    PI X (.Tuple elts kk tpos) (.Call (.Name "zip" p) [e, e'] [] pos) (LfI X W fun env st => (f env st).bind fun d st1 => (g env st1).bind fun d' st2 => srcZip d d' st2) := by
  refine PI.weak (pi_zipB hg hm (pa2 hs hs' h h') (by rw [star_cons hs]) (by rw [star_cons hs']; rfl)) ?_
  rintro σ H R ⟨m, env, st, S, E, hr⟩
  refine Lf.of S E hr fun d m1 H1 st1 v g1 S1 E1 hv hr => ?_
  refine Lf.of S1 E1 hr fun d' m2 H2 st2 v' g2 S2 E2 hv' hr => ?_
  have hv := Den.grow S1 g2 hv
  unfold srcZip at hr
  split at hr
  · obtain ⟨a, vs, rfl, ha, hd⟩ := den_tup hv
    obtain ⟨b, us, rfl, hb, he⟩ := den_tup hv'
    exact ⟨true, true, a, b, vs, us, rfl, ha.sq, hb.sq, Res.pureI S2 hr _ (src_zipTT S2 ha.sq hd hb.sq he)⟩
  · split at hr
    · rename_i h1 h2
      obtain ⟨a, vs, rfl, hm, ha, hd, _⟩ := den_lst S2 hv h1
      obtain ⟨b, us, rfl, hk, hb, he, _⟩ := den_lst S2 hv' h2
      exact ⟨false, false, a, b, vs, us, rfl, ha, hb, Res.pureI S2 hr _ (src_zipLL S2 hm hk)⟩
    · exact hr.elim
  · split at hr
    · rename_i h2
      obtain ⟨a, vs, rfl, ha, hd⟩ := den_tup hv
      obtain ⟨b, us, rfl, hk, hb, he, _⟩ := den_lst S2 hv' h2
      exact ⟨true, false, a, b, vs, us, rfl, ha.sq, hb, Res.pureI S2 hr _ (src_zipTL S2 ha.sq hd hk)⟩
    · exact hr.elim
  · split at hr
    · rename_i h1
      obtain ⟨a, vs, rfl, hm, ha, hd, _⟩ := den_lst S2 hv h1
      obtain ⟨b, us, rfl, hb, he⟩ := den_tup hv'
      exact ⟨false, true, a, b, vs, us, rfl, ha, hb.sq, Res.pureI S2 hr _ (src_zipLT S2 hm hb.sq he)⟩
    · exact hr.elim
  · exact hr.elim
end
end Ab

set_option Elab.async false
set_option linter.all false
set_option autoImplicit false
set_option maxRecDepth 10000
/-! AbExpr: expressions do what the small language says. -/
namespace Ab
open PySem PySem.Spec PyProof.Rows L2

/-- a def's promise by what is reckoned -/
def spOf (K : PySem.W.Frag) (mg : Str → Option Value) (n : Nat) (F : List D → Sto → R D) : Sp := fun vs H Q E => ∃ m st ds, StOk K mg m H st ∧ Dens K mg m H ds vs ∧ ds.length = n ∧ match F ds st with
  | .ok d st' => ∀ m' H' v, Grow m H st m' H' st' → StOk K mg m' H' st' → Den K mg m' H' d v → Q v H'
  | .ex x st' => ∀ m' H' cls d, Grow m H st m' H' st' → StOk K mg m' H' st' → XR K mg m' H' x cls d → E cls d H'
  | .bad => False
/-- built-in names that the text may not give anew -/
def bltNames : List Str := ["len", "all", "any", "sum", "tuple", "list", "int", "abs", "divmod", "min", "max", "bool", "str", "dict", "isinstance", "range", "enumerate", "zip"]

/-- how a call with n positional values and the keywords ks binds -/
def KwB (K : PySem.W.Frag) (fd : FuncData) (ps : List Str) (n : Nat) (ks : List Str) : Prop :=
  ∀ (s : Shared) (us ws as : List Value), K.In s.heap → us.length = n → ws.length = ks.length → optAll (fun p => (ks.zip ws).lookup p) (ps.drop n) = some as → BindsTo s fd ⟨us, ks.zip ws⟩ (ps.zip (us ++ as))
structure Facts (P : Program) (w : World) (K : PySem.W.Frag) (mg : Str → Option Value) (base : Heap) (T : Tab) (G : Gb) (KW : Tx) (k : Nat) : Prop where
  fn : ∀ x F, T x = some F → ∃ f fd, mg x = some (.ref f) ∧ PySem.W.keepIn K (.ref f) = true ∧ Binds K fd F.ps [] ∧ FnOk P w K mg base (L2.CX P w) k f fd F.ps (spOf K mg F.ps.length (callF T G k x)) ∧ ∀ n ks, (x, n, ks) ∈ KW.kw → KwB K fd F.ps n ks
  fs : ∀ x ∈ KW.fs, ∃ F, T x = some F
  blt : ∀ x ∈ bltNames, mg x = none
  imp : ∀ x id, (x, id) ∈ KW.imp → mg x = some (.builtin id)
  glb : ∀ x d, G x = some d → ∃ u v, mg x = some u ∧ RelV v u ∧ ∀ m H, Den K mg m H d v

structure Good (T : Tab) (G : Gb) (KW : Tx) (k : Nat) (X : Cx) (sc raw : Scope) (W : WX) : Prop where
  scope : X.env.scope = sc
  nd : X.N.Nodup
  calm : X.calm = true
  room : Room k X.A
  tk : Takes X W
  facts : Facts X.prog X.w X.K X.mg X.base T G KW k
  fnc : ∀ x, raw.names.lookup x = some .cell → X.fn x = true

section
variable {T : Tab} {G : Gb} {KW : Tx} {k : Nat} {X : Cx} {sc raw : Scope} {W : WX}
theorem Good.hu (g : Good T G KW k X sc raw W) : X.A.units + 64 < cLine := g.room.units
theorem Good.vis (g : Good T G KW k X sc raw W) {x : Str} (h : visB sc x = true) : Vis X.env.scope x := by
  rw [g.scope]
  unfold visB at h
  split at h
  · exact .inl (by assumption)
  · exact .inr (.inl (by assumption))
  · exact .inr (.inr (by assumption))
  · cases h
theorem Good.gl (g : Good T G KW k X sc raw W) {x : Str} (h : glbB sc x = true) : Gl X x ∧ (x == ("__debug__" : Str)) = false ∧ x ≠ "__name__" := by
  unfold glbB at h
  split at h
  · simp only [Bool.and_eq_true, Bool.not_eq_true', decide_eq_true_eq] at h
    refine ⟨?_, h.1, h.2⟩
    show X.env.scope.names.lookup x = _
    rw [g.scope]
    assumption
  · cases h
theorem Good.sto (g : Good T G KW k X sc raw W) {x : Str} (h : stoB sc raw x = true) : Loc X.env.scope x ∧ (X.fn x = true ∨ X.env.scope.names.lookup x = some .local) := by
  rw [g.scope]
  unfold stoB at h
  split at h
  · exact ⟨.inl (by assumption), .inr (by assumption)⟩
  · split at h
    · exact ⟨.inr (by assumption), .inl (g.fnc _ (by assumption))⟩
    · cases h
  · cases h
theorem Good.bltn (g : Good T G KW k X sc raw W) {x : Str} (h : x ∈ bltNames) : X.mg x = none := g.facts.blt x h

/-! ### leaves -/
theorem q_var (g : Good T G KW k X sc raw W) {i : Nat} {x : Str} {pos : Pos} (hN : X.N[i]? = some x) (hv : visB sc x = true) (hd : dunder x = false) : PE X (.Name x pos) (LfE X W (evE T G (callF T G k) (.var i))) := by
  unfold dunder at hd
  simp only [Bool.or_eq_false_iff] at hd
  refine PE.weak (pe_var hN (g.vis hv) hd.1 hd.2) ?_
  rintro σ H Q ⟨m, env, st, S, E, h⟩
  simp only [evE] at h
  split at h
  · rename_i d hd
    obtain ⟨v, h1, h2⟩ := E.2 i d hd
    exact ⟨v, h1, Res.pure S h v h2⟩
  · exact h.elim
theorem q_lit {l : Lit} {e : Expr} {F : Str → List D → Sto → R D} {N : List Str} (hc : chkE N KW sc raw (.lit l) e = true) : PE X e (LfE X W (evE T G F (.lit l))) := by
  unfold chkE at hc
  split at hc
  · refine PE.weak pe_non ?_
    rintro σ H Q ⟨m, env, st, S, E, h⟩
    exact Res.pure S h .non rfl
  · refine PE.weak pe_bl ?_
    rintro σ H Q ⟨m, env, st, S, E, h⟩
    cases (beq_iff_eq.mp hc)
    exact Res.pure S h (.bl _) rfl
  · refine PE.weak pe_int ?_
    rintro σ H Q ⟨m, env, st, S, E, h⟩
    cases (of_decide_eq_true hc)
    exact Res.pure S h (.int _) rfl
  · simp only [Bool.and_eq_true, decide_eq_true_eq] at hc
    obtain ⟨rfl, hx⟩ := hc
    refine PE.weak pe_str ?_
    rintro σ H Q ⟨m, env, st, S, E, h⟩
    exact Res.pure S h (.str _) ⟨rfl, hx⟩
  · cases hc
theorem q_glob (g : Good T G KW k X sc raw W) {x : Str} {pos : Pos} (hg : glbB sc x = true) : PE X (.Name x pos) (LfE X W (evE T G (callF T G k) (.glob x))) := by
  obtain ⟨h1, h2, h3⟩ := g.gl hg
  refine ⟨fun pins s σ H Q I h => ?_⟩
  obtain ⟨m, env, st, S, E, h⟩ := h
  simp only [evE] at h
  cases q : G x with
  | none =>
    rw [q] at h
    exact h.elim
  | some d =>
    rw [q] at h
    obtain ⟨u, v, e1, e2, e3⟩ := g.facts.glb x d q
    exact (pe_glob (v := v) h1 e1 e2 h2).run pins s σ H Q I (Res.pure S h v (e3 m H))

/-! ### operations -/
section
variable {a b c : Expr} {f f' f'' : En → Sto → R D} {pos : Pos}
theorem q_bin {op : Operator} (ho : powOk op = true) (ha : PE X a (LfE X W f)) (hb : PE X b (LfE X W f')) : PE X (.BinOp a op b pos) (LfE X W fun env st => (f env st).bind fun d st1 => (f' env st1).bind fun e st2 => binD op d e st2) := by
  refine PE.weak (pe_op (or_bin ho) ha hb) ?_
  rintro σ H Q ⟨m, env, st, S, E, h⟩
  refine Lf.of S E h fun d m1 H1 st1 x g1 S1 E1 hx h => Lf.of S1 E1 h fun e m2 H2 st2 y g2 S2 E2 hy h => ?_
  exact ⟨m2, st2, d, e, S2, Den.grow S1 g2 hx, hy, Res.ends h plain_bin⟩
theorem q_neg (ha : PE X a (LfE X W f)) : PE X (.UnaryOp .USub a pos) (LfE X W fun env st => (f env st).bind fun d st1 => match d with
    | .int i => .ok (.int (-i)) st1
    | _ => .bad) := by
  refine PE.weak (pe_un un_negD ha) ?_
  rintro σ H Q ⟨m, env, st, S, E, h⟩
  refine Lf.of S E h fun d m1 H1 st1 x g1 S1 E1 hx h => ?_
  exact ⟨m1, st1, d, S1, hx, Res.ends h (by cases d <;> trivial)⟩
theorem q_cmp (hu : X.A.units + 64 < cLine) {op : CmpOp} (hs : isSet b = false) (ha : PE X a (LfE X W f)) (hb : PE X b (LfE X W f')) : PE X (.Compare a [op] [b] pos) (LfE X W fun env st => (f env st).bind fun d st1 => (f' env st1).bind fun e st2 => ofOpt ((cmpD op d e st2).map D.bl) st2) := by
  refine PE.weak (pe_cmpR (or_cmp hu op) ha hb (behind_no hs)) ?_
  rintro σ H Q ⟨m, env, st, S, E, h⟩
  refine Lf.of S E h fun d m1 H1 st1 x g1 S1 E1 hx h => Lf.of S1 E1 h fun e m2 H2 st2 y g2 S2 E2 hy h => ?_
  exact ⟨m2, st2, d, e, S2, Den.grow S1 g2 hx, hy, Res.ends h plain_ofOpt⟩
/-- a bool, by its value -/
theorem asBool_ok {K : PySem.W.Frag} {mg : Str → Option Value} {σ : L2.St} {m : List Addr} {H : Hp} {st : Sto} {d : D} {v : V} {Q : Bool → List Addr → Hp → Sto → Prop} (S : StOk K mg m H st) (hv : Den K mg m H d v) (h : Res K mg W σ m H st (asBool d st) Q) : ∃ k, v = .bl k ∧ d = .bl k ∧ Q k m H st := by
  cases d with
  | bl b => cases hv; exact ⟨b, rfl, rfl, Res.pure S h⟩
  | _ => exact h.elim
/-- a test by what stands there -/
abbrev tst (f : En → Sto → R D) : En → Sto → R Bool := fun env st => (f env st).bind fun d st1 => asBool d st1
theorem qt_val (he : ∀ whole, isTrue a X.env whole = (do let v ← whole; standAt a.pos; holding [v] (truthy v))) (ha : PE X a (LfE X W f)) : PT X a (LfT X W (tst f)) := by
  refine PT.weak (pt_val ha he) ?_
  rintro σ H Q ⟨m, env, st, S, E, h⟩
  refine Lf.of S E h fun d m1 H1 st1 x g1 S1 E1 hx h => ?_
  obtain ⟨k, rfl, rfl, q2⟩ := asBool_ok S1 hx h
  exact ⟨k, rfl, q2 k rfl⟩
theorem qt_cmp (hu : X.A.units + 64 < cLine) {op : CmpOp} (hs : isSet b = false) (ha : PE X a (LfE X W f)) (hb : PE X b (LfE X W f')) : PT X (.Compare a [op] [b] pos) (LfT X W (tst fun env st => (f env st).bind fun d st1 => (f' env st1).bind fun e st2 => ofOpt ((cmpD op d e st2).map D.bl) st2)) := by
  refine PT.weak (pt_cmpR (or_cmp hu op) ha hb (behind_no hs)) ?_
  rintro σ H Q ⟨m, env, st, S, E, h⟩
  have h := h.bind
  refine Lf.of S E h fun d m1 H1 st1 x g1 S1 E1 hx h => Lf.of S1 E1 h fun e m2 H2 st2 y g2 S2 E2 hy h => ?_
  refine ⟨m2, st2, d, e, S2, Den.grow S1 g2 hx, hy, ?_⟩
  refine Res.ends (h.imp fun d' m3 H3 st3 g3 S3 q v hv => ?_) plain_ofOpt
  obtain ⟨kk, rfl, rfl, q2⟩ := asBool_ok S3 hv q
  exact ⟨kk, rfl, q2 kk rfl⟩
/-- what a chain's second link asks -/
theorem chain_in {K : PySem.W.Frag} {mg : Str → Option Value} {σ : L2.St} {m : List Addr} {H : Hp} {st : Sto} {α : Type} {o : CmpOp} {d e : D} {kk : Bool → Sto → R α} {P : V → Hp → Prop} {Q : α → List Addr → Hp → Sto → Prop} (S : StOk K mg m H st) (h : Res K mg W σ m H st ((ofOpt (cmpD o d e st) st).bind kk) Q)
    (nx : ∀ b m' H', Grow m H st m' H' st → StOk K mg m' H' st → Res K mg W σ m' H' st (kk b st) Q → P (.bl b) H') : Ends1 K mg m H st (cmpE o d e st) P := by
  unfold cmpE
  cases q : cmpD o d e st with
  | none =>
    rw [q] at h
    exact h.elim
  | some b =>
    rw [q] at h
    have h := h.bind
    refine ⟨.bl b, st, rfl, fun m' H' v g' S' hv => ?_⟩
    cases hv
    exact nx b m' H' g' S' (h m' H' g' S')
abbrev chn (o1 o2 : CmpOp) (f f' f'' : En → Sto → R D) : En → Sto → R D := fun env st => (f env st).bind fun d st1 => (f' env st1).bind fun e st2 => (ofOpt (cmpD o1 d e st2) st2).bind fun k st3 =>
      if k = true then (f'' env st3).bind fun h st4 => ofOpt ((cmpD o2 e h st4).map D.bl) st4 else .ok (.bl false) st3
theorem last_no {o1 o2 : CmpOp} {x y : Expr} (h : isSet y = false) : lastMarks [o1, o2] [x, y] = false := behind_no (op := o2) h
theorem q_chain (hu : X.A.units + 64 < cLine) {o1 o2 : CmpOp} (hs : isSet c = false) (ha : PE X a (LfE X W f)) (hb : PE X b (LfE X W f')) (hc : PE X c (LfE X W f'')) : PE X (.Compare a [o1, o2] [b, c] pos) (LfE X W (chn o1 o2 f f' f'')) := by
  refine PE.weak (pe_chain (or_cmp hu o1) (or_cmp hu o2) ha hb hc (last_no hs)) ?_
  rintro σ H Q ⟨m, env, st, S, E, h⟩
  refine Lf.of S E h fun d m1 H1 st1 x g1 S1 E1 hx h => Lf.of S1 E1 h fun e m2 H2 st2 y g2 S2 E2 hy h => ?_
  refine ⟨m2, st2, d, e, S2, Den.grow S1 g2 hx, hy, chain_in S2 h fun b m3 H3 g3 S3 h => ⟨b, rfl, ?_⟩⟩
  cases b with
  | false => exact Res.pure S3 h _ rfl
  | true =>
    refine Lf.of S3 (E2.grow S2 g3) h fun z m4 H4 st4 u g4 S4 E4 hz h => ?_
    exact ⟨m4, st4, e, z, S4, Den.grow S3 g4 (Den.grow S2 g3 hy), hz, Res.ends h plain_ofOpt⟩
theorem qt_chain (hu : X.A.units + 64 < cLine) {o1 o2 : CmpOp} (hs : isSet c = false) (ha : PE X a (LfE X W f)) (hb : PE X b (LfE X W f')) (hc : PE X c (LfE X W f'')) : PT X (.Compare a [o1, o2] [b, c] pos) (LfT X W (tst (chn o1 o2 f f' f''))) := by
  refine PT.weak (pt_chain (or_cmp hu o1) (or_cmp hu o2) ha hb hc (last_no hs)) ?_
  rintro σ H Q ⟨m, env, st, S, E, h⟩
  have h := h.bind
  refine Lf.of S E h fun d m1 H1 st1 x g1 S1 E1 hx h => Lf.of S1 E1 h fun e m2 H2 st2 y g2 S2 E2 hy h => ?_
  refine ⟨m2, st2, d, e, S2, Den.grow S1 g2 hx, hy, chain_in S2 h fun b m3 H3 g3 S3 h => ⟨b, rfl, ?_⟩⟩
  cases b with
  | false =>
    obtain ⟨kk, e1, e2, q2⟩ := asBool_ok (d := .bl false) (v := .bl false) S3 (show Den X.K X.mg m3 H3 (.bl false) (.bl false) from rfl) (Res.pure S3 h)
    cases e2
    exact ⟨false, rfl, q2 _ rfl⟩
  | true =>
    refine Lf.of S3 (E2.grow S2 g3) h fun z m4 H4 st4 u g4 S4 E4 hz h => ?_
    refine ⟨m4, st4, e, z, S4, Den.grow S3 g4 (Den.grow S2 g3 hy), hz, ?_⟩
    refine Res.ends (h.imp fun d' m5 H5 st5 g5 S5 q v hv => ?_) plain_ofOpt
    obtain ⟨kk, rfl, rfl, q2⟩ := asBool_ok S5 hv q
    exact ⟨kk, rfl, q2 kk rfl⟩

/-! ### and, or, not, if -/
abbrev andE (f f' : En → Sto → R D) : En → Sto → R D := fun env st => (f env st).bind fun d st1 => (asBool d st1).bind fun k st2 => if k = true then f' env st2 else .ok (.bl false) st2
abbrev orE (f f' : En → Sto → R D) : En → Sto → R D := fun env st => (f env st).bind fun d st1 => (asBool d st1).bind fun k st2 => if k = true then .ok (.bl true) st2 else f' env st2
abbrev notE (f : En → Sto → R D) : En → Sto → R D := fun env st => (f env st).bind fun d st1 => (asBool d st1).bind fun k st2 => .ok (.bl (!k)) st2
abbrev ifeE (c f f' : En → Sto → R D) : En → Sto → R D := fun env st => (c env st).bind fun d st1 => (asBool d st1).bind fun k st2 => if k = true then f env st2 else f' env st2
theorem q_one {op : BoolOp} (ha : PE X a (LfE X W f)) : PE X (.BoolOp op [a] pos) (LfE X W f) := pe_one ha
theorem q_and {rest : List Expr} (ha : PE X a (LfE X W f)) (hb : PE X (.BoolOp .And (b :: rest) pos) (LfE X W f')) : PE X (.BoolOp .And (a :: b :: rest) pos) (LfE X W (andE f f')) := by
  refine PE.weak (pe_and ha hb) ?_
  rintro σ H Q ⟨m, env, st, S, E, h⟩
  refine Lf.of S E h fun d m1 H1 st1 x g1 S1 E1 hx h => ?_
  obtain ⟨k, rfl, rfl, h2⟩ := asBool_ok S1 hx h.bind
  refine ⟨k, rfl, ?_⟩
  cases k with
  | true => exact ⟨m1, env, st1, S1, E1, h2⟩
  | false => exact Res.pure S1 h2 _ rfl
theorem q_or {rest : List Expr} (ha : PE X a (LfE X W f)) (hb : PE X (.BoolOp .Or (b :: rest) pos) (LfE X W f')) : PE X (.BoolOp .Or (a :: b :: rest) pos) (LfE X W (orE f f')) := by
  refine PE.weak (pe_or ha hb) ?_
  rintro σ H Q ⟨m, env, st, S, E, h⟩
  refine Lf.of S E h fun d m1 H1 st1 x g1 S1 E1 hx h => ?_
  obtain ⟨k, rfl, rfl, h2⟩ := asBool_ok S1 hx h.bind
  refine ⟨k, rfl, ?_⟩
  cases k with
  | false => exact ⟨m1, env, st1, S1, E1, h2⟩
  | true => exact Res.pure S1 h2 _ rfl
theorem q_not (ha : PE X a (LfE X W f)) : PE X (.UnaryOp .Not a pos) (LfE X W (notE f)) := by
  refine PE.weak (pe_not ha) ?_
  rintro σ H Q ⟨m, env, st, S, E, h⟩
  refine Lf.of S E h fun d m1 H1 st1 x g1 S1 E1 hx h => ?_
  obtain ⟨k, rfl, rfl, h2⟩ := asBool_ok S1 hx h.bind
  exact ⟨k, rfl, Res.pure S1 h2 _ rfl⟩
/-- tests -/
theorem tst_bind {f : En → Sto → R D} {env : En} {st : Sto} {α : Type} {kk : Bool → Sto → R α} : (tst f env st).bind kk = (f env st).bind fun d st1 => (asBool d st1).bind kk := by
  show ((f env st).bind _).bind _ = _
  cases f env st <;> rfl
theorem tst_ife {c f f' : En → Sto → R D} {env : En} {st : Sto} : ifeE c f f' env st = (tst c env st).bind fun k st2 => if k = true then f env st2 else f' env st2 := by
  rw [tst_bind]
theorem q_ife {t : Expr} {c : En → Sto → R D} (hc : PT X t (LfT X W (tst c))) (ha : PE X a (LfE X W f)) (hb : PE X b (LfE X W f')) : PE X (.IfExp t a b pos) (LfE X W (ifeE c f f')) := by
  refine PE.weak (pe_ifExp hc ha hb) ?_
  rintro σ H Q ⟨m, env, st, S, E, h⟩
  rw [tst_ife] at h
  refine Lf.of S E h fun k m1 H1 st1 b g1 S1 E1 hb h => ?_
  subst hb
  cases b with
  | true => exact ⟨m1, env, st1, S1, E1, h⟩
  | false => exact ⟨m1, env, st1, S1, E1, h⟩
theorem asBool_bl {k : Bool} {st : Sto} : asBool (.bl k) st = .ok k st := rfl
theorem tst_and {f f' : En → Sto → R D} {env : En} {st : Sto} : tst (andE f f') env st = (tst f env st).bind fun k st1 => if k = true then tst f' env st1 else .ok false st1 := by
  rw [tst_bind]
  show ((f env st).bind _).bind _ = _
  cases f env st with
  | ok d st1 =>
    show ((asBool d st1).bind _).bind _ = (asBool d st1).bind _
    cases asBool d st1 with
    | ok k st2 => cases k <;> rfl
    | ex x st2 => rfl
    | bad => rfl
  | ex x st1 => rfl
  | bad => rfl
theorem tst_or {f f' : En → Sto → R D} {env : En} {st : Sto} : tst (orE f f') env st = (tst f env st).bind fun k st1 => if k = true then .ok true st1 else tst f' env st1 := by
  rw [tst_bind]
  show ((f env st).bind _).bind _ = _
  cases f env st with
  | ok d st1 =>
    show ((asBool d st1).bind _).bind _ = (asBool d st1).bind _
    cases asBool d st1 with
    | ok k st2 => cases k <;> rfl
    | ex x st2 => rfl
    | bad => rfl
  | ex x st1 => rfl
  | bad => rfl
theorem tst_not {f : En → Sto → R D} {env : En} {st : Sto} : tst (notE f) env st = (tst f env st).bind fun k st1 => .ok (!k) st1 := by
  rw [tst_bind]
  show ((f env st).bind _).bind _ = _
  cases f env st with
  | ok d st1 =>
    show ((asBool d st1).bind _).bind _ = (asBool d st1).bind _
    cases asBool d st1 <;> rfl
  | ex x st1 => rfl
  | bad => rfl
theorem qw_and1 (ha : PT X a (LfT X W (tst f))) : PW X (.BoolOp .And [a] pos) (LfT X W (tst f)) := pw_and1 ha
theorem qw_or1 (ha : PT X a (LfT X W (tst f))) : PW X (.BoolOp .Or [a] pos) (LfT X W (tst f)) := pw_or1 ha
theorem qw_and {rest : List Expr} (ha : PT X a (LfT X W (tst f))) (hb : PW X (.BoolOp .And (b :: rest) pos) (LfT X W (tst f'))) : PW X (.BoolOp .And (a :: b :: rest) pos) (LfT X W (tst (andE f f'))) := by
  refine PW.weak (pw_and ha hb) ?_
  rintro σ H Q ⟨m, env, st, S, E, h⟩
  rw [tst_and] at h
  refine Lf.of S E h fun k m1 H1 st1 c g1 S1 E1 hc h => ?_
  subst hc
  cases c with
  | true => exact ⟨m1, env, st1, S1, E1, h⟩
  | false => exact Res.pure S1 h _ rfl
theorem qw_or {rest : List Expr} (ha : PT X a (LfT X W (tst f))) (hb : PW X (.BoolOp .Or (b :: rest) pos) (LfT X W (tst f'))) : PW X (.BoolOp .Or (a :: b :: rest) pos) (LfT X W (tst (orE f f'))) := by
  refine PW.weak (pw_or ha hb) ?_
  rintro σ H Q ⟨m, env, st, S, E, h⟩
  rw [tst_or] at h
  refine Lf.of S E h fun k m1 H1 st1 c g1 S1 E1 hc h => ?_
  subst hc
  cases c with
  | false => exact ⟨m1, env, st1, S1, E1, h⟩
  | true => exact Res.pure S1 h _ rfl
theorem qt_not (ha : PT X a (LfT X W (tst f))) : PT X (.UnaryOp .Not a pos) (LfT X W (tst (notE f))) := by
  refine PT.weak (pt_not ha) ?_
  rintro σ H Q ⟨m, env, st, S, E, h⟩
  rw [tst_not] at h
  refine Lf.of S E h fun k m1 H1 st1 c g1 S1 E1 hc h => ?_
  subst hc
  exact Res.pure S1 h _ rfl

/-! ### displays, subscripts -/
variable {g : En → Sto → R (List D)} {es : List Expr}
theorem q_tup {n : Nat} (h : PA X es (LfA X W g)) : PE X (.Tuple es n pos) (LfE X W fun env st => (g env st).bind fun ds st1 => if ds.length ≤ sizeLine then .ok (.tup ds) st1 else .bad) := by
  refine PE.weak (pe_tupB h) ?_
  rintro σ H Q ⟨m, env, st, S, E, h⟩
  refine Lf.of S E h fun ds m1 H1 st1 xs g1 S1 E1 hx h => ?_
  by_cases hz : ds.length ≤ sizeLine
  · rw [if_pos hz] at h
    exact ⟨by rw [← hx.length]; exact hz, ends_tup S1 hx (Res.ends h trivial)⟩
  · rw [if_neg hz] at h
    exact h.elim
theorem q_lst (h : PA X es (LfA X W g)) : PE X (.List es pos) (LfE X W fun env st => (g env st).bind fun ds st1 => if ds.length ≤ sizeLine then alloc (.lst false ds) st1 else .bad) := by
  refine PE.weak (pe_lst h) ?_
  rintro σ H Q ⟨m, env, st, S, E, h⟩
  refine Lf.of S E h fun ds m1 H1 st1 xs g1 S1 E1 hx h => ?_
  by_cases hz : ds.length ≤ sizeLine
  · rw [if_pos hz] at h
    exact ⟨by rw [← hx.length]; exact hz, ends_lst S1 hx (Res.ends h trivial)⟩
  · rw [if_neg hz] at h
    exact h.elim
theorem q_dnew : PE X (.Dict [] [] pos) (LfE X W fun _ st => alloc (.dct []) st) := by
  refine PE.weak pe_dnewK ?_
  rintro σ H Q ⟨m, env, st, S, E, h⟩ p hp
  obtain ⟨S1, g1, e1⟩ := S.allocK hp
  obtain ⟨d', st', e, q⟩ := Res.ends h trivial
  cases e
  exact q _ _ (.ref p) g1 S1 ⟨p, e1, rfl⟩
theorem q_rev {k : Nat} {p1 p2 p3 : Pos} (ha : PE X a (LfE X W f)) : PE X (.Subscript a (.Slice none none (some (.UnaryOp .USub (.Constant (.int 1) k p1) p2)) p3) pos) (LfE X W fun env st => (f env st).bind fun d st1 => op1D .rev d st1) := by
  refine PE.weak (pe_revB ha) ?_
  rintro σ H Q ⟨m, env, st, S, E, h⟩
  refine Lf.of S E h fun d m1 H1 st1 x g1 S1 E1 hx h => ?_
  have h := Res.ends h plain_op1
  cases d with
  | tup ds =>
    obtain ⟨a, vs, rfl, ha, hds⟩ := den_tup hx
    exact ⟨a, vs, rfl, .inr ⟨ha.sq, ends_tup S1 (dens_rev hds) h⟩⟩
  | ref l =>
    have h : Ends1 X.K X.mg m1 H1 st1 (match st1[l]? with
      | some (.lst _ ds) => alloc (.lst false ds.reverse) st1
      | _ => .bad) Q := h
    split at h
    · rename_i ds hl
      obtain ⟨a, vs, rfl, _, ha, hds, _⟩ := den_lst S1 hx hl
      exact ⟨a, vs, rfl, .inl ⟨ha, ends_lst S1 (dens_rev hds) h⟩⟩
    · exact (ends_bad h).elim
  | _ => exact (ends_bad h).elim
theorem q_trg (hc : X.calm = true) (hg : Gl X "tuple") (hm : X.mg "tuple" = none) (hg2 : Gl X "range") (hm2 : X.mg "range" = none) {p q pos2 : Pos} (hs : isStar a = false) (ha : PE X a (LfE X W f)) :
    PE X (.Call (.Name "tuple" p) [.Call (.Name "range" q) [a] [] pos2] [] pos) (LfE X W fun env st => (f env st).bind fun d st1 => op1D .trg d st1) := by
  refine PE.weak (pe_tupRgB hc hg hm (prg_1 hg2 hm2 ha (star_cons hs)) (star_cons rfl)) ?_
  rintro σ H Q ⟨m, env, st, S, E, h⟩
  refine Lf.of S E h fun d m1 H1 st1 x g1 S1 E1 hx h => ?_
  have h := Res.ends h plain_op1
  cases d with
  | int j =>
    cases hx
    have h : Ends1 X.K X.mg m1 H1 st1 (if -(2 ^ 62) ≤ j ∧ j ≤ 16777216 then .ok (.tup (rangeL 0 j.toNat)) st1 else .bad) Q := h
    split at h
    · rename_i hz
      refine ⟨j, rfl, ⟨by omega, by omega, by omega, by omega, by omega⟩, ends_tup S1 ?_ h⟩
      have e : rgV 0 j = (List.range j.toNat).map fun i => V.int (0 + (i : Nat)) := by
        unfold rgV
        rw [Int.sub_zero]
      rw [e]
      unfold rangeL
      exact dens_maps (fun k : Nat => D.int (0 + (k : Int))) (fun k : Nat => V.int (0 + (k : Int))) (fun n => rfl) _
    · exact (ends_bad h).elim
  | _ => exact (ends_bad h).elim
theorem q_sub (hu : X.A.units + 64 < cLine) (hs : isSlice b = false) (ha : PE X a (LfE X W f)) (hb : PE X b (LfE X W f')) : PE X (.Subscript a b pos) (LfE X W fun env st => (f env st).bind fun d st1 => (f' env st1).bind fun k st2 => subD d k st2) := by
  refine PE.weak (pe_ix (ix_d hu) ha hb (plain_ix hs)) ?_
  rintro σ H Q ⟨m, env, st, S, E, h⟩
  refine Lf.of S E h fun d m1 H1 st1 x g1 S1 E1 hx h => Lf.of S1 E1 h fun e m2 H2 st2 y g2 S2 E2 hy h => ?_
  exact ⟨m2, st2, d, e, S2, Den.grow S1 g2 hx, hy, Res.ends h plain_sub⟩
theorem q_slc {lo hi : Option Expr} {p2 : Pos} {l h' : En → Sto → R (Option Int)} (ha : PE X a (LfE X W f)) (hl : PO X lo (LfP X W l)) (hh : PO X hi (LfP X W h')) : PE X (.Subscript a (.Slice lo hi none p2) pos) (LfE X W fun env st => (f env st).bind fun d st1 => (l env st1).bind fun u st2 => (h' env st2).bind fun v st3 => slcD d u v st3) := by
  refine PE.weak (pe_slice sl_d ha hl hh) ?_
  rintro σ H Q ⟨m, env, st, S, E, h⟩
  refine Lf.of S E h fun d m1 H1 st1 x g1 S1 E1 hx h => Lf.of S1 E1 h fun e m2 H2 st2 y g2 S2 E2 hy h => Lf.of S2 E2 h fun e' m3 H3 st3 y' g3 S3 E3 hy' h => ?_
  subst hy
  subst hy'
  exact ⟨m3, st3, d, S3, Den.grow S2 g3 (Den.grow S1 g2 hx), Res.ends h plain_slc⟩
theorem q_part (ha : PE X a (LfE X W f)) : PO X (some a) (LfP X W fun env st => (f env st).bind fun d st1 => asPart d st1) := by
  refine PO.weak (po_some ha) ?_
  rintro σ H Q ⟨m, env, st, S, E, h⟩
  refine Lf.of S E h fun d m1 H1 st1 x g1 S1 E1 hx h => ?_
  cases d with
  | int i => cases hx; exact ⟨i, rfl, Res.pure S1 h _ rfl⟩
  | _ => exact h.elim
theorem q_nopart : PO X none (LfP X W fun _ st => .ok none st) := by
  refine PO.weak po_none ?_
  rintro σ H Q ⟨m, env, st, S, E, h⟩
  exact Res.pure S h _ rfl
theorem qa_nil : PA X [] (LfA X W fun _ st => .ok [] st) := by
  refine PA.weak pa_nil ?_
  rintro σ H Q ⟨m, env, st, S, E, h⟩
  exact Res.pure S h [] rfl
theorem qa_cons (hs : isStar a = false) (ha : PE X a (LfE X W f)) (hr : PA X es (LfA X W g)) : PA X (a :: es) (LfA X W fun env st => (f env st).bind fun d st1 => (g env st1).bind fun ds st2 => .ok (d :: ds) st2) := by
  refine PA.weak (pa_cons ha hr (star_cons hs)) ?_
  rintro σ H Q ⟨m, env, st, S, E, h⟩
  refine Lf.of S E h fun d m1 H1 st1 x g1 S1 E1 hx h => Lf.of S1 E1 h fun ds m2 H2 st2 xs g2 S2 E2 hy h => ?_
  exact Res.pure S2 h (x :: xs) ⟨x, xs, rfl, Den.grow S1 g2 hx, hy⟩
end
end
end Ab

set_option Elab.async false
set_option linter.all false
set_option autoImplicit false
set_option maxRecDepth 10000
/-! AbExpr2: calls, comprehensions, targets. -/
namespace Ab
open PySem PySem.Spec PyProof.Rows L2

section
variable {T : Tab} {G : Gb} {KW : Tx} {k : Nat} {X : Cx} {sc raw : Scope} {W : WX}

/-! ### calls of the text's own defs -/
theorem nostar_any {pos : Pos} {env : Env} : ∀ {es : List Expr}, es.all (fun e => !isStar e) = true → (backTo pos (starEach es env)).any (·.1) = false
  | [], _ => rfl
  | e :: es, h => by
    simp only [List.all_cons, Bool.and_eq_true, Bool.not_eq_true'] at h
    rw [star_cons h.1]
    show (false || (backTo pos (starEach es env)).any (·.1)) = false
    rw [nostar_any (by simpa using h.2)]
    rfl
theorem chkEs_nostar {N : List Str} : ∀ {cs : CEs} {es : List Expr}, chkEs N KW sc raw cs es = true → es.all (fun e => !isStar e) = true
  | .nil, [], _ => rfl
  | .nil, _ :: _, h => by simp [chkEs] at h
  | .cons c cs, [], h => by simp [chkEs] at h
  | .cons c cs, e :: es, h => by
    simp only [chkEs, Bool.and_eq_true] at h
    simp [h.1.1, chkEs_nostar h.2]
theorem pe_callS0 {CX : CXT} {j : Nat} {f : Addr} {fd : FuncData} {ps : List Str} {sp : Sp} {E : L2.St → XK} {x : Str} {p pos : Pos} (F : FnOk X.prog X.w X.K X.mg X.base CX j f fd ps sp) (hr : Room j X.A) (hg : Gl X x) (hm : X.mg x = some (.ref f)) (hk : PySem.W.keepIn X.K (.ref f) = true) (hb : Binds X.K fd ps []) (hx : ∀ σ, PassesAt CX X σ (E σ))
    (hdb : (x == ("__debug__" : Str)) = false) : PE X (.Call (.Name x p) [] [] pos) (tCallS sp E tNil) := by
  refine ⟨fun pins s σ H Q I h => ?_⟩
  refine wpAny_Call_Name_kw (ld_glob I hg hm ?_ hdb)
  exact PySem.W.callWith_K0 I.kIn hk (run_fnS (us := []) F hr hb (hx σ) I .nil h)
theorem spOf_of {n : Nat} {F : List D → Sto → R D} {σ : L2.St} {m : List Addr} {H : Hp} {st : Sto} {ds : List D} {xs : List V} {Q : VK} (S : StOk X.K X.mg m H st) (hx : Dens X.K X.mg m H ds xs) (hn : ds.length = n)
    (h : Res X.K X.mg W σ m H st (F ds st) (fun d m' H' _ => ∀ v, Den X.K X.mg m' H' d v → Q v H')) : spOf X.K X.mg n F xs H Q (WE W σ) := by
  refine ⟨m, st, ds, S, hx, hn, ?_⟩
  cases q : F ds st with
  | ok d st1 =>
    rw [q] at h
    exact fun m' H' v g S' hv => h m' H' g S' v hv
  | ex x st1 =>
    rw [q] at h
    exact fun m' H' cls d g S' hx => h m' H' cls d g S' hx
  | bad =>
    rw [q] at h
    exact h
theorem q_call0 (g : Good T G KW k X sc raw W) {f : Str} {p pos : Pos} (hf : f ∈ KW.fs) (hg : glbB sc f = true) :
    PE X (.Call (.Name f p) [] [] pos) (LfE X W fun _ st => callF T G k f [] st) := by
  obtain ⟨h1, h2, _⟩ := g.gl hg
  obtain ⟨fn, q⟩ := g.facts.fs f hf
  obtain ⟨a, fd, e1, e2, e3, e4, _⟩ := g.facts.fn f fn q
  refine PE.weak (pe_callS0 e4 g.room h1 e1 e2 e3 (fun σ => passAt g.tk σ) h2) ?_
  rintro σ H Q ⟨m, env, st, S, E, h⟩
  by_cases hl : ([] : List D).length = fn.ps.length
  · exact spOf_of (ds := []) S rfl hl h
  · have h : Res X.K X.mg W σ m H st (callF T G k f [] st) (fun a m' H' _ => ∀ b, Den X.K X.mg m' H' a b → Q b H') := h
    rw [callF_len q hl] at h
    exact h.elim
theorem q_call (g : Good T G KW k X sc raw W) {f : Str} {p pos : Pos} {e : Expr} {es : List Expr} {ev : En → Sto → R (List D)} (hf : f ∈ KW.fs) (hg : glbB sc f = true) (hs : (e :: es).all (fun e => !isStar e) = true) (ha : PA X (e :: es) (LfA X W ev)) :
    PE X (.Call (.Name f p) (e :: es) [] pos) (LfE X W fun env st => (ev env st).bind fun ds st1 => callF T G k f ds st1) := by
  obtain ⟨h1, h2, _⟩ := g.gl hg
  obtain ⟨fn, q⟩ := g.facts.fs f hf
  obtain ⟨a, fd, e1, e2, e3, e4, _⟩ := g.facts.fn f fn q
  simp only [List.all_cons, Bool.and_eq_true, Bool.not_eq_true'] at hs
  refine PE.weak (pe_callS e4 g.room h1 e1 e2 e3 (fun σ => passAt g.tk σ) ha h2 (star_cons hs.1) (nostar_any (by simpa using hs.2))) ?_
  rintro σ H Q ⟨m, env, st, S, E, h⟩
  refine Lf.of S E h fun ds m1 H1 st1 xs g1 S1 E1 hx h => ?_
  by_cases hl : ds.length = fn.ps.length
  · exact spOf_of S1 hx hl h
  · rw [callF_len q hl] at h
    exact h.elim

/-! ### calls with keywords -/
theorem kw_all {kws : List Keyword} {ks : List Str} {pos : Pos} {env : Env} (h : kws.map (·.arg) = ks.map some) :
    (backToKw pos (keywordEach kws env)).all (·.1.isSome) = true ∧ (backToKw pos (keywordEach kws env)).filterMap (·.1) = ks ∧ (backToKw pos (keywordEach kws env)).any (·.1.isNone) = false := by
  induction kws generalizing ks with
  | nil =>
    cases ks with
    | nil => exact ⟨rfl, rfl, rfl⟩
    | cons a b => cases h
  | cons kw kws ih =>
    cases ks with
    | nil => cases h
    | cons a b =>
      obtain ⟨nm, val, p⟩ := kw
      simp only [List.map_cons, List.cons.injEq] at h
      obtain ⟨h1, h2⟩ := h
      have h1 : nm = some a := h1
      subst h1
      obtain ⟨i1, i2, i3⟩ := ih h2
      refine ⟨?_, ?_, ?_⟩
      · show (true && (backToKw pos (keywordEach kws env)).all (·.1.isSome)) = true
        rw [i1]
        rfl
      · show a :: (backToKw pos (keywordEach kws env)).filterMap (·.1) = a :: b
        rw [i2]
      · show (false || (backToKw pos (keywordEach kws env)).any (·.1.isNone)) = false
        rw [i3]
        rfl
section
variable {e : Expr} {kws : List Keyword} {f : En → Sto → R D} {g : En → Sto → R (List D)}
theorem qk_nil : PK X [] (LfA X W fun _ st => .ok [] st) := by
  refine PK.weak pk_nil ?_
  rintro σ H Q ⟨m, env, st, S, E, h⟩
  exact Res.pure S h [] rfl
theorem qk_cons {nm : Option Str} {p : Pos} (ha : PE X e (LfE X W f)) (hr : PK X kws (LfA X W g)) : PK X (⟨nm, e, p⟩ :: kws) (LfA X W fun env st => (f env st).bind fun d st1 => (g env st1).bind fun ds st2 => .ok (d :: ds) st2) := by
  refine PK.weak (pk_cons ha hr) ?_
  rintro σ H Q ⟨m, env, st, S, E, h⟩
  refine Lf.of S E h fun d m1 H1 st1 x g1 S1 E1 hx h => Lf.of S1 E1 h fun ds m2 H2 st2 xs g2 S2 E2 hy h => ?_
  exact Res.pure S2 h (x :: xs) ⟨x, xs, rfl, Den.grow S1 g2 hx, hy⟩
end
def tCallKS (n j : Nat) (sp : Sp) (gV : List V → List V → List V) (E : L2.St → XK) (t tk : TA) : TE := fun σ H Q => t σ H fun vs H1 => tk σ H1 fun zs H2 => vs.length = n ∧ zs.length = j ∧ sp (gV vs zs) H2 Q (E σ)
section
variable {CX : CXT} {j n : Nat} {f : Addr} {fd : FuncData} {ps ks : List Str} {sp : Sp} {E : L2.St → XK} {x : Str} {p pos : Pos} {es : List Expr} {kws : List Keyword} {t tk : TA} {gV : List V → List V → List V}
/-- values by keywords -/
def lookV (ps ks : List Str) (n : Nat) (vs zs : List V) : Option (List V) := (optAll (fun p => (ks.zip zs).lookup p) (ps.drop n)).map (vs ++ ·)
theorem look_rel : ∀ {ks : List Str} {zs : List V} {ws : List Value} {p : Str} {z : V}, Vals zs ws → (ks.zip zs).lookup p = some z → ∃ u, (ks.zip ws).lookup p = some u ∧ RelV z u
  | [], _, _, _, _, _, h => by simp at h
  | _ :: _, _, _, _, _, .nil, h => by simp at h
  | a :: ks, _, _, p, z, .cons r rr, h => by
    simp only [List.zip_cons_cons, List.lookup_cons] at h ⊢
    cases q : p == a with
    | true =>
      rw [q] at h
      simp only [Option.some.injEq] at h
      subst h
      exact ⟨_, rfl, r⟩
    | false =>
      rw [q] at h
      exact look_rel rr h
theorem look_all {ks : List Str} {zs : List V} {ws : List Value} (r : Vals zs ws) : ∀ {ps : List Str} {as : List V}, optAll (fun p => (ks.zip zs).lookup p) ps = some as → ∃ us, optAll (fun p => (ks.zip ws).lookup p) ps = some us ∧ Vals as us
  | [], as, h => by
    cases h
    exact ⟨[], rfl, .nil⟩
  | p :: ps, as, h => by
    unfold optAll at h
    split at h
    · rename_i y ys e1 e2
      cases h
      obtain ⟨u, h1, h2⟩ := look_rel r e1
      obtain ⟨us, h3, h4⟩ := look_all r e2
      refine ⟨u :: us, ?_, .cons h2 h4⟩
      unfold optAll
      rw [h1, h3]
    · cases h
theorem run_fnKS {pins : List (Addr × Obj)} {σ : L2.St} {H : Hp} {s : Shared} {Q : VK} {us ws : List Value} {vs zs as : List V} (F : FnOk X.prog X.w X.K X.mg X.base CX j f fd ps sp) (hr : Room j X.A) (hb : KwB X.K fd ps n ks) (hx : PassesAt CX X σ (E σ))
    (I : Inv X pins σ H s) (r : Vals vs us) (rz : Vals zs ws) (l1 : vs.length = n) (l2 : zs.length = ks.length) (ha : optAll (fun p => (ks.zip zs).lookup p) (ps.drop n) = some as) (h : sp (vs ++ as) H Q (E σ)) : wpAny (model X.prog X.w) X.A (call (.ref f) us (ks.zip ws)) (EP X pins σ Q) X.xe s := by
  obtain ⟨bs, h1, h2⟩ := look_all rz ha
  refine wpAny_call (codeAny_mono (F.run X.A X.stack s H ⟨us, ks.zip ws⟩ (us ++ bs) (vs ++ as) Q (E σ) hr I.env0 (hb s us ws bs I.kIn (r.length.symm.trans l1) (rz.length.symm.trans l2) h1) (r.append h2) h) fun r s' hq => ?_)
  cases r with
  | error e => exact hx pins H s e s' I hq
  | ok fl =>
    cases fl with
    | ret u => exact I.after hq
    | next => exact False.elim hq
    | brk => exact False.elim hq
    | cont => exact False.elim hq
def tKw (n : Nat) (ps ks : List Str) (sp : Sp) (E : L2.St → XK) (t tk : TA) : TE := fun σ H Q => t σ H fun vs H1 => tk σ H1 fun zs H2 => vs.length = n ∧ zs.length = ks.length ∧ ∃ as, optAll (fun p => (ks.zip zs).lookup p) (ps.drop n) = some as ∧ sp (vs ++ as) H2 Q (E σ)
theorem pe_callKS (F : FnOk X.prog X.w X.K X.mg X.base CX j f fd ps sp) (hr : Room j X.A) (hg : Gl X x) (hm : X.mg x = some (.ref f)) (hk : PySem.W.keepIn X.K (.ref f) = true) (hb : KwB X.K fd ps n ks) (hx : ∀ σ, PassesAt CX X σ (E σ))
    (ha : PA X es t) (hkw : PK X kws tk) (hs : es.all (fun e => !isStar e) = true) (hks : kws.map (·.arg) = ks.map some) (hdb : (x == ("__debug__" : Str)) = false) (h0 : ∀ σ H Q, es = [] → t σ H Q → Q [] H) : PE X (.Call (.Name x p) es kws pos) (tKw n ps ks sp E t tk) := by
  obtain ⟨k1, k2, k3⟩ := kw_all (pos := pos) (env := X.env) hks
  refine ⟨fun pins s σ H Q I h => ?_⟩
  refine wpAny_Call_Name_kw (ld_glob I hg hm ?_ hdb)
  cases es with
  | nil =>
    have h := h0 σ H _ rfl h
    refine PySem.W.callWith_KW0 (h₀ := X.base) I.ok.mod.kin hk k1 (thn (hkw.run pos pins s σ H _ I h) fun ws s2 ⟨zs, H2, I2, rz, l1, l2, as, ha, q2⟩ => ⟨I2.kIn, ?_⟩) (by rw [k3]; rfl)
    rw [k2]
    exact run_fnKS F hr hb (hx σ) I2 .nil rz l1 l2 ha q2
  | cons e es =>
    have hs0 := nostar_any (pos := pos) (env := X.env) hs
    simp only [List.all_cons, Bool.and_eq_true, Bool.not_eq_true'] at hs
    refine PySem.W.callWith_KW (h₀ := X.base) I.ok.mod.kin hk k1 (thn (ha.run pos pins s σ H _ I h) fun us s1 ⟨vs, H1, I1, r, q⟩ => ?_) (by rw [k3, hs0]; rfl) (star_cons hs.1)
    refine thn (hkw.run pos pins s1 σ H1 _ I1 q) fun ws s2 ⟨zs, H2, I2, rz, l1, l2, as, ha, q2⟩ => ⟨I2.kIn, ?_⟩
    rw [k2]
    exact run_fnKS F hr hb (hx σ) I2 r rz l1 l2 ha q2
end
theorem lookD_rel {m : List Addr} {H : Hp} : ∀ {ks : List Str} {ds : List D} {zs : List V} {p : Str} {d : D}, Dens X.K X.mg m H ds zs → (ks.zip ds).lookup p = some d → ∃ z, (ks.zip zs).lookup p = some z ∧ Den X.K X.mg m H d z
  | [], _, _, _, _, _, h => by simp at h
  | _ :: _, [], _, _, _, _, h => by simp at h
  | a :: ks, d' :: ds, _, p, d, hd, h => by
    obtain ⟨v, r, rfl, h1, h2⟩ := hd
    simp only [List.zip_cons_cons, List.lookup_cons] at h ⊢
    cases q : p == a with
    | true =>
      rw [q] at h
      simp only [Option.some.injEq] at h
      subst h
      exact ⟨_, rfl, h1⟩
    | false =>
      rw [q] at h
      exact lookD_rel h2 h
theorem lookD_all {m : List Addr} {H : Hp} {ks : List Str} {ds : List D} {zs : List V} (hd : Dens X.K X.mg m H ds zs) : ∀ {ps : List Str} {as : List D}, optAll (lookKw ks ds) ps = some as → ∃ us, optAll (fun p => (ks.zip zs).lookup p) ps = some us ∧ Dens X.K X.mg m H as us
  | [], as, h => by
    cases h
    exact ⟨[], rfl, rfl⟩
  | p :: ps, as, h => by
    unfold optAll at h
    split at h
    · rename_i y ys e1 e2
      cases h
      obtain ⟨u, h1, h2⟩ := lookD_rel hd e1
      obtain ⟨us, h3, h4⟩ := lookD_all hd e2
      refine ⟨u :: us, ?_, u, us, rfl, h2, h4⟩
      unfold optAll
      rw [h1, h3]
    · cases h
theorem q_callk (g : Good T G KW k X sc raw W) {f : Str} {p pos : Pos} {es : List Expr} {kws : List Keyword} {ks : List Str} {ev ew : En → Sto → R (List D)} (hf : f ∈ KW.fs) (hkw : (f, es.length, ks) ∈ KW.kw) (hg : glbB sc f = true) (hs : es.all (fun e => !isStar e) = true) (hks : kws.map (·.arg) = ks.map some)
    (ha : PA X es (LfA X W ev)) (hw : PK X kws (LfA X W ew)) (hl : ∀ env st ds st', ev env st = .ok ds st' → ds.length = es.length) (hlw : ∀ env st ds st', ew env st = .ok ds st' → ds.length = ks.length) (h0 : es = [] → ev = fun _ st => .ok [] st) :
    PE X (.Call (.Name f p) es kws pos) (LfE X W fun env st => (ev env st).bind fun ds st1 => (ew env st1).bind fun zs st2 => match T f with
    | some fn => (match bindKw fn.ps ds ks zs with
      | some as => callF T G k f as st2
      | none => .bad)
    | none => .bad) := by
  obtain ⟨h1, h2, _⟩ := g.gl hg
  obtain ⟨fn, q⟩ := g.facts.fs f hf
  obtain ⟨a, fd, e1, e2, e3, e4, e5⟩ := g.facts.fn f fn q
  refine PE.weak (pe_callKS e4 g.room h1 e1 e2 (e5 _ _ hkw) (fun σ => passAt g.tk σ) ha hw hs hks h2 (fun σ H Q he h => ?_)) ?_
  · obtain ⟨m, env, st, S, E, h⟩ := h
    rw [h0 he] at h
    exact Res.pure S h [] rfl
  · rintro σ H Q ⟨m, env, st, S, E, h⟩
    have h : Res X.K X.mg W σ m H st ((ev env st).bind fun ds st1 => (ew env st1).bind fun zs st2 => match T f with
    | some fn => (match bindKw fn.ps ds ks zs with
      | some as => callF T G k f as st2
      | none => .bad)
    | none => .bad) (fun a m' H' _ => ∀ b, Den X.K X.mg m' H' a b → Q b H') := h
    rw [q] at h
    cases q1 : ev env st with
    | bad => rw [q1] at h; exact h.elim
    | ex x st1 =>
      refine ⟨m, env, st, S, E, ?_⟩
      rw [q1] at h ⊢
      exact h
    | ok ds st1 =>
      rw [q1] at h
      have hl1 := hl _ _ _ _ q1
      refine ⟨m, env, st, S, E, ?_⟩
      rw [q1]
      intro m1 H1 g1 S1 xs hx
      have E1 := E.grow S g1
      have h : Res X.K X.mg W σ m H st ((ew env st1).bind fun zs st2 => (match bindKw fn.ps ds ks zs with
      | some as => callF T G k f as st2
      | none => .bad)) (fun a m' H' _ => ∀ b, Den X.K X.mg m' H' a b → Q b H') := h
      cases q2 : ew env st1 with
      | bad => rw [q2] at h; exact h.elim
      | ex x st2 =>
        refine ⟨m1, env, st1, S1, E1, ?_⟩
        rw [q2] at h ⊢
        exact fun m' H' cls d g' S' hx => h m' H' cls d (g1.trans g') S' hx
      | ok zs st2 =>
        rw [q2] at h
        have hl2 := hlw _ _ _ _ q2
        refine ⟨m1, env, st1, S1, E1, ?_⟩
        rw [q2]
        intro m2 H2 g2 S2 ys hy
        have h : Res X.K X.mg W σ m H st (match bindKw fn.ps ds ks zs with
          | some as => callF T G k f as st2
          | none => .bad) (fun a m' H' _ => ∀ b, Den X.K X.mg m' H' a b → Q b H') := h
        have hx2 := Dens.grow S1 g2 hx
        cases q3 : bindKw fn.ps ds ks zs with
        | none => rw [q3] at h; exact h.elim
        | some as =>
          rw [q3] at h
          have h : Res X.K X.mg W σ m H st (callF T G k f as st2) (fun a m' H' _ => ∀ b, Den X.K X.mg m' H' a b → Q b H') := h
          unfold bindKw at q3
          simp only [Option.map_eq_some_iff] at q3
          obtain ⟨bs, q3, rfl⟩ := q3
          rw [hl1] at q3
          obtain ⟨us, h3, h4⟩ := lookD_all hy q3
          refine ⟨by rw [← hx.length, hl1], by rw [← hy.length, hl2], us, h3, ?_⟩
          by_cases hn : (ds ++ bs).length = fn.ps.length
          · refine spOf_of S2 (hx2.append h4) hn ?_
            cases q4 : callF T G k f (ds ++ bs) st2 with
            | ok d st3 =>
              rw [q4] at h
              exact fun m' H' g' S' => h m' H' ((g1.trans g2).trans g') S'
            | ex x st3 =>
              rw [q4] at h
              exact fun m' H' cls d g' S' hx => h m' H' cls d ((g1.trans g2).trans g') S' hx
            | bad =>
              rw [q4] at h
              exact h
          · rw [callF_len q hn] at h
            exact h.elim
end
end Ab

set_option Elab.async false
set_option linter.all false
set_option autoImplicit false
set_option maxRecDepth 10000
/-! AbExpr3: built-ins, targets, comprehensions. -/
namespace Ab
open PySem PySem.Spec PyProof.Rows L2

section
variable {T : Tab} {G : Gb} {KW : Tx} {k : Nat} {X : Cx} {sc raw : Scope} {W : WX}
theorem blt_boot (b : Blt) : bootBuiltins b.nm = some b.val := by cases b <;> decide +kernel
theorem ty_boot (t : Ty) : bootBuiltins t.nm = some (.type t.name) := by cases t <;> decide +kernel
theorem blt_mem (b : Blt) : b.nm ∈ bltNames := by cases b <;> decide +kernel
theorem ty_mem (t : Ty) : t.nm ∈ bltNames := by cases t <;> decide +kernel
theorem boot_isi : bootBuiltins ("isinstance" : Str) = some (.builtin "isinstance") := by decide +kernel
theorem q_blt (g : Good T G KW k X sc raw W) (b : Blt) {p pos : Pos} {e : Expr} {es : List Expr} {ev : En → Sto → R (List D)} (hg : glbB sc b.nm = true) (hs : (e :: es).all (fun e => !isStar e) = true) (ha : PA X (e :: es) (LfA X W ev)) :
    PE X (.Call (.Name b.nm p) (e :: es) [] pos) (LfE X W fun env st => (ev env st).bind fun ds st1 => bltD b ds st1) := by
  obtain ⟨h1, h2, h3⟩ := g.gl hg
  have hm := g.bltn (blt_mem b)
  have hv := blt_boot b
  simp only [List.all_cons, Bool.and_eq_true, Bool.not_eq_true'] at hs
  have he := star_cons (es := es) (env := X.env) hs.1
  have hpl := nostar_any (pos := pos) (env := X.env) (show es.all (fun e => !isStar e) = true by simpa using hs.2)
  have key : PE X (.Call (.Name b.nm p) (e :: es) [] pos) (tCB (rN X.K X.mg (bltD b)) (LfA X W ev)) := by
    have c := call_d g.calm b
    cases b <;> first
      | exact pe_callB c h1 hm hv ha h3 h2 he hpl
      | exact pe_callTy c h1 hm hv ha h3 h2 he hpl
  refine PE.weak key ?_
  rintro σ H Q ⟨m, env, st, S, E, h⟩
  refine Lf.of S E h fun ds m1 H1 st1 xs g1 S1 E1 hx h => ?_
  exact ⟨m1, st1, ds, S1, hx, Res.ends h plain_blt⟩
theorem q_lcm {a b : Expr} {pos : Pos} {f f' : En → Sto → R D} {x : Str} {p : Pos} (hg : Gl X x) (hm : X.mg x = some (.builtin "math.lcm")) (hdb : (x == ("__debug__" : Str)) = false) (hs : isStar a = false) (hs2 : isStar b = false) (ha : PE X a (LfE X W f)) (hb : PE X b (LfE X W f')) :
    PE X (.Call (.Name x p) [a, b] [] pos) (LfE X W fun env st => (f env st).bind fun d st1 => (f' env st1).bind fun e st2 => op2D .lcm d e st2) := by
  refine PE.weak (pe_callBfun cr_lcm hg hm (pa_cons ha (pa_cons hb pa_nil (star_cons hs2)) (star_cons hs)) hdb (star_cons hs) (nostar_any (by simp [hs2]))) ?_
  rintro σ H Q ⟨m, env, st, S, E, h⟩
  refine Lf.of S E h fun d m1 H1 st1 x g1 S1 E1 hx h => Lf.of S1 E1 h fun e m2 H2 st2 y g2 S2 E2 hy h => ?_
  have h := Res.ends h plain_op2
  have hx := Den.grow S1 g2 hx
  cases d with
  | int i =>
    cases e with
    | int j =>
      cases hx
      cases hy
      have h : Ends1 X.K X.mg m2 H2 st2 (if 0 ≤ i ∧ i < 1048576 ∧ 0 ≤ j ∧ j < 1048576 then .ok (.int ((Nat.lcm i.toNat j.toNat : Nat) : Int)) st2 else .bad) Q := h
      split at h
      · rename_i hz
        exact ⟨i, j, rfl, hz, ends_int S2 h⟩
      · exact (ends_bad h).elim
    | _ => exact (ends_bad h).elim
  | _ => exact (ends_bad h).elim
theorem q_isi (g : Good T G KW k X sc raw W) (t : Ty) {p q pos : Pos} {e : Expr} {f : En → Sto → R D} (hg : glbB sc ("isinstance" : Str) = true) (hgt : glbB sc t.nm = true) (hs : isStar e = false) (ha : PE X e (LfE X W f)) :
    PE X (.Call (.Name "isinstance" p) [e, .Name t.nm q] [] pos) (LfE X W fun env st => (f env st).bind fun d st1 => ofOpt ((isiD t d st1).map D.bl) st1) := by
  obtain ⟨h1, h2, h3⟩ := g.gl hg
  obtain ⟨t1, t2, t3⟩ := g.gl hgt
  have ht : PE X (.Name t.nm q) (tC (.ty t.name)) := pe_bltn t1 (g.bltn (ty_mem t)) (ty_boot t) rfl t3 t2
  have ha2 : PA X [e, .Name t.nm q] (tCons (LfE X W f) (tCons (tC (.ty t.name)) tNil)) := pa_cons ha (pa_cons ht pa_nil) (star_cons hs)
  refine PE.weak (pe_callB call_isi h1 (g.bltn (by decide +kernel)) boot_isi ha2 h3 h2 (star_cons hs)) ?_
  rintro σ H Q ⟨m, env, st, S, E, h⟩
  refine Lf.of S E h fun d m1 H1 st1 x g1 S1 E1 hx h => ?_
  have h := Res.ends h plain_ofOpt
  obtain ⟨b, e1, h⟩ := ends_opti h
  obtain ⟨tv, k1, k2⟩ := isi_kit S1 hx e1
  exact ⟨x, .ty t.name, tv, .type t.name, b, rfl, .ty _, k1, k2, ends_bl S1 h⟩

/-! ### methods of lists -/
theorem base_no {o : Expr} {nm : Str} {env : Env} {whole : Sem Value} (h : isCall0 o = false) : attributeBase o nm env whole = whole := by
  cases o with
  | Call fu as ks q =>
    cases fu with
    | Name x p =>
      cases as with
      | nil =>
        cases ks with
        | nil => cases h
        | cons a b => rfl
      | cons a b => rfl
    | _ => rfl
  | _ => rfl
theorem few_of {pos : Pos} {env : Env} {es : List Expr} (hs : es.all (fun e => !isStar e) = true) (hl : es.length < 20) : ((backTo pos (starEach es env)).all (fun x => !x.1) && (backToKw pos (keywordEach [] env)).all (fun x => x.1.isSome)
      && decide (es.length + ([] : List Keyword).length + (if ([] : List Keyword).isEmpty then 0 else 1) < 30)) = true := by
  have h1 : (backTo pos (starEach es env)).all (fun x => !x.1) = true := by
    have h := nostar_any (pos := pos) (env := env) hs
    rw [List.any_eq_false] at h
    rw [List.all_eq_true]
    intro x hx
    have := h x hx
    simpa using this
  rw [h1]
  have h2 : decide (es.length + ([] : List Keyword).length + (if ([] : List Keyword).isEmpty then 0 else 1) < 30) = true := by
    apply decide_eq_true
    simp
    omega
  rw [h2]
  rfl
theorem tyV_list {m : List Addr} {H : Hp} {st : Sto} {d : D} {v : V} {ds : List D} (S : StOk X.K X.mg m H st) (hv : Den X.K X.mg m H d v) (h : listOf st d = some ds) : tyV X.K "list" v H := by
  obtain ⟨l, f, rfl, hl⟩ := listOf_some h
  obtain ⟨a, vs, rfl, _, ha, _, _⟩ := den_lst S hv hl
  exact .inl ⟨rfl, vs, ha⟩
theorem slot_mth : ∀ mt : Mth, Slot "list" mt.nm mt.id
  | .append => PySem.F.slot_list_append
  | .index => PySem.F.slot_list_index
  | .pop => PySem.F.slot_list_pop
theorem type_mth : ∀ mt : Mth, typeOf (.builtin mt.id) = pure (.type "method_descriptor")
  | .append => PySem.F.type_list_append
  | .index => PySem.F.type_list_index
  | .pop => PySem.F.type_list_pop
theorem rcv_list {mt : Mth} {st : Sto} {d : D} {ys : List D} (nt : ∀ ys, d ≠ .tup ys) (h : rcvD mt st d = some ys) : listOf st d = some ys := by
  cases d with
  | tup ds => exact absurd rfl (nt ds)
  | _ => exact h
theorem rcv_tup {mt : Mth} {st : Sto} {ds ys : List D} (h : rcvD mt st (.tup ds) = some ys) : mt = .index := by
  cases mt <;> first | rfl | cases h
theorem q_meth (mt : Mth) {o : Expr} {es : List Expr} {apos cpos : Pos} {f : En → Sto → R D} {ev : En → Sto → R (List D)} (hline : (apos.endLine == cpos.line) = true) (hlen : es.length < 20) (hc0 : isCall0 o = false) (hs : es.all (fun e => !isStar e) = true) (ho : PE X o (LfE X W f)) (ha : PA X es (LfA X W ev))
    (h0 : es = [] → ev = fun _ st => .ok [] st) :
    PE X (.Call (.Attribute o mt.nm apos) es [] cpos) (LfE X W fun env st => (f env st).bind fun d st1 => match rcvD mt st1 d with
      | some _ => (ev env st1).bind fun ds st2 => mthD mt d ds st2
      | none => .bad) := by
  cases es with
  | nil =>
    have e := h0 rfl
    subst e
    refine PE.weak (pe_bm0 PySem.F.plainAttrs_list (slot_mth mt) (type_mth mt) (mth_d mt) ho (base_no hc0) hline) ?_
    rintro σ H Q ⟨m, env, st, S, E, h⟩
    refine Lf.of S E h fun d m1 H1 st1 x g1 S1 E1 hx h => ?_
    cases q : rcvD mt st1 d with
    | none => rw [q] at h; exact h.elim
    | some ys =>
      rw [q] at h
      by_cases nt : ∃ ys, d = .tup ys
      · obtain ⟨zs, rfl⟩ := nt
        cases rcv_tup q
        exact absurd (ends_bad (Q := Q) (show Ends1 X.K X.mg m1 H1 st1 .bad Q from Res.ends (show Res X.K X.mg W σ m1 H1 st1 ((mthD .index (.tup zs) [] st1)) _ from h) trivial)) (fun z => z)
      · have nt : ∀ ys, d ≠ .tup ys := fun ys e => nt ⟨ys, e⟩
        exact ⟨tyV_list S1 hx (rcv_list nt q), m1, st1, d, [], S1, hx, nt, rfl, Res.ends h plain_mth⟩
  | cons e es =>
    have hs' := hs
    simp only [List.all_cons, Bool.and_eq_true, Bool.not_eq_true'] at hs'
    have other : (∀ ds ys st1, rcvD mt st1 (.tup ds) ≠ some ys) → PE X (.Call (.Attribute o mt.nm apos) (e :: es) [] cpos) (LfE X W fun env st => (f env st).bind fun d st1 => match rcvD mt st1 d with
      | some _ => (ev env st1).bind fun ds st2 => mthD mt d ds st2
      | none => .bad) := by
      intro no
      refine PE.weak (pe_bm PySem.F.plainAttrs_list (slot_mth mt) (type_mth mt) (mth_d mt) ho ha (base_no hc0) (few_of hs hlen) hline (star_cons hs'.1) (nostar_any (by simpa using hs'.2))) ?_
      rintro σ H Q ⟨m, env, st, S, E, h⟩
      refine Lf.of S E h fun d m1 H1 st1 x g1 S1 E1 hx h => ?_
      cases q : rcvD mt st1 d with
      | none => rw [q] at h; exact h.elim
      | some ys =>
        rw [q] at h
        have nt : ∀ ys, d ≠ .tup ys := fun ys e => by subst e; exact no _ _ _ q
        refine ⟨tyV_list S1 hx (rcv_list nt q), Lf.of S1 E1 h fun ds m2 H2 st2 xs g2 S2 E2 hy h => ?_⟩
        exact ⟨m2, st2, d, ds, S2, Den.grow S1 g2 hx, nt, hy, Res.ends h plain_mth⟩
    cases mt with
    | append => exact other fun _ _ _ h => nomatch h
    | pop => exact other fun _ _ _ h => nomatch h
    | index =>
      refine PE.weak (pe_bm2 PySem.F.plainAttrs_list (slot_mth .index) (type_mth .index) (mth_d .index) PySem.F.slot_tuple_index PySem.F.type_tuple_index mth_t ho ha (base_no hc0) (few_of hs hlen) hline (star_cons hs'.1) (nostar_any (by simpa using hs'.2))) ?_
      rintro σ H Q ⟨m, env, st, S, E, h⟩
      refine Lf.of S E h fun d m1 H1 st1 x g1 S1 E1 hx h => ?_
      cases q : rcvD .index st1 d with
      | none => rw [q] at h; exact h.elim
      | some ys =>
        rw [q] at h
        by_cases nt : ∃ ys, d = .tup ys
        · obtain ⟨zs, rfl⟩ := nt
          obtain ⟨a, vs, e1, ha1, _⟩ := den_tup hx
          refine .inr ⟨⟨a, vs, e1, ha1⟩, Lf.of S1 E1 h fun ds m2 H2 st2 xs g2 S2 E2 hy h => ?_⟩
          exact ⟨m2, st2, zs, ds, S2, Den.grow S1 g2 hx, hy, Res.ends h plain_mth⟩
        · have nt : ∀ ys, d ≠ .tup ys := fun ys e => nt ⟨ys, e⟩
          refine .inl ⟨tyV_list S1 hx (rcv_list nt q), Lf.of S1 E1 h fun ds m2 H2 st2 xs g2 S2 E2 hy h => ?_⟩
          exact ⟨m2, st2, d, ds, S2, Den.grow S1 g2 hx, nt, hy, Res.ends h plain_mth⟩

/-! ### targets -/
def LgT (X : Cx) (t : Tg) (f : D → En → Sto → R En) : TG := fun v σ H Q => ∃ m env st d env' st', StOk X.K X.mg m H st ∧ EnOk X.K X.mg m H σ env ∧ Den X.K X.mg m H d v ∧ f d env st = .ok env' st' ∧
  ∀ m' H' σ', Grow m H st m' H' st' → StOk X.K X.mg m' H' st' → EnOk X.K X.mg m' H' σ' env' → (∀ own, tgIn own t = true → wipe σ' own = wipe σ own) → Q σ' H'
def LgTs (X : Cx) (t : Tgs) (f : List D → En → Sto → R En) : TGs := fun vs σ H Q => ∃ m env st ds env' st', StOk X.K X.mg m H st ∧ EnOk X.K X.mg m H σ env ∧ Dens X.K X.mg m H ds vs ∧ f ds env st = .ok env' st' ∧
  ∀ m' H' σ', Grow m H st m' H' st' → StOk X.K X.mg m' H' st' → EnOk X.K X.mg m' H' σ' env' → (∀ own, tgsIn own t = true → wipe σ' own = wipe σ own) → Q σ' H'
theorem wipe_set {σ : L2.St} {i : Nat} {v : Option V} : ∀ {own : List Nat}, i ∈ own → wipe (σ.set i v) own = wipe σ own
  | [], h => by cases h
  | j :: own, h => by
    unfold wipe
    by_cases hj : i = j
    · subst hj
      have key : ∀ vs : List Nat, (wipe (σ.set i v) vs).set i none = (wipe σ vs).set i none := by
        intro vs
        induction vs with
        | nil => simp [wipe]
        | cons k vs ih =>
          unfold wipe
          by_cases hk : k = i
          · subst hk
            simpa using ih
          · rw [List.set_comm _ _ hk, ih, List.set_comm _ _ (Ne.symm hk)]
      exact key own
    · rcases List.mem_cons.mp h with e | h
      · exact absurd e hj
      · rw [wipe_set h]
theorem qg_nm (g : Good T G KW k X sc raw W) {i : Nat} {x : Str} {pos : Pos} (hN : X.N[i]? = some x) (hs : stoB sc raw x = true) : PG X (.Name x pos) (LgT X (.nm i) fun d env st => .ok (env.set i (some d)) st) := by
  obtain ⟨h1, h2⟩ := g.sto hs
  refine PG.weak (pg_name g.nd hN h1 h2) ?_
  rintro v σ H Q ⟨m, env, st, d, env', st', S, E, hd, e, q⟩
  cases e
  exact q m H _ Grow.refl S (E.set hd i) (fun own ho => wipe_set (by simpa [tgIn] using ho))
theorem qg_tp {ts : Tgs} {es : List Expr} {n : Nat} {pos : Pos} {f : List D → En → Sto → R En} (hc : X.calm = true) (h : PGs X es (LgTs X ts f)) (hst : (assignEach es X.env).findIdx? (·.1) = none) (hl : (assignEach es X.env).length = es.length) (hlen : ∀ ds env st env' st', f ds env st = .ok env' st' → ds.length = es.length) :
    PG X (.Tuple es n pos) (LgT X (.tp ts) fun d env st => match d with
      | .tup ds => f ds env st
      | .itm ds => f ds env st
      | _ => .bad) := by
  refine PG.weak (pg_tup hc h hl hst) ?_
  rintro v σ H Q ⟨m, env, st, d, env', st', S, E, hd, e, q⟩
  cases d with
  | tup ds =>
    obtain ⟨a, vs, rfl, ha, hx⟩ := den_tup hd
    have e : f ds env st = .ok env' st' := e
    exact ⟨a, vs, rfl, ha.sq, by rw [← hx.length]; exact hlen _ _ _ _ _ e, m, env, st, ds, env', st', S, E, hx, e, fun m' H' σ' g' S' E' w => q m' H' σ' g' S' E' fun own ho => w own (by simpa [tgIn] using ho)⟩
  | itm ds =>
    obtain ⟨a, vs, rfl, ha, hx⟩ := den_itm hd
    have e : f ds env st = .ok env' st' := e
    exact ⟨a, vs, rfl, ha, by rw [← hx.length]; exact hlen _ _ _ _ _ e, m, env, st, ds, env', st', S, E, hx, e, fun m' H' σ' g' S' E' w => q m' H' σ' g' S' E' fun own ho => w own (by simpa [tgIn] using ho)⟩
  | _ => cases e
theorem qgs_nil : PGs X [] (LgTs X .nil fun ds env st => match ds with
    | [] => .ok env st
    | _ => .bad) := by
  refine PGs.weak pgs_nil ?_
  rintro vs σ H Q ⟨m, env, st, ds, env', st', S, E, hd, e, q⟩
  cases ds with
  | nil =>
    cases e
    exact ⟨hd, q m H σ Grow.refl S E fun _ _ => rfl⟩
  | cons d ds => cases e
theorem qgs_cons {t : Tg} {ts : Tgs} {e : Expr} {es : List Expr} {f : D → En → Sto → R En} {fs : List D → En → Sto → R En} (h1 : PG X e (LgT X t f)) (h2 : PGs X es (LgTs X ts fs)) (hs : (assignEach (e :: es) X.env).map (·.2) = assign e X.env :: (assignEach es X.env).map (·.2)) :
    PGs X (e :: es) (LgTs X (.cons t ts) fun ds env st => match ds with
      | d :: r => (f d env st).bind fun env1 st1 => fs r env1 st1
      | [] => .bad) := by
  refine PGs.weak (pgs_cons h1 h2 hs) ?_
  rintro vs σ H Q ⟨m, env, st, ds, env', st', S, E, hd, e, q⟩
  cases ds with
  | nil => cases e
  | cons d ds =>
    obtain ⟨v, r, rfl, hv, hr⟩ := hd
    have e : ((f d env st).bind fun env1 st1 => fs ds env1 st1) = .ok env' st' := e
    cases q1 : f d env st with
    | ok env1 st1 =>
      rw [q1] at e
      have e : fs ds env1 st1 = .ok env' st' := e
      refine ⟨v, r, rfl, m, env, st, d, env1, st1, S, E, hv, q1, fun m1 H1 σ1 g1 S1 E1 w1 => ?_⟩
      refine ⟨m1, env1, st1, ds, env', st', S1, E1, Dens.grow S g1 hr, e, fun m2 H2 σ2 g2 S2 E2 w2 => ?_⟩
      refine q m2 H2 σ2 (g1.trans g2) S2 E2 fun own ho => ?_
      simp only [tgsIn, Bool.and_eq_true] at ho
      rw [w2 own ho.2, w1 own ho.1]
    | ex x st1 => rw [q1] at e; cases e
    | bad => rw [q1] at e; cases e
theorem assign_sub {o i : Expr} {pos : Pos} {env : Env} (h : isSlice i = false) : ∀ v, assign (.Subscript o i pos) env v = (do
      let ov ← holding [v] (eval o env)
      let iv ← holding [v, ov] (eval i env)
      standAt pos
      holding [v, ov, iv] (setItem ov iv v)
      release [v, ov, iv] []) := by
  intro v
  cases i <;> first | rfl | cases h
theorem noex_ok {α : Type} {r : R α} {a : α} {st : Sto} (h : r.noex = .ok a st) : r = .ok a st := by
  cases r <;> first | exact h | cases h
theorem qg_sb {o i : Expr} {a c : CE} {pos : Pos} {f f' : En → Sto → R D} (hu : X.A.units + 64 < cLine) (hi : isSlice i = false) (ha : PE X o (LfE X W f)) (hb : PE X i (LfE X W f')) : PG X (.Subscript o i pos) (LgT X (.sb a c) fun d env st => (f env st).noex.bind fun o st1 => (f' env st1).noex.bind fun k st2 => (setD o k d st2).bind fun _ st3 => .ok env st3) := by
  refine PG.weak (pg_sub ha hb (set_d hu) (assign_sub hi)) ?_
  rintro v σ H Q ⟨m, env, st, d, env', st', S, E, hd, e, q⟩
  have e : ((f env st).noex.bind fun o st1 => (f' env st1).noex.bind fun k st2 => (setD o k d st2).bind fun _ st3 => .ok env st3) = .ok env' st' := e
  cases q1 : f env st with
  | ok o1 st1 =>
    rw [q1] at e
    have e : ((f' env st1).noex.bind fun k st2 => (setD o1 k d st2).bind fun _ st3 => .ok env st3) = .ok env' st' := e
    cases q2 : f' env st1 with
    | ok k2 st2 =>
      rw [q2] at e
      have e : ((setD o1 k2 d st2).bind fun _ st3 => .ok env st3) = .ok env' st' := e
      cases q3 : setD o1 k2 d st2 with
      | ok u st3 =>
        rw [q3] at e
        cases e
        refine ⟨m, env, st, S, E, ?_⟩
        rw [q1]
        intro m1 H1 g1 S1 x hx
        refine ⟨m1, env, st1, S1, E.grow S g1, ?_⟩
        rw [q2]
        intro m2 H2 g2 S2 y hy
        have g12 := g1.trans g2
        refine ⟨m2, st2, o1, k2, d, st', S2, Den.grow S1 g2 hx, hy, Den.grow S g12 hd, q3, fun m3 H3 g3 S3 => ?_⟩
        exact q m3 H3 σ (g12.trans g3) S3 (E.grow S (g12.trans g3)) fun own ho => by simp [tgIn] at ho
      | ex x st3 => rw [q3] at e; cases e
      | bad => rw [q3] at e; cases e
    | ex x st2 => rw [q2] at e; cases e
    | bad => rw [q2] at e; cases e
  | ex x st1 => rw [q1] at e; cases e
  | bad => rw [q1] at e; cases e
end
end Ab

set_option Elab.async false
set_option linter.all false
set_option autoImplicit false
set_option maxRecDepth 10000
/-! AbLc: list comprehensions. -/
namespace Ab
open PySem PySem.Spec PyProof.Rows L2

theorem wipe_idem {σ : L2.St} : ∀ {a b : List Nat}, (∀ i ∈ a, i ∈ b) → wipe (wipe σ b) a = wipe σ b
  | [], _, _ => rfl
  | i :: a, b, h => by
    show (wipe (wipe σ b) a).set i none = wipe σ b
    rw [wipe_idem fun j hj => h j (List.mem_cons_of_mem _ hj)]
    have key : ∀ {b : List Nat}, i ∈ b → (wipe σ b).set i none = wipe σ b := by
      intro b
      induction b with
      | nil => intro h; cases h
      | cons j b ih =>
        intro h
        unfold wipe
        by_cases e : j = i
        · subst e
          rw [List.set_set]
        · rw [List.set_comm _ _ e, ih (by rcases List.mem_cons.mp h with e' | h; exact absurd e'.symm e; exact h)]
    exact key (h i List.mem_cons_self)
abbrev W0 : WX := fun _ _ _ _ => False
section
variable {X : Cx} {W : WX} {t : Tg} {own : List Nat} {fI : En → Sto → R Src} {fT : D → En → Sto → R En} {fC : En → Sto → R Bool} {fE : En → Sto → R D}
abbrev lcBody (own : List Nat) (env : En) (fT : D → En → Sto → R En) (fC : En → Sto → R Bool) (fE : En → Sto → R D) : D → Sto → R (Option D) := fun d st2 => (fT d (wipeE env own) st2).bind fun env2 st3 => (fC env2 st3).noex.bind fun k st4 =>
        if k = true then (fE env2 st4).noex.bind fun y st5 => .ok (some y) st5 else .ok none st4
noncomputable abbrev lcE (own : List Nat) (fI : En → Sto → R Src) (fT : D → En → Sto → R En) (fC : En → Sto → R Bool) (fE : En → Sto → R D) : En → Sto → R D := fun env st => (fI env st).bind fun s st1 =>
      (lcLoop s (lcBody own env fT fC fE) s.items [] st1).noex.bind fun ys st6 => alloc (.lst false ys) st6
theorem lc_weak (hown : tgIn own t = true) : ∀ σ H (Q : VK), LfE X W (lcE own fI fT fC fE) σ H Q → tLc (LfI X W fI) (LgT X t fT) (LfT X W0 fC) (LfE X W0 fE) own σ H Q := by
  rintro σ H Q ⟨m, env, st, S, E, h⟩
  have h : Res X.K X.mg W σ m H st ((fI env st).bind fun s st1 => (lcLoop s (lcBody own env fT fC fE) s.items [] st1).noex.bind fun ys st6 => alloc (.lst false ys) st6) (fun a m' H' _ => ∀ b, Den X.K X.mg m' H' a b → Q b H') := h
  cases q : fI env st with
  | bad => rw [q] at h; exact h.elim
  | ex x st1 =>
    refine ⟨m, env, st, S, E, ?_⟩
    rw [q] at h ⊢
    exact h
  | ok s st1 =>
    rw [q] at h
    refine ⟨m, env, st, S, E, ?_⟩
    rw [q]
    intro m1 H1 g1 S1 J hJ D hD
    have E1 := E.grow S g1
    have h : Res X.K X.mg W σ m H st ((lcLoop s (lcBody own env fT fC fE) s.items [] st1).noex.bind fun ys st6 => alloc (.lst false ys) st6) (fun a m' H' _ => ∀ b, Den X.K X.mg m' H' a b → Q b H') := h
    cases q2 : lcLoop s (lcBody own env fT fC fE) s.items [] st1 with
    | bad => rw [q2] at h; exact h.elim
    | ex x st6 => rw [q2] at h; exact h.elim
    | ok ys st6 =>
      rw [q2] at h
      have fin : ∀ m' H', Grow m1 H1 st1 m' H' (st6 ++ [.lst false ys]) → StOk X.K X.mg m' H' (st6 ++ [.lst false ys]) → ∀ v, Den X.K X.mg m' H' (.ref st6.length) v → Q v H' := fun m' H' g' S' v hv => h m' H' (g1.trans g') S' v hv
      refine ⟨fun i μ Hc => μ = s.items.length - i ∧ i ≤ s.items.length ∧ ∃ mc stc accD accV, Grow m1 H1 st1 mc Hc stc ∧ StOk X.K X.mg mc Hc stc ∧ Hc D = some (.lst accV) ∧ ¬ Trk mc stc D ∧ Dens X.K X.mg mc Hc accD accV ∧ lcLoop s (lcBody own env fT fC fE) (s.items.drop i) accD stc = .ok ys st6,
        ⟨s.items.length, by simp, Nat.zero_le _, m1, st1, [], [], Grow.lay S1 hD, S1.poke (.inl hD) (S1.noTrkNone hD), upd_same, S1.noTrkNone hD, rfl, by simpa using q2⟩, ?_⟩
      rintro i μ Hc ⟨rfl, hi, mc, stc, accD, accV, gc, Sc, hDc, hnT, hda, hloop⟩
      have hst : s.still stc := by
        cases hl : s.items.drop i with
        | nil =>
          rw [hl] at hloop
          unfold lcLoop at hloop
          by_cases hst : s.still stc
          · exact hst
          · rw [if_neg hst] at hloop; cases hloop
        | cons d ds =>
          rw [hl] at hloop
          unfold lcLoop at hloop
          by_cases hst : s.still stc
          · exact hst
          · rw [if_neg hst] at hloop; cases hloop
      obtain ⟨go, stop, yl⟩ := hJ mc Hc stc gc Sc hst
      by_cases hlt : i < s.items.length
      · rw [List.drop_eq_getElem_cons hlt] at hloop
        unfold lcLoop at hloop
        rw [if_pos hst] at hloop
        refine .inr ⟨go i hlt, fun Hn => i + 1 ≤ s.items.length ∧ ∃ mc stc accD accV, Grow m1 H1 st1 mc Hn stc ∧ StOk X.K X.mg mc Hn stc ∧ Hn D = some (.lst accV) ∧ ¬ Trk mc stc D ∧ Dens X.K X.mg mc Hn accD accV ∧ lcLoop s (lcBody own env fT fC fE) (s.items.drop (i + 1)) accD stc = .ok ys st6,
          fun H' hN => ⟨s.items.length - (i + 1), by omega, rfl, hN⟩, fun x H' hy => ?_⟩
        obtain ⟨g2, S2, d, hd, hdx⟩ := yl i x H' hlt hy
        have ed : s.items[i] = d := by
          rw [List.getElem?_eq_getElem hlt] at hd
          exact Option.some.inj hd
        rw [ed] at hloop
        have hloop : (((fT d (wipeE env own) stc).bind fun env2 st3 => (fC env2 st3).noex.bind fun k st4 => if k = true then (fE env2 st4).noex.bind fun y st5 => (R.ok (some y) st5 : R (Option Ab.D)) else .ok none st4).bind fun r st1 => match r with
            | some y => if accD.length < sizeLine then lcLoop s (lcBody own env fT fC fE) (s.items.drop (i + 1)) (accD ++ [y]) st1 else .bad
            | none => lcLoop s (lcBody own env fT fC fE) (s.items.drop (i + 1)) accD st1) = .ok ys st6 := hloop
        cases q3 : fT d (wipeE env own) stc with
        | bad => rw [q3] at hloop; cases hloop
        | ex x st3 => rw [q3] at hloop; cases hloop
        | ok env2 st3 =>
          rw [q3] at hloop
          refine ⟨mc, wipeE env own, stc, d, env2, st3, S2, (E1.grow S1 (gc.trans g2)).wipe own, hdx, q3, fun m3 H3 σ3 g3 S3 E3 w3 => ⟨by rw [w3 own hown, wipe_idem fun _ h => h], ?_⟩⟩
          have hloop : (((fC env2 st3).noex.bind fun k st4 => if k = true then (fE env2 st4).noex.bind fun y st5 => (R.ok (some y) st5 : R (Option Ab.D)) else .ok none st4).bind fun r st1 => match r with
            | some y => if accD.length < sizeLine then lcLoop s (lcBody own env fT fC fE) (s.items.drop (i + 1)) (accD ++ [y]) st1 else .bad
            | none => lcLoop s (lcBody own env fT fC fE) (s.items.drop (i + 1)) accD st1) = .ok ys st6 := hloop
          cases q4 : fC env2 st3 with
          | bad => rw [q4] at hloop; cases hloop
          | ex x st4 => rw [q4] at hloop; cases hloop
          | ok k st4 =>
            rw [q4] at hloop
            refine ⟨m3, env2, st3, S3, E3, ?_⟩
            rw [q4]
            intro m4 H4 g4 S4 b hb
            subst hb
            have G4 := (g2.trans g3).trans g4
            cases b with
            | false =>
              have hloop : lcLoop s (lcBody own env fT fC fE) (s.items.drop (i + 1)) accD st4 = .ok ys st6 := hloop
              obtain ⟨k1, k2⟩ := G4.keep D _ hDc hnT
              exact ⟨hlt, m4, st4, accD, accV, gc.trans G4, S4, k1, k2, Dens.grow Sc G4 hda, hloop⟩
            | true =>
              have hloop : (((fE env2 st4).noex.bind fun y st5 => (R.ok (some y) st5 : R (Option Ab.D))).bind fun r st1 => match r with
                | some y => if accD.length < sizeLine then lcLoop s (lcBody own env fT fC fE) (s.items.drop (i + 1)) (accD ++ [y]) st1 else .bad
                | none => lcLoop s (lcBody own env fT fC fE) (s.items.drop (i + 1)) accD st1) = .ok ys st6 := hloop
              cases q5 : fE env2 st4 with
              | bad => rw [q5] at hloop; cases hloop
              | ex x st5 => rw [q5] at hloop; cases hloop
              | ok y st5 =>
                rw [q5] at hloop
                have hloop : (if accD.length < sizeLine then lcLoop s (lcBody own env fT fC fE) (s.items.drop (i + 1)) (accD ++ [y]) st5 else .bad) = .ok ys st6 := hloop
                refine ⟨m4, env2, st4, S4, E3.grow S3 g4, ?_⟩
                rw [q5]
                intro m5 H5 g5 S5 v hv
                have G5 := G4.trans g5
                obtain ⟨k1, k2⟩ := G5.keep D _ hDc hnT
                have hda5 := Dens.grow Sc G5 hda
                by_cases hz : accD.length < sizeLine
                · rw [if_pos hz] at hloop
                  refine ⟨accV, k1, by rw [← hda.length]; exact hz, hlt, m5, st5, accD ++ [y], accV ++ [v], (gc.trans G5).poke hD, S5.poke (.inr ⟨.lst accV, trivial, k1⟩) k2, upd_same, k2, ?_, hloop⟩
                  exact Dens.mono (fun _ _ h => h) ⟨sqT_upd (.inr ⟨.lst accV, trivial, k1⟩), sqB_upd (.inr ⟨.lst accV, trivial, k1⟩)⟩ _ _ (hda5.append (Dens.one hv))
                · rw [if_neg hz] at hloop
                  cases hloop
      · have e : i = s.items.length := by omega
        subst e
        rw [List.drop_length] at hloop
        unfold lcLoop at hloop
        rw [if_pos hst] at hloop
        cases hloop
        refine .inl ⟨stop, fin (mc ++ [D]) Hc (gc.join Sc.len hD) (Sc.join hDc hnT hda) (.ref D) ⟨D, ?_, rfl⟩⟩
        rw [← Sc.len, List.getElem?_append_right (Nat.le_refl _)]
        simp
end
end Ab

set_option Elab.async false
set_option linter.all false
set_option autoImplicit false
set_option maxRecDepth 10000
/-! AbSound1: every expression that is looked over does what the small language says. -/
namespace Ab
open PySem PySem.Spec PyProof.Rows L2

theorem assign_cons {e : Expr} {es : List Expr} {env : Env} (h : isStar e = false) : assignEach (e :: es) env = (false, assign e env) :: assignEach es env := by
  cases e <;> first | rfl | cases h
theorem assign_plain {env : Env} : ∀ {es : List Expr}, es.all (fun e => !isStar e) = true → (assignEach es env).findIdx? (·.1) = none ∧ (assignEach es env).length = es.length
  | [], _ => ⟨rfl, rfl⟩
  | e :: es, h => by
    simp only [List.all_cons, Bool.and_eq_true, Bool.not_eq_true'] at h
    obtain ⟨i1, i2⟩ := assign_plain (env := env) (es := es) (by simpa using h.2)
    rw [assign_cons h.1]
    refine ⟨?_, by simp [i2]⟩
    rw [List.findIdx?_cons, i1]
    rfl
section
variable {T : Tab} {G : Gb} {F : Str → List D → Sto → R D}
def CEs.count : CEs → Nat
  | .nil => 0
  | .cons _ es => es.count + 1
def Tgs.count : Tgs → Nat
  | .nil => 0
  | .cons _ es => es.count + 1
theorem evEs_len : ∀ {es : CEs} {env : En} {st st' : Sto} {ds : List D}, evEs T G F es env st = .ok ds st' → ds.length = es.count
  | .nil, env, st, st', ds, h => by
    have h : (R.ok [] st : R (List D)) = .ok ds st' := h
    cases h
    rfl
  | .cons e es, env, st, st', ds, h => by
    have h : ((evE T G F e env st).bind fun d st1 => (evEs T G F es env st1).bind fun ds st2 => .ok (d :: ds) st2) = .ok ds st' := h
    cases q : evE T G F e env st with
    | ok d st1 =>
      rw [q] at h
      have h : ((evEs T G F es env st1).bind fun ds st2 => .ok (d :: ds) st2) = .ok ds st' := h
      cases q2 : evEs T G F es env st1 with
      | ok ds2 st2 =>
        rw [q2] at h
        cases h
        simp [CEs.count, evEs_len q2]
      | ex x st2 => rw [q2] at h; cases h
      | bad => rw [q2] at h; cases h
    | ex x st1 => rw [q] at h; cases h
    | bad => rw [q] at h; cases h
theorem setTs_len : ∀ {ts : Tgs} {ds : List D} {env env' : En} {st st' : Sto}, setTs T G F ts ds env st = .ok env' st' → ds.length = ts.count
  | .nil, ds, env, env', st, st', h => by
    cases ds with
    | nil => rfl
    | cons d ds => exact (show (R.bad : R En) = .ok env' st' from h) |> fun h => by cases h
  | .cons t ts, ds, env, env', st, st', h => by
    cases ds with
    | nil => exact (show (R.bad : R En) = .ok env' st' from h) |> fun h => by cases h
    | cons d ds =>
      have h : ((setT T G F t d env st).bind fun env1 st1 => setTs T G F ts ds env1 st1) = .ok env' st' := h
      cases q : setT T G F t d env st with
      | ok env1 st1 =>
        rw [q] at h
        have h : setTs T G F ts ds env1 st1 = .ok env' st' := h
        simp [Tgs.count, setTs_len h]
      | ex x st1 => rw [q] at h; cases h
      | bad => rw [q] at h; cases h
variable {N : List Str} {KW : Tx} {sc raw : Scope}
theorem chkEs_len : ∀ {cs : CEs} {es : List Expr}, chkEs N KW sc raw cs es = true → cs.count = es.length
  | .nil, [], _ => rfl
  | .nil, _ :: _, h => by simp [chkEs] at h
  | .cons c cs, [], h => by simp [chkEs] at h
  | .cons c cs, e :: es, h => by
    simp only [chkEs, Bool.and_eq_true] at h
    simp [CEs.count, chkEs_len h.2]
theorem chkTgs_len : ∀ {cs : Tgs} {es : List Expr}, chkTgs N KW sc raw cs es = true → cs.count = es.length ∧ es.all (fun e => !isStar e) = true
  | .nil, [], _ => ⟨rfl, rfl⟩
  | .nil, _ :: _, h => by simp [chkTgs] at h
  | .cons c cs, [], h => by simp [chkTgs] at h
  | .cons c cs, e :: es, h => by
    simp only [chkTgs, Bool.and_eq_true] at h
    obtain ⟨i1, i2⟩ := chkTgs_len h.2
    simp [Tgs.count, i1, h.1.1, i2]
end

/-! ### dict displays -/
def kC : Sum Int Str → V
  | .inl i => .int i
  | .inr x => .str x
section
variable {T : Tab} {G : Gb} {F : Str → List D → Sto → R D} {X : Cx} {W : WX}
noncomputable def trsOf (X : Cx) (W : WX) (T : Tab) (G : Gb) (F : Str → List D → Sto → R D) : List (Sum Int Str) → CEs → List (TE × TE)
  | k :: ks, .cons e es => (tC (kC k), LfE X W (evE T G F e)) :: trsOf X W T G F ks es
  | _, _ => []
theorem pairs_of : ∀ {es : CEs} {ks : List (Sum Int Str)} {H : Hp} {σ : L2.St} {m : List Addr} {st : Sto} {env : En} {Q : List (V × V) → Hp → Prop} {P : List D → List Addr → Hp → Sto → Prop}, ks.length = es.count → StOk X.K X.mg m H st → EnOk X.K X.mg m H σ env → Res X.K X.mg W σ m H st (evEs T G F es env st) P →
    (∀ ds m1 H1 st1 vs, Grow m H st m1 H1 st1 → StOk X.K X.mg m1 H1 st1 → Dens X.K X.mg m1 H1 ds vs → ds.length = ks.length → P ds m1 H1 st1 → Q ((ks.zip vs).map fun kv => (kC kv.1, kv.2)) H1) → tPairs (trsOf X W T G F ks es) σ H Q
  | .nil, [], H, σ, m, st, env, Q, P, hl, S, E, h, nx => nx [] m H st [] Grow.refl S rfl rfl (Res.pure S h)
  | .nil, _ :: _, H, σ, m, st, env, Q, P, hl, S, E, h, nx => by simp [CEs.count] at hl
  | .cons e es, [], H, σ, m, st, env, Q, P, hl, S, E, h, nx => by simp [CEs.count] at hl
  | .cons e es, k :: ks, H, σ, m, st, env, Q, P, hl, S, E, h, nx => by
    have h : Res X.K X.mg W σ m H st ((evE T G F e env st).bind fun d st1 => (evEs T G F es env st1).bind fun ds st2 => .ok (d :: ds) st2) P := h
    refine Lf.of S E h fun d m1 H1 st1 v g1 S1 E1 hv h => ?_
    refine pairs_of (P := fun ds m2 H2 st2 => Grow m1 H1 st1 m2 H2 st2 ∧ P (d :: ds) m2 H2 st2) (by simpa [CEs.count] using hl) S1 E1 (h.bind.imp fun ds m2 H2 st2 g2 S2 q => ⟨g2, Res.pure S2 q⟩) fun ds m2 H2 st2 vs g2 S2 hd hl2 q => ?_
    exact nx (d :: ds) m2 H2 st2 (v :: vs) (g1.trans g2) S2 ⟨v, vs, rfl, Den.grow S1 g2 hv, hd⟩ (by simp [hl2]) q.2
theorem merge_all : ∀ (more acc : List (Key × V)), ((acc ++ more).map (·.1)).Nodup → mergeK acc more = acc ++ more
  | [], acc, _ => by simp [mergeK]
  | p :: more, acc, h => by
    have e : L2.putK acc p.1 p.2 = acc ++ [p] := by
      unfold L2.putK
      rw [if_neg]
      intro z
      rw [List.any_eq_true] at z
      obtain ⟨q, hq, e⟩ := z
      have e := of_decide_eq_true e
      rw [List.map_append, List.nodup_append] at h
      exact h.2.2 q.1 (List.mem_map_of_mem hq) p.1 (by simp) e
    show mergeK (L2.putK acc p.1 p.2) more = _
    rw [e, merge_all more (acc ++ [p]) (by simpa using h)]
    simp
theorem zip_fst {α β : Type} : ∀ {ks : List α} {vs : List β}, ks.length = vs.length → (ks.zip vs).map (·.1) = ks ∧ (ks.zip vs).map (·.2) = vs
  | [], [], _ => ⟨rfl, rfl⟩
  | [], _ :: _, h => nomatch h
  | _ :: _, [], h => nomatch h
  | k :: ks, v :: vs, h => by
    obtain ⟨i1, i2⟩ := zip_fst (ks := ks) (vs := vs) (by simpa using h)
    exact ⟨by simp [i1], by simp [i2]⟩
theorem q_dlt {es : CEs} {ks : List (Sum Int Str)} {keys : List (Option Expr)} {xs : List Expr} {pos : Pos} (h : PPs X pos keys xs (trsOf X W T G F ks es)) (hall : keys.all (·.isSome) = true) (hl : keys.length = xs.length) (h0 : keys ≠ []) (h15 : ks.length ≤ 15) (hk : keys.length = ks.length) (hc : ks.length = es.count) (hn : ks.Nodup) :
    PE X (.Dict keys xs pos) (LfE X W (evE T G F (.dlt ks es))) := by
  refine PE.weak (pe_disp h hall hl h0 (by omega)) ?_
  rintro σ H Q ⟨m, env, st, S, E, h⟩ p hp
  have h : Res X.K X.mg W σ m H st ((evEs T G F es env st).bind fun ds st1 => Ab.alloc (.dct (ks.zip ds)) st1) (fun a m' H' _ => ∀ b, Den X.K X.mg m' H' a b → Q b H') := h
  have g0 : Grow m H st m (upd H p (.dK [])) st := Grow.lay S hp
  have S0 : StOk X.K X.mg m (upd H p (.dK [])) st := S.poke (.inl hp) (S.noTrkNone hp)
  have n0 : ¬ Trk m st p := S.noTrkNone hp
  have h' : Res X.K X.mg W σ m (upd H p (.dK [])) st (evEs T G F es env st) (fun ds m1 H1 st1 => Grow m (upd H p (.dK [])) st m1 H1 st1 ∧ ∀ m' H', Grow m H st m' H' (st1 ++ [.dct (ks.zip ds)]) → StOk X.K X.mg m' H' (st1 ++ [.dct (ks.zip ds)]) → ∀ v, Den X.K X.mg m' H' (.ref st1.length) v → Q v H') := by
    cases q : evEs T G F es env st with
    | bad => rw [q] at h; exact h.elim
    | ex x st1 =>
      rw [q] at h
      exact fun m1 H1 c d g1 S1 => h m1 H1 c d (g0.trans g1) S1
    | ok ds st1 =>
      rw [q] at h
      exact fun m1 H1 g1 S1 => ⟨g1, fun m' H' g' S' v hv => h m' H' g' S' v hv⟩
  refine pairs_of hc S0 (E.grow S g0) h' fun ds m1 H1 st1 vs g1 S1 hd hl2 q => ?_
  obtain ⟨k1, k2⟩ := g1.keep p (.dK []) upd_same n0
  have hlv : ks.length = vs.length := by rw [← hd.length, hl2]
  obtain ⟨z1, z2⟩ := zip_fst hlv
  obtain ⟨y1, y2⟩ := zip_fst (ks := ks) (vs := ds) hl2.symm
  refine ⟨k1, ks.zip vs, ?_, by rw [List.length_zip]; omega, ?_⟩
  · refine List.map_congr_left fun kv _ => ?_
    cases kv.1 <;> rfl
  · rw [merge_all (ks.zip vs) [] (by rw [List.nil_append, z1]; exact hn), List.nil_append]
    have S2 : StOk X.K X.mg m1 (upd H1 p (.dK (ks.zip vs))) st1 := S1.poke (.inr ⟨.dK [], trivial, k1⟩) k2
    have g2 : Grow m H st m1 (upd H1 p (.dK (ks.zip vs))) st1 := (g0.trans g1).poke hp
    have hd2 : Dens X.K X.mg m1 (upd H1 p (.dK (ks.zip vs))) ds vs := Dens.mono (fun _ _ h => h) ⟨sqT_upd (.inr ⟨.dK [], trivial, k1⟩), sqB_upd (.inr ⟨.dK [], trivial, k1⟩)⟩ ds vs hd
    have S3 : StOk X.K X.mg (m1 ++ [p]) (upd H1 p (.dK (ks.zip vs))) (st1 ++ [.dct (ks.zip ds)]) := S2.joinO k2 ⟨ks.zip vs, upd_same, by rw [z1, y1], by rw [y2, z2]; exact hd2⟩
    refine q.2 _ _ (g2.join S1.len hp) S3 _ ⟨p, ?_, rfl⟩
    rw [← S1.len, List.getElem?_append_right (Nat.le_refl _)]
    simp
end
theorem pe_keyE {X : Cx} {k : Sum Int Str} {o : Option Expr} (h : keyE k o = true) : ∃ e, o = some e ∧ PE X e (tC (kC k)) := by
  unfold keyE at h
  split at h
  · cases (of_decide_eq_true h)
    exact ⟨_, rfl, pe_int⟩
  · simp only [Bool.and_eq_true, decide_eq_true_eq] at h
    obtain ⟨rfl, _⟩ := h
    exact ⟨_, rfl, pe_str⟩
  · cases h
theorem keysE_len : ∀ {ks : List (Sum Int Str)} {os : List (Option Expr)}, keysE ks os = true → os.length = ks.length ∧ os.all (·.isSome) = true
  | [], [], _ => ⟨rfl, rfl⟩
  | [], _ :: _, h => by simp [keysE] at h
  | _ :: _, [], h => by simp [keysE] at h
  | k :: ks, o :: os, h => by
    simp only [keysE, Bool.and_eq_true] at h
    obtain ⟨i1, i2⟩ := keysE_len h.2
    have hs : o.isSome = true := by
      have := h.1
      unfold keyE at this
      split at this <;> first | rfl | cases this
    exact ⟨by simp [i1], by simp [hs]; simpa using i2⟩
/-- a comprehension's block -/
theorem Good.blk {T : Tab} {G : Gb} {KW : Tx} {k : Nat} {X : Cx} {sc raw : Scope} {W : WX} (g : Good T G KW k X sc raw W) (s : Shared) (H : Hp) (scope : Scope) (cl : List (Str × Addr)) (C : Addr) (fp : List Addr) :
    Good T G KW k (X.blk s H scope (compEnvC scope cl C X.env) fp) (relS scope sc) scope W0 where
  scope := by
    show relabel scope X.env = relS scope sc
    rw [← g.scope]
    rfl
  nd := g.nd
  calm := g.calm
  room := g.room
  tk := takes0
  facts := g.facts
  fnc := fun x h => by
    show (scope.names.lookup x == some .cell) = true
    rw [h]
    rfl

section
variable {T : Tab} {G : Gb} {KW : Tx} {k : Nat}
mutual
theorem sE : ∀ (c : CE) {X : Cx} {sc raw : Scope} {W : WX} (g : Good T G KW k X sc raw W) (e : Expr), chkE X.N KW sc raw c e = true → PE X e (LfE X W (evE T G (callF T G k) c))
  | .var i, X, sc, raw, W, g, e, h => by
    unfold chkE at h
    split at h
    · simp only [Bool.and_eq_true, decide_eq_true_eq, Bool.not_eq_true'] at h
      exact q_var g h.1.1 h.1.2 h.2
    · cases h
  | .lit l, X, sc, raw, W, g, e, h => q_lit h
  | .glob x, X, sc, raw, W, g, e, h => by
    unfold chkE at h
    split at h
    · simp only [Bool.and_eq_true, decide_eq_true_eq] at h
      obtain ⟨rfl, h⟩ := h
      exact q_glob g h
    · cases h
  | .bin op a b, X, sc, raw, W, g, e, h => by
    unfold chkE at h
    split at h
    · simp only [Bool.and_eq_true, decide_eq_true_eq] at h
      obtain ⟨⟨⟨rfl, h1⟩, h2⟩, h3⟩ := h
      exact q_bin h1 (sE a g _ h2) (sE b g _ h3)
    · cases h
  | .neg a, X, sc, raw, W, g, e, h => by
    unfold chkE at h
    split at h
    · exact q_neg (sE a g _ h)
    · cases h
  | .cmp op a b, X, sc, raw, W, g, e, h => by
    unfold chkE at h
    split at h
    · simp only [Bool.and_eq_true, decide_eq_true_eq, Bool.not_eq_true'] at h
      obtain ⟨⟨⟨rfl, h1⟩, h2⟩, h3⟩ := h
      exact q_cmp g.hu h1 (sE a g _ h2) (sE b g _ h3)
    · cases h
  | .chain o1 o2 a b c, X, sc, raw, W, g, e, h => by
    unfold chkE at h
    split at h
    · simp only [Bool.and_eq_true, decide_eq_true_eq, Bool.not_eq_true'] at h
      obtain ⟨⟨⟨⟨⟨⟨rfl, rfl⟩, h1⟩, h2⟩, h3⟩, h4⟩, h5⟩ := h
      exact q_chain g.hu h2 (sE a g _ h3) (sE b g _ h4) (sE c g _ h5)
    · cases h
  | .and_ a b, X, sc, raw, W, g, e, h => by
    unfold chkE at h
    split at h
    · simp only [Bool.and_eq_true] at h
      exact q_and (sE a g _ h.1) (q_one (sE b g _ h.2))
    · simp only [Bool.and_eq_true] at h
      exact q_and (sE a g _ h.1) (sE b g _ h.2)
    · cases h
  | .or_ a b, X, sc, raw, W, g, e, h => by
    unfold chkE at h
    split at h
    · simp only [Bool.and_eq_true] at h
      exact q_or (sE a g _ h.1) (q_one (sE b g _ h.2))
    · simp only [Bool.and_eq_true] at h
      exact q_or (sE a g _ h.1) (sE b g _ h.2)
    · cases h
  | .not_ a, X, sc, raw, W, g, e, h => by
    unfold chkE at h
    split at h
    · exact q_not (sE a g _ h)
    · cases h
  | .ife c a b, X, sc, raw, W, g, e, h => by
    unfold chkE at h
    split at h
    · simp only [Bool.and_eq_true] at h
      exact q_ife (sT c g _ h.1.1).1 (sE a g _ h.1.2) (sE b g _ h.2)
    · cases h
  | .tup es, X, sc, raw, W, g, e, h => by
    unfold chkE at h
    split at h
    · exact q_tup (sEs es g _ h)
    · cases h
  | .lst es, X, sc, raw, W, g, e, h => by
    unfold chkE at h
    split at h
    · exact q_lst (sEs es g _ h)
    · cases h
  | .dnew, X, sc, raw, W, g, e, h => by
    unfold chkE at h
    split at h
    · exact q_dnew
    · cases h
  | .dlt ks es, X, sc, raw, W, g, e, h => by
    unfold chkE at h
    split at h
    · rename_i keys xs pos
      simp only [Bool.and_eq_true, decide_eq_true_eq] at h
      obtain ⟨⟨⟨⟨⟨h1, h2⟩, h3⟩, h4⟩, h5⟩, h6⟩ := h
      obtain ⟨l1, l2⟩ := keysE_len h1
      exact q_dlt (sPs es g ks keys pos xs h2 h1 h6) l2 (by rw [l1, h2]) (fun z => h3 (by rw [z] at l1; exact List.length_eq_zero_iff.mp l1.symm)) h4 l1 (by rw [chkEs_len h6]; exact h2) h5
    · cases h
  | .op1 o a, X, sc, raw, W, g, e, h => by
    unfold chkE at h
    cases o with
    | rev =>
      dsimp only at h
      split at h
      · exact q_rev (sE a g _ h)
      · cases h
    | trg =>
      dsimp only at h
      split at h
      · simp only [Bool.and_eq_true, decide_eq_true_eq, Bool.not_eq_true'] at h
        obtain ⟨⟨⟨⟨⟨rfl, h1⟩, rfl⟩, h2⟩, h3⟩, h4⟩ := h
        exact q_trg g.calm (g.gl h1).1 (g.bltn (by decide +kernel)) (g.gl h2).1 (g.bltn (by decide +kernel)) h3 (sE a g _ h4)
      · cases h
  | .op2 o a b, X, sc, raw, W, g, e, h => by
    unfold chkE at h
    cases o with
    | lcm =>
      dsimp only at h
      split at h
      · simp only [Bool.and_eq_true, decide_eq_true_eq, Bool.not_eq_true'] at h
        obtain ⟨⟨⟨⟨⟨h0, h1⟩, h2⟩, h3⟩, h4⟩, h5⟩ := h
        exact q_lcm (g.gl h1).1 (g.facts.imp _ _ h0) (g.gl h1).2.1 h2 h3 (sE a g _ h4) (sE b g _ h5)
      · cases h
  | .sub a i, X, sc, raw, W, g, e, h => by
    unfold chkE at h
    split at h
    · simp only [Bool.and_eq_true, Bool.not_eq_true'] at h
      exact q_sub g.hu h.1.1 (sE a g _ h.1.2) (sE i g _ h.2)
    · cases h
  | .slc a lo hi, X, sc, raw, W, g, e, h => by
    unfold chkE at h
    split at h
    · simp only [Bool.and_eq_true] at h
      exact q_slc (sE a g _ h.1.1) (sP lo g _ h.1.2) (sP hi g _ h.2)
    · cases h
  | .call f es, X, sc, raw, W, g, e, h => by
    unfold chkE at h
    split at h
    · rename_i gx p xs pos
      simp only [Bool.and_eq_true, decide_eq_true_eq] at h
      obtain ⟨⟨⟨rfl, h1⟩, h2⟩, h3⟩ := h
      cases xs with
      | nil =>
        cases es with
        | nil => exact q_call0 g h1 h2
        | cons a b => simp [chkEs] at h3
      | cons x xs => exact q_call g h1 h2 (chkEs_nostar h3) (sEs es g _ h3)
    · cases h
  | .callk f es ks ws, X, sc, raw, W, g, e, h => by
    unfold chkE at h
    split at h
    · rename_i gx p xs kws pos
      simp only [Bool.and_eq_true, decide_eq_true_eq] at h
      obtain ⟨⟨⟨⟨⟨⟨⟨rfl, h1⟩, h4⟩, h2⟩, h3⟩, h5⟩, h6⟩, h7⟩ := h
      refine q_callk g h2 h3 h1 (chkEs_nostar h4) h6 (sEs es g _ h4) (sKs ws g _ h7) (fun env st ds st' q => ?_) (fun env st ds st' q => ?_) (fun e => ?_)
      · rw [evEs_len q, chkEs_len h4]
      · rw [evEs_len q, chkEs_len h7]
        have := congrArg List.length h6
        simpa using this
      · subst e
        cases es with
        | nil => rfl
        | cons a b => simp [chkEs] at h4
    · cases h
  | .blt b es, X, sc, raw, W, g, e, h => by
    unfold chkE at h
    split at h
    · simp only [Bool.and_eq_true, decide_eq_true_eq] at h
      obtain ⟨⟨rfl, h1⟩, h2⟩ := h
      exact q_blt g b h1 (chkEs_nostar h2) (sEs es g _ h2)
    · cases h
  | .isi a t, X, sc, raw, W, g, e, h => by
    unfold chkE at h
    split at h
    · simp only [Bool.and_eq_true, decide_eq_true_eq, Bool.not_eq_true'] at h
      obtain ⟨⟨⟨⟨⟨rfl, h1⟩, rfl⟩, h2⟩, h3⟩, h4⟩ := h
      exact q_isi g t h1 h2 h3 (sE a g _ h4)
    · cases h
  | .meth mt o es, X, sc, raw, W, g, e, h => by
    unfold chkE at h
    split at h
    · simp only [Bool.and_eq_true, decide_eq_true_eq, Bool.not_eq_true'] at h
      obtain ⟨⟨⟨⟨⟨rfl, h1⟩, h2⟩, h3⟩, h4⟩, h5⟩ := h
      refine q_meth mt h1 h2 h3 (chkEs_nostar h5) (sE o g _ h4) (sEs es g _ h5) (fun e => ?_)
      subst e
      cases es with
      | nil => rfl
      | cons a b => simp [chkEs] at h5
    · cases h
  | .lc elt tg it cond own, X, sc, raw, W, g, e, h => by
    unfold chkE at h
    split at h
    · rename_i x tgt iter ifs kk scope pos
      simp only [Bool.and_eq_true, Bool.not_eq_true', beq_iff_eq] at h
      obtain ⟨⟨⟨⟨⟨⟨⟨rfl, h1⟩, h2⟩, h3⟩, h4⟩, h5⟩, h6⟩, h7⟩ := h
      have ow : (ownP X.N own).map (·.2) = own := by
        unfold ownP
        rw [List.map_map]
        exact List.map_id'' (fun _ => rfl) own
      have key := pe_lc (X := X) (own := ownP X.N own) (pos := pos) (wi := LfI X W (evI T G (callF T G k) it)) (g := LgT X tg (setT T G (callF T G k) tg)) (tt := LfT X W0 (evC T G (callF T G k) cond)) (te := LfE X W0 (evE T G (callF T G k) elt)) g.calm g.nd (sI it g iter _ h4) (blkOk_by (by rw [g.scope]; exact h2))
        (fun s H C cl fp => sTg tg (g.blk s H scope cl C fp) tgt h5) (fun s H C cl fp => sC cond (g.blk s H scope cl C fp) ifs h6) (fun s H C cl fp => sE elt (g.blk s H scope cl C fp) x h7) (folded_no h1)
      rw [ow] at key
      exact PE.weak key (lc_weak h3)
    · cases h
theorem sT : ∀ (c : CE) {X : Cx} {sc raw : Scope} {W : WX} (g : Good T G KW k X sc raw W) (e : Expr), chkT X.N KW sc raw c e = true → PT X e (LfT X W (tst (evE T G (callF T G k) c))) ∧ ∀ op vs pos, e = .BoolOp op vs pos → PW X e (LfT X W (tst (evE T G (callF T G k) c)))
  | .not_ a, X, sc, raw, W, g, e, h => by
    unfold chkT at h
    split at h
    · exact ⟨qt_not (sT a g _ h).1, fun _ _ _ e => nomatch e⟩
    · cases h
  | .and_ a b, X, sc, raw, W, g, e, h => by
    unfold chkT at h
    split at h
    · rename_i x y pos
      simp only [Bool.and_eq_true] at h
      have q : PW X (.BoolOp .And [x, y] pos) _ := qw_and (sT a g _ h.1).1 (qw_and1 (sT b g _ h.2).1)
      exact ⟨PW.pt q, fun _ _ _ _ => q⟩
    · rename_i x y z r pos
      simp only [Bool.and_eq_true] at h
      have q : PW X (.BoolOp .And (x :: y :: z :: r) pos) _ := qw_and (sT a g _ h.1).1 ((sT b g _ h.2).2 _ _ _ rfl)
      exact ⟨PW.pt q, fun _ _ _ _ => q⟩
    · cases h
  | .or_ a b, X, sc, raw, W, g, e, h => by
    unfold chkT at h
    split at h
    · rename_i x y pos
      simp only [Bool.and_eq_true] at h
      have q : PW X (.BoolOp .Or [x, y] pos) _ := qw_or (sT a g _ h.1).1 (qw_or1 (sT b g _ h.2).1)
      exact ⟨PW.pt q, fun _ _ _ _ => q⟩
    · rename_i x y z r pos
      simp only [Bool.and_eq_true] at h
      have q : PW X (.BoolOp .Or (x :: y :: z :: r) pos) _ := qw_or (sT a g _ h.1).1 ((sT b g _ h.2).2 _ _ _ rfl)
      exact ⟨PW.pt q, fun _ _ _ _ => q⟩
    · cases h
  | .cmp op a b, X, sc, raw, W, g, e, h => by
    unfold chkT at h
    split at h
    · simp only [Bool.and_eq_true, decide_eq_true_eq, Bool.not_eq_true'] at h
      obtain ⟨⟨⟨rfl, h1⟩, h2⟩, h3⟩ := h
      exact ⟨qt_cmp g.hu h1 (sE a g _ h2) (sE b g _ h3), fun _ _ _ e => nomatch e⟩
    · cases h
  | .chain o1 o2 a b c, X, sc, raw, W, g, e, h => by
    unfold chkT at h
    split at h
    · simp only [Bool.and_eq_true, decide_eq_true_eq, Bool.not_eq_true'] at h
      obtain ⟨⟨⟨⟨⟨⟨rfl, rfl⟩, h1⟩, h2⟩, h3⟩, h4⟩, h5⟩ := h
      exact ⟨qt_chain g.hu h2 (sE a g _ h3) (sE b g _ h4) (sE c g _ h5), fun _ _ _ e => nomatch e⟩
    · cases h
  | .var i, X, sc, raw, W, g, e, h => by
    have h := chkT_var _ _ h
    simp only [Bool.and_eq_true] at h
    have h2 := h.2
    unfold chkE at h2
    split at h2
    · simp only [Bool.and_eq_true, decide_eq_true_eq, Bool.not_eq_true'] at h2
      exact ⟨qt_val (fun whole => rfl) (q_var g h2.1.1 h2.1.2 h2.2), fun _ _ _ e => nomatch e⟩
    · cases h2
  | .lit l, X, sc, raw, W, g, e, h => by
    have h := chkT_lit _ _ h
    simp only [Bool.and_eq_true] at h
    refine ⟨qt_val (plain_true h.1) (q_lit h.2), fun op vs pos e => ?_⟩
    subst e
    exact absurd h.1 (by simp [plainT])
  | .sub a i, X, sc, raw, W, g, e, h => by
    unfold chkT at h
    split at h
    · simp only [Bool.and_eq_true, Bool.not_eq_true'] at h
      exact ⟨qt_val (fun whole => rfl) (q_sub g.hu h.1.1 (sE a g _ h.1.2) (sE i g _ h.2)), fun _ _ _ e => nomatch e⟩
    · cases h
  | .call f es, X, sc, raw, W, g, e, h => by
    unfold chkT at h
    split at h
    · rename_i gx p xs pos
      simp only [Bool.and_eq_true, decide_eq_true_eq] at h
      obtain ⟨⟨⟨rfl, h1⟩, h2⟩, h3⟩ := h
      cases xs with
      | nil =>
        cases es with
        | nil => exact ⟨qt_val (fun whole => rfl) (q_call0 g h1 h2), fun _ _ _ e => nomatch e⟩
        | cons a b => simp [chkEs] at h3
      | cons x xs => exact ⟨qt_val (fun whole => rfl) (q_call g h1 h2 (chkEs_nostar h3) (sEs es g _ h3)), fun _ _ _ e => nomatch e⟩
    · cases h
  | .callk f es ks ws, X, sc, raw, W, g, e, h => by
    unfold chkT at h
    split at h
    · rename_i gx p xs kws pos
      simp only [Bool.and_eq_true, decide_eq_true_eq] at h
      obtain ⟨⟨⟨⟨⟨⟨⟨rfl, h1⟩, h4⟩, h2⟩, h3⟩, h5⟩, h6⟩, h7⟩ := h
      refine ⟨qt_val (fun whole => rfl) (?_ : PE X _ (LfE X W (evE T G (callF T G k) (.callk f es ks ws)))), fun _ _ _ e => nomatch e⟩
      refine q_callk g h2 h3 h1 (chkEs_nostar h4) h6 (sEs es g _ h4) (sKs ws g _ h7) (fun env st ds st' q => ?_) (fun env st ds st' q => ?_) (fun e => ?_)
      · rw [evEs_len q, chkEs_len h4]
      · rw [evEs_len q, chkEs_len h7]
        have := congrArg List.length h6
        simpa using this
      · subst e
        cases es with
        | nil => rfl
        | cons a b => simp [chkEs] at h4
    · cases h
  | .blt b es, X, sc, raw, W, g, e, h => by
    unfold chkT at h
    split at h
    · simp only [Bool.and_eq_true, decide_eq_true_eq] at h
      obtain ⟨⟨rfl, h1⟩, h2⟩ := h
      exact ⟨qt_val (fun whole => rfl) (q_blt g b h1 (chkEs_nostar h2) (sEs es g _ h2)), fun _ _ _ e => nomatch e⟩
    · cases h
  | .isi a t, X, sc, raw, W, g, e, h => by
    unfold chkT at h
    split at h
    · simp only [Bool.and_eq_true, decide_eq_true_eq, Bool.not_eq_true'] at h
      obtain ⟨⟨⟨⟨⟨rfl, h1⟩, rfl⟩, h2⟩, h3⟩, h4⟩ := h
      exact ⟨qt_val (fun whole => rfl) (q_isi g t h1 h2 h3 (sE a g _ h4)), fun _ _ _ e => nomatch e⟩
    · cases h
  | .glob x, X, sc, raw, W, g, e, h => by simp [chkT] at h
  | .bin op a b, X, sc, raw, W, g, e, h => by simp [chkT] at h
  | .neg a, X, sc, raw, W, g, e, h => by simp [chkT] at h
  | .ife c a b, X, sc, raw, W, g, e, h => by simp [chkT] at h
  | .tup es, X, sc, raw, W, g, e, h => by simp [chkT] at h
  | .lst es, X, sc, raw, W, g, e, h => by simp [chkT] at h
  | .dnew, X, sc, raw, W, g, e, h => by simp [chkT] at h
  | .dlt _ _, X, sc, raw, W, g, e, h => by simp [chkT] at h
  | .op1 _ _, X, sc, raw, W, g, e, h => by simp [chkT] at h
  | .op2 _ _ _, X, sc, raw, W, g, e, h => by simp [chkT] at h
  | .slc a lo hi, X, sc, raw, W, g, e, h => by simp [chkT] at h
  | .meth mt o es, X, sc, raw, W, g, e, h => by simp [chkT] at h
  | .lc elt tg it cond own, X, sc, raw, W, g, e, h => by simp [chkT] at h
theorem sEs : ∀ (c : CEs) {X : Cx} {sc raw : Scope} {W : WX} (g : Good T G KW k X sc raw W) (e : List Expr), chkEs X.N KW sc raw c e = true → PA X e (LfA X W (evEs T G (callF T G k) c))
  | .nil, X, sc, raw, W, g, e, h => by
    cases e with
    | nil => exact qa_nil
    | cons a b => simp [chkEs] at h
  | .cons c cs, X, sc, raw, W, g, e, h => by
    cases e with
    | nil => simp [chkEs] at h
    | cons a b =>
      simp only [chkEs, Bool.and_eq_true, Bool.not_eq_true'] at h
      exact qa_cons h.1.1 (sE c g _ h.1.2) (sEs cs g _ h.2)
theorem sPs : ∀ (c : CEs) {X : Cx} {sc raw : Scope} {W : WX} (g : Good T G KW k X sc raw W) (ks : List (Sum Int Str)) (keys : List (Option Expr)) (pos : Pos) (e : List Expr), ks.length = e.length → keysE ks keys = true → chkEs X.N KW sc raw c e = true → PPs X pos keys e (trsOf X W T G (callF T G k) ks c)
  | .nil, X, sc, raw, W, g, ks, keys, pos, e, hl, hk, h => by
    cases e with
    | nil =>
      cases ks with
      | nil => cases keys with
        | nil => exact pps_nil
        | cons => simp [keysE] at hk
      | cons a b => simp at hl
    | cons a b => simp [chkEs] at h
  | .cons c cs, X, sc, raw, W, g, ks, keys, pos, e, hl, hk, h => by
    cases e with
    | nil => simp [chkEs] at h
    | cons a b =>
      simp only [chkEs, Bool.and_eq_true, Bool.not_eq_true'] at h
      cases ks with
      | nil => simp at hl
      | cons k1 ks => cases keys with
        | nil => simp [keysE] at hk
        | cons o os =>
          simp only [keysE, Bool.and_eq_true] at hk
          obtain ⟨ke, rfl, pk⟩ := pe_keyE (X := X) hk.1
          exact pps_cons pk (sE c g _ h.1.2) (sPs cs g ks os pos b (by simpa using hl) hk.2 h.2)
theorem sKs : ∀ (c : CEs) {X : Cx} {sc raw : Scope} {W : WX} (g : Good T G KW k X sc raw W) (e : List Keyword), chkEs X.N KW sc raw c (e.map (·.value)) = true → PK X e (LfA X W (evEs T G (callF T G k) c))
  | .nil, X, sc, raw, W, g, e, h => by
    cases e with
    | nil => exact qk_nil
    | cons a b => simp [chkEs] at h
  | .cons c cs, X, sc, raw, W, g, e, h => by
    cases e with
    | nil => simp [chkEs] at h
    | cons a b =>
      simp only [List.map_cons, chkEs, Bool.and_eq_true, Bool.not_eq_true'] at h
      obtain ⟨nm, v, p⟩ := a
      exact qk_cons (sE c g _ h.1.2) (sKs cs g _ h.2)
theorem sP : ∀ (c : Pt) {X : Cx} {sc raw : Scope} {W : WX} (g : Good T G KW k X sc raw W) (e : Option Expr), chkP X.N KW sc raw c e = true → PO X e (LfP X W (evP T G (callF T G k) c))
  | .none, X, sc, raw, W, g, e, h => by
    cases e with
    | none => exact q_nopart
    | some a => simp [chkP] at h
  | .some c, X, sc, raw, W, g, e, h => by
    cases e with
    | none => simp [chkP] at h
    | some a => exact q_part (sE c g _ (by unfold chkP at h; exact h))
theorem sC : ∀ (c : Pt) {X : Cx} {sc raw : Scope} {W : WX} (g : Good T G KW k X sc raw W) (e : List Expr), chkC X.N KW sc raw c e = true → PTs X e (LfT X W (evC T G (callF T G k) c))
  | .none, X, sc, raw, W, g, e, h => by
    cases e with
    | nil =>
      refine PTs.weak pts_nil ?_
      rintro σ H Q ⟨m, env, st, S, E, h⟩
      exact Res.pure S h true rfl
    | cons a b => simp [chkC] at h
  | .some c, X, sc, raw, W, g, e, h => by
    unfold chkC at h
    split at h
    · exact pts_one (sT c g _ h).1
    · cases h
theorem sI : ∀ (c : Itr) {X : Cx} {sc raw : Scope} {W : WX} (g : Good T G KW k X sc raw W) (e tg : Expr), chkI X.N KW sc raw c e (isTup tg) = true → PI X tg e (LfI X W (evI T G (callF T G k) c))
  | .seq c, X, sc, raw, W, g, e, tg, h => pi_seq (sE c g _ (by unfold chkI at h; exact h))
  | .rng1 a, X, sc, raw, W, g, e, tg, h => by
    unfold chkI at h
    split at h
    · simp only [Bool.and_eq_true, decide_eq_true_eq, Bool.not_eq_true'] at h
      obtain ⟨⟨⟨rfl, h1⟩, h2⟩, h3⟩ := h
      exact pi_rng1 (g.gl h1).1 (g.bltn (by decide +kernel)) h2 (sE a g _ h3)
    · cases h
  | .rng2 a b, X, sc, raw, W, g, e, tg, h => by
    unfold chkI at h
    split at h
    · simp only [Bool.and_eq_true, decide_eq_true_eq, Bool.not_eq_true'] at h
      obtain ⟨⟨⟨⟨⟨rfl, h1⟩, h2⟩, h3⟩, h4⟩, h5⟩ := h
      exact pi_rng2 (g.gl h1).1 (g.bltn (by decide +kernel)) h2 h3 (sE a g _ h4) (sE b g _ h5)
    · cases h
  | .rngd a b, X, sc, raw, W, g, e, tg, h => by
    unfold chkI at h
    split at h
    · simp only [Bool.and_eq_true, decide_eq_true_eq, Bool.not_eq_true'] at h
      obtain ⟨⟨⟨⟨⟨⟨⟨rfl, h1⟩, h2⟩, h3⟩, h4⟩, h5⟩, h6⟩, h7⟩ := h
      split at h7
      · exact pi_rngd (fun _ _ => rfl) (g.gl h1).1 (g.bltn (by decide +kernel)) h2 h3 rfl (sE a g _ h5) (sE b g _ h6) (q_neg (q_lit (T := T) (G := G) (F := callF T G k) (KW := KW) (sc := sc) (raw := raw) (l := .int 1) (N := X.N) (by unfold chkE; rfl)))
      · cases h7
    · cases h
  | .enum a, X, sc, raw, W, g, e, tg, h => by
    unfold chkI at h
    split at h
    · simp only [Bool.and_eq_true, decide_eq_true_eq, Bool.not_eq_true'] at h
      obtain ⟨⟨⟨⟨h0, rfl⟩, h1⟩, h2⟩, h3⟩ := h
      cases tg with
      | Tuple elts kk tpos => exact pi_enm (g.gl h1).1 (g.bltn (by decide +kernel)) h2 (sE a g _ h3)
      | _ => cases h0
    · cases h
  | .zip a b, X, sc, raw, W, g, e, tg, h => by
    unfold chkI at h
    split at h
    · simp only [Bool.and_eq_true, decide_eq_true_eq, Bool.not_eq_true'] at h
      obtain ⟨⟨⟨⟨⟨⟨h0, rfl⟩, h1⟩, h2⟩, h3⟩, h4⟩, h5⟩ := h
      cases tg with
      | Tuple elts kk tpos => exact pi_zp (g.gl h1).1 (g.bltn (by decide +kernel)) h2 h3 (sE a g _ h4) (sE b g _ h5)
      | _ => cases h0
    · cases h
theorem sTg : ∀ (c : Tg) {X : Cx} {sc raw : Scope} {W : WX} (g : Good T G KW k X sc raw W) (e : Expr), chkTg X.N KW sc raw c e = true → PG X e (LgT X c (setT T G (callF T G k) c))
  | .nm i, X, sc, raw, W, g, e, h => by
    unfold chkTg at h
    split at h
    · simp only [Bool.and_eq_true, decide_eq_true_eq] at h
      exact qg_nm g h.1 h.2
    · cases h
  | .tp ts, X, sc, raw, W, g, e, h => by
    unfold chkTg at h
    split at h
    · obtain ⟨h1, h2⟩ := chkTgs_len h
      obtain ⟨h3, h4⟩ := assign_plain (env := X.env) h2
      exact qg_tp g.calm (sTgs ts g _ h) h3 h4 (fun ds env st env' st' q => by rw [setTs_len q, h1])
    · cases h
  | .sb a i, X, sc, raw, W, g, e, h => by
    unfold chkTg at h
    split at h
    · simp only [Bool.and_eq_true, Bool.not_eq_true'] at h
      exact qg_sb g.hu h.1.1 (sE a g _ h.1.2) (sE i g _ h.2)
    · cases h
theorem sTgs : ∀ (c : Tgs) {X : Cx} {sc raw : Scope} {W : WX} (g : Good T G KW k X sc raw W) (e : List Expr), chkTgs X.N KW sc raw c e = true → PGs X e (LgTs X c (setTs T G (callF T G k) c))
  | .nil, X, sc, raw, W, g, e, h => by
    cases e with
    | nil => exact qgs_nil
    | cons a b => simp [chkTgs] at h
  | .cons t ts, X, sc, raw, W, g, e, h => by
    cases e with
    | nil => simp [chkTgs] at h
    | cons a b =>
      simp only [chkTgs, Bool.and_eq_true, Bool.not_eq_true'] at h
      exact qgs_cons (sTg t g _ h.1.2) (sTgs ts g _ h.2) (by rw [assign_cons h.1.1]; rfl)
end
end
end Ab

set_option Elab.async false
set_option linter.all false
set_option autoImplicit false
set_option maxRecDepth 10000
/-! AbStmt: statements do what the small language says. -/
namespace Ab
open PySem PySem.Spec PyProof.Rows L2

/-- a statement's result, its end wanted -/
def RRes (X : Cx) (W : WX) (m : List Addr) (H : Hp) (st : Sto) (r : RS) (D : Ends) : Prop :=
  match r with
  | .nx env st' => ∀ m' H' σ', Grow m H st m' H' st' → StOk X.K X.mg m' H' st' → EnOk X.K X.mg m' H' σ' env → D.nx σ' H'
  | .rt d st' => ∀ m' H' v, Grow m H st m' H' st' → StOk X.K X.mg m' H' st' → Den X.K X.mg m' H' d v → D.rt v H'
  | .bk env st' => ∀ m' H' σ', Grow m H st m' H' st' → StOk X.K X.mg m' H' st' → EnOk X.K X.mg m' H' σ' env → D.bk σ' H'
  | .ct env st' => ∀ m' H' σ', Grow m H st m' H' st' → StOk X.K X.mg m' H' st' → EnOk X.K X.mg m' H' σ' env → D.ct σ' H'
  | .ex x env st' => ∀ m' H' σ' cls d, Grow m H st m' H' st' → StOk X.K X.mg m' H' st' → EnOk X.K X.mg m' H' σ' env → XR X.K X.mg m' H' x cls d → W cls d σ' H'
  | .bad => False
def LfS (X : Cx) (W : WX) (f : En → Sto → RS) : TS := fun D σ H => ∃ m env st, StOk X.K X.mg m H st ∧ EnOk X.K X.mg m H σ env ∧ RRes X W m H st (f env st) D
section
variable {X : Cx} {W : WX} {m m1 : List Addr} {H H1 : Hp} {st st1 : Sto}
theorem RRes.from {r : RS} {D : Ends} (h : RRes X W m H st r D) (g : Grow m H st m1 H1 st1) : RRes X W m1 H1 st1 r D := by
  cases r with
  | nx env st' => exact fun m' H' σ' g' S' E' => h m' H' σ' (g.trans g') S' E'
  | rt d st' => exact fun m' H' v g' S' hv => h m' H' v (g.trans g') S' hv
  | bk env st' => exact fun m' H' σ' g' S' E' => h m' H' σ' (g.trans g') S' E'
  | ct env st' => exact fun m' H' σ' g' S' E' => h m' H' σ' (g.trans g') S' E'
  | ex x env st' => exact fun m' H' σ' cls d g' S' E' hx => h m' H' σ' cls d (g.trans g') S' E' hx
  | bad => exact h
/-- a result taken further -/
theorem Lf.ofS {α β : Type} {f : En → Sto → R α} {rel : α → List Addr → Hp → β → Prop} {σ : L2.St} {env : En} {k : α → Sto → RS} {D : Ends} {B : β → Hp → Prop}
    (S : StOk X.K X.mg m H st) (E : EnOk X.K X.mg m H σ env) (h : RRes X W m H st (RS.of env (f env st) k) D)
    (nx : ∀ a m1 H1 st1 b, Grow m H st m1 H1 st1 → StOk X.K X.mg m1 H1 st1 → EnOk X.K X.mg m1 H1 σ env → rel a m1 H1 b → RRes X W m1 H1 st1 (k a st1) D → B b H1) : Lf X W f rel σ H B := by
  refine ⟨m, env, st, S, E, ?_⟩
  cases q : f env st with
  | ok a st1 =>
    rw [q] at h
    intro m1 H1 g1 S1 b hb
    exact nx a m1 H1 st1 b g1 S1 (E.grow S g1) hb (RRes.from h g1)
  | ex x st1 =>
    rw [q] at h
    exact fun m' H' cls d g' S' hx => h m' H' σ cls d g' S' (E.grow S g') hx
  | bad => rw [q] at h; exact h.elim

/-! ### small statements -/
variable {e : Expr} {f : En → Sto → R D} {pos : Pos}
theorem s_expr (hs : swapsWith e none pos.line X.env = pure false) (he : PE X e (LfE X W f)) : PS X (.Expr e pos) (LfS X W fun env st => RS.of env (f env st) fun _ st1 => .nx env st1) := by
  refine PS.weak (ps_expr he hs) ?_
  rintro D σ H ⟨m, env, st, S, E, h⟩
  exact Lf.ofS S E h fun d m1 H1 st1 v g1 S1 E1 hv h => h m1 H1 σ Grow.refl S1 E1
theorem s_ret (he : PE X e (LfE X W f)) : PS X (.Return (some e) pos) (LfS X W fun env st => RS.of env (f env st) fun d st1 => .rt d st1) := by
  refine PS.weak (ps_ret he) ?_
  rintro D σ H ⟨m, env, st, S, E, h⟩
  exact Lf.ofS S E h fun d m1 H1 st1 v g1 S1 E1 hv h => h m1 H1 v Grow.refl S1 hv
theorem s_retN : PS X (.Return none pos) (LfS X W fun _ st => .rt .non st) := by
  refine PS.weak ps_retN ?_
  rintro D σ H ⟨m, env, st, S, E, h⟩
  exact h m H .non Grow.refl S rfl
theorem s_pass : PS X (.Pass pos) (LfS X W fun env st => .nx env st) := by
  refine PS.weak ps_pass ?_
  rintro D σ H ⟨m, env, st, S, E, h⟩
  exact h m H σ Grow.refl S E
theorem s_never {s : Stmt} : PS X s (LfS X W fun _ _ => .bad) := by
  refine PS.weak ps_never ?_
  rintro D σ H ⟨m, env, st, S, E, h⟩
  exact h
theorem s_ife {c : Expr} {a b : List Stmt} {fc : En → Sto → R Bool} {fa fb : En → Sto → RS} (hc : PT X c (LfT X W fc)) (ha : PSs X a (LfS X W fa)) (hb : PSs X b (LfS X W fb)) : PS X (.If c a b pos) (LfS X W fun env st => RS.of env (fc env st) fun k st1 => if k = true then fa env st1 else fb env st1) := by
  refine PS.weak (ps_if hc ha hb) ?_
  rintro D σ H ⟨m, env, st, S, E, h⟩
  refine Lf.ofS S E h fun k m1 H1 st1 b g1 S1 E1 hb h => ?_
  subst hb
  cases b with
  | true => exact ⟨m1, env, st1, S1, E1, h⟩
  | false => exact ⟨m1, env, st1, S1, E1, h⟩
theorem ss_nil : PSs X [] (LfS X W fun env st => .nx env st) := by
  refine PSs.weak pss_nil ?_
  rintro D σ H ⟨m, env, st, S, E, h⟩
  exact h m H σ Grow.refl S E
theorem ss_cons {s : Stmt} {r : List Stmt} {f g : En → Sto → RS} (h1 : PS X s (LfS X W f)) (h2 : PSs X r (LfS X W g)) : PSs X (s :: r) (LfS X W fun env st => (f env st).andThen g) := by
  refine PSs.weak (pss_cons h1 h2) ?_
  rintro D σ H ⟨m, env, st, S, E, h⟩
  refine ⟨m, env, st, S, E, ?_⟩
  have h : RRes X W m H st ((f env st).andThen g) D := h
  cases q : f env st with
  | nx env1 st1 =>
    rw [q] at h
    exact fun m1 H1 σ1 g1 S1 E1 => ⟨m1, env1, st1, S1, E1, RRes.from h g1⟩
  | rt d st1 => rw [q] at h; exact h
  | bk env1 st1 => rw [q] at h; exact h
  | ct env1 st1 => rw [q] at h; exact h
  | ex x env1 st1 => rw [q] at h; exact h
  | bad => rw [q] at h; exact h.elim
/-- target = value -/
theorem s_asg {tg : Expr} {t : Tg} {ft : D → En → Sto → R En} (hs : swapsWithSole [tg] e pos.line X.env = pure false) (hw : swappedStores [tg] e X.env = pure none) (h1 : (assignEach [tg] X.env).map (·.2) = [assign tg X.env]) (he : PE X e (LfE X W f)) (hg : PG X tg (LgT X t ft))
    (hx : ∀ d env st, (ft d env st).plain) : PS X (.Assign [tg] e pos) (LfS X W fun env st => RS.of env (f env st) fun d st1 => RS.of env (ft d env st1) fun env1 st2 => .nx env1 st2) := by
  refine PS.weak (ps_asg he hg hs hw h1) ?_
  rintro D σ H ⟨m, env, st, S, E, h⟩
  refine Lf.ofS S E h fun d m1 H1 st1 v g1 S1 E1 hv h => ?_
  cases q : ft d env st1 with
  | ok env2 st2 =>
    rw [q] at h
    exact ⟨m1, env, st1, d, env2, st2, S1, E1, hv, q, fun m' H' σ' g' S' E' _ => h m' H' σ' g' S' E'⟩
  | ex x st2 =>
    have := hx d env st1
    rw [q] at this
    exact this.elim
  | bad => rw [q] at h; exact h.elim

/-! ### loops -/
theorem bk_eta {D : Ends} : True := trivial
section
variable {fT : D → En → Sto → R En} {fb : En → Sto → RS} {fI : En → Sto → R Src} {fc : En → Sto → R Bool} {t : Tg} {tg iter c : Expr} {body : List Stmt}
theorem s_for (hp : PassesOwn (model X.prog X.w) X.A X.env X.xe) (hc : X.calm = true) (hs : isSet iter = false) (hi : PI X tg iter (LfI X W fI)) (hg : PG X tg (LgT X t fT)) (hx : ∀ d env st, (fT d env st).plain) (hb : PSs X body (LfS X W fb)) :
    PS X (.For tg iter body [] pos) (LfS X W fun env st => RS.of env (fI env st) fun s st1 => forLoop s fT fb s.items env st1) := by
  refine PS.weak (ps_for hp hc hi hg hb (folded_no hs)) ?_
  rintro D σ H ⟨m, env, st, S, E, h⟩
  have h : RRes X W m H st (RS.of env (fI env st) fun s st1 => forLoop s fT fb s.items env st1) D := h
  cases q : fI env st with
  | bad => rw [q] at h; exact h.elim
  | ex x st1 =>
    refine ⟨m, env, st, S, E, ?_⟩
    rw [q] at h ⊢
    exact fun m' H' cls d g' S' hx => h m' H' σ cls d g' S' (E.grow S g') hx
  | ok s st1 =>
    rw [q] at h
    refine ⟨m, env, st, S, E, ?_⟩
    rw [q]
    intro m1 H1 g1 S1 J hJ
    have h : RRes X W m1 H1 st1 (forLoop s fT fb s.items env st1) D := RRes.from h g1
    refine ⟨fun i μ σc Hc => μ = s.items.length - i ∧ i ≤ s.items.length ∧ ∃ mc envc stc, Grow m1 H1 st1 mc Hc stc ∧ StOk X.K X.mg mc Hc stc ∧ EnOk X.K X.mg mc Hc σc envc ∧ RRes X W mc Hc stc (forLoop s fT fb (s.items.drop i) envc stc) D,
      ⟨s.items.length, by simp, Nat.zero_le _, m1, env, st1, Grow.refl, S1, E.grow S g1, by simpa using h⟩, ?_⟩
    rintro i μ σc Hc ⟨rfl, hi, mc, envc, stc, gc, Sc, Ec, hl⟩
    have hst : s.still stc := by
      cases ql : s.items.drop i with
      | nil =>
        rw [ql] at hl
        unfold forLoop at hl
        by_cases hst : s.still stc
        · exact hst
        · rw [if_neg hst] at hl; exact hl.elim
      | cons d ds =>
        rw [ql] at hl
        unfold forLoop at hl
        by_cases hst : s.still stc
        · exact hst
        · rw [if_neg hst] at hl; exact hl.elim
    obtain ⟨go, stop, yl⟩ := hJ mc Hc stc gc Sc hst
    by_cases hlt : i < s.items.length
    · rw [List.drop_eq_getElem_cons hlt] at hl
      unfold forLoop at hl
      rw [if_pos hst] at hl
      refine .inr ⟨go i hlt, fun σn Hn => i + 1 ≤ s.items.length ∧ ∃ mc envc stc, Grow m1 H1 st1 mc Hn stc ∧ StOk X.K X.mg mc Hn stc ∧ EnOk X.K X.mg mc Hn σn envc ∧ RRes X W mc Hn stc (forLoop s fT fb (s.items.drop (i + 1)) envc stc) D,
        fun σ' H' hN => ⟨s.items.length - (i + 1), by omega, rfl, hN⟩, fun x H' hy => ?_⟩
      obtain ⟨g2, S2, d, hd, hdx⟩ := yl i x H' hlt hy
      have ed : s.items[i] = d := by
        rw [List.getElem?_eq_getElem hlt] at hd
        exact Option.some.inj hd
      rw [ed] at hl
      cases q3 : fT d envc stc with
      | bad => rw [q3] at hl; exact hl.elim
      | ex x st3 =>
        have := hx d envc stc
        rw [q3] at this
        exact this.elim
      | ok env2 st3 =>
        rw [q3] at hl
        refine ⟨mc, envc, stc, d, env2, st3, S2, Ec.grow Sc g2, hdx, q3, fun m3 H3 σ3 g3 S3 E3 w3 => ⟨m3, env2, st3, S3, E3, ?_⟩⟩
        have hl : RRes X W mc Hc stc (match fb env2 st3 with
          | .nx env2 st2 => forLoop s fT fb (s.items.drop (i + 1)) env2 st2
          | .ct env2 st2 => forLoop s fT fb (s.items.drop (i + 1)) env2 st2
          | .bk env2 st2 => .nx env2 st2
          | r => r) D := hl
        have G3 := g2.trans g3
        cases q4 : fb env2 st3 with
        | nx env4 st4 =>
          rw [q4] at hl
          exact fun m' H' σ' g' S' E' => ⟨hlt, m', env4, st4, gc.trans (G3.trans g'), S', E', RRes.from hl (G3.trans g')⟩
        | ct env4 st4 =>
          rw [q4] at hl
          exact fun m' H' σ' g' S' E' => ⟨hlt, m', env4, st4, gc.trans (G3.trans g'), S', E', RRes.from hl (G3.trans g')⟩
        | bk env4 st4 =>
          rw [q4] at hl
          exact fun m' H' σ' g' S' E' => hl m' H' σ' (G3.trans g') S' E'
        | rt d st4 =>
          rw [q4] at hl
          exact fun m' H' v g' S' hv => hl m' H' v (G3.trans g') S' hv
        | ex x env4 st4 =>
          rw [q4] at hl
          exact fun m' H' σ' cls d g' S' E' hx => hl m' H' σ' cls d (G3.trans g') S' E' hx
        | bad => rw [q4] at hl; exact hl.elim
    · have e : i = s.items.length := by omega
      subst e
      rw [List.drop_length] at hl
      unfold forLoop at hl
      rw [if_pos hst] at hl
      exact .inl ⟨stop, hl mc Hc σc Grow.refl Sc Ec⟩
theorem s_while (hp : PassesOwn (model X.prog X.w) X.A X.env X.xe) (hc : PT X c (LfT X W fc)) (hb : PSs X body (LfS X W fb)) : PS X (.While c body [] pos) (LfS X W fun env st => whileLoop fc fb turns env st) := by
  refine PS.weak (ps_while hp hc hb) ?_
  rintro D σ H ⟨m, env, st, S, E, h⟩
  refine ⟨fun μ σc Hc => ∃ mc envc stc, StOk X.K X.mg mc Hc stc ∧ EnOk X.K X.mg mc Hc σc envc ∧ RRes X W mc Hc stc (whileLoop fc fb μ envc stc) D, ⟨turns, m, env, st, S, E, h⟩, ?_⟩
  rintro μ σc Hc ⟨mc, envc, stc, Sc, Ec, hl⟩
  cases μ with
  | zero => exact hl.elim
  | succ μ =>
    unfold whileLoop at hl
    refine Lf.ofS Sc Ec hl fun k m1 H1 st1 b g1 S1 E1 hb hl => ?_
    subst hb
    cases b with
    | false =>
      rw [if_neg Bool.false_ne_true] at hl
      exact hl m1 H1 σc Grow.refl S1 E1
    | true =>
      rw [if_pos rfl] at hl
      refine ⟨fun σn Hn => ∃ mc envc stc, StOk X.K X.mg mc Hn stc ∧ EnOk X.K X.mg mc Hn σn envc ∧ RRes X W mc Hn stc (whileLoop fc fb μ envc stc) D, fun σ' H' hN => ⟨μ, Nat.lt_succ_self _, hN⟩, m1, envc, st1, S1, E1, ?_⟩
      cases q4 : fb envc st1 with
      | nx env4 st4 =>
        rw [q4] at hl
        exact fun m' H' σ' g' S' E' => ⟨m', env4, st4, S', E', RRes.from hl g'⟩
      | ct env4 st4 =>
        rw [q4] at hl
        exact fun m' H' σ' g' S' E' => ⟨m', env4, st4, S', E', RRes.from hl g'⟩
      | bk env4 st4 =>
        rw [q4] at hl
        exact fun m' H' σ' g' S' E' => hl m' H' σ' g' S' E'
      | rt d st4 =>
        rw [q4] at hl
        exact hl
      | ex x env4 st4 =>
        rw [q4] at hl
        exact hl
      | bad => rw [q4] at hl; exact hl.elim
end

/-! ### stores in parallel -/
theorem plain_bind {α β : Type} {r : R α} {k : α → Sto → R β} (h : r.plain) (hk : ∀ a st, (k a st).plain) : (r.bind k).plain := by
  cases r with
  | ok a st => exact hk a st
  | ex x st => exact h.elim
  | bad => trivial
theorem plain_noex {α : Type} {r : R α} : r.noex.plain := by cases r <;> trivial
theorem plain_set {d i v : Ab.D} {st : Sto} : (setD d i v st).plain := by
  unfold setD
  split
  · split
    · split <;> trivial
    · split
      · exact plain_ite trivial trivial
      · trivial
  · split
    · exact plain_ite trivial trivial
    · trivial
  · trivial
section
variable {T : Tab} {G : Gb} {F : Str → List Ab.D → Sto → R Ab.D}
mutual
theorem setT_plain : ∀ (t : Tg) (d : Ab.D) (env : En) (st : Sto), (setT T G F t d env st).plain
  | .nm i, d, env, st => trivial
  | .tp ts, d, env, st => by
    cases d with
    | tup ds => exact setTs_plain ts ds env st
    | itm ds => exact setTs_plain ts ds env st
    | _ => trivial
  | .sb a i, d, env, st => plain_bind plain_noex fun _ _ => plain_bind plain_noex fun _ _ => plain_bind plain_set fun _ _ => trivial
theorem setTs_plain : ∀ (t : Tgs) (d : List Ab.D) (env : En) (st : Sto), (setTs T G F t d env st).plain
  | .nil, d, env, st => by cases d <;> trivial
  | .cons t ts, d, env, st => by
    cases d with
    | nil => trivial
    | cons d ds => exact plain_bind (setT_plain t d env st) fun _ _ => setTs_plain ts ds _ _
end
end
end
end Ab

set_option Elab.async false
set_option linter.all false
set_option autoImplicit false
set_option maxRecDepth 10000
/-! AbSwap: stores that are exchanged, or not. -/
namespace Ab
open PySem PySem.Spec PyProof.Rows L2

theorem block_fn {env : Env} (hk : env.scope.kind = .function) : env.blockKind = .function := by
  unfold Env.blockKind
  rw [hk]
  rfl
theorem sw_false {v t : Expr} {l : Nat} {env : Env} (h : isComp v = false) : swapsWith v (some t) l env = pure false := by
  cases v <;> first | rfl | cases h
theorem sw_none {v : Expr} {l : Nat} {env : Env} (h : isComp v = false) : swapsWith v none l env = pure false := by
  cases v <;> first | rfl | cases h
theorem sw_other {v t : Expr} {l : Nat} {env : Env} (h : ∀ x p, t ≠ .Name x p) : swapsWith v (some t) l env = pure false := by
  cases v <;> cases t <;> first | rfl | exact absurd rfl (h _ _)
theorem sw_name {elt : Expr} {gs : List Comprehension} {scope sc : Scope} {pos py : Pos} {y : Str} {l : Nat} {env : Env} (hk : env.scope.kind = .function) (hsc : env.scope = sc) (h : swapLc sc y py (.ListComp elt gs scope pos) = false) : swapsWith (.ListComp elt gs scope pos) (some (.Name y py)) l env = pure false := by
  have hb := block_fn hk
  unfold swapsWith
  have ky : env.kindOf y = sc.names.lookup y := by rw [← hsc]; rfl
  simp only [hb, ky, Expr.pos]
  unfold swapLc at h
  simp only [Bool.and_eq_false_iff, decide_eq_false_iff_not, Bool.not_eq_false'] at h
  congr 1
  rcases h with (h | h) | h
  · have e : (sc.names.lookup y == some NameKind.local) = false := by
      rw [beq_eq_false_iff_ne]
      exact h
    rw [e]
    simp
  · rw [h]
    simp
  · rw [h]
    simp
theorem filterMap_lt {α β : Type} {f : α → Option β} : ∀ {xs : List α}, (∃ a ∈ xs, f a = none) → (xs.filterMap f).length < xs.length
  | [], h => by
    obtain ⟨a, h, _⟩ := h
    cases h
  | x :: xs, h => by
    have le := List.length_filterMap_le f xs
    obtain ⟨a, h1, h2⟩ := h
    rcases List.mem_cons.mp h1 with rfl | h1
    · rw [List.filterMap_cons_none h2, List.length_cons]
      omega
    · have ih := filterMap_lt ⟨a, h1, h2⟩
      cases q : f x with
      | none =>
        rw [List.filterMap_cons_none q, List.length_cons]
        omega
      | some y =>
        rw [List.filterMap_cons_some q, List.length_cons, List.length_cons]
        omega
theorem swap_none {t v : Expr} {env : Env} {sc : Scope} (hk : env.scope.kind = .function) (hsc : env.scope = sc) (h : swapNo sc t v = true) : swappedStores [t] v env = pure none := by
  have hb := block_fn hk
  cases t with
  | Tuple ts n p =>
    cases v with
    | Tuple vs n' p' =>
      unfold swappedStores
      simp only [hb]
      unfold swapNo at h
      simp only [Bool.or_eq_true, Bool.and_eq_true] at h
      by_cases h1 : (!(ts.length == 2 || ts.length == 3) || vs.length != ts.length || (ScopeKind.function != ScopeKind.function)) = true
      · rw [if_pos h1]
      · rw [if_neg h1]
        rcases h with (h | h) | ⟨h2, h3⟩
        · exact absurd (by rw [h]; rfl) h1
        · exact absurd (by rw [h]; simp) h1
        · split
          · rfl
          · generalize hn : List.filterMap _ ts = names
            have e : names.length < ts.length := by
              rw [← hn]
              refine filterMap_lt ?_
              obtain ⟨a, ha, this⟩ := List.any_eq_true.mp h3
              refine ⟨a, ha, ?_⟩
              cases a with
              | Name id pos =>
                have ky : env.kindOf id = sc.names.lookup id := by rw [← hsc]; rfl
                simp only [Bool.not_eq_true', Bool.and_eq_false_iff, decide_eq_false_iff_not] at this
                simp only [ky]
                rw [if_neg]
                intro hc
                simp only [Bool.and_eq_true, beq_iff_eq] at hc
                rcases this with q | q
                · exact q hc.1
                · rw [beq_eq_false_iff_ne] at q
                  exact q hc.2
              | _ => rfl
            have hne : (names.length != ts.length) = true := by
              rw [bne_iff_ne]
              omega
            rw [if_pos (by rw [hne]; rfl)]
    | _ => rfl
  | List ts p => cases h
  | _ => rfl

theorem nodup_ne {N : List Str} (hN : N.Nodup) {i j : Nat} {x y : Str} (hx : N[i]? = some x) (hy : N[j]? = some y) (h : i ≠ j) : x ≠ y := fun e => by
  subst e
  exact h (nodup_ix hN hx hy)
theorem swap_two {x y : Str} {px py p p' : Pos} {n n' : Nat} {a b : Expr} {env : Env} (hk : env.scope.kind = .function) (hx : env.scope.names.lookup x = some .local) (hy : env.scope.names.lookup y = some .local) (hxy : x ≠ y) (hl : (py.line == px.line) = true)
    (hs : ([a, b].any isStar) = false) (hf : ([a, b].all (foldedForSure 8)) = false) (hc : ([a, b].all (constantsAlone 8)) = false) : swappedStores [.Tuple [.Name x px, .Name y py] n p] (.Tuple [a, b] n' p') env = pure (some [x, y]) := by
  have hb := block_fn hk
  have kx : env.kindOf x = some .local := hx
  have ky : env.kindOf y = some .local := hy
  unfold swappedStores
  simp only [hb]
  refine Eq.trans (if_neg (fun h => Bool.false_ne_true h)) ?_
  rw [if_neg (by
    intro h
    have : ([a, b].any isStar) = true := by
      simp only [List.any_eq_true] at h ⊢
      obtain ⟨e, he, h⟩ := h
      exact ⟨e, he, by cases e <;> first | rfl | cases h⟩
    rw [hs] at this
    cases this)]
  generalize hn : List.filterMap _ [Expr.Name x px, Expr.Name y py] = names
  have e : names = [x, y] := by
    rw [← hn]
    have l1 := beq_iff_eq.mp hl
    simp [kx, ky, Expr.pos, l1]
  subst e
  have hd : ([x, y] : List Str).eraseDups = [x, y] := by
    have : (y == x) = false := by rw [beq_eq_false_iff_ne]; exact fun e => hxy e.symm
    simp [List.eraseDups_cons, this]
  rw [hd, hf, hc]
  rfl
theorem swap_three {x y z : Str} {px py pz p p' : Pos} {n n' : Nat} {a b c : Expr} {env : Env} (hk : env.scope.kind = .function) (hx : env.scope.names.lookup x = some .local) (hy : env.scope.names.lookup y = some .local) (hz : env.scope.names.lookup z = some .local) (hxy : x ≠ y) (hxz : x ≠ z) (hyz : y ≠ z) (hl : (py.line == px.line) = true) (hl2 : (pz.line == px.line) = true)
    (hs : ([a, b, c].any isStar) = false) (hf : ([a, b, c].all (foldedForSure 8)) = false) (hc : ([a, b, c].all (constantsAlone 8)) = false) : swappedStores [.Tuple [.Name x px, .Name y py, .Name z pz] n p] (.Tuple [a, b, c] n' p') env = pure (some [x, y, z]) := by
  have hb := block_fn hk
  have kx : env.kindOf x = some .local := hx
  have ky : env.kindOf y = some .local := hy
  have kz : env.kindOf z = some .local := hz
  unfold swappedStores
  simp only [hb]
  refine Eq.trans (if_neg (fun h => Bool.false_ne_true h)) ?_
  rw [if_neg (by
    intro h
    have : ([a, b, c].any isStar) = true := by
      simp only [List.any_eq_true] at h ⊢
      obtain ⟨e, he, h⟩ := h
      exact ⟨e, he, by cases e <;> first | rfl | cases h⟩
    rw [hs] at this
    cases this)]
  generalize hn : List.filterMap _ [Expr.Name x px, Expr.Name y py, Expr.Name z pz] = names
  have e : names = [x, y, z] := by
    rw [← hn]
    have l1 := beq_iff_eq.mp hl
    have l2 := beq_iff_eq.mp hl2
    simp [kx, ky, kz, Expr.pos, l1, l2]
  subst e
  have hd : ([x, y, z] : List Str).eraseDups = [x, y, z] := by
    have h1 : (y == x) = false := by rw [beq_eq_false_iff_ne]; exact fun e => hxy e.symm
    have h2 : (z == x) = false := by rw [beq_eq_false_iff_ne]; exact fun e => hxz e.symm
    have h3 : (z == y) = false := by rw [beq_eq_false_iff_ne]; exact fun e => hyz e.symm
    simp [List.eraseDups_cons, h1, h2, h3]
  rw [hd, hf, hc]
  rfl
section
variable {X : Cx} {W : WX} {ev : En → Sto → R (List D)}
theorem dens3 {K : PySem.W.Frag} {mg : Str → Option Value} {m : List Addr} {H : Hp} {ds : List D} {x y z : V} (h : Dens K mg m H ds [x, y, z]) : ∃ a b c, ds = [a, b, c] ∧ Den K mg m H a x ∧ Den K mg m H b y ∧ Den K mg m H c z := by
  cases ds with
  | nil => cases h
  | cons a ds =>
    obtain ⟨v, r, e, h1, h⟩ := h
    cases e
    cases ds with
    | nil => cases h
    | cons b ds =>
      obtain ⟨v, r, e, h2, h⟩ := h
      cases e
      cases ds with
      | nil => cases h
      | cons c ds =>
        obtain ⟨v, r, e, h3, h⟩ := h
        cases e
        obtain rfl := Dens.nil h
        exact ⟨a, b, c, rfl, h1, h2, h3⟩
theorem lenV {K : PySem.W.Frag} {mg : Str → Option Value} {m : List Addr} {H : Hp} {ds : List D} {xs : List V} {n : Nat} (h : Dens K mg m H ds xs) (hn : ds.length = n) : xs.length = n := by rw [← h.length, hn]
theorem s_par2 {i j : Nat} {x y : Str} {a b : Expr} {px py pt pos : Pos} {kt k2 pt2} (hc : X.calm = true) (hN : X.N.Nodup) (hi : X.N[i]? = some x) (hj : X.N[j]? = some y) (hij : i ≠ j)
    (hx : X.env.scope.names.lookup x = some .local) (hy : X.env.scope.names.lookup y = some .local) (ha : PA X [a, b] (LfA X W ev))
    (hw : swappedStores [.Tuple [.Name x px, .Name y py] kt pt] (.Tuple [a, b] k2 pt2) X.env = pure (some [x, y])) :
    PS X (.Assign [.Tuple [.Name x px, .Name y py] kt pt] (.Tuple [a, b] k2 pt2) pos) (LfS X W fun env st => RS.of env (ev env st) fun ds st1 => if ds.length = [i, j].length then .nx (([i, j].zip ds).foldl (fun (v : En) p => v.set p.1 (some p.2)) env) st1 else .bad) := by
  refine PS.weak (ps_par hc hN hi hj hij hx hy ha hw) ?_
  rintro D σ H ⟨m, env, st, S, E, h⟩
  refine Lf.ofS S E h fun ds m1 H1 st1 vs g1 S1 E1 hv h => ?_
  by_cases hl : ds.length = [i, j].length
  · rw [if_pos hl] at h
    match ds, hl with
    | [d, e], _ =>
      obtain ⟨v, u, rfl, h1, h2⟩ := dens2 hv
      exact ⟨v, u, rfl, h m1 H1 _ Grow.refl S1 ((E1.set h1 i).set h2 j)⟩
  · rw [if_neg hl] at h
    exact h.elim
theorem s_par3 {i j l : Nat} {x y z : Str} {a b c : Expr} {px py pz pt pos : Pos} {kt k2 pt2} (hc : X.calm = true) (hN : X.N.Nodup) (hi : X.N[i]? = some x) (hj : X.N[j]? = some y) (hl : X.N[l]? = some z) (hij : i ≠ j) (hil : i ≠ l) (hjl : j ≠ l)
    (hx : X.env.scope.names.lookup x = some .local) (hy : X.env.scope.names.lookup y = some .local) (hz : X.env.scope.names.lookup z = some .local) (ha : PA X [a, b, c] (LfA X W ev))
    (hw : swappedStores [.Tuple [.Name x px, .Name y py, .Name z pz] kt pt] (.Tuple [a, b, c] k2 pt2) X.env = pure (some [x, y, z])) :
    PS X (.Assign [.Tuple [.Name x px, .Name y py, .Name z pz] kt pt] (.Tuple [a, b, c] k2 pt2) pos) (LfS X W fun env st => RS.of env (ev env st) fun ds st1 => if ds.length = [i, j, l].length then .nx (([i, j, l].zip ds).foldl (fun (v : En) p => v.set p.1 (some p.2)) env) st1 else .bad) := by
  refine PS.weak (ps_par3 hc hN hi hj hl hij hil hjl hx hy hz ha hw) ?_
  rintro D σ H ⟨m, env, st, S, E, h⟩
  refine Lf.ofS S E h fun ds m1 H1 st1 vs g1 S1 E1 hv h => ?_
  by_cases hn : ds.length = [i, j, l].length
  · rw [if_pos hn] at h
    match ds, hn with
    | [d, e, f], _ =>
      obtain ⟨v, r, rfl, h1, h2⟩ := hv
      obtain ⟨u, r, rfl, h2, h3⟩ := h2
      obtain ⟨w, rfl, h4⟩ := dens1 h3
      exact ⟨v, u, w, rfl, h m1 H1 _ Grow.refl S1 (((E1.set h1 i).set h2 j).set h4 l)⟩
  · rw [if_neg hn] at h
    exact h.elim
end
end Ab

set_option Elab.async false
set_option linter.all false
set_option autoImplicit false
set_option maxRecDepth 10000
/-! AbSound2: every statement, every def does what the small language says. -/
namespace Ab
open PySem PySem.Spec PyProof.Rows L2

structure GoodS (T : Tab) (G : Gb) (KW : Tx) (k : Nat) (X : Cx) (sc : Scope) (W : WX) : Prop where
  good : Good T G KW k X sc sc W
  kind : X.env.scope.kind = .function
  pass : PassesOwn (model X.prog X.w) X.A X.env X.xe
section
variable {T : Tab} {G : Gb} {KW : Tx} {k : Nat}
theorem chkTg_one {N : List Str} {sc raw : Scope} {t : Tg} {e : Expr} (h : chkTg N KW sc raw t e = true) : isStar e = false ∧ ((∃ x p, e = .Name x p) ∨ ∀ x p, e ≠ .Name x p) := by
  cases t with
  | nm i =>
    unfold chkTg at h
    split at h
    · exact ⟨rfl, .inl ⟨_, _, rfl⟩⟩
    · cases h
  | tp ts =>
    unfold chkTg at h
    split at h
    · exact ⟨rfl, .inr fun _ _ e => nomatch e⟩
    · cases h
  | sb a i =>
    unfold chkTg at h
    split at h
    · exact ⟨rfl, .inr fun _ _ e => nomatch e⟩
    · cases h
theorem s_setLc {X : Cx} {sc : Scope} {W : WX} (g : GoodS T G KW k X sc W) {elt : CE} {tg : Tg} {it : Itr} {cond : Pt} {own : List Nat} {i : Nat} {y : Str} {py pos : Pos} {v : Expr} (hy : X.N[i]? = some y) (hv : chkE X.N KW sc sc (.lc elt tg it cond own) v = true) (hs : swapLc sc y py v = true) :
    PS X (.Assign [.Name y py] v pos) (LfS X W fun env st => RS.of env (evE T G (callF T G k) (.lc elt tg it cond own) env st) fun d st1 => RS.of env (.ok (env.set i (some d)) st1) fun env1 st2 => .nx env1 st2) := by
  unfold chkE at hv
  split at hv
  · rename_i x tgt iter ifs kk scope vpos
    simp only [Bool.and_eq_true, Bool.not_eq_true', beq_iff_eq] at hv
    obtain ⟨⟨⟨⟨⟨⟨⟨rfl, h1⟩, h2⟩, h3⟩, h4⟩, h5⟩, h6⟩, h7⟩ := hv
    have ow : (ownP X.N own).map (·.2) = own := by
      unfold ownP
      rw [List.map_map]
      exact List.map_id'' (fun _ => rfl) own
    simp only [swapLc, Bool.and_eq_true, decide_eq_true_eq, Bool.not_eq_true'] at hs
    have hyl : X.env.scope.names.lookup y = some .local := by rw [g.good.scope]; exact hs.1.1
    have gg := g.good
    have key := ps_setLc (X := X) (own := ownP X.N own) (pos := vpos) (spos := pos) (py := py) (wi := LfI X W (evI T G (callF T G k) it)) (g := LgT X tg (setT T G (callF T G k) tg)) (tt := LfT X W0 (evC T G (callF T G k) cond)) (te := LfE X W0 (evE T G (callF T G k) elt)) gg.calm gg.nd hy hyl
      (sw_true g.kind hyl hs.1.2 hs.2) (sI it gg iter _ h4) (blkOk_by (by rw [gg.scope]; exact h2))
      (fun s H C cl fp => sTg tg (gg.blk s H scope cl C fp) tgt h5) (fun s H C cl fp => sC cond (gg.blk s H scope cl C fp) ifs h6) (fun s H C cl fp => sE elt (gg.blk s H scope cl C fp) x h7) (folded_no h1)
    rw [ow] at key
    refine PS.weak key ?_
    rintro D σ H ⟨m, env, st, S, E, h⟩
    refine lc_weak h3 σ H (fun x H1 => D.nx (σ.set i (some x)) H1) ?_
    exact Lf.ofS (f := evE T G (callF T G k) (.lc elt tg it cond own)) S E h fun d m1 H1 st1 v g1 S1 E1 hv h => h m1 H1 _ Grow.refl S1 (E1.set hv i)
  · cases hv
theorem line_two {x y : Str} {px py : Pos} {a b : Expr} {sc : Scope} (h : parOk sc [.Name x px, .Name y py] [a, b] = true) : (py.line == px.line) = true ∧ ([a, b].any isStar) = false ∧ ([a, b].all (foldedForSure 8)) = false ∧ ([a, b].all (constantsAlone 8)) = false := by
  unfold parOk at h
  simp only [Bool.and_eq_true, Bool.not_eq_true'] at h
  refine ⟨?_, h.1.1.1, h.1.2, h.2⟩
  have := List.all_eq_true.mp h.1.1.2 (.Name y py) (by simp)
  exact this
theorem line_three {x y z : Str} {px py pz : Pos} {a b c : Expr} {sc : Scope} (h : parOk sc [.Name x px, .Name y py, .Name z pz] [a, b, c] = true) : (py.line == px.line) = true ∧ (pz.line == px.line) = true ∧ ([a, b, c].any isStar) = false ∧ ([a, b, c].all (foldedForSure 8)) = false ∧ ([a, b, c].all (constantsAlone 8)) = false := by
  unfold parOk at h
  simp only [Bool.and_eq_true, Bool.not_eq_true'] at h
  refine ⟨?_, ?_, h.1.1.1, h.1.2, h.2⟩
  · exact List.all_eq_true.mp h.1.1.2 (.Name y py) (by simp)
  · exact List.all_eq_true.mp h.1.1.2 (.Name z pz) (by simp)
theorem nm_local {N : List Str} {sc : Scope} {i : Nat} {e : Expr} (h : nmLocal N sc i e = true) : ∃ x p, e = .Name x p ∧ N[i]? = some x ∧ sc.names.lookup x = some .local := by
  unfold nmLocal at h
  split at h
  · simp only [Bool.and_eq_true, decide_eq_true_eq] at h
    exact ⟨_, _, rfl, h.1, h.2⟩
  · cases h
mutual
theorem sS : ∀ (c : CS) {X : Cx} {sc : Scope} {W : WX} (g : GoodS T G KW k X sc W) (s : Stmt), chkS X.N KW sc c s = true → PS X s (LfS X W (evS T G (callF T G k) c))
  | .asg t e, X, sc, W, g, s, h => by
    unfold chkS at h
    split at h
    · rename_i tgt v pos
      simp only [Bool.and_eq_true] at h
      obtain ⟨⟨h1, h2⟩, h3⟩ := h
      obtain ⟨hst, hnm⟩ := chkTg_one h1
      have hass : (assignEach [tgt] X.env).map (·.2) = [assign tgt X.env] := by rw [assign_cons hst]; rfl
      have plain : swapsWithSole [tgt] v pos.line X.env = pure false → PS X (.Assign [tgt] v pos) (LfS X W (evS T G (callF T G k) (.asg t e))) := fun hs =>
        s_asg hs (swap_none g.kind g.good.scope h3) hass (sE e g.good v h2) (sTg t g.good tgt h1) (fun d env st => setT_plain t d env st)
      cases hc : isComp v with
      | false => exact plain (sw_false hc)
      | true =>
        rcases hnm with ⟨y, py, rfl⟩ | hnm
        · cases t with
          | nm i =>
            simp only [chkTg, Bool.and_eq_true, decide_eq_true_eq] at h1
            cases e with
            | lc elt tg it cond own =>
              cases hsw : swapLc sc y py v with
              | true => exact s_setLc g h1.1 h2 hsw
              | false =>
                refine plain ?_
                cases v with
                | ListComp el gs scope vp => exact sw_name (l := pos.line) g.kind g.good.scope hsw
                | _ => simp [chkE] at h2
            | _ =>
              exfalso
              cases v <;> first | (cases hc; done) | (simp [chkE] at h2; done) | (simp only [chkE] at h2; split at h2 <;> cases h2; done)
          | tp ts => simp [chkTg] at h1
          | sb a i => simp [chkTg] at h1
        · exact plain (sw_other hnm)
    · cases h
  | .par is es, X, sc, W, g, s, h => by
    unfold chkS at h
    split at h
    · rename_i x y n p a b n' p' pos
      split at h
      · rename_i i j
        simp only [Bool.and_eq_true, decide_eq_true_eq] at h
        obtain ⟨⟨⟨⟨h1, h2⟩, h3⟩, h4⟩, h5⟩ := h
        obtain ⟨x, px, rfl, hx, lx⟩ := nm_local h1
        obtain ⟨y, py, rfl, hy, ly⟩ := nm_local h2
        obtain ⟨l1, l2, l3, l4⟩ := line_two h4
        rw [← g.good.scope] at lx ly
        exact s_par2 g.good.calm g.good.nd hx hy h3 lx ly (sEs es g.good _ h5) (swap_two g.kind lx ly (nodup_ne g.good.nd hx hy h3) l1 l2 l3 l4)
      · cases h
    · rename_i x y z n p a b c n' p' pos
      split at h
      · rename_i i j l
        simp only [Bool.and_eq_true, decide_eq_true_eq] at h
        obtain ⟨⟨⟨⟨⟨⟨⟨h1, h2⟩, h3⟩, h4⟩, h5⟩, h6⟩, h7⟩, h8⟩ := h
        obtain ⟨x, px, rfl, hx, lx⟩ := nm_local h1
        obtain ⟨y, py, rfl, hy, ly⟩ := nm_local h2
        obtain ⟨z, pz, rfl, hz, lz⟩ := nm_local h3
        obtain ⟨l1, l1', l2, l3, l4⟩ := line_three h7
        rw [← g.good.scope] at lx ly lz
        exact s_par3 g.good.calm g.good.nd hx hy hz h4 h5 h6 lx ly lz (sEs es g.good _ h8) (swap_three g.kind lx ly lz (nodup_ne g.good.nd hx hy h4) (nodup_ne g.good.nd hx hz h5) (nodup_ne g.good.nd hy hz h6) l1 l1' l2 l3 l4)
      · cases h
    · cases h
  | .expr e, X, sc, W, g, s, h => by
    unfold chkS at h
    split at h
    · simp only [Bool.and_eq_true, Bool.not_eq_true'] at h
      exact s_expr (sw_none h.1) (sE e g.good _ h.2)
    · cases h
  | .ret e, X, sc, W, g, s, h => by
    unfold chkS at h
    split at h
    · exact s_ret (sE e g.good _ h)
    · cases h
  | .retN, X, sc, W, g, s, h => by
    unfold chkS at h
    split at h
    · exact s_retN
    · cases h
  | .ife c a b, X, sc, W, g, s, h => by
    unfold chkS at h
    split at h
    · simp only [Bool.and_eq_true] at h
      exact s_ife (sT c g.good _ h.1.1).1 (sSs a g _ h.1.2) (sSs b g _ h.2)
    · cases h
  | .for_ t it b, X, sc, W, g, s, h => by
    unfold chkS at h
    split at h
    · simp only [Bool.and_eq_true, Bool.not_eq_true'] at h
      exact s_for g.pass g.good.calm h.1.1.1 (sI it g.good _ _ h.1.1.2) (sTg t g.good _ h.1.2) (fun d env st => setT_plain t d env st) (sSs b g _ h.2)
    · cases h
  | .while_ c b, X, sc, W, g, s, h => by
    unfold chkS at h
    split at h
    · simp only [Bool.and_eq_true] at h
      exact s_while g.pass (sT c g.good _ h.1).1 (sSs b g _ h.2)
    · cases h
  | .pass, X, sc, W, g, s, h => by
    unfold chkS at h
    split at h
    · exact s_pass
    · cases h
  | .never, X, sc, W, g, s, h => s_never
theorem sSs : ∀ (c : CSs) {X : Cx} {sc : Scope} {W : WX} (g : GoodS T G KW k X sc W) (s : List Stmt), chkSs X.N KW sc c s = true → PSs X s (LfS X W (evSs T G (callF T G k) c))
  | .nil, X, sc, W, g, s, h => by
    cases s with
    | nil => exact ss_nil
    | cons a b => simp [chkSs] at h
  | .cons c cs, X, sc, W, g, s, h => by
    cases s with
    | nil => simp [chkSs] at h
    | cons a b =>
      simp only [chkSs, Bool.and_eq_true] at h
      exact ss_cons (sS c g _ h.1) (sSs cs g _ h.2)
end

/-! ### defs -/
theorem start_ok {K : PySem.W.Frag} {mg : Str → Option Value} {m : List Addr} {H : Hp} {N : List Str} {ds : List D} {vs : List V} (h : Dens K mg m H ds vs) : EnOk K mg m H (L2.start N vs) (ds.map some ++ List.replicate (N.length - ds.length) none) := by
  refine ⟨by simp [L2.start, h.length], fun i d e => ?_⟩
  by_cases hi : i < ds.length
  · rw [List.getElem?_append_left (by simpa using hi), List.getElem?_map] at e
    cases q : ds[i]? with
    | none => rw [q] at e; cases e
    | some d' =>
      rw [q] at e
      cases e
      obtain ⟨v, h1, h2⟩ := h.get q
      refine ⟨v, ?_, h2⟩
      unfold L2.start
      rw [List.getElem?_append_left (by rw [List.length_map, ← h.length]; exact hi), List.getElem?_map, h1]
      rfl
  · rw [List.getElem?_append_right (by simpa using hi), List.getElem?_replicate] at e
    split at e <;> cases e
theorem sp_len {K : PySem.W.Frag} {mg : Str → Option Value} {n : Nat} {F : List D → Sto → R D} : ∀ vs H Q E, spOf K mg n F vs H Q E → vs.length = n := by
  rintro vs H Q E ⟨m, st, ds, _, hd, hl, _⟩
  rw [← hd.length, hl]
/-- what is known of a def of the text -/
def DefOk (K : PySem.W.Frag) (mg : Str → Option Value) (KW : Tx) (x : Str) (fn : Fn) : Prop :=
  ∃ f fd params body sc, FunD K x x params body sc [] [] f fd ∧ mg x = some (.ref f) ∧ FnScope fn.N fn.ps sc ∧ chkSs fn.N KW sc fn.body body = true ∧ Binds K fd fn.ps [] ∧ ∀ n ks, (x, n, ks) ∈ KW.kw → KwB K fd fn.ps n ks
variable {P : Program} {w : World} {K : PySem.W.Frag} {mg : Str → Option Value} {base : Heap}
theorem fn_step {x : Str} {fn : Fn} {f : Addr} {fd : FuncData} {params : Arguments} {body : List Stmt} {sc : Scope} (hT : T x = some fn) (fk : Facts P w K mg base T G KW k) (F : FunD K x x params body sc [] [] f fd) (S : FnScope fn.N fn.ps sc) (hc : chkSs fn.N KW sc fn.body body = true) :
    FnOk P w K mg base (L2.CX P w) (k + 1) f fd fn.ps (spOf K mg fn.ps.length (callF T G (k + 1) x)) := by
  refine F.ok S (fun vs H Q E h => sp_len vs H Q E h) (fun cdv A outer s H vs Q E hr h => ?_)
  have g : GoodS T G KW k (cxOf (L2.CX P w) P w K mg base fn.N x sc f cdv A outer s H E) sc (fun cls d _ H => E cls d H) :=
    ⟨⟨rfl, S.nd, rfl, hr, takes_of rfl rfl rfl rfl, fk, fun _ _ => rfl⟩, S.kind, passes_of rfl⟩
  refine ⟨_, sSs fn.body g body hc, ?_⟩
  obtain ⟨m, st, ds, St, hd, hl, h⟩ := h
  refine ⟨m, _, st, St, start_ok hd, ?_⟩
  have e : callF T G (k + 1) x ds st = runFn T G (callF T G k) fn ds st := callF_succ hT hl
  rw [e] at h
  unfold runFn at h
  cases q : evSs T G (callF T G k) fn.body (ds.map some ++ List.replicate (fn.N.length - ds.length) none) st with
  | nx env st' =>
    rw [q] at h
    exact fun m' H' σ' g' S' E' => h m' H' .non g' S' rfl
  | rt d st' =>
    rw [q] at h
    exact h
  | bk env st' => rw [q] at h; exact h.elim
  | ct env st' => rw [q] at h; exact h.elim
  | ex y env st' =>
    rw [q] at h
    exact fun m' H' σ' cls d g' S' E' hx => h m' H' cls d g' S' hx
  | bad => rw [q] at h; exact h.elim
theorem facts_all (hT : ∀ x fn, T x = some fn → DefOk K mg KW x fn) (fs : ∀ x ∈ KW.fs, ∃ F, T x = some F) (blt : ∀ x ∈ bltNames, mg x = none) (imp : ∀ x id, (x, id) ∈ KW.imp → mg x = some (.builtin id)) (glb : ∀ x d, G x = some d → ∃ u v, mg x = some u ∧ RelV v u ∧ ∀ m H, Den K mg m H d v) : ∀ k, Facts P w K mg base T G KW k
  | 0 => by
    refine ⟨fun x fn hx => ?_, fs, blt, imp, glb⟩
    obtain ⟨f, fd, params, body, sc, F, hm, S, hc, hb, hk⟩ := hT x fn hx
    refine ⟨f, fd, hm, F.kp, hb, ⟨fun vs H Q E h => sp_len vs H Q E h, fun A outer s H args us vs Q E _ _ _ _ h => ?_⟩, hk⟩
    obtain ⟨m, st, ds, _, _, _, h⟩ := h
    rw [callF_zero] at h
    exact h.elim
  | k + 1 => by
    refine ⟨fun x fn hx => ?_, fs, blt, imp, glb⟩
    obtain ⟨f, fd, params, body, sc, F, hm, S, hc, hb, hk⟩ := hT x fn hx
    exact ⟨f, fd, hm, F.kp, hb, fn_step hx (facts_all hT fs blt imp glb k) F S hc, hk⟩
end
end Ab

set_option Elab.async false
set_option linter.all false
set_option autoImplicit false
set_option maxRecDepth 10000
/-! AbEnd: a law's end: the text's defs by rows, its names by facts, and what the law's own def has to answer. -/
namespace Ab
open PySem PySem.Spec PyProof.Rows L2

theorem map3 {σ α β γ : Type} {S : Option σ} {f : σ → α} {g : σ → β} {h : σ → γ} {a : α} {b : β} {c : γ} (e1 : S.map f = some a) (e2 : S.map g = some b) (e3 : S.map h = some c) : S.map (fun s => (f s, g s, h s)) = some (a, b, c) := by
  cases S with
  | none => cases e1
  | some s =>
    cases e1
    cases e2
    cases e3
    rfl
/-- a def of the text -/
structure DRow where
  x : Str
  fn : Fn
  st : Stmt
def DRow.dd (r : DRow) : He.DefD := ⟨(r.x, none), r.x, r.x, defArgs r.st, defBody r.st, defScope r.st, [], []⟩
structure DRow.Ok (KW : Tx) (r : DRow) : Prop where
  S : FnScope r.fn.N r.fn.ps (defScope r.st)
  c : chkSs r.fn.N KW (defScope r.st) r.fn.body (defBody r.st) = true
  b : ∀ (kV doc pm : Value) (an : Option Addr) (cdv ct : Value) (us : List Value), us.length = r.fn.ps.length → bindArgs (PySem.W.fnOf r.x r.x (defArgs r.st) (defBody r.st) (defScope r.st) .none kV doc pm an cdv ct) ⟨us, []⟩ = pure (r.fn.ps.zip us)
  kw : ∀ n ks, (r.x, n, ks) ∈ KW.kw → ∀ (kV doc pm : Value) (an : Option Addr) (cdv ct : Value) (us ws as : List Value), us.length = n → ws.length = ks.length → optAll (fun p => (ks.zip ws).lookup p) (r.fn.ps.drop n) = some as →
    bindArgs (PySem.W.fnOf r.x r.x (defArgs r.st) (defBody r.st) (defScope r.st) .none kV doc pm an cdv ct) ⟨us, ks.zip ws⟩ = pure (r.fn.ps.zip (us ++ as))
def tabOf (rows : List DRow) : Tab := fun x => (rows.find? fun r => decide (r.x = x)).map (·.fn)
def gbOf (cs : List (Str × Lit)) : Gb := fun x => (cs.lookup x).map Lit.d
def cstFa (c : Str × Lit) : He.Fa := match c.2 with
  | .int i => .int c.1 i
  | .str z => .str c.1 z
  | _ => .free "len"
def cstOk (c : Str × Lit) : Bool := match c.2 with
  | .int _ => true
  | .str z => sOk z
  | _ => false
def fasOf (rows : List DRow) (cs : List (Str × Lit)) : List He.Fa := rows.map (fun r => .glo r.x) ++ (bltNames.map .free ++ cs.map cstFa)

section
variable {P : Program} {w : World} {K : PySem.W.Frag} {mg : Str → Option Value} {h : Heap} {rows : List DRow} {cs : List (Str × Lit)} {KW : Tx}
theorem funD_bind {x qual : Str} {params : Arguments} {body : List Stmt} {scope : Scope} {f : Addr} {fd : FuncData} {ps ks : List Str} {n : Nat} (F : FunD K x qual params body scope [] [] f fd)
    (h : ∀ (kV doc pm : Value) (an : Option Addr) (cdv ct : Value) (us ws as : List Value), us.length = n → ws.length = ks.length → optAll (fun p => (ks.zip ws).lookup p) (ps.drop n) = some as →
      bindArgs (PySem.W.fnOf x qual params body scope .none kV doc pm an cdv ct) ⟨us, ks.zip ws⟩ = pure (ps.zip (us ++ as))) : KwB K fd ps n ks := by
  intro s us ws as _ h1 h2 h3
  obtain ⟨oc, od, dV, kV, doc, pm, an, cdv, ct, osl, rfl, lk, hcd, hD, hK⟩ := F.ex
  rcases hD with ⟨_, rfl⟩ | ⟨e, _⟩
  · exact .of_eq (h kV doc pm an cdv ct us ws as h1 h2 h3)
  · exact absurd rfl e
theorem row_ok {r : DRow} (ok : r.Ok KW) (hr : r ∈ rows) (X : K.In h) (G : h.Ns mainGlobals mg) (c : He.SaysD (fasOf rows cs) (rows.map DRow.dd) K) : DefOk K mg KW r.x r.fn := by
  obtain ⟨fd, F⟩ := c.defs (d := r.dd) (List.mem_map.mpr ⟨r, hr, rfl⟩)
  have g := He.glo_ok X G (c.facts (f := .glo r.x) (List.mem_append_left _ (List.mem_map.mpr ⟨r, hr, rfl⟩)))
  exact ⟨_, fd, _, _, _, F, g, ok.S, ok.c, FunD.bindsN F ok.b, fun n ks hk => funD_bind F (ok.kw n ks hk)⟩
theorem tab_ok (ok : ∀ r ∈ rows, r.Ok KW) (X : K.In h) (G : h.Ns mainGlobals mg) (c : He.SaysD (fasOf rows cs) (rows.map DRow.dd) K) : ∀ x fn, tabOf rows x = some fn → DefOk K mg KW x fn := by
  intro x fn e
  unfold tabOf at e
  cases q : rows.find? (fun r => decide (r.x = x)) with
  | none => rw [q] at e; cases e
  | some r =>
    rw [q] at e
    cases e
    have hr := List.mem_of_find?_eq_some q
    have hx : r.x = x := of_decide_eq_true (List.find?_some (p := fun r : DRow => decide (r.x = x)) q)
    rw [← hx]
    exact row_ok (ok r hr) hr X G c
theorem gb_ok (co : cs.all cstOk = true) (X : K.In h) (G : h.Ns mainGlobals mg) (c : He.SaysD (fasOf rows cs) (rows.map DRow.dd) K) : ∀ x d, gbOf cs x = some d → ∃ u v, mg x = some u ∧ RelV v u ∧ ∀ m H, Den K mg m H d v := by
  intro x d e
  unfold gbOf at e
  cases q : cs.lookup x with
  | none => rw [q] at e; cases e
  | some l =>
    rw [q] at e
    cases e
    have hm : (x, l) ∈ cs := by
      clear co c
      induction cs with
      | nil => cases q
      | cons p r ih =>
        obtain ⟨y, z⟩ := p
        rw [List.lookup_cons] at q
        split at q
        · cases q
          rename_i hb
          rw [beq_iff_eq.mp hb]
          exact List.mem_cons_self ..
        · exact List.mem_cons_of_mem _ (ih q)
    have ho := List.all_eq_true.mp co _ hm
    have hf := c.facts (f := cstFa (x, l)) (List.mem_append_right _ (List.mem_append_right _ (List.mem_map.mpr ⟨_, hm, rfl⟩)))
    cases l with
    | int i =>
      obtain ⟨t, ht⟩ := He.int_ok X G hf
      exact ⟨_, .int i, ht, ⟨t, rfl⟩, fun _ _ => rfl⟩
    | str z =>
      obtain ⟨t, ht⟩ := He.str_ok X G hf
      exact ⟨_, .str z, ht, ⟨t, rfl⟩, fun _ _ => ⟨rfl, ho⟩⟩
    | non => cases ho
    | bl b => cases ho
/-- what the top brings in by name -/
def impB (imp : List (Str × String)) (K : PySem.W.Frag) : Bool := imp.all fun p => He.eqO (PySem.W.nsIn K mainGlobals p.1) (some (some (.builtin p.2)))
theorem imp_ok (X : K.In h) (G : h.Ns mainGlobals mg) (c : impB KW.imp K = true) : ∀ x id, (x, id) ∈ KW.imp → mg x = some (.builtin id) := fun x id hx =>
  PySem.W.mg_of X G (He.eqO_ok (List.all_eq_true.mp c _ hx))
theorem facts_law (ok : ∀ r ∈ rows, r.Ok KW) (hfs : ∀ x ∈ KW.fs, ∃ F, tabOf rows x = some F) (co : cs.all cstOk = true) (X : K.In h) (G : h.Ns mainGlobals mg) (c : He.SaysD (fasOf rows cs) (rows.map DRow.dd) K) (ci : impB KW.imp K = true) (base : Heap) (k : Nat) : Facts P w K mg base (tabOf rows) (gbOf cs) KW k :=
  facts_all (tab_ok ok X G c) hfs (fun x hx => He.free_ok X G (c.facts (f := .free x) (List.mem_append_right _ (List.mem_append_left _ (List.mem_map.mpr ⟨x, hx, rfl⟩))))) (imp_ok X G ci) (gb_ok co X G c) k

theorem kw_mem {l : List (Str × Nat × List Str)} {x : Str} {n : Nat} {ks : List Str} (h : (x, n, ks) ∈ l) : (n, ks) ∈ (l.filter fun p => decide (p.1 = x)).map (·.2) :=
  List.mem_map.mpr ⟨_, List.mem_filter.mpr ⟨h, decide_eq_true rfl⟩, rfl⟩
theorem no_kw {l : List (Str × Nat × List Str)} {x : Str} {n : Nat} {ks : List Str} (e : (l.filter fun p => decide (p.1 = x)).map (·.2) = []) : (x, n, ks) ∉ l := fun h => by
  have z := kw_mem h
  rw [e] at z
  cases z
theorem fs_ok (e : (KW.fs.all fun x => (tabOf rows x).isSome) = true) : ∀ x ∈ KW.fs, ∃ F, tabOf rows x = some F := fun x hx => Option.isSome_iff_exists.mp (List.all_eq_true.mp e x hx)

/-- the law's list, as the store's first object -/
theorem script_ok {H : Hp} {a : Addr} {ns : List Int} (O : Only H) (S : SqL K H a (ns.map V.int)) : StOk K mg [a] H [.lst true (ns.map D.int)] := by
  refine ⟨rfl, fun l k b o u e1 e2 e3 e4 m1 _ => ?_, fun l b o e1 e2 => ?_⟩
  · match l, e3 with
    | 0, e3 => cases e3; cases m1
  · match l, e1, e2 with
    | 0, e1, e2 =>
      cases e1
      cases e2
      refine ⟨ns.map V.int, ?_, ?_⟩
      · rcases S with r | r
        · rcases r with r | ⟨o, r⟩
          · rcases O a with q | ⟨o, xs, q⟩
            · rw [q] at r; cases r
            · rw [q] at r; cases r
          · exact .inl ⟨o, r⟩
        · exact .inr fun H' => .inr r
      · clear S e1 e2
        induction ns with
        | nil => rfl
        | cons n ns ih => exact ⟨.int n, ns.map V.int, rfl, rfl, ih⟩
/-- THE END: the law's own def answers True over the small language -/
theorem law_of {l : PySem.W.OpenLaw} {q : Program} {loose : List Str} {XP : (Str → Option Value) → Heap → Prop} {d : DefRec} {x : Str} {n k N : Nat} (r : DRow)
    (hn : l.most = some n) (hn2 : n ≤ sizeLine) (hdf : d.params.defaults = []) (hr : Room (k + 1) callerA) (hd : d.name = r.x) (hrow : r ∈ rows) (hps : r.fn.ps = [x]) (ht : tabOf rows r.x = some r.fn)
    (ok : ∀ r ∈ rows, r.Ok KW) (hfs : ∀ x ∈ KW.fs, ∃ F, tabOf rows x = some F) (co : cs.all cstOk = true)
    (hlaw : ∀ ns : List Int, ns.length ≤ n → ∃ st', callF (tabOf rows) (gbOf cs) (k + 1) r.x [.ref 0] [.lst true (ns.map D.int)] = .ok (.bl true) st') :
    PySem.W.WalkO q loose XP (He.hookX N (fasOf rows cs) (rows.map DRow.dd) [] [] (impB KW.imp)).says l.row.toRowW d [] (fun f vs => PySem.call f vs) := by
  refine Att.attach_call hn hdf fun w s₀ s₁ mg mb fa o pm cd doc a vs ns G Y ho hd' hcd hmg hobj hints hlen hg => ?_
  obtain ⟨K, KX, cX⟩ := Y
  have c := cX.t.d
  obtain ⟨fd, F⟩ := c.defs (d := r.dd) (List.mem_map.mpr ⟨r, hrow, rfl⟩)
  have g := He.glo_ok KX G.T.g (c.facts (f := .glo r.x) (List.mem_append_left _ (List.mem_map.mpr ⟨r, hrow, rfl⟩)))
  rw [← hd] at g
  have e : fa = He.ga K r.x := by
    rw [hmg] at g
    rw [← hd]
    exact Value.ref.inj (Option.some.inj g)
  have b := FunD.bindsA F (ok r hrow).b
  rw [hps] at b
  refine law_call (CX := L2.CX l.prog w) (K := K) (sp := spOf K mg 1 (callF (tabOf rows) (gbOf cs) (k + 1) r.x)) (x := x) (fd := fd) KX G.T.g G.T.b G.T.builtins G.T.nolimit hg hobj hints (Nat.le_trans hlen hn2) hr (fun base _ _ => ?_) (fun s v => b s [v] rfl) (fun H hO hS => ?_) (fun H e s' h => ?_)
  · have f := fn_step (P := l.prog) (w := w) (base := base) ht (facts_law ok hfs co KX G.T.g c cX.more base k) F (ok r hrow).S (ok r hrow).c
    rw [hps] at f
    rw [e]
    exact f
  · obtain ⟨st', hst⟩ := hlaw ns hlen
    refine ⟨[a], [.lst true (ns.map D.int)], [.ref 0], script_ok hO hS, ⟨_, [], rfl, ⟨a, rfl, rfl⟩, rfl⟩, rfl, ?_⟩
    rw [hst]
    exact fun m' H' v _ _ hv => hv
  · obtain ⟨_, _, _, _, _, _, _, _, _, _, _, _, _, h⟩ := h
end
/-! a program with imports at its head -/
noncomputable section
namespace HeadI
open PySem PySem.W PySem.Calls PyProof.Rows HandSHeadRun
abbrev S0I (r : OpenRow) (M : Nat) (w : World) : Option (Shared × SharedT) := wholeF (fun p => stepQ (denQ tabQ) p w) fenceQ M r.prog
def RunEqI (r : OpenRow) (q : Program) (H : Hook) (ob : SharedT → H.α) (M : Nat) (loose : List PySem.Str) (w : World) : Prop :=
  (S0I r M w).map (fun x => (looksF r.prog x.1.heap x.2.abs, seenQ q loose (importedModules r.prog.main.body) (fun s => xlAt q [] s && recOk r.toRowW.records s) x.2.abs, ob x.2)) = some (true, openGood q loose, H.val w)
theorem head_anyI {r : OpenRow} {q : Program} {H : Hook} {ob : SharedT → H.α} {M : Nat} {loose : List PySem.Str} {d : DefRec} {kwd : List (PySem.Str × PySem.Expr)} (ho : ∀ s : SharedT, ob s = H.obs s.abs) (run : ∀ w, RunEqI r q H ob M loose w)
    (hdef : defOf q r.name = some (d, kwd)) (hp : r.prog.theDef r.name = some (d.params, d.body, d.scope)) (hk : kwWritten? d.params.kwonlyargs d.params.kw_defaults = some kwd)
    (hwr : (!r.writes || r.records.isEmpty) = true) (k1 : r.wellSaid = true) (ok : (chainsOk q && opensWell r.prog && (frees r.toRowW && r.within.isEmpty)) = true) (hb : r.prog.bare) (hw : r.toRowW.promised)
    (call : WalkO q loose (XL q []) H.says r.toRowW d kwd fun f vs => PySem.call f vs) : r.Holds := by
  have left : LeftO r.prog q loose (fun s => xlAt q [] s && recOk r.toRowW.records s) H.obs H.val M true :=
    left_imp fun w => by
      have z := run w
      have eo : ob = fun s => H.obs s.abs := funext ho
      rw [eo] at z
      rw [wholeQ_eq]
      simp only [seenQ_eq]
      exact z
  exact holds_open (r := r) (q := q) (loose := loose) (XP := XL q []) (YP := H.says) (d := d) (kwd := kwd) left H.of H.keeps (fun s z => xl_of s (Bool.and_eq_true_iff.mp z).1) XL.keeps hdef hp hk (fun s z => recFacts_of (Bool.and_eq_true_iff.mp z).2) hwr k1 ok hb hw call
end HeadI
end
end Ab

set_option Elab.async false
set_option linter.all false
set_option autoImplicit false
set_option maxRecDepth 10000
/-! AbUse: to walk a def of the small language: what is wanted of an end, rules for loops, stores that grow. -/
namespace Ab
open PySem

def R.wp {α : Type} (r : R α) (Q : α → Sto → Prop) : Prop := match r with
  | .ok a st => Q a st
  | _ => False
def RS.wp (r : RS) (N : En → Sto → Prop) (V : D → Sto → Prop) : Prop := match r with
  | .nx env st => N env st
  | .rt d st => V d st
  | _ => False
section
variable {α β : Type} {st st1 st2 : Sto} {env : En}
@[simp] theorem wp_ok {a : α} {Q : α → Sto → Prop} : (R.ok a st).wp Q = Q a st := rfl
@[simp] theorem wp_bad {Q : α → Sto → Prop} : (R.bad : R α).wp Q = False := rfl
@[simp] theorem wp_bind {r : R α} {f : α → Sto → R β} {Q : β → Sto → Prop} : (r.bind f).wp Q = r.wp fun a st => (f a st).wp Q := by cases r <;> rfl
@[simp] theorem wp_noex {r : R α} {Q : α → Sto → Prop} : r.noex.wp Q = r.wp Q := by cases r <;> rfl
@[simp] theorem wp_of {r : R α} {f : α → Sto → RS} {N : En → Sto → Prop} {V : D → Sto → Prop} : (RS.of env r f).wp N V = r.wp fun a st => (f a st).wp N V := by cases r <;> rfl
@[simp] theorem wp_then {r : RS} {f : En → Sto → RS} {N : En → Sto → Prop} {V : D → Sto → Prop} : (r.andThen f).wp N V = r.wp (fun env st => (f env st).wp N V) V := by cases r <;> rfl
@[simp] theorem wp_nx {N : En → Sto → Prop} {V : D → Sto → Prop} : (RS.nx env st).wp N V = N env st := rfl
@[simp] theorem wp_rt {d : D} {N : En → Sto → Prop} {V : D → Sto → Prop} : (RS.rt d st).wp N V = V d st := rfl
@[simp] theorem wp_sbad {N : En → Sto → Prop} {V : D → Sto → Prop} : RS.bad.wp N V = False := rfl
@[simp] theorem wp_opt {x : Option α} {Q : α → Sto → Prop} : (ofOpt x st).wp Q = ∃ a, x = some a ∧ Q a st := by
  cases x with
  | none => exact propext ⟨False.elim, fun ⟨_, h, _⟩ => nomatch h⟩
  | some a => exact propext ⟨fun h => ⟨a, rfl, h⟩, fun ⟨_, e, h⟩ => by cases e; exact h⟩
@[simp] theorem wp_ite {c : Prop} [Decidable c] {a b : R α} {Q : α → Sto → Prop} : (if c then a else b).wp Q = if c then a.wp Q else b.wp Q := by split <;> rfl
@[simp] theorem wp_site {c : Prop} [Decidable c] {a b : RS} {N : En → Sto → Prop} {V : D → Sto → Prop} : (if c then a else b).wp N V = if c then a.wp N V else b.wp N V := by split <;> rfl
theorem R.wp.mono {r : R α} {Q Q' : α → Sto → Prop} (h : r.wp Q) (f : ∀ a st, Q a st → Q' a st) : r.wp Q' := by
  cases r with
  | ok a st => exact f a st h
  | ex x st => exact h
  | bad => exact h
theorem RS.wp.mono {r : RS} {N N' : En → Sto → Prop} {V V' : D → Sto → Prop} (h : r.wp N V) (f : ∀ env st, N env st → N' env st) (g : ∀ d st, V d st → V' d st) : r.wp N' V' := by
  cases r with
  | nx env st => exact f env st h
  | rt d st => exact g d st h
  | _ => exact h
theorem R.wp.eq {r : R α} {Q : α → Sto → Prop} (h : r.wp Q) : ∃ a st, r = .ok a st ∧ Q a st := by
  cases r with
  | ok a st => exact ⟨a, st, rfl, h⟩
  | ex x st => exact h.elim
  | bad => exact h.elim

/-! ### terms -/
variable {T : Tab} {G : Gb} {F : Str → List D → Sto → R D}
theorem call_wp {k : Nat} {f : Str} {fn : Fn} {ds : List D} {Q : D → Sto → Prop} (ht : T f = some fn) (hl : ds.length = fn.ps.length)
    (h : (evSs T G (callF T G k) fn.body (ds.map some ++ List.replicate (fn.N.length - ds.length) none) st).wp (fun _ st' => Q .non st') Q) : (callF T G (k + 1) f ds st).wp Q := by
  have e : callF T G (k + 1) f ds st = runFn T G (callF T G k) fn ds st := callF_succ ht hl
  rw [e]
  unfold runFn
  cases q : evSs T G (callF T G k) fn.body (ds.map some ++ List.replicate (fn.N.length - ds.length) none) st <;> rw [q] at h <;> exact h
@[simp] theorem evSs_nil : evSs T G F .nil env st = .nx env st := by simp only [evSs]
@[simp] theorem evSs_cons {s : CS} {ss : CSs} : evSs T G F (.cons s ss) env st = (evS T G F s env st).andThen (evSs T G F ss) := by simp only [evSs]
@[simp] theorem evEs_nil : evEs T G F .nil env st = .ok [] st := by simp only [evEs]
@[simp] theorem evEs_cons {e : CE} {es : CEs} : evEs T G F (.cons e es) env st = (evE T G F e env st).bind fun d st1 => (evEs T G F es env st1).bind fun ds st2 => .ok (d :: ds) st2 := by simp only [evEs]
@[simp] theorem setTs_nil : setTs T G F .nil [] env st = .ok env st := by simp only [setTs]
@[simp] theorem setTs_cons {t : Tg} {ts : Tgs} {d : D} {r : List D} : setTs T G F (.cons t ts) (d :: r) env st = (setT T G F t d env st).bind fun env1 st1 => setTs T G F ts r env1 st1 := by simp only [setTs]
@[simp] theorem setT_nm {i : Nat} {d : D} : setT T G F (.nm i) d env st = .ok (env.set i (some d)) st := by simp only [setT]
@[simp] theorem setT_tp {ts : Tgs} {ds : List D} : setT T G F (.tp ts) (.tup ds) env st = setTs T G F ts ds env st := by simp only [setT]
@[simp] theorem setT_itm {ts : Tgs} {ds : List D} : setT T G F (.tp ts) (.itm ds) env st = setTs T G F ts ds env st := by simp only [setT]
@[simp] theorem setT_sb {a i : CE} {d : D} : setT T G F (.sb a i) d env st = (evE T G F a env st).noex.bind fun o st1 => (evE T G F i env st1).noex.bind fun k st2 => (setD o k d st2).bind fun _ st3 => .ok env st3 := by simp only [setT]
@[simp] theorem evE_var {i : Nat} : evE T G F (.var i) env st = (match env[i]? with | some (some d) => .ok d st | _ => .bad) := by simp only [evE] <;> rfl
@[simp] theorem evE_lit {l : Lit} : evE T G F (.lit l) env st = .ok l.d st := by simp only [evE]
@[simp] theorem evE_glob {x : Str} : evE T G F (.glob x) env st = ofOpt (G x) st := by simp only [evE]
@[simp] theorem evE_bin {op : Operator} {a b : CE} : evE T G F (.bin op a b) env st = (evE T G F a env st).bind fun d st1 => (evE T G F b env st1).bind fun e st2 => binD op d e st2 := by simp only [evE]
@[simp] theorem evE_neg {a : CE} : evE T G F (.neg a) env st = (evE T G F a env st).bind fun d st1 => (match d with | .int i => .ok (.int (-i)) st1 | _ => .bad) := by simp only [evE] <;> rfl
@[simp] theorem evE_cmp {op : CmpOp} {a b : CE} : evE T G F (.cmp op a b) env st = (evE T G F a env st).bind fun d st1 => (evE T G F b env st1).bind fun e st2 => ofOpt ((cmpD op d e st2).map D.bl) st2 := by simp only [evE]
@[simp] theorem evE_chain {o1 o2 : CmpOp} {a b c : CE} : evE T G F (.chain o1 o2 a b c) env st = (evE T G F a env st).bind fun d st1 => (evE T G F b env st1).bind fun e st2 => (ofOpt (cmpD o1 d e st2) st2).bind fun k st3 => if k = true then (evE T G F c env st3).bind fun h st4 => ofOpt ((cmpD o2 e h st4).map D.bl) st4 else .ok (.bl false) st3 := by simp only [evE]
@[simp] theorem evE_and {a b : CE} : evE T G F (.and_ a b) env st = (evE T G F a env st).bind fun d st1 => (asBool d st1).bind fun k st2 => if k = true then evE T G F b env st2 else .ok (.bl false) st2 := by simp only [evE]
@[simp] theorem evE_or {a b : CE} : evE T G F (.or_ a b) env st = (evE T G F a env st).bind fun d st1 => (asBool d st1).bind fun k st2 => if k = true then .ok (.bl true) st2 else evE T G F b env st2 := by simp only [evE]
@[simp] theorem evE_not {a : CE} : evE T G F (.not_ a) env st = (evE T G F a env st).bind fun d st1 => (asBool d st1).bind fun k st2 => .ok (.bl (!k)) st2 := by simp only [evE]
@[simp] theorem evE_ife {c a b : CE} : evE T G F (.ife c a b) env st = (evE T G F c env st).bind fun d st1 => (asBool d st1).bind fun k st2 => if k = true then evE T G F a env st2 else evE T G F b env st2 := by simp only [evE]
@[simp] theorem evE_tup {es : CEs} : evE T G F (.tup es) env st = (evEs T G F es env st).bind fun ds st1 => if ds.length ≤ sizeLine then .ok (.tup ds) st1 else .bad := by simp only [evE]
@[simp] theorem evE_lst {es : CEs} : evE T G F (.lst es) env st = (evEs T G F es env st).bind fun ds st1 => if ds.length ≤ sizeLine then alloc (.lst false ds) st1 else .bad := by simp only [evE]
@[simp] theorem evE_dlt {ks : List (Sum Int Str)} {es : CEs} : evE T G F (.dlt ks es) env st = (evEs T G F es env st).bind fun ds st1 => alloc (.dct (ks.zip ds)) st1 := by simp only [evE]
@[simp] theorem evE_dnew : evE T G F .dnew env st = alloc (.dct []) st := by simp only [evE]
@[simp] theorem evE_sub {a i : CE} : evE T G F (.sub a i) env st = (evE T G F a env st).bind fun d st1 => (evE T G F i env st1).bind fun k st2 => subD d k st2 := by simp only [evE]
@[simp] theorem evE_slc {a : CE} {lo hi : Pt} : evE T G F (.slc a lo hi) env st = (evE T G F a env st).bind fun d st1 => (evP T G F lo env st1).bind fun l st2 => (evP T G F hi env st2).bind fun h st3 => slcD d l h st3 := by simp only [evE]
@[simp] theorem evE_call {f : Str} {es : CEs} : evE T G F (.call f es) env st = (evEs T G F es env st).bind fun ds st1 => F f ds st1 := by simp only [evE]
@[simp] theorem evE_callk {f : Str} {es ws : CEs} {ks : List Str} : evE T G F (.callk f es ks ws) env st = (evEs T G F es env st).bind fun ds st1 => (evEs T G F ws env st1).bind fun zs st2 => (match T f with | some fn => (match bindKw fn.ps ds ks zs with | some as => F f as st2 | none => .bad) | none => .bad) := by simp only [evE] <;> rfl
@[simp] theorem evE_blt {b : Blt} {es : CEs} : evE T G F (.blt b es) env st = (evEs T G F es env st).bind fun ds st1 => bltD b ds st1 := by simp only [evE]
@[simp] theorem evE_isi {a : CE} {t : Ty} : evE T G F (.isi a t) env st = (evE T G F a env st).bind fun d st1 => ofOpt ((isiD t d st1).map D.bl) st1 := by simp only [evE]
@[simp] theorem evE_op1 {o : Op1} {a : CE} : evE T G F (.op1 o a) env st = (evE T G F a env st).bind fun d st1 => op1D o d st1 := by simp only [evE]
@[simp] theorem evE_op2 {o : Op2} {a b : CE} : evE T G F (.op2 o a b) env st = (evE T G F a env st).bind fun d st1 => (evE T G F b env st1).bind fun e st2 => op2D o d e st2 := by simp only [evE]
@[simp] theorem evE_meth {m : Mth} {o : CE} {es : CEs} : evE T G F (.meth m o es) env st = (evE T G F o env st).bind fun d st1 => (match rcvD m st1 d with | some _ => (evEs T G F es env st1).bind fun ds st2 => mthD m d ds st2 | none => .bad) := by simp only [evE] <;> rfl
@[simp] theorem evE_lc {elt : CE} {tg : Tg} {it : Itr} {cond : Pt} {own : List Nat} : evE T G F (.lc elt tg it cond own) env st = (evI T G F it env st).bind fun s st1 =>
      (lcLoop s (fun d st2 => (setT T G F tg d (wipeE env own) st2).bind fun env2 st3 => (evC T G F cond env2 st3).noex.bind fun k st4 =>
        if k = true then (evE T G F elt env2 st4).noex.bind fun y st5 => .ok (some y) st5 else .ok none st4) s.items [] st1).noex.bind fun ys st6 => alloc (.lst false ys) st6 := by simp only [evE]
@[simp] theorem evC_none : evC T G F .none env st = .ok true st := by simp only [evC]
@[simp] theorem evC_some {c : CE} : evC T G F (.some c) env st = (evE T G F c env st).bind fun d st1 => asBool d st1 := by simp only [evC]
@[simp] theorem evP_none : evP T G F .none env st = .ok Option.none st := by simp only [evP]
@[simp] theorem evP_some {e : CE} : evP T G F (.some e) env st = (evE T G F e env st).bind fun d st1 => asPart d st1 := by simp only [evP]
@[simp] theorem evI_seq {e : CE} : evI T G F (.seq e) env st = (evE T G F e env st).bind fun d st1 => srcSeq d st1 := by simp only [evI]
@[simp] theorem evI_rng1 {a : CE} : evI T G F (.rng1 a) env st = (evE T G F a env st).bind fun d st1 => srcRng (.int 0) d st1 := by simp only [evI]
@[simp] theorem evI_rng2 {a b : CE} : evI T G F (.rng2 a b) env st = (evE T G F a env st).bind fun d st1 => (evE T G F b env st1).bind fun e st2 => srcRng d e st2 := by simp only [evI]
@[simp] theorem evI_rngd {a b : CE} : evI T G F (.rngd a b) env st = (evE T G F a env st).bind fun d st1 => (evE T G F b env st1).bind fun e st2 => srcRngd d e st2 := by simp only [evI]
@[simp] theorem evI_enum {e : CE} : evI T G F (.enum e) env st = (evE T G F e env st).bind fun d st1 => srcEnum d st1 := by simp only [evI]
@[simp] theorem evI_zip {a b : CE} : evI T G F (.zip a b) env st = (evE T G F a env st).bind fun d st1 => (evE T G F b env st1).bind fun e st2 => srcZip d e st2 := by simp only [evI]
@[simp] theorem evT_eq {c : CE} : evT T G F c env st = (evE T G F c env st).bind fun d st1 => asBool d st1 := by simp only [evT]
@[simp] theorem evS_asg {t : Tg} {e : CE} : evS T G F (.asg t e) env st = RS.of env (evE T G F e env st) fun d st1 => RS.of env (setT T G F t d env st1) fun env1 st2 => .nx env1 st2 := by simp only [evS]
@[simp] theorem evS_par {ts : List Nat} {es : CEs} : evS T G F (.par ts es) env st = RS.of env (evEs T G F es env st) fun ds st1 => if ds.length = ts.length then .nx ((ts.zip ds).foldl (fun (v : En) p => v.set p.1 (some p.2)) env) st1 else .bad := by simp only [evS]
@[simp] theorem evS_expr {e : CE} : evS T G F (.expr e) env st = RS.of env (evE T G F e env st) fun _ st1 => .nx env st1 := by simp only [evS]
@[simp] theorem evS_ret {e : CE} : evS T G F (.ret e) env st = RS.of env (evE T G F e env st) fun d st1 => .rt d st1 := by simp only [evS]
@[simp] theorem evS_retN : evS T G F .retN env st = .rt .non st := by simp only [evS]
@[simp] theorem evS_ife {c : CE} {a b : CSs} : evS T G F (.ife c a b) env st = RS.of env (evT T G F c env st) fun k st1 => if k = true then evSs T G F a env st1 else evSs T G F b env st1 := by simp only [evS]
@[simp] theorem evS_for {t : Tg} {it : Itr} {b : CSs} : evS T G F (.for_ t it b) env st = RS.of env (evI T G F it env st) fun s st1 => forLoop s (setT T G F t) (evSs T G F b) s.items env st1 := by simp only [evS]
@[simp] theorem evS_while {c : CE} {b : CSs} : evS T G F (.while_ c b) env st = whileLoop (evT T G F c) (evSs T G F b) turns env st := by simp only [evS]
@[simp] theorem evS_pass : evS T G F .pass env st = .nx env st := by simp only [evS]
@[simp] theorem evS_never : evS T G F .never env st = .bad := by simp only [evS]
end

/-! ### stores -/
/-- all that stood stands -/
def Ext (st st' : Sto) : Prop := ∀ (l : Nat) (o : AO), st[l]? = some o → st'[l]? = some o
/-- all but one -/
def Kp (p : Nat) (st st' : Sto) : Prop := ∀ (l : Nat) (o : AO), l ≠ p → st[l]? = some o → st'[l]? = some o
theorem Ext.refl (st : Sto) : Ext st st := fun _ _ h => h
theorem Ext.trans {a b c : Sto} (h : Ext a b) (g : Ext b c) : Ext a c := fun l o e => g l o (h l o e)
theorem Ext.app (st g : Sto) : Ext st (st ++ g) := fun l o e => by
  rw [List.getElem?_append_left (List.getElem?_eq_some_iff.mp e).1]
  exact e
theorem Ext.kp {p : Nat} {st st' : Sto} (h : Ext st st') : Kp p st st' := fun l o _ e => h l o e
theorem Kp.refl (p : Nat) (st : Sto) : Kp p st st := fun _ _ _ h => h
theorem Kp.trans {p : Nat} {a b c : Sto} (h : Kp p a b) (g : Kp p b c) : Kp p a c := fun l o n e => g l o n (h l o n e)
theorem Kp.set (p : Nat) (st : Sto) (o : AO) : Kp p st (st.set p o) := fun l u n e => by
  rw [List.getElem?_set_ne (fun h => n h.symm)]
  exact e
theorem Kp.toExt {p : Nat} {st st' : Sto} (h : Kp p st st') (hp : st.length ≤ p) : Ext st st' := fun l o e => h l o (fun q => by
  have := (List.getElem?_eq_some_iff.mp e).1
  omega) e

/-! ### loops -/
theorem still_nil {ds : List D} {st : Sto} : (⟨ds, []⟩ : Src).still st := fun _ h => nomatch h
theorem still_one {ds xs : List D} {l : Nat} {f : Bool} {st : Sto} (h : st[l]? = some (.lst f xs)) : (⟨ds, [(l, xs)]⟩ : Src).still st := fun p hp => by
  cases List.mem_singleton.mp hp
  exact ⟨f, h⟩
theorem for_wp {s : Src} {g : D → En → Sto → R En} {b : En → Sto → RS} {N : En → Sto → Prop} {V : D → Sto → Prop} : ∀ {items : List D} {env : En} {st : Sto} (I : Nat → En → Sto → Prop) (h0 : I 0 env st) (still : ∀ i env st, I i env st → s.still st)
    (step : ∀ i d env st, items[i]? = some d → I i env st → (g d env st).wp fun env1 st1 => (b env1 st1).wp (I (i + 1)) V) (fin : ∀ env st, I items.length env st → N env st), (forLoop s g b items env st).wp N V
  | [], env, st, I, h0, still, step, fin => by
    unfold forLoop
    rw [if_pos (still _ _ _ h0)]
    exact fin _ _ h0
  | d :: ds, env, st, I, h0, still, step, fin => by
    unfold forLoop
    rw [if_pos (still _ _ _ h0), wp_of]
    refine (step 0 d env st rfl h0).mono fun env1 st1 h => ?_
    have go : ∀ env2 st2, I 1 env2 st2 → (forLoop s g b ds env2 st2).wp N V := fun env2 st2 h2 =>
      for_wp (items := ds) (fun i => I (i + 1)) h2 (fun i => still (i + 1)) (fun i d env st e => step (i + 1) d env st e) fin
    cases q : b env1 st1 with
    | nx env2 st2 => rw [q] at h; exact go _ _ h
    | rt d st2 => rw [q] at h; exact h
    | _ => rw [q] at h; exact h.elim
theorem lc_wp {s : Src} {f : D → Sto → R (Option D)} {Q : List D → Sto → Prop} : ∀ {items acc : List D} {st : Sto} (I : Nat → List D → Sto → Prop) (h0 : I 0 acc st) (still : ∀ i acc st, I i acc st → s.still st)
    (step : ∀ i d acc st, items[i]? = some d → I i acc st → (f d st).wp fun r st1 => match r with
      | some y => acc.length < sizeLine ∧ I (i + 1) (acc ++ [y]) st1
      | none => I (i + 1) acc st1) (fin : ∀ acc st, I items.length acc st → Q acc st), (lcLoop s f items acc st).wp Q
  | [], acc, st, I, h0, still, step, fin => by
    unfold lcLoop
    rw [if_pos (still _ _ _ h0)]
    exact fin _ _ h0
  | d :: ds, acc, st, I, h0, still, step, fin => by
    unfold lcLoop
    rw [if_pos (still _ _ _ h0), wp_bind]
    refine (step 0 d acc st rfl h0).mono fun r st1 h => ?_
    cases r with
    | some y =>
      have h : acc.length < sizeLine ∧ I 1 (acc ++ [y]) st1 := h
      show (if acc.length < sizeLine then lcLoop s f ds (acc ++ [y]) st1 else .bad).wp Q
      rw [if_pos h.1]
      exact lc_wp (items := ds) (fun i => I (i + 1)) h.2 (fun i => still (i + 1)) (fun i d acc st e => step (i + 1) d acc st e) fin
    | none => exact lc_wp (items := ds) (fun i => I (i + 1)) h (fun i => still (i + 1)) (fun i d acc st e => step (i + 1) d acc st e) fin
/-- one value an item, each as P says; the store goes on by a relation -/
theorem lc_map {s : Src} {f : D → Sto → R (Option D)} {Q : List D → Sto → Prop} {items : List D} {st : Sto} (S : Sto → Prop) (P : Nat → D → Prop) (hn : items.length ≤ sizeLine) (h0 : S st) (still : ∀ st, S st → s.still st)
    (step : ∀ i d st, items[i]? = some d → S st → (f d st).wp fun r st1 => ∃ y, r = some y ∧ P i y ∧ S st1)
    (fin : ∀ ys st, ys.length = items.length → (∀ (i : Nat) (y : D), ys[i]? = some y → P i y) → S st → Q ys st) : (lcLoop s f items [] st).wp Q := by
  refine lc_wp (fun i acc st => acc.length = i ∧ i ≤ items.length ∧ (∀ (j : Nat) (y : D), acc[j]? = some y → P j y) ∧ S st) ⟨rfl, Nat.zero_le _, fun j y e => absurd e (by simp), h0⟩ (fun i acc st h => still st h.2.2.2) (fun i d acc st e h => ?_) (fun acc st h => fin acc st h.1 h.2.2.1 h.2.2.2)
  refine (step i d st e h.2.2.2).mono fun r st1 ⟨y, er, hy, hs⟩ => ?_
  subst er
  have hi := (List.getElem?_eq_some_iff.mp e).1
  refine ⟨by have := h.1; omega, by rw [List.length_append, h.1]; rfl, by omega, fun j z ez => ?_, hs⟩
  by_cases q : j < acc.length
  · rw [List.getElem?_append_left q] at ez
    exact h.2.2.1 j z ez
  · rw [List.getElem?_append_right (by omega)] at ez
    have : j - acc.length = 0 := by
      have := (List.getElem?_eq_some_iff.mp ez).1
      simp at this
      omega
    rw [this] at ez
    cases ez
    have ej : j = i := by omega
    rw [ej]
    exact hy
theorem while_wp {c : En → Sto → R Bool} {b : En → Sto → RS} {N : En → Sto → Prop} {V : D → Sto → Prop} : ∀ {n : Nat} {env : En} {st : Sto} (I : Nat → En → Sto → Prop) (h0 : I 0 env st)
    (step : ∀ i env st, i < n → I i env st → (c env st).wp fun k st1 => if k = true then i + 1 < n ∧ (b env st1).wp (I (i + 1)) V else N env st1) (hn : 0 < n), (whileLoop c b n env st).wp N V
  | 0, _, _, _, _, _, hn => absurd hn (Nat.lt_irrefl 0)
  | n + 1, env, st, I, h0, step, hn => by
    unfold whileLoop
    rw [wp_of]
    refine (step 0 env st (Nat.succ_pos n) h0).mono fun k st1 h => ?_
    cases k with
    | false => exact h
    | true =>
      have h : 1 < n + 1 ∧ (b env st1).wp (I 1) V := h
      have go : ∀ env2 st2, I 1 env2 st2 → (whileLoop c b n env2 st2).wp N V := fun env2 st2 h2 =>
        while_wp (n := n) (fun i => I (i + 1)) h2 (fun i env st hi e => (step (i + 1) env st (by omega) e).mono fun k st1 q => by
          cases k with
          | false => exact q
          | true => exact ⟨by have := (show i + 1 + 1 < n + 1 ∧ _ from q).1; omega, (show i + 1 + 1 < n + 1 ∧ _ from q).2⟩) (by omega)
      rw [if_pos rfl]
      cases q : b env st1 with
      | nx env2 st2 => rw [q] at h; exact go _ _ h.2
      | rt d st2 => rw [q] at h; exact h.2
      | _ => rw [q] at h; exact h.2.elim
end Ab

set_option Elab.async false
set_option linter.all false
set_option autoImplicit false
set_option maxRecDepth 10000
/-! AbWalk: rules, one a form, by which a def of the small language is walked. -/
namespace Ab
open PySem
section
variable {α β : Type} {T : Tab} {G : Gb} {F : Str → List D → Sto → R D} {env : En} {st : Sto} {Q : D → Sto → Prop} {N : En → Sto → Prop} {V : D → Sto → Prop}
theorem w_ok {a : α} {Q : α → Sto → Prop} (h : Q a st) : (R.ok a st).wp Q := h
theorem w_bind {r : R α} {f : α → Sto → R β} {Q : β → Sto → Prop} (h : r.wp fun a st => (f a st).wp Q) : (r.bind f).wp Q := by rw [wp_bind]; exact h
theorem w_noex {r : R α} {Q : α → Sto → Prop} (h : r.wp Q) : r.noex.wp Q := by rw [wp_noex]; exact h
theorem w_opt {a : α} {Q : α → Sto → Prop} (h : Q a st) : (ofOpt (some a) st).wp Q := h
/-! statements -/
theorem w_ssnil (h : N env st) : (evSs T G F .nil env st).wp N V := by rw [evSs_nil]; exact h
theorem w_sscons {s : CS} {ss : CSs} (h : (evS T G F s env st).wp (fun env1 st1 => (evSs T G F ss env1 st1).wp N V) V) : (evSs T G F (.cons s ss) env st).wp N V := by rw [evSs_cons, wp_then]; exact h
theorem w_asg {t : Tg} {e : CE} (h : (evE T G F e env st).wp fun d st1 => (setT T G F t d env st1).wp N) : (evS T G F (.asg t e) env st).wp N V := by rw [evS_asg, wp_of]; exact h.mono fun d st1 q => by rw [wp_of]; exact q
theorem w_par2 {i j : Nat} {a b : CE} (h : (evE T G F a env st).wp fun d st1 => (evE T G F b env st1).wp fun e st2 => N ((env.set i (some d)).set j (some e)) st2) : (evS T G F (.par [i, j] (.cons a (.cons b .nil))) env st).wp N V := by
  rw [evS_par, wp_of, evEs_cons, wp_bind]
  refine h.mono fun d st1 q => ?_
  rw [wp_bind, evEs_cons, wp_bind]
  refine q.mono fun e st2 q => ?_
  rw [wp_bind, evEs_nil, wp_ok, wp_ok]
  exact q
theorem w_par3 {i j k : Nat} {a b c : CE} (h : (evE T G F a env st).wp fun d st1 => (evE T G F b env st1).wp fun e st2 => (evE T G F c env st2).wp fun g st3 => N (((env.set i (some d)).set j (some e)).set k (some g)) st3) : (evS T G F (.par [i, j, k] (.cons a (.cons b (.cons c .nil)))) env st).wp N V := by
  rw [evS_par, wp_of, evEs_cons, wp_bind]
  refine h.mono fun d st1 q => ?_
  rw [wp_bind, evEs_cons, wp_bind]
  refine q.mono fun e st2 q => ?_
  rw [wp_bind, evEs_cons, wp_bind]
  refine q.mono fun g st3 q => ?_
  rw [wp_bind, evEs_nil, wp_ok, wp_ok, wp_ok]
  exact q
theorem w_expr {e : CE} (h : (evE T G F e env st).wp fun _ st1 => N env st1) : (evS T G F (.expr e) env st).wp N V := by rw [evS_expr, wp_of]; exact h
theorem w_ret {e : CE} (h : (evE T G F e env st).wp V) : (evS T G F (.ret e) env st).wp N V := by rw [evS_ret, wp_of]; exact h
theorem w_retN (h : V .non st) : (evS T G F .retN env st).wp N V := by rw [evS_retN]; exact h
theorem w_pass (h : N env st) : (evS T G F .pass env st).wp N V := by rw [evS_pass]; exact h
theorem w_sife {c : CE} {a b : CSs} (h : (evE T G F c env st).wp fun d st1 => (asBool d st1).wp fun k st2 => (k = true → (evSs T G F a env st2).wp N V) ∧ (k = false → (evSs T G F b env st2).wp N V)) : (evS T G F (.ife c a b) env st).wp N V := by
  rw [evS_ife, wp_of, evT_eq, wp_bind]
  refine h.mono fun d st1 q => q.mono fun k st2 q => ?_
  cases k with
  | true => exact q.1 rfl
  | false => exact q.2 rfl
theorem w_for {t : Tg} {it : Itr} {b : CSs} (h : (evI T G F it env st).wp fun s st1 => (forLoop s (setT T G F t) (evSs T G F b) s.items env st1).wp N V) : (evS T G F (.for_ t it b) env st).wp N V := by rw [evS_for, wp_of]; exact h
theorem w_while {c : CE} {b : CSs} (h : (whileLoop (evT T G F c) (evSs T G F b) turns env st).wp N V) : (evS T G F (.while_ c b) env st).wp N V := by rw [evS_while]; exact h
/-! terms -/
theorem w_var {i : Nat} {d : D} (e : env[i]? = some (some d)) (h : Q d st) : (evE T G F (.var i) env st).wp Q := by rw [evE_var, e]; exact h
theorem w_int {i : Int} (h : Q (.int i) st) : (evE T G F (.lit (.int i)) env st).wp Q := by rw [evE_lit]; exact h
theorem w_str {x : Str} (h : Q (.str x) st) : (evE T G F (.lit (.str x)) env st).wp Q := by rw [evE_lit]; exact h
theorem w_bl {b : Bool} (h : Q (.bl b) st) : (evE T G F (.lit (.bl b)) env st).wp Q := by rw [evE_lit]; exact h
theorem w_non (h : Q .non st) : (evE T G F (.lit .non) env st).wp Q := by rw [evE_lit]; exact h
theorem w_glob {x : Str} {d : D} (e : G x = some d) (h : Q d st) : (evE T G F (.glob x) env st).wp Q := by rw [evE_glob, e]; exact h
theorem w_bin {op : Operator} {a b : CE} (h : (evE T G F a env st).wp fun d st1 => (evE T G F b env st1).wp fun e st2 => (binD op d e st2).wp Q) : (evE T G F (.bin op a b) env st).wp Q := by
  rw [evE_bin, wp_bind]
  exact h.mono fun d st1 q => by rw [wp_bind]; exact q
theorem w_neg {a : CE} (h : (evE T G F a env st).wp fun d st1 => ∃ i, d = .int i ∧ Q (.int (-i)) st1) : (evE T G F (.neg a) env st).wp Q := by
  rw [evE_neg, wp_bind]
  refine h.mono fun d st1 ⟨i, e, q⟩ => ?_
  subst e
  exact q
theorem w_cmp {op : CmpOp} {a b : CE} (h : (evE T G F a env st).wp fun d st1 => (evE T G F b env st1).wp fun e st2 => (ofOpt ((cmpD op d e st2).map D.bl) st2).wp Q) : (evE T G F (.cmp op a b) env st).wp Q := by
  rw [evE_cmp, wp_bind]
  exact h.mono fun d st1 q => by rw [wp_bind]; exact q
theorem w_chain {o1 o2 : CmpOp} {a b c : CE} (h : (evE T G F a env st).wp fun d st1 => (evE T G F b env st1).wp fun e st2 => (ofOpt ((cmpD o1 d e st2).map D.bl) st2).wp fun k st3 => (asBool k st3).wp fun k st3 =>
      (k = true → (evE T G F c env st3).wp fun g st4 => (ofOpt ((cmpD o2 e g st4).map D.bl) st4).wp Q) ∧ (k = false → Q (.bl false) st3)) : (evE T G F (.chain o1 o2 a b c) env st).wp Q := by
  rw [evE_chain, wp_bind]
  refine h.mono fun d st1 q => ?_
  rw [wp_bind]
  refine q.mono fun e st2 q => ?_
  cases e1 : cmpD o1 d e st2 with
  | none => rw [e1] at q; exact q.elim
  | some k =>
    rw [e1] at q
    cases k with
    | true =>
      show (((evE T G F c env st2).bind fun g st4 => ofOpt ((cmpD o2 e g st4).map D.bl) st4)).wp Q
      rw [wp_bind]
      exact q.1 rfl
    | false => exact q.2 rfl
theorem w_and {a b : CE} (h : (evE T G F a env st).wp fun d st1 => (asBool d st1).wp fun k st2 => (k = true → (evE T G F b env st2).wp Q) ∧ (k = false → Q (.bl false) st2)) : (evE T G F (.and_ a b) env st).wp Q := by
  rw [evE_and, wp_bind]
  refine h.mono fun d st1 q => ?_
  rw [wp_bind]
  refine q.mono fun k st2 q => ?_
  cases k with
  | true => exact q.1 rfl
  | false => exact q.2 rfl
theorem w_or {a b : CE} (h : (evE T G F a env st).wp fun d st1 => (asBool d st1).wp fun k st2 => (k = true → Q (.bl true) st2) ∧ (k = false → (evE T G F b env st2).wp Q)) : (evE T G F (.or_ a b) env st).wp Q := by
  rw [evE_or, wp_bind]
  refine h.mono fun d st1 q => ?_
  rw [wp_bind]
  refine q.mono fun k st2 q => ?_
  cases k with
  | true => exact q.1 rfl
  | false => exact q.2 rfl
theorem w_not {a : CE} (h : (evE T G F a env st).wp fun d st1 => (asBool d st1).wp fun k st2 => Q (.bl (!k)) st2) : (evE T G F (.not_ a) env st).wp Q := by
  rw [evE_not, wp_bind]
  exact h.mono fun d st1 q => by rw [wp_bind]; exact q
theorem w_ife {c a b : CE} (h : (evE T G F c env st).wp fun d st1 => (asBool d st1).wp fun k st2 => (k = true → (evE T G F a env st2).wp Q) ∧ (k = false → (evE T G F b env st2).wp Q)) : (evE T G F (.ife c a b) env st).wp Q := by
  rw [evE_ife, wp_bind]
  refine h.mono fun d st1 q => ?_
  rw [wp_bind]
  refine q.mono fun k st2 q => ?_
  cases k with
  | true => exact q.1 rfl
  | false => exact q.2 rfl
theorem w_esnil {Q : List D → Sto → Prop} (h : Q [] st) : (evEs T G F .nil env st).wp Q := by rw [evEs_nil]; exact h
theorem w_escons {e : CE} {es : CEs} {Q : List D → Sto → Prop} (h : (evE T G F e env st).wp fun d st1 => (evEs T G F es env st1).wp fun ds st2 => Q (d :: ds) st2) : (evEs T G F (.cons e es) env st).wp Q := by
  rw [evEs_cons, wp_bind]
  exact h.mono fun d st1 q => by rw [wp_bind]; exact q
def CEs.len : CEs → Nat
  | .nil => 0
  | .cons _ es => es.len + 1
theorem evEs_count {Q : List D → Sto → Prop} : ∀ {es : CEs} {st : Sto}, (evEs T G F es env st).wp Q → (evEs T G F es env st).wp fun ds st1 => ds.length = es.len ∧ Q ds st1
  | .nil, st, h => by rw [evEs_nil] at h ⊢; exact ⟨rfl, h⟩
  | .cons e es, st, h => by
    rw [evEs_cons, wp_bind] at h ⊢
    refine h.mono fun d st1 q => ?_
    rw [wp_bind] at q ⊢
    exact (evEs_count q).mono fun ds st2 q => ⟨by rw [List.length_cons, q.1]; rfl, q.2⟩
theorem w_tup {es : CEs} (h : (evEs T G F es env st).wp fun ds st1 => Q (.tup ds) st1) (hl : es.len ≤ sizeLine := by decide) : (evE T G F (.tup es) env st).wp Q := by
  rw [evE_tup, wp_bind]
  refine (evEs_count h).mono fun ds st1 q => ?_
  rw [if_pos (by rw [q.1]; exact hl)]
  exact q.2
theorem w_lst {es : CEs} (h : (evEs T G F es env st).wp fun ds st1 => (alloc (.lst false ds) st1).wp Q) (hl : es.len ≤ sizeLine := by decide) : (evE T G F (.lst es) env st).wp Q := by
  rw [evE_lst, wp_bind]
  refine (evEs_count h).mono fun ds st1 q => ?_
  rw [if_pos (by rw [q.1]; exact hl)]
  exact q.2
theorem w_dnew (h : (alloc (.dct []) st).wp Q) : (evE T G F .dnew env st).wp Q := by rw [evE_dnew]; exact h
theorem w_sub {a i : CE} (h : (evE T G F a env st).wp fun d st1 => (evE T G F i env st1).wp fun k st2 => (subD d k st2).wp Q) : (evE T G F (.sub a i) env st).wp Q := by
  rw [evE_sub, wp_bind]
  exact h.mono fun d st1 q => by rw [wp_bind]; exact q
theorem w_slc {a : CE} {lo hi : Pt} (h : (evE T G F a env st).wp fun d st1 => (evP T G F lo env st1).wp fun l st2 => (evP T G F hi env st2).wp fun r st3 => (slcD d l r st3).wp Q) : (evE T G F (.slc a lo hi) env st).wp Q := by
  rw [evE_slc, wp_bind]
  refine h.mono fun d st1 q => ?_
  rw [wp_bind]
  exact q.mono fun l st2 q => by rw [wp_bind]; exact q
theorem w_pnone {Q : Option Int → Sto → Prop} (h : Q none st) : (evP T G F .none env st).wp Q := by rw [evP_none]; exact h
theorem w_psome {e : CE} {Q : Option Int → Sto → Prop} (h : (evE T G F e env st).wp fun d st1 => ∃ i, d = .int i ∧ Q (some i) st1) : (evP T G F (.some e) env st).wp Q := by
  rw [evP_some, wp_bind]
  refine h.mono fun d st1 ⟨i, e, q⟩ => ?_
  subst e
  exact q
theorem w_cnone {Q : Bool → Sto → Prop} (h : Q true st) : (evC T G F .none env st).wp Q := by rw [evC_none]; exact h
theorem w_csome {e : CE} {Q : Bool → Sto → Prop} (h : (evE T G F e env st).wp fun d st1 => (asBool d st1).wp Q) : (evC T G F (.some e) env st).wp Q := by rw [evC_some, wp_bind]; exact h
theorem w_evT {e : CE} {Q : Bool → Sto → Prop} (h : (evE T G F e env st).wp fun d st1 => (asBool d st1).wp Q) : (evT T G F e env st).wp Q := by rw [evT_eq, wp_bind]; exact h
theorem w_call {f : Str} {es : CEs} (h : (evEs T G F es env st).wp fun ds st1 => (F f ds st1).wp Q) : (evE T G F (.call f es) env st).wp Q := by rw [evE_call, wp_bind]; exact h
theorem w_callk {f : Str} {es ws : CEs} {ks : List Str} {fn : Fn} (ht : T f = some fn) (h : (evEs T G F es env st).wp fun ds st1 => (evEs T G F ws env st1).wp fun zs st2 => ∃ as, bindKw fn.ps ds ks zs = some as ∧ (F f as st2).wp Q) : (evE T G F (.callk f es ks ws) env st).wp Q := by
  rw [evE_callk, wp_bind]
  refine h.mono fun ds st1 q => ?_
  rw [wp_bind]
  refine q.mono fun zs st2 ⟨as, e, q⟩ => ?_
  rw [ht]
  show (match bindKw fn.ps ds ks zs with | some as => F f as st2 | none => .bad).wp Q
  rw [e]
  exact q
theorem w_blt {b : Blt} {es : CEs} (h : (evEs T G F es env st).wp fun ds st1 => (bltD b ds st1).wp Q) : (evE T G F (.blt b es) env st).wp Q := by rw [evE_blt, wp_bind]; exact h
theorem w_isi {a : CE} {t : Ty} (h : (evE T G F a env st).wp fun d st1 => (ofOpt ((isiD t d st1).map D.bl) st1).wp Q) : (evE T G F (.isi a t) env st).wp Q := by rw [evE_isi, wp_bind]; exact h
theorem w_meth {m : Mth} {o : CE} {es : CEs} (h : (evE T G F o env st).wp fun d st1 => (∃ xs, listOf st1 d = some xs) ∧ (evEs T G F es env st1).wp fun ds st2 => (mthD m d ds st2).wp Q) : (evE T G F (.meth m o es) env st).wp Q := by
  rw [evE_meth, wp_bind]
  refine h.mono fun d st1 ⟨⟨xs, e⟩, q⟩ => ?_
  have e2 : rcvD m st1 d = some xs := by
    cases d with
    | tup ds => exact absurd e (fun z => nomatch z)
    | _ => exact e
  rw [e2]
  show ((evEs T G F es env st1).bind fun ds st2 => mthD m d ds st2).wp Q
  rw [wp_bind]
  exact q
/-- what a comprehension does with an item -/
noncomputable def lcF (T : Tab) (G : Gb) (F : Str → List D → Sto → R D) (elt : CE) (tg : Tg) (cond : Pt) (env : En) (d : D) (st2 : Sto) : R (Option D) :=
  (setT T G F tg d env st2).bind fun env2 st3 => (evC T G F cond env2 st3).noex.bind fun k st4 => if k = true then (evE T G F elt env2 st4).noex.bind fun y st5 => .ok (some y) st5 else .ok none st4
theorem w_lcF {elt : CE} {tg : Tg} {cond : Pt} {d : D} {Q : Option D → Sto → Prop} (h : (setT T G F tg d env st).wp fun env2 st3 => (evC T G F cond env2 st3).wp fun k st4 => (k = true → (evE T G F elt env2 st4).wp fun y st5 => Q (some y) st5) ∧ (k = false → Q none st4)) : (lcF T G F elt tg cond env d st).wp Q := by
  unfold lcF
  rw [wp_bind]
  refine h.mono fun env2 st3 q => ?_
  rw [wp_bind, wp_noex]
  refine q.mono fun k st4 q => ?_
  cases k with
  | true =>
    rw [if_pos rfl, wp_bind, wp_noex]
    exact q.1 rfl
  | false => exact q.2 rfl
theorem w_lc {elt : CE} {tg : Tg} {it : Itr} {cond : Pt} {own : List Nat} (h : (evI T G F it env st).wp fun s st1 => (lcLoop s (lcF T G F elt tg cond (wipeE env own)) s.items [] st1).wp fun ys st2 => (alloc (.lst false ys) st2).wp Q) : (evE T G F (.lc elt tg it cond own) env st).wp Q := by
  rw [evE_lc, wp_bind]
  refine h.mono fun s st1 q => ?_
  rw [wp_bind, wp_noex]
  exact q
theorem w_iseq {e : CE} {Q : Src → Sto → Prop} (h : (evE T G F e env st).wp fun d st1 => (srcSeq d st1).wp Q) : (evI T G F (.seq e) env st).wp Q := by rw [evI_seq, wp_bind]; exact h
theorem w_irng1 {e : CE} {Q : Src → Sto → Prop} (h : (evE T G F e env st).wp fun d st1 => (srcRng (.int 0) d st1).wp Q) : (evI T G F (.rng1 e) env st).wp Q := by rw [evI_rng1, wp_bind]; exact h
theorem w_irng2 {a b : CE} {Q : Src → Sto → Prop} (h : (evE T G F a env st).wp fun d st1 => (evE T G F b env st1).wp fun e st2 => (srcRng d e st2).wp Q) : (evI T G F (.rng2 a b) env st).wp Q := by
  rw [evI_rng2, wp_bind]
  exact h.mono fun d st1 q => by rw [wp_bind]; exact q
theorem w_ienum {e : CE} {Q : Src → Sto → Prop} (h : (evE T G F e env st).wp fun d st1 => (srcEnum d st1).wp Q) : (evI T G F (.enum e) env st).wp Q := by rw [evI_enum, wp_bind]; exact h
theorem w_izip {a b : CE} {Q : Src → Sto → Prop} (h : (evE T G F a env st).wp fun d st1 => (evE T G F b env st1).wp fun e st2 => (srcZip d e st2).wp Q) : (evI T G F (.zip a b) env st).wp Q := by
  rw [evI_zip, wp_bind]
  exact h.mono fun d st1 q => by rw [wp_bind]; exact q
/-! targets -/
theorem w_nm {i : Nat} {d : D} (h : N (env.set i (some d)) st) : (setT T G F (.nm i) d env st).wp N := by rw [setT_nm]; exact h
theorem w_tp {ts : Tgs} {ds : List D} (h : (setTs T G F ts ds env st).wp N) : (setT T G F (.tp ts) (.tup ds) env st).wp N := by rw [setT_tp]; exact h
theorem w_itm {ts : Tgs} {ds : List D} (h : (setTs T G F ts ds env st).wp N) : (setT T G F (.tp ts) (.itm ds) env st).wp N := by rw [setT_itm]; exact h
theorem w_tsnil (h : N env st) : (setTs T G F .nil [] env st).wp N := by rw [setTs_nil]; exact h
theorem w_tscons {t : Tg} {ts : Tgs} {d : D} {r : List D} (h : (setT T G F t d env st).wp fun env1 st1 => (setTs T G F ts r env1 st1).wp N) : (setTs T G F (.cons t ts) (d :: r) env st).wp N := by rw [setTs_cons, wp_bind]; exact h
theorem w_sb {a i : CE} {d : D} (h : (evE T G F a env st).wp fun o st1 => (evE T G F i env st1).wp fun k st2 => (setD o k d st2).wp fun _ st3 => N env st3) : (setT T G F (.sb a i) d env st).wp N := by
  rw [setT_sb, wp_bind, wp_noex]
  refine h.mono fun o st1 q => ?_
  rw [wp_bind, wp_noex]
  refine q.mono fun k st2 q => ?_
  rw [wp_bind]
  exact q
/-! what the operations do -/
theorem o_add {i j : Int} (h : Q (.int (i + j)) st) : (binD .Add (.int i) (.int j) st).wp Q := h
theorem o_sub {i j : Int} (h : Q (.int (i - j)) st) : (binD .Sub (.int i) (.int j) st).wp Q := h
theorem o_mul {i j : Int} (b : (-(2 ^ 64) < i ∧ i < 2 ^ 64) ∨ (-(2 ^ 64) < j ∧ j < 2 ^ 64)) (h : Q (.int (i * j)) st) : (binD .Mult (.int i) (.int j) st).wp Q := by
  show (if _ then R.ok (D.int (i * j)) st else .bad).wp Q
  rw [if_pos b]
  exact h
theorem o_div {i j : Int} (b : 0 < j ∧ j < 1073741824) (h : Q (.int (i / j)) st) : (binD .FloorDiv (.int i) (.int j) st).wp Q := by
  show (if _ then R.ok (D.int (i / j)) st else .bad).wp Q
  rw [if_pos b]
  exact h
theorem o_mod {i j : Int} (b : 0 < j) (h : Q (.int (i % j)) st) : (binD .Mod (.int i) (.int j) st).wp Q := by
  show (if _ then R.ok (D.int (i % j)) st else .bad).wp Q
  rw [if_pos b]
  exact h
theorem o_pow {i j : Int} (b : 0 ≤ j ∧ j ≤ 1000000 ∧ i.natAbs < 18446744073709551616) (h : Q (.int (i ^ j.toNat)) st) : (binD .Pow (.int i) (.int j) st).wp Q := by
  have e : binD .Pow (.int i) (.int j) st = if 0 ≤ j ∧ j ≤ 1000000 ∧ i.natAbs < 2 ^ 64 then .ok (.int (i ^ j.toNat)) st else .bad := rfl
  rw [e, if_pos (by simpa using b)]
  exact h
theorem o_addT {xs ys : List D} (b : xs.length + ys.length ≤ sizeLine) (h : Q (.tup (xs ++ ys)) st) : (binD .Add (.tup xs) (.tup ys) st).wp Q := by
  show (if _ then R.ok (D.tup (xs ++ ys)) st else .bad).wp Q
  rw [if_pos b]
  exact h
theorem o_lt {i j : Int} (h : Q (.bl (decide (i < j))) st) : (ofOpt ((cmpD .Lt (.int i) (.int j) st).map D.bl) st).wp Q := h
theorem o_le {i j : Int} (h : Q (.bl (decide (i ≤ j))) st) : (ofOpt ((cmpD .LtE (.int i) (.int j) st).map D.bl) st).wp Q := h
theorem o_gt {i j : Int} (h : Q (.bl (decide (j < i))) st) : (ofOpt ((cmpD .Gt (.int i) (.int j) st).map D.bl) st).wp Q := h
theorem o_ge {i j : Int} (h : Q (.bl (decide (j ≤ i))) st) : (ofOpt ((cmpD .GtE (.int i) (.int j) st).map D.bl) st).wp Q := h
theorem o_eqI {i j : Int} (h : Q (.bl (decide (i = j))) st) : (ofOpt ((cmpD .Eq (.int i) (.int j) st).map D.bl) st).wp Q := h
theorem o_neI {i j : Int} (h : Q (.bl (!decide (i = j))) st) : (ofOpt ((cmpD .NotEq (.int i) (.int j) st).map D.bl) st).wp Q := h
theorem o_eqS {i j : Str} (h : Q (.bl (decide (i = j))) st) : (ofOpt ((cmpD .Eq (.str i) (.str j) st).map D.bl) st).wp Q := h
theorem o_neS {i j : Str} (h : Q (.bl (!decide (i = j))) st) : (ofOpt ((cmpD .NotEq (.str i) (.str j) st).map D.bl) st).wp Q := h
theorem o_eqB {i j : Bool} (h : Q (.bl (decide (i = j))) st) : (ofOpt ((cmpD .Eq (.bl i) (.bl j) st).map D.bl) st).wp Q := h
theorem o_neB {i j : Bool} (h : Q (.bl (!decide (i = j))) st) : (ofOpt ((cmpD .NotEq (.bl i) (.bl j) st).map D.bl) st).wp Q := h
theorem o_isN (h : Q (.bl true) st) : (ofOpt ((cmpD .Is .non .non st).map D.bl) st).wp Q := h
theorem o_isI {i : Int} (h : Q (.bl false) st) : (ofOpt ((cmpD .Is (.int i) .non st).map D.bl) st).wp Q := h
theorem o_isB {i : Bool} (h : Q (.bl false) st) : (ofOpt ((cmpD .Is (.bl i) .non st).map D.bl) st).wp Q := h
theorem o_isS {i : Str} (h : Q (.bl false) st) : (ofOpt ((cmpD .Is (.str i) .non st).map D.bl) st).wp Q := h
theorem o_isT {i : List D} (h : Q (.bl false) st) : (ofOpt ((cmpD .Is (.tup i) .non st).map D.bl) st).wp Q := h
theorem o_inN (h : Q (.bl false) st) : (ofOpt ((cmpD .IsNot .non .non st).map D.bl) st).wp Q := h
theorem o_inI {i : Int} (h : Q (.bl true) st) : (ofOpt ((cmpD .IsNot (.int i) .non st).map D.bl) st).wp Q := h
theorem o_inB {i : Bool} (h : Q (.bl true) st) : (ofOpt ((cmpD .IsNot (.bl i) .non st).map D.bl) st).wp Q := h
theorem o_inS {i : Str} (h : Q (.bl true) st) : (ofOpt ((cmpD .IsNot (.str i) .non st).map D.bl) st).wp Q := h
theorem o_inT {i : List D} (h : Q (.bl true) st) : (ofOpt ((cmpD .IsNot (.tup i) .non st).map D.bl) st).wp Q := h
theorem o_isiN {t : Ty} (b : Bool) (e : (false) = b) (h : Q (.bl b) st) : (ofOpt ((isiD t .non st).map D.bl) st).wp Q := by subst e; exact h
theorem o_isiI {i : Int} {t : Ty} (b : Bool) (e : (t == .int) = b) (h : Q (.bl b) st) : (ofOpt ((isiD t (.int i) st).map D.bl) st).wp Q := by subst e; exact h
theorem o_isiB {i : Bool} {t : Ty} (b : Bool) (e : (t == .bool || t == .int) = b) (h : Q (.bl b) st) : (ofOpt ((isiD t (.bl i) st).map D.bl) st).wp Q := by subst e; exact h
theorem o_isiS {i : Str} {t : Ty} (b : Bool) (e : (t == .str) = b) (h : Q (.bl b) st) : (ofOpt ((isiD t (.str i) st).map D.bl) st).wp Q := by subst e; exact h
theorem o_isiT {i : List D} {t : Ty} (b : Bool) (e : (t == .tuple) = b) (h : Q (.bl b) st) : (ofOpt ((isiD t (.tup i) st).map D.bl) st).wp Q := by subst e; exact h
theorem o_isiR {l : Nat} {f : Bool} {ds : List D} {t : Ty} (e : st[l]? = some (.lst f ds)) (b : Bool) (eb : (t == .list) = b) (h : Q (.bl b) st) : (ofOpt ((isiD t (.ref l) st).map D.bl) st).wp Q := by
  subst eb
  unfold isiD
  dsimp only
  rw [e]
  exact h
theorem o_asB {b : Bool} {Q : Bool → Sto → Prop} (h : Q b st) : (asBool (.bl b) st).wp Q := h
theorem atI_nat {α : Type} {xs : List α} {k : Nat} : L2.atI xs (k : Int) = xs[k]? := by
  unfold L2.atI L2.ixN
  rw [if_pos (by omega)]
  by_cases h : k < xs.length
  · rw [if_pos (by omega)]
    rfl
  · rw [if_neg (by omega), List.getElem?_eq_none (by omega)]
    rfl
theorem atI_of {α : Type} {xs : List α} {i : Int} {a : α} (h0 : 0 ≤ i) (h : xs[i.toNat]? = some a) : L2.atI xs i = some a := by
  have e : i = (i.toNat : Int) := by omega
  rw [e, atI_nat]
  exact h
theorem o_subT {ds : List D} {i : Int} {d : D} (e : L2.atI ds i = some d) (h : Q d st) : (subD (.tup ds) (.int i) st).wp Q := by
  show (ofOpt (L2.atI ds i) st).wp Q
  rw [e]
  exact h
theorem o_subR {ds : List D} {i : Int} {d : D} {l : Nat} {f : Bool} (hl : st[l]? = some (.lst f ds)) (e : L2.atI ds i = some d) (h : Q d st) : (subD (.ref l) (.int i) st).wp Q := by
  unfold subD
  dsimp only
  rw [hl]
  show (ofOpt (L2.atI ds i) st).wp Q
  rw [e]
  exact h
theorem o_sub0 {a : D} {r : List D} (h : Q a st) : (subD (.tup (a :: r)) (.int 0) st).wp Q := o_subT (atI_of (by omega) rfl) h
theorem dctOf_of {l : Nat} {kvs : List (Sum Int Str × D)} (hl : st[l]? = some (.dct kvs)) : dctOf st l = some kvs := by
  unfold dctOf
  rw [hl]
theorem o_subKS {l : Nat} {kvs : List (Sum Int Str × D)} {x : Str} {d : D} (hl : st[l]? = some (.dct kvs)) (e : getK kvs (.inr x) = some d) (h : Q d st) : (subD (.ref l) (.str x) st).wp Q := by
  show (ofOpt ((dctOf st l).bind fun kvs => getK kvs (.inr x)) st).wp Q
  rw [dctOf_of hl, Option.bind_some, e]
  exact h
theorem o_subKI {l : Nat} {kvs : List (Sum Int Str × D)} {i : Int} {d : D} (hl : st[l]? = some (.dct kvs)) (e : getK kvs (.inl i) = some d) (h : Q d st) : (subD (.ref l) (.int i) st).wp Q := by
  unfold subD
  dsimp only
  rw [hl]
  show (ofOpt ((dctOf st l).bind fun kvs => getK kvs (.inl i)) st).wp Q
  rw [dctOf_of hl, Option.bind_some, e]
  exact h
theorem o_sub1 {a b : D} {r : List D} (h : Q b st) : (subD (.tup (a :: b :: r)) (.int 1) st).wp Q := o_subT (atI_of (by omega) rfl) h
theorem o_sub2 {a b c : D} {r : List D} (h : Q c st) : (subD (.tup (a :: b :: c :: r)) (.int 2) st).wp Q := o_subT (atI_of (by omega) rfl) h
theorem o_sub3 {a b c d : D} {r : List D} (h : Q d st) : (subD (.tup (a :: b :: c :: d :: r)) (.int 3) st).wp Q := o_subT (atI_of (by omega) rfl) h
theorem o_sub4 {a b c d e : D} {r : List D} (h : Q e st) : (subD (.tup (a :: b :: c :: d :: e :: r)) (.int 4) st).wp Q := o_subT (atI_of (by omega) rfl) h
theorem o_subr0 {l : Nat} {f : Bool} {a : D} {r : List D} (hl : st[l]? = some (.lst f (a :: r))) (h : Q a st) : (subD (.ref l) (.int 0) st).wp Q := o_subR hl (atI_of (by omega) rfl) h
theorem o_subr1 {l : Nat} {f : Bool} {a b : D} {r : List D} (hl : st[l]? = some (.lst f (a :: b :: r))) (h : Q b st) : (subD (.ref l) (.int 1) st).wp Q := o_subR hl (atI_of (by omega) rfl) h
theorem o_subr2 {l : Nat} {f : Bool} {a b c : D} {r : List D} (hl : st[l]? = some (.lst f (a :: b :: c :: r))) (h : Q c st) : (subD (.ref l) (.int 2) st).wp Q := o_subR hl (atI_of (by omega) rfl) h
theorem set_get {l : Nat} {o u : AO} (h : st[l]? = some u) : (st.set l o)[l]? = some o := by
  rw [List.getElem?_set_self (List.getElem?_eq_some_iff.mp h).1]
theorem o_set {Q : Unit → Sto → Prop} {l j : Nat} {i : Int} {v : D} {ds : List D} (hl : st[l]? = some (.lst false ds)) (hj : L2.ixN ds.length i = some j) (h : ∀ st', Kp l st st' → st'.length = st.length → st'[l]? = some (.lst false (ds.set j v)) → Q () st') : (setD (.ref l) (.int i) v st).wp Q := by
  unfold setD
  dsimp only
  rw [hl]
  show (match L2.ixN ds.length i with | some j => R.ok () (st.set l (.lst false (ds.set j v))) | none => .bad).wp Q
  rw [hj]
  exact h _ (Kp.set _ _ _) (List.length_set ..) (set_get hl)
theorem o_set0 {Q : Unit → Sto → Prop} {l : Nat} {v a : D} {r : List D} (hl : st[l]? = some (.lst false (a :: r))) (h : ∀ st', Kp l st st' → st'.length = st.length → st'[l]? = some (.lst false (v :: r)) → Q () st') : (setD (.ref l) (.int 0) v st).wp Q := o_set hl (j := 0) (by unfold L2.ixN; rw [if_pos (by omega), if_pos (by simp)]; rfl) h
theorem o_set1 {Q : Unit → Sto → Prop} {l : Nat} {v a b : D} {r : List D} (hl : st[l]? = some (.lst false (a :: b :: r))) (h : ∀ st', Kp l st st' → st'.length = st.length → st'[l]? = some (.lst false (a :: v :: r)) → Q () st') : (setD (.ref l) (.int 1) v st).wp Q := o_set hl (j := 1) (by unfold L2.ixN; rw [if_pos (by omega), if_pos (by simp; omega)]; rfl) h
theorem o_set2 {Q : Unit → Sto → Prop} {l : Nat} {v a b c : D} {r : List D} (hl : st[l]? = some (.lst false (a :: b :: c :: r))) (h : ∀ st', Kp l st st' → st'.length = st.length → st'[l]? = some (.lst false (a :: b :: v :: r)) → Q () st') : (setD (.ref l) (.int 2) v st).wp Q := o_set hl (j := 2) (by unfold L2.ixN; rw [if_pos (by omega), if_pos (by simp; omega)]; rfl) h
theorem o_alloc {o : AO} (h : ∀ st', Ext st st' → st'.length = st.length + 1 → st'[st.length]? = some o → Q (.ref st.length) st') : (alloc o st).wp Q :=
  h _ (Ext.app _ _) (by simp) (by simp)
theorem o_putKS {Q : Unit → Sto → Prop} {l : Nat} {x : Str} {v : D} {kvs : List (Sum Int Str × D)} (hl : st[l]? = some (.dct kvs)) (hn : kvs.length < sizeLine) (h : ∀ st', Kp l st st' → st'.length = st.length → st'[l]? = some (.dct (putD kvs (.inr x) v)) → Q () st') : (setD (.ref l) (.str x) v st).wp Q := by
  unfold setD
  dsimp only
  rw [dctOf_of hl]
  show (if kvs.length < sizeLine then R.ok () (st.set l (.dct (putD kvs (.inr x) v))) else .bad).wp Q
  rw [if_pos hn]
  exact h _ (Kp.set _ _ _) (List.length_set ..) (set_get hl)
theorem o_append {l : Nat} {xs : List D} {d : D} (hl : st[l]? = some (.lst false xs)) (hn : xs.length < sizeLine) (h : ∀ st', Kp l st st' → st'.length = st.length → st'[l]? = some (.lst false (xs ++ [d])) → Q .non st') : (mthD .append (.ref l) [d] st).wp Q := by
  unfold mthD
  dsimp only
  rw [hl]
  show (if xs.length < sizeLine then R.ok .non (st.set l (.lst false (xs ++ [d]))) else .bad).wp Q
  rw [if_pos hn]
  exact h _ (Kp.set _ _ _) (List.length_set ..) (set_get hl)
theorem o_lenT {xs : List D} (h : Q (.int xs.length) st) : (bltD .len [.tup xs] st).wp Q := h
theorem o_lenR {l : Nat} {f : Bool} {xs : List D} (hl : st[l]? = some (.lst f xs)) (h : Q (.int xs.length) st) : (bltD .len [.ref l] st).wp Q := by
  unfold bltD seqOf listOf
  dsimp only
  rw [hl]
  exact h
theorem o_tupR {l : Nat} {f : Bool} {xs : List D} (hl : st[l]? = some (.lst f xs)) (h : Q (.tup xs) st) : (bltD .tuple [.ref l] st).wp Q := by
  unfold bltD seqOf listOf
  dsimp only
  rw [hl]
  exact h
theorem o_tupT {xs : List D} (h : Q (.tup xs) st) : (bltD .tuple [.tup xs] st).wp Q := h
theorem o_intI {i : Int} (h : Q (.int i) st) : (bltD .int [.int i] st).wp Q := h
theorem o_abs {i : Int} (h : Q (.int (if i < 0 then -i else i)) st) : (bltD .abs [.int i] st).wp Q := h
theorem o_min {i j : Int} (h : Q (.int (if j < i then j else i)) st) : (bltD .min [.int i, .int j] st).wp Q := h
theorem o_max {i j : Int} (h : Q (.int (if j > i then j else i)) st) : (bltD .max [.int i, .int j] st).wp Q := h
theorem o_divmod {i j : Int} (b : 0 < j ∧ j < 1073741824) (h : Q (.tup [.int (i / j), .int (i % j)]) st) : (bltD .divmod [.int i, .int j] st).wp Q := by
  show (if _ then R.ok (D.tup [.int (i / j), .int (i % j)]) st else .bad).wp Q
  rw [if_pos b]
  exact h
theorem optAll_map {α β : Type} {f : α → Option β} (g : β → α) (h : ∀ b, f (g b) = some b) : ∀ bs : List β, optAll f (bs.map g) = some bs
  | [] => rfl
  | b :: bs => by
    show (match f (g b), optAll f (bs.map g) with | some y, some ys => some (y :: ys) | _, _ => none) = _
    rw [h, optAll_map g h bs]
theorem o_all {l : Nat} {f : Bool} {bs : List Bool} (hl : st[l]? = some (.lst f (bs.map D.bl))) (h : Q (.bl (bs.all id)) st) : (bltD .all [.ref l] st).wp Q := by
  unfold bltD listOf
  dsimp only
  rw [hl]
  show (ofOpt (((optAll boolOf (bs.map D.bl))).map fun bs => D.bl (bs.all id)) st).wp Q
  rw [optAll_map D.bl fun _ => rfl]
  exact h
theorem o_any {l : Nat} {f : Bool} {bs : List Bool} (hl : st[l]? = some (.lst f (bs.map D.bl))) (h : Q (.bl (bs.any id)) st) : (bltD .any [.ref l] st).wp Q := by
  unfold bltD listOf
  dsimp only
  rw [hl]
  show (ofOpt (((optAll boolOf (bs.map D.bl))).map fun bs => D.bl (bs.any id)) st).wp Q
  rw [optAll_map D.bl fun _ => rfl]
  exact h
theorem o_sum {l : Nat} {f : Bool} {ns : List Int} (hl : st[l]? = some (.lst f (ns.map D.int))) (h : Q (.int ns.sum) st) : (bltD .sum [.ref l] st).wp Q := by
  unfold bltD seqOf listOf
  dsimp only
  rw [hl]
  show (ofOpt (((optAll intOf (ns.map D.int))).map fun ns => D.int ns.sum) st).wp Q
  rw [optAll_map D.int fun _ => rfl]
  exact h
theorem o_sumT {ns : List Int} (h : Q (.int ns.sum) st) : (bltD .sum [.tup (ns.map D.int)] st).wp Q := by
  show (ofOpt (((optAll intOf (ns.map D.int))).map fun ns => D.int ns.sum) st).wp Q
  rw [optAll_map D.int fun _ => rfl]
  exact h
theorem o_rep {l : Nat} {k : Int} {xs : List D} (hl : st[l]? = some (.lst false xs)) (hk : -9223372036854775808 ≤ k ∧ k < 9223372036854775808 ∧ xs.length * k.toNat ≤ sizeLine) (h : (alloc (.lst false (List.replicate k.toNat xs).flatten) st).wp Q) : (binD .Mult (.ref l) (.int k) st).wp Q := by
  unfold binD
  dsimp only
  rw [hl]
  show (if -(2 ^ 63) ≤ k ∧ k < 2 ^ 63 ∧ xs.length * k.toNat ≤ sizeLine then alloc (.lst false (List.replicate k.toNat xs).flatten) st else .bad).wp Q
  rw [if_pos (by simpa using hk)]
  exact h
theorem o_cat {l m : Nat} {xs ys : List D} (hl : st[l]? = some (.lst false xs)) (hm : st[m]? = some (.lst false ys)) (hk : xs.length + ys.length ≤ sizeLine) (h : (alloc (.lst false (xs ++ ys)) st).wp Q) : (binD .Add (.ref l) (.ref m) st).wp Q := by
  unfold binD
  dsimp only
  rw [hl, hm]
  show (if xs.length + ys.length ≤ sizeLine then alloc (.lst false (xs ++ ys)) st else .bad).wp Q
  rw [if_pos hk]
  exact h
theorem o_slcT {xs : List D} {lo hi : Option Int} (h : Q (.tup (cut xs lo hi)) st) : (slcD (.tup xs) lo hi st).wp Q := h
theorem o_slcR {l : Nat} {f : Bool} {xs : List D} {lo hi : Option Int} (hl : st[l]? = some (.lst f xs)) (h : (alloc (.lst false (cut xs lo hi)) st).wp Q) : (slcD (.ref l) lo hi st).wp Q := by
  unfold slcD
  dsimp only
  rw [hl]
  exact h
theorem o_sqT {xs : List D} {Q : Src → Sto → Prop} (h : Q ⟨xs, []⟩ st) : (srcSeq (.tup xs) st).wp Q := h
theorem o_sqR {l : Nat} {f : Bool} {xs : List D} {Q : Src → Sto → Prop} (hl : st[l]? = some (.lst f xs)) (h : Q ⟨xs, [(l, xs)]⟩ st) : (srcSeq (.ref l) st).wp Q := by
  unfold srcSeq
  dsimp only
  rw [hl]
  exact h
theorem o_rng {i j : Int} {Q : Src → Sto → Prop} (b : -4611686018427387904 ≤ i ∧ i < 4611686018427387904 ∧ -4611686018427387904 ≤ j ∧ j < 4611686018427387904) (h : Q ⟨rangeL i (j - i).toNat, []⟩ st) : (srcRng (.int i) (.int j) st).wp Q := by
  have e : srcRng (.int i) (.int j) st = if -(2 ^ 62) ≤ i ∧ i < 2 ^ 62 ∧ -(2 ^ 62) ≤ j ∧ j < 2 ^ 62 then .ok ⟨rangeL i (j - i).toNat, []⟩ st else .bad := by unfold srcRng <;> rfl
  rw [e, if_pos (by simpa using b)]
  exact h
theorem o_enT {xs : List D} {Q : Src → Sto → Prop} (h : Q ⟨enumL 0 xs, []⟩ st) : (srcEnum (.tup xs) st).wp Q := h
theorem o_enR {l : Nat} {f : Bool} {xs : List D} {Q : Src → Sto → Prop} (hl : st[l]? = some (.lst f xs)) (h : Q ⟨enumL 0 xs, [(l, xs)]⟩ st) : (srcEnum (.ref l) st).wp Q := by
  unfold srcEnum
  dsimp only
  rw [hl]
  exact h
theorem o_zpT {xs ys : List D} {Q : Src → Sto → Prop} (h : Q ⟨zipL xs ys, []⟩ st) : (srcZip (.tup xs) (.tup ys) st).wp Q := h
/-! tests -/
theorem b_dec {p : Prop} [Decidable p] {A B : Prop} (h : (p → A) ∧ (¬p → B)) : (decide p = true → A) ∧ (decide p = false → B) := ⟨fun e => h.1 (of_decide_eq_true e), fun e => h.2 (of_decide_eq_false e)⟩
theorem b_ndec {p : Prop} [Decidable p] {A B : Prop} (h : (p → B) ∧ (¬p → A)) : ((!decide p) = true → A) ∧ ((!decide p) = false → B) :=
  And.intro (fun e => h.2 (of_decide_eq_false (by simpa using e))) (fun e => h.1 (by simpa using e))
theorem b_true {A B : Prop} (h : A) : (true = true → A) ∧ (true = false → B) := ⟨fun _ => h, fun e => nomatch e⟩
theorem b_false {A B : Prop} (h : B) : (false = true → A) ∧ (false = false → B) := ⟨(fun e => nomatch e), fun _ => h⟩
theorem b_ntrue {A B : Prop} (h : B) : ((!true) = true → A) ∧ ((!true) = false → B) := ⟨fun e => absurd e (by decide), fun _ => h⟩
theorem b_nfalse {A B : Prop} (h : A) : ((!false) = true → A) ∧ ((!false) = false → B) := ⟨fun _ => h, fun e => absurd e (by decide)⟩
theorem x_int {i : Int} {P : Int → Prop} (h : P i) : ∃ j, D.int i = .int j ∧ P j := ⟨i, rfl, h⟩
theorem x_lst {l : Nat} {f : Bool} {xs : List D} {A : Prop} (hl : st[l]? = some (.lst f xs)) (h : A) : (∃ xs, listOf st (.ref l) = some xs) ∧ A := ⟨⟨xs, by unfold listOf; dsimp only; rw [hl]⟩, h⟩
/-! items -/
theorem rangeL_len (lo : Int) (n : Nat) : (rangeL lo n).length = n := by simp [rangeL]
theorem rangeL_at {lo : Int} {n i : Nat} {d : D} (h : (rangeL lo n)[i]? = some d) : i < n ∧ d = .int (lo + (i : Int)) := by
  unfold rangeL at h
  rw [List.getElem?_map] at h
  by_cases q : i < n
  · rw [List.getElem?_range q] at h
    exact ⟨q, (Option.some.inj h).symm⟩
  · rw [List.getElem?_eq_none (by simp; omega)] at h
    cases h
theorem enumL_count : ∀ (xs : List D) (k : Nat), (enumL k xs).length = xs.length
  | [], _ => rfl
  | x :: xs, k => by show (enumL (k + 1) xs).length + 1 = _; rw [enumL_count]; rfl
theorem enumL_at : ∀ {xs : List D} {k i : Nat} {d : D}, (enumL k xs)[i]? = some d → ∃ x, xs[i]? = some x ∧ d = .itm [.int ((k + i : Nat) : Int), x]
  | [], _, _, _, h => nomatch h
  | x :: xs, k, 0, d, h => ⟨x, rfl, by have e : D.itm [.int (k : Int), x] = d := Option.some.inj h; rw [← e]; rfl⟩
  | x :: xs, k, i + 1, d, h => by
    obtain ⟨y, h1, h2⟩ := enumL_at (k := k + 1) (i := i) (xs := xs) h
    exact ⟨y, h1, by rw [h2, show k + 1 + i = k + (i + 1) from by omega]⟩
theorem zipL_count : ∀ (xs ys : List D), (zipL xs ys).length = min xs.length ys.length
  | [], ys => by simp [zipL]
  | x :: xs, [] => by simp [zipL]
  | x :: xs, y :: ys => by
    show (zipL xs ys).length + 1 = _
    rw [zipL_count]
    simp only [List.length_cons]
    omega
theorem zipL_at : ∀ {xs ys : List D} {i : Nat} {d : D}, (zipL xs ys)[i]? = some d → ∃ x y, xs[i]? = some x ∧ ys[i]? = some y ∧ d = .itm [x, y]
  | [], _, _, _, h => by simp [zipL] at h
  | x :: xs, [], _, _, h => by simp [zipL] at h
  | x :: xs, y :: ys, 0, d, h => ⟨x, y, rfl, rfl, (Option.some.inj h).symm⟩
  | x :: xs, y :: ys, i + 1, d, h => zipL_at (xs := xs) (ys := ys) (i := i) h
end
end Ab

set_option Elab.async false
set_option linter.all false
set_option autoImplicit false
set_option maxRecDepth 10000
/-! AbLoop: comprehensions whose items are known, parts of rows. -/
namespace Ab
open PySem
section
variable {s : Src} {f : D → Sto → R (Option D)} {Q : List D → Sto → Prop} {items : List D} {st : Sto}
theorem list_eq_map {α β : Type} {g : α → β} : ∀ {ys : List β} (xs : List α), ys.length = xs.length → (∀ (i : Nat) (y : β) (x : α), ys[i]? = some y → xs[i]? = some x → y = g x) → ys = xs.map g
  | [], [], _, _ => rfl
  | y :: ys, x :: xs, h, e => by
    rw [List.map_cons, e 0 y x rfl rfl, list_eq_map xs (by simpa using h) fun i y x a b => e (i + 1) y x a b]
/-- each item's value by its place -/
theorem lc_range (S : Sto → Prop) {β : Type} (g : β → D) (h : Nat → β) (hn : items.length ≤ sizeLine) (h0 : S st) (still : ∀ st, S st → s.still st)
    (step : ∀ (i : Nat) d st, items[i]? = some d → S st → (f d st).wp fun r st1 => r = some (g (h i)) ∧ S st1)
    (fin : ∀ st, S st → Q (((List.range items.length).map h).map g) st) : (lcLoop s f items [] st).wp Q := by
  refine lc_map S (fun i y => y = g (h i)) hn h0 still (fun i d st e q => (step i d st e q).mono fun r st1 ⟨a, b⟩ => ⟨_, a, rfl, b⟩) (fun ys st hl hp q => ?_)
  have e : ys = ((List.range items.length).map h).map g := by
    rw [List.map_map]
    refine list_eq_map _ (by simpa using hl) fun i y x a b => ?_
    have hi := (List.getElem?_eq_some_iff.mp a).1
    rw [List.getElem?_range (by omega)] at b
    cases b
    exact hp i y a
  rw [e]
  exact fin st q
/-- each item's value by the item -/
theorem lc_fun {α β : Type} {s : Src} {f : D → Sto → R (Option D)} {Q : List D → Sto → Prop} {st : Sto} (xs : List α) (g0 : α → D) (S : Sto → Prop) (g : β → D) (h : α → β) (hn : xs.length ≤ sizeLine) (h0 : S st) (still : ∀ st, S st → s.still st)
    (step : ∀ x ∈ xs, ∀ st, S st → (f (g0 x) st).wp fun r st1 => r = some (g (h x)) ∧ S st1)
    (fin : ∀ st, S st → Q ((xs.map h).map g) st) : (lcLoop s f (xs.map g0) [] st).wp Q := by
  refine lc_map S (fun i y => ∃ x, xs[i]? = some x ∧ y = g (h x)) (by rw [List.length_map]; exact hn) h0 still (fun i d st e q => ?_) (fun ys st hl hp q => ?_)
  · rw [List.getElem?_map] at e
    cases ex : xs[i]? with
    | none => rw [ex] at e; cases e
    | some x =>
      rw [ex] at e
      cases e
      exact (step x (List.mem_of_getElem? ex) st q).mono fun r st1 ⟨a, b⟩ => ⟨_, a, ⟨x, rfl, rfl⟩, b⟩
  · have e : ys = (xs.map h).map g := by
      rw [List.map_map]
      refine list_eq_map _ (by simpa using hl) fun i y x a b => ?_
      obtain ⟨z, hz, e⟩ := hp i y a
      rw [b] at hz
      cases hz
      exact e
    rw [e]
    exact fin st q
theorem all_id {α : Type} (p : α → Bool) : ∀ xs : List α, (xs.map p).all id = xs.all p
  | [] => rfl
  | x :: xs => by rw [List.map_cons, List.all_cons, List.all_cons, all_id p xs]; rfl
theorem any_id {α : Type} (p : α → Bool) : ∀ xs : List α, (xs.map p).any id = xs.any p
  | [] => rfl
  | x :: xs => by rw [List.map_cons, List.any_cons, List.any_cons, any_id p xs]; rfl
theorem zipL_same : ∀ xs : List D, zipL xs xs = xs.map fun x => .itm [x, x]
  | [] => rfl
  | x :: xs => by show _ :: zipL xs xs = _; rw [zipL_same xs]; rfl
/-- some values, each as P says -/
theorem lc_some (S : Sto → Prop) {β : Type} (g : β → D) (P : Nat → β → Prop) (hn : items.length ≤ sizeLine) (h0 : S st) (still : ∀ st, S st → s.still st)
    (step : ∀ (i : Nat) d st, items[i]? = some d → S st → (f d st).wp fun r st1 => ∃ b, r = some (g b) ∧ P i b ∧ S st1)
    (fin : ∀ (bs : List β) st, bs.length = items.length → (∀ (i : Nat) (b : β), bs[i]? = some b → P i b) → S st → Q (bs.map g) st) : (lcLoop s f items [] st).wp Q := by
  refine lc_wp (fun i acc st => ∃ bs : List β, acc = bs.map g ∧ bs.length = i ∧ i ≤ items.length ∧ (∀ (j : Nat) (b : β), bs[j]? = some b → P j b) ∧ S st) ⟨[], rfl, rfl, Nat.zero_le _, fun j y e => absurd e (by simp), h0⟩ (fun i acc st ⟨_, _, _, _, _, q⟩ => still st q) ?_ ?_
  · rintro i d acc st e ⟨bs, rfl, hl, hi, hp, q⟩
    refine (step i d st e q).mono fun r st1 ⟨b, er, hb, hs⟩ => ?_
    subst er
    have hi := (List.getElem?_eq_some_iff.mp e).1
    refine ⟨by rw [List.length_map]; omega, bs ++ [b], by simp, by simp [hl], by omega, fun j z ez => ?_, hs⟩
    by_cases q : j < bs.length
    · rw [List.getElem?_append_left q] at ez
      exact hp j z ez
    · rw [List.getElem?_append_right (by omega)] at ez
      have : j - bs.length = 0 := by
        have := (List.getElem?_eq_some_iff.mp ez).1
        simp at this
        omega
      rw [this] at ez
      cases ez
      have ej : j = i := by omega
      rw [ej]
      exact hb
  · rintro acc st ⟨bs, rfl, hl, _, hp, q⟩
    exact fin bs st hl hp q
/-- every one is True -/
theorem lc_true (S : Sto → Prop) (hn : items.length ≤ sizeLine) (h0 : S st) (still : ∀ st, S st → s.still st)
    (step : ∀ (i : Nat) d st, items[i]? = some d → S st → (f d st).wp fun r st1 => r = some (.bl true) ∧ S st1)
    (fin : ∀ (n : Nat) st, S st → Q ((List.replicate n true).map D.bl) st) : (lcLoop s f items [] st).wp Q :=
  lc_some S D.bl (fun _ b => b = true) hn h0 still (fun i d st e q => (step i d st e q).mono fun r st1 ⟨a, b⟩ => ⟨true, a, rfl, b⟩) fun bs st hl hp q => by
    have e : bs = List.replicate bs.length true := by
      refine List.eq_replicate_iff.mpr ⟨rfl, fun b hb => ?_⟩
      obtain ⟨i, hi, e⟩ := List.mem_iff_getElem.mp hb
      exact hp i b (by rw [List.getElem?_eq_getElem hi, e])
    rw [e]
    exact fin _ st q
theorem all_rep (n : Nat) : (List.replicate n true).all id = true := by
  rw [List.all_eq_true]
  intro x hx
  rw [(List.mem_replicate.mp hx).2]
  rfl
/-- the items that pass -/
theorem lc_none (S : Sto → Prop) (h0 : S st) (still : ∀ st, S st → s.still st)
    (step : ∀ (i : Nat) d st, items[i]? = some d → S st → (f d st).wp fun r st1 => r = none ∧ S st1)
    (fin : ∀ st, S st → Q [] st) : (lcLoop s f items [] st).wp Q :=
  lc_wp (fun _ acc st => acc = [] ∧ S st) ⟨rfl, h0⟩ (fun _ _ _ h => still _ h.2) (fun i d acc st e h => (step i d st e h.2).mono fun r st1 ⟨a, b⟩ => by subst a; exact ⟨h.1, b⟩) fun acc st h => by rw [h.1]; exact fin st h.2
end
theorem pd_nil {st : Sto} {l : Nat} {f : Bool} (h : st[l]? = some (.lst f [])) : pd st 60 (.ref l) = some (.list []) := by
  show (match st[l]? with
    | some (.lst _ ds) => (optAll (pd st 59) ds).map PyData.list
    | _ => none) = _
  rw [h]
  rfl
theorem o_neNil {st : Sto} {Q : D → Sto → Prop} {l m : Nat} {f g : Bool} (h1 : st[l]? = some (.lst f [])) (h2 : st[m]? = some (.lst g [])) (h : Q (.bl false) st) : (ofOpt ((cmpD .NotEq (.ref l) (.ref m) st).map D.bl) st).wp Q := by
  have e : eqD st (.ref l) (.ref m) = some true := by
    show (match pd st 60 (.ref l), pd st 60 (.ref m) with
      | some p, some q => some (PyData.eqv p q)
      | _, _ => none) = _
    rw [pd_nil h1, pd_nil h2]
    rfl
  unfold cmpD
  dsimp only
  rw [e]
  exact h
/-- a statement apart from what follows -/
theorem ss_cut {T : Tab} {G : Gb} {F : Str → List D → Sto → R D} {s : CS} {ss : CSs} {env : En} {st : Sto} {N : En → Sto → Prop} {V : D → Sto → Prop} (N1 : En → Sto → Prop) (h1 : (evS T G F s env st).wp N1 V) (h2 : ∀ env st, N1 env st → (evSs T G F ss env st).wp N V) : (evSs T G F (.cons s ss) env st).wp N V :=
  w_sscons (h1.mono h2 fun _ _ h => h)
/-! parts -/
theorem cut_to {α : Type} (xs : List α) {n : Nat} (h : n ≤ xs.length) : cut xs none (some (n : Int)) = xs.take n := by
  unfold cut
  rw [HT.sIx_none, HT.sIx_nat, List.drop_zero, Nat.min_eq_left h]
  rfl
theorem cut_from {α : Type} (xs : List α) {n : Nat} (h : n ≤ xs.length) : cut xs (some (n : Int)) none = xs.drop n := by
  unfold cut
  rw [HT.sIx_none, HT.sIx_nat, Nat.min_eq_left h, List.take_of_length_le (by simp)]
theorem cut_map {α β : Type} (g : α → β) (xs : List α) (lo hi : Option Int) : cut (xs.map g) lo hi = (cut xs lo hi).map g := by
  unfold cut
  rw [List.length_map, ← List.map_drop, ← List.map_take]
theorem mem_cut {α : Type} {xs : List α} {lo hi : Option Int} {x : α} (h : x ∈ cut xs lo hi) : x ∈ xs := List.mem_of_mem_drop (List.mem_of_mem_take h)
theorem cut_le {α : Type} (xs : List α) (lo hi : Option Int) : (cut xs lo hi).length ≤ xs.length := by
  unfold cut
  simp only [List.length_take, List.length_drop]
  omega
theorem Ext.len {a b : Sto} (h : Ext a b) : a.length ≤ b.length := by
  by_cases q : a.length = 0
  · omega
  · have e : a[a.length - 1]? = some a[a.length - 1] := List.getElem?_eq_getElem (by omega)
    have := (List.getElem?_eq_some_iff.mp (h _ _ e)).1
    omega
theorem get_lt {st : Sto} {l : Nat} {o : AO} (h : st[l]? = some o) : l < st.length := (List.getElem?_eq_some_iff.mp h).1
theorem map_at {α β : Type} {g : α → β} {xs : List α} {i : Nat} {y : β} (h : (xs.map g)[i]? = some y) : ∃ x, xs[i]? = some x ∧ y = g x := by
  rw [List.getElem?_map] at h
  cases e : xs[i]? with
  | none => rw [e] at h; cases h
  | some x => rw [e] at h; exact ⟨x, rfl, (Option.some.inj h).symm⟩
end Ab

set_option Elab.async false
set_option linter.all false
set_option autoImplicit false
set_option maxRecDepth 10000
/-! AbPure: the small language without a store: lists and dicts as values, slots that own theirs, what is wanted of an end. -/
namespace Ab
open PySem

inductive PV where
  | non | bl (b : Bool) | int (i : Int) | str (x : Str) | tup (ps : List PV) | lst (ps : List PV) | dct (ks : List (Sum Int Str)) (ps : List PV) | pool | fn (x : Str) | itm (ps : List PV)
deriving Inhabited
structure PX where
  cls : Str
  fs : List (Str × PV)
/-- a slot: without a value, with one that others may hold too, with a list or dict of its own (marked: a parameter that is changed) -/
inductive Sl where
  | no | fz (p : PV) | ow (t : Option Nat) (p : PV)
deriving Inhabited
abbrev PE := List Sl

mutual
/-- no list in it -/
def PV.flat : PV → Bool
  | .tup ps => PV.flats ps
  | .itm ps => PV.flats ps
  | .lst _ => false
  | .dct _ _ => false
  | _ => true
def PV.flats : List PV → Bool
  | [] => true
  | p :: ps => p.flat && PV.flats ps
end
def PV.flat1 : PV → Bool
  | .lst ps => PV.flats ps
  | .dct _ ps => PV.flats ps
  | p => p.flat
def PV.cell : PV → Bool
  | .lst _ => true
  | .dct _ _ => true
  | _ => false

/-! ### slots -/
def hideS (os : List Nat) (i : Nat) : Sl → Sl
  | .ow none p => if os.elem i then .ow none p else .no
  | .ow (some _) _ => .no
  | s => s
def hideFrom (os : List Nat) : Nat → PE → PE
  | _, [] => []
  | i, s :: r => hideS os i s :: hideFrom os (i + 1) r
def dnS (os : List Nat) (i : Nat) : Sl → Sl
  | .ow none p => if os.elem i then .fz p else .ow none p
  | s => s
def dnFrom (os : List Nat) : Nat → PE → PE
  | _, [] => []
  | i, s :: r => dnS os i s :: dnFrom os (i + 1) r
/-- owned slots but some are hidden -/
def hideBut (os : List Nat) (env : PE) : PE := hideFrom os 0 env
/-- some owned slots are no longer owned -/
def dnAt (os : List Nat) (env : PE) : PE := dnFrom os 0 env
def ioS : Sl → Sl
  | .ow (some _) _ => .no
  | s => s
def hideIO (env : PE) : PE := env.map ioS
def offFrom (is : List Nat) : Nat → PE → PE
  | _, [] => []
  | i, s :: r => (if is.elem i then .no else s) :: offFrom is (i + 1) r
def offAt (is : List Nat) (env : PE) : PE := offFrom is 0 env
def wipeP (env : PE) : List Nat → PE
  | [] => env
  | v :: vs => (wipeP env vs).set v .no

/-! ### operations -/
def pdP : Nat → PV → Option PyData
  | 0, d => match d with
    | .non => some .none
    | .bl b => some (.bool b)
    | .int i => some (.int i)
    | .str x => some (.str x)
    | _ => none
  | n + 1, d => match d with
    | .non => some .none
    | .bl b => some (.bool b)
    | .int i => some (.int i)
    | .str x => some (.str x)
    | .tup ds => (optAll (pdP n) ds).map .tuple
    | .lst ds => (optAll (pdP n) ds).map .list
    | _ => none
def eqP (p q : PV) : Option Bool :=
  match p, q with
  | .int i, .int j => some (decide (i = j))
  | .str x, .str y => some (decide (x = y))
  | .bl x, .bl y => some (decide (x = y))
  | .non, .non => some true
  | p, q => match pdP 60 p, pdP 60 q with
    | some a, some b => some (PyData.eqv a b)
    | _, _ => none
def inP (p : PV) : List PV → Option Bool
  | [] => some false
  | e :: es => match eqP e p, inP p es with
    | some b, some c => some (b || c)
    | _, _ => none
def atomP : PV → Bool
  | .non => true | .bl _ => true | .int _ => true | .str _ => true | _ => false
def boolOfP : PV → Option Bool
  | .bl b => some b
  | _ => none
def intOfP : PV → Option Int
  | .int i => some i
  | _ => none
def keyOfP : PV → Option (Sum Int Str)
  | .int i => some (.inl i)
  | .str x => some (.inr x)
  | _ => none
def getP (ks : List (Sum Int Str)) (ps : List PV) (k : Sum Int Str) : Option PV := match ks, ps with
  | a :: ks, p :: ps => if a = k then some p else getP ks ps k
  | _, _ => none
/-- the values of a dict in which the key is -/
def setP (ks : List (Sum Int Str)) (ps : List PV) (k : Sum Int Str) (v : PV) : List PV := match ks, ps with
  | a :: ks, p :: ps => (if a = k then v else p) :: setP ks ps k v
  | _, ps => ps
def putP (ks : List (Sum Int Str)) (ps : List PV) (k : Sum Int Str) (v : PV) : PV :=
  if (ks.any fun a => decide (a = k)) = true then .dct ks (setP ks ps k v) else .dct (ks ++ [k]) (ps ++ [v])
def binP (op : Operator) (p q : PV) : Option PV :=
  match op, p, q with
  | .Add, .int i, .int j => some (.int (i + j))
  | .Add, .str x, .str y => if x.length + y.length ≤ sizeLine then some (.str (x ++ y)) else none
  | .Add, .tup xs, .tup ys => if xs.length + ys.length ≤ sizeLine then some (.tup (xs ++ ys)) else none
  | .Add, .lst xs, .lst ys => if xs.length + ys.length ≤ sizeLine then some (.lst (xs ++ ys)) else none
  | .Sub, .int i, .int j => some (.int (i - j))
  | .Mult, .int i, .int j => if (-(2 ^ 64) < i ∧ i < 2 ^ 64) ∨ (-(2 ^ 64) < j ∧ j < 2 ^ 64) then some (.int (i * j)) else none
  | .Mult, .lst xs, .int k => if -(2 ^ 63) ≤ k ∧ k < 2 ^ 63 ∧ xs.length * k.toNat ≤ sizeLine then some (.lst (List.replicate k.toNat xs).flatten) else none
  | .Mult, .str z, .int k => if 2 ≤ k ∧ k ≤ 1000 ∧ 0 < z.length ∧ z.length ≤ 1000 then some (.str (repS z k.toNat)) else none
  | .Mult, .tup xs, .int k => if -(2 ^ 63) ≤ k ∧ k < 2 ^ 63 ∧ xs.length * k.toNat ≤ sizeLine then some (.tup (List.replicate k.toNat xs).flatten) else none
  | .FloorDiv, .int i, .int j => if 0 < j ∧ j < 1073741824 then some (.int (i / j)) else none
  | .Mod, .int i, .int j => if 0 < j then some (.int (i % j)) else none
  | .Pow, .int i, .int j => if 0 ≤ j ∧ j ≤ 1000000 ∧ i.natAbs < 2 ^ 64 then some (.int (i ^ j.toNat)) else none
  | _, _, _ => none
def inOpP (p q : PV) : Option Bool :=
  match q with
  | .str y => (match p with
    | .str x => some (subStr x y)
    | _ => none)
  | .tup es => if atomP p && es.all atomP then inP p es else none
  | .lst es => if atomP p && es.all atomP then inP p es else none
  | .dct ks _ => (keyOfP p).map fun k => ks.any fun a => decide (a = k)
  | _ => none
def cmpP (op : CmpOp) (p q : PV) : Option Bool :=
  match op with
  | .Eq => eqP p q
  | .NotEq => (eqP p q).map (!·)
  | .Lt => match p, q with | .int i, .int j => some (decide (i < j)) | _, _ => none
  | .LtE => match p, q with | .int i, .int j => some (decide (i ≤ j)) | _, _ => none
  | .Gt => match p, q with | .int i, .int j => some (decide (j < i)) | _, _ => none
  | .GtE => match p, q with | .int i, .int j => some (decide (j ≤ i)) | _, _ => none
  | .Is => match q with | .non => (match p with | .non => some true | _ => some false) | .bl b => (match p with | .bl a => some (decide (a = b)) | _ => none) | _ => none
  | .IsNot => match q with | .non => (match p with | .non => some false | _ => some true) | .bl b => (match p with | .bl a => some (!decide (a = b)) | _ => none) | _ => none
  | .In => inOpP p q
  | .NotIn => (inOpP p q).map (!·)
def seqP : PV → Option (List PV)
  | .tup ps => some ps
  | .lst ps => some ps
  | _ => none
def walkP : PV → Option (List PV)
  | .tup ps => some ps
  | .lst ps => some ps
  | .str x => some (x.cps.toList.map fun c => PV.str ⟨#[c]⟩)
  | _ => none
def subP (p i : PV) : Option PV :=
  match i with
  | .int k => (match p with
    | .tup ps => L2.atI ps k
    | .lst ps => L2.atI ps k
    | .dct ks ps => getP ks ps (.inl k)
    | .str x => if x.length ≤ sizeLine then (L2.atI x.cps.toList k).map fun c => PV.str ⟨#[c]⟩ else none
    | _ => none)
  | .str x => (match p with
    | .dct ks ps => getP ks ps (.inr x)
    | _ => none)
  | _ => none
/-- a list or dict with a value put in its place -/
def stP (q i v : PV) : Option PV :=
  match q with
  | .lst ps => (match i with
    | .int k => (match L2.ixN ps.length k with
      | some j => some (.lst (ps.set j v))
      | none => none)
    | _ => none)
  | .dct ks ps => (match keyOfP i with
    | some k => if ks.length < sizeLine then some (putP ks ps k v) else none
    | none => none)
  | _ => none
def slcP (p : PV) (lo hi : Option Int) : Option PV :=
  match p with
  | .tup ps => some (.tup (cut ps lo hi))
  | .lst ps => some (.lst (cut ps lo hi))
  | .str x => if x.length ≤ sizeLine then some (.str (L2.cutS x lo hi)) else none
  | _ => none
def isiP (t : Ty) (p : PV) : Option Bool :=
  match p with
  | .non => some false
  | .bl _ => some (t == .bool || t == .int)
  | .int _ => some (t == .int)
  | .str _ => some (t == .str)
  | .tup _ => some (t == .tuple)
  | .lst _ => some (t == .list)
  | .dct _ _ => some (t == .dict)
  | _ => none
def bltP (b : Blt) (ps : List PV) : Option PV :=
  match b, ps with
  | .len, [.str x] => if x.length ≤ sizeLine then some (.int x.length) else none
  | .len, [p] => (seqP p).map fun xs => PV.int xs.length
  | .all, [.lst xs] => (optAll boolOfP xs).map fun bs => PV.bl (bs.all id)
  | .any, [.lst xs] => (optAll boolOfP xs).map fun bs => PV.bl (bs.any id)
  | .sum, [p] => ((seqP p).bind (optAll intOfP)).map fun ns => PV.int ns.sum
  | .tuple, [p] => (seqP p).map PV.tup
  | .list, [p] => (seqP p).map PV.lst
  | .int, [.int i] => some (.int i)
  | .int, [.bl b] => some (.int (if b then 1 else 0))
  | .abs, [.int i] => some (.int (if i < 0 then -i else i))
  | .divmod, [.int i, .int j] => if 0 < j ∧ j < 1073741824 then some (.tup [.int (i / j), .int (i % j)]) else none
  | .min, [.int i, .int j] => some (.int (if j < i then j else i))
  | .max, [.int i, .int j] => some (.int (if j > i then j else i))
  | .min, [.lst xs] => ((optAll intOfP xs).bind minL).map PV.int
  | .max, [.lst xs] => ((optAll intOfP xs).bind maxL).map PV.int
  | _, _ => none
def findP (p : PV) : List PV → Nat → Option (Option Nat)
  | [], _ => some none
  | e :: es, k => match eqP e p with
    | some true => some (some k)
    | some false => findP p es (k + 1)
    | none => none
def strOfP : PV → Option Str
  | .str x => some x
  | _ => none
/-- methods that change nothing -/
def mthP (m : Mth) (o : PV) (ps : List PV) : Option PV :=
  match m, o, ps with
  | .index, .lst xs, [p] => if atomP p && xs.all atomP then (match findP p xs 0 with
    | some (some k) => some (.int k)
    | _ => none) else none
  | .index, .tup xs, [.str z] => (match (optAll strOfP xs).bind fun ys => ys.findIdx? fun y => decide (y = z) with
    | some k => some (.int k)
    | none => none)
  | _, _, _ => none
def rangeP (lo : Int) (n : Nat) : List PV := (List.range n).map fun (k : Nat) => PV.int (lo + (k : Int))
@[irreducible] def rngP (p q : PV) : Option (List PV) :=
  match p, q with
  | .int i, .int j => if -(2 ^ 62) ≤ i ∧ i < 2 ^ 62 ∧ -(2 ^ 62) ≤ j ∧ j < 2 ^ 62 then some (rangeP i (j - i).toNat) else none
  | _, _ => none
def op1P (o : Op1) (p : PV) : Option PV :=
  match o with
  | .rev => (match p with
    | .tup ps => some (.tup ps.reverse)
    | .lst ps => some (.lst ps.reverse)
    | _ => none)
  | .trg => (match p with
    | .int j => if -(2 ^ 62) ≤ j ∧ j ≤ 16777216 then some (.tup (rangeP 0 j.toNat)) else none
    | _ => none)
def op2P (o : Op2) (p q : PV) : Option PV :=
  match o with
  | .lcm => (match p, q with
    | .int i, .int j => if 0 ≤ i ∧ i < 1048576 ∧ 0 ≤ j ∧ j < 1048576 then some (.int ((Nat.lcm i.toNat j.toNat : Nat) : Int)) else none
    | _, _ => none)
def rangeBP (hi : Int) (n : Nat) : List PV := (List.range n).map fun (k : Nat) => PV.int (hi - (k : Int))
@[irreducible] def rngdP (p q : PV) : Option (List PV) :=
  match p, q with
  | .int i, .int j => if -(2 ^ 62) ≤ i ∧ i < 2 ^ 62 ∧ -(2 ^ 62) ≤ j ∧ j < 2 ^ 62 then some (rangeBP i (i - j).toNat) else none
  | _, _ => none
def enumP (k : Nat) : List PV → List PV
  | [] => []
  | p :: ps => .itm [.int (k : Int), p] :: enumP (k + 1) ps
def zipP : List PV → List PV → List PV
  | x :: xs, y :: ys => .itm [x, y] :: zipP xs ys
  | _, _ => []
def zipOfP (p q : PV) : Option (List PV) := match p, q with
  | .tup xs, .tup ys => some (zipP xs ys)
  | .lst xs, .lst ys => some (zipP xs ys)
  | .tup xs, .lst ys => some (zipP xs ys)
  | .lst xs, .tup ys => some (zipP xs ys)
  | _, _ => none
def Lit.p : Lit → PV
  | .non => .non
  | .bl b => .bl b
  | .int i => .int i
  | .str x => .str x
def ofD : D → Option PV
  | .non => some .non
  | .bl b => some (.bl b)
  | .int i => some (.int i)
  | .str x => some (.str x)
  | .fn x => some (.fn x)
  | _ => none
def bindKwP (ps : List Str) (ds : List PV) (ks : List Str) (ws : List PV) : Option (List PV) :=
  (optAll (fun p => (ks.zip ws).lookup p) (ps.drop ds.length)).map (ds ++ ·)

/-! ### terms -/
/-- the items of a comprehension -/
def pLc (f : PV → (Option PV → Prop) → Prop) : List PV → List PV → (List PV → Prop) → Prop
  | [], acc, Q => Q acc
  | p :: ps, acc, Q => f p fun r => match r with
    | some y => acc.length < sizeLine ∧ pLc f ps (acc ++ [y]) Q
    | none => pLc f ps acc Q

abbrev PF := Str → List PV → (PX → Prop) → (PV → List PV → Bool → Prop) → Prop
def noX : PX → Prop := fun _ => False
section
variable (T : Tab) (G : Gb) (IO : Str → List Nat) (F : PF)
mutual
def pT : Tg → PV → PE → (PE → Prop) → Prop
  | .nm i, p, env, K => K (env.set i (.fz p))
  | .tp ts, p, env, K => ∃ ps, (p = .tup ps ∨ p = .itm ps) ∧ pTs ts ps env K
  | .sb _ _, _, _, _ => False
def pTs : Tgs → List PV → PE → (PE → Prop) → Prop
  | .nil, ps, env, K => ps = [] ∧ K env
  | .cons t ts, ps, env, K => ∃ p r, ps = p :: r ∧ pT t p env fun env1 => pTs ts r env1 K
end
mutual
def pE : CE → PE → (PX → Prop) → (PV → Prop) → Prop
  | .var i, env, _, Q => match env[i]? with
    | some (.fz p) => Q p
    | some (.ow _ p) => Q p
    | _ => False
  | .lit l, _, _, Q => Q l.p
  | .glob x, _, _, Q => ∃ d p, G x = some d ∧ ofD d = some p ∧ Q p
  | .bin op a b, env, E, Q => pE a env E fun p => pE b env E fun q => ∃ r, binP op p q = some r ∧ Q r
  | .neg a, env, E, Q => pE a env E fun p => ∃ i, p = .int i ∧ Q (.int (-i))
  | .cmp op a b, env, E, Q => pE a env E fun p => pE b env E fun q => ∃ c, cmpP op p q = some c ∧ Q (.bl c)
  | .chain o1 o2 a b c, env, E, Q => pE a env E fun p => pE b env E fun q => ∃ k, cmpP o1 p q = some k ∧
      if k = true then pE c env E fun r => ∃ m, cmpP o2 q r = some m ∧ Q (.bl m) else Q (.bl false)
  | .and_ a b, env, E, Q => pE a env E fun p => ∃ k, p = .bl k ∧ if k = true then pE b env E Q else Q (.bl false)
  | .or_ a b, env, E, Q => pE a env E fun p => ∃ k, p = .bl k ∧ if k = true then Q (.bl true) else pE b env E Q
  | .not_ a, env, E, Q => pE a env E fun p => ∃ k, p = .bl k ∧ Q (.bl (!k))
  | .ife c a b, env, E, Q => pE c env E fun p => ∃ k, p = .bl k ∧ if k = true then pE a env E Q else pE b env E Q
  | .tup es, env, E, Q => pEs es env E fun ps => ps.length ≤ sizeLine ∧ Q (.tup ps)
  | .lst es, env, E, Q => pEs es env E fun ps => ps.length ≤ sizeLine ∧ Q (.lst ps)
  | .dnew, _, _, Q => Q (.dct [] [])
  | .dlt ks es, env, E, Q => pEs es env E fun ps => ps.length = ks.length ∧ Q (.dct ks ps)
  | .sub a i, env, E, Q => pE a env E fun p => pE i env E fun k => ∃ r, subP p k = some r ∧ Q r
  | .slc a lo hi, env, E, Q => pE a env E fun p => pP lo env E fun l => pP hi env E fun h => ∃ r, slcP p l h = some r ∧ Q r
  | .call f es, env, E, Q => IO f = [] ∧ pEs es env E fun ps => F f ps E fun r _ _ => Q r
  | .callk f es ks ws, env, E, Q => IO f = [] ∧ ∃ fn, T f = some fn ∧ pEs es env E fun ps => pEs ws env E fun zs => ∃ as, bindKwP fn.ps ps ks zs = some as ∧ F f as E fun r _ _ => Q r
  | .blt b es, env, E, Q => pEs es env E fun ps => ∃ r, bltP b ps = some r ∧ Q r
  | .isi a t, env, E, Q => pE a env E fun p => ∃ c, isiP t p = some c ∧ Q (.bl c)
  | .op1 o a, env, E, Q => pE a env E fun p => ∃ r, op1P o p = some r ∧ Q r
  | .op2 o a b, env, E, Q => pE a env E fun p => pE b env E fun q => ∃ r, op2P o p q = some r ∧ Q r
  | .meth m o es, env, E, Q => pE o env E fun p => ((∃ xs, p = .lst xs) ∨ (m = .index ∧ ∃ xs, p = .tup xs)) ∧ pEs es env E fun ps => ∃ r, mthP m p ps = some r ∧ Q r
  | .lc elt tg it cond own, env, E, Q => pI it env E fun _ items =>
      pLc (fun p K => pT tg p (wipeP env own) fun env2 => pC cond env2 fun k => if k = true then pE elt env2 noX fun y => K (some y) else K none) items [] fun ys => Q (.lst ys)
def pC : Pt → PE → (Bool → Prop) → Prop
  | .none, _, Q => Q true
  | .some c, env, Q => pE c env noX fun p => ∃ k, p = .bl k ∧ Q k
def pP : Pt → PE → (PX → Prop) → (Option Int → Prop) → Prop
  | .none, _, _, Q => Q Option.none
  | .some e, env, E, Q => pE e env E fun p => ∃ i, p = .int i ∧ Q (some i)
def pEs : CEs → PE → (PX → Prop) → (List PV → Prop) → Prop
  | .nil, _, _, Q => Q []
  | .cons e es, env, E, Q => pE e env E fun p => pEs es env E fun ps => Q (p :: ps)
def pI : Itr → PE → (PX → Prop) → (List PV → List PV → Prop) → Prop
  | .seq e, env, E, Q => pE e env E fun p => ∃ xs, walkP p = some xs ∧ Q [p] xs
  | .rng1 a, env, E, Q => pE a env E fun p => ∃ xs, rngP (.int 0) p = some xs ∧ Q [] xs
  | .rng2 a b, env, E, Q => pE a env E fun p => pE b env E fun q => ∃ xs, rngP p q = some xs ∧ Q [] xs
  | .rngd a b, env, E, Q => pE a env E fun p => pE b env E fun q => ∃ xs, rngdP p q = some xs ∧ Q [] xs
  | .enum e, env, E, Q => pE e env E fun p => ∃ xs, seqP p = some xs ∧ Q [p] (enumP 0 xs)
  | .zip a b, env, E, Q => pE a env E fun p => pE b env E fun q => ∃ xs, zipOfP p q = some xs ∧ Q [p, q] xs
end

/-! ### statements -/
def ioFree : PE → Bool
  | [] => true
  | .ow (some _) _ :: _ => false
  | _ :: r => ioFree r
/-- where an exception leaves a statement -/
def exE (env : PE) (E : PX → PE → Prop) (x : PX) : Prop := (ioFree env = true ∨ PV.flats (x.fs.map (·.2)) = true) ∧ E x (hideBut [] env)
/-- a term whose list or dict is made anew -/
def CE.fresh : CE → Bool
  | .lst _ => true
  | .dnew => true
  | .dlt _ _ => true
  | .lc _ _ _ _ _ => true
  | .slc _ _ _ => true
  | .bin _ _ _ => true
  | .blt .list _ => true
  | .op1 _ _ => true
  | _ => false
/-- a value, and whether it is a list or dict of its own -/
def pA : CE → PE → (PX → Prop) → (PV → Bool → Prop) → Prop
  | .ife c a b, env, E, Q => pE T G IO F c env E fun p => ∃ k, p = .bl k ∧ if k = true then pA a env E Q else pA b env E Q
  | .call f es, env, E, Q => IO f = [] ∧ pEs T G IO F es env E fun ps => F f ps E fun r _ fr => Q r fr
  | e, env, E, Q => pE T G IO F e env E fun p => Q p (e.fresh && p.cell)
def putS (i : Nat) (p : PV) (fr : Bool) (env : PE) : PE := env.set i (if fr then .ow none p else .fz p)
def pAs : CEs → PE → (PX → Prop) → (List (PV × Bool) → Prop) → Prop
  | .nil, _, _, Q => Q []
  | .cons e es, env, E, Q => pA T G IO F e env E fun p fr => pAs es env E fun prs => Q ((p, fr) :: prs)
def putAll : List Nat → List (PV × Bool) → PE → PE
  | i :: is, pr :: prs, env => putAll is prs (putS i pr.1 pr.2 env)
  | _, _, env => env
def plainPr (x : PV × Bool) : Bool := if x.2 = true then x.1.flat1 else x.1.flat
def nameTs : Tgs → Option (List Nat)
  | .nil => some []
  | .cons t ts => match t with
    | .nm i => (nameTs ts).map (i :: ·)
    | _ => none
/-- many values at once -/
def pPar (is : List Nat) (es : CEs) (env : PE) (E : PX → PE → Prop) (N : PE → Prop) : Prop :=
  (pAs T G IO F es (hideBut [] env) (exE env E) fun prs => prs.length = is.length ∧ N (putAll is prs env))
  ∨ (pAs T G IO F es env (exE env E) fun prs => prs.length = is.length ∧ prs.all plainPr = true ∧ N (putAll is prs env))
/-- the slots of the arguments that are changed -/
def CEs.at : CEs → Nat → Option CE
  | .nil, _ => none
  | .cons e _, 0 => some e
  | .cons _ es, j + 1 => es.at j
def slotAt (es : CEs) (j : Nat) : Option Nat := match es.at j with
  | some (.var i) => some i
  | _ => none
def ioSlots (io : List Nat) (es : CEs) : Option (List Nat) := optAll (slotAt es) io
def pArgs (io : List Nat) (env : PE) (E : PX → Prop) : Nat → CEs → (List PV → Prop) → Prop
  | _, .nil, Q => Q []
  | j, .cons e es, Q => if io.elem j = true then (∃ i t p, e = .var i ∧ env[i]? = some (.ow t p) ∧ pArgs io env E (j + 1) es fun ps => Q (p :: ps))
      else (pE T G IO F e (hideBut [] env) E fun p => pArgs io env E (j + 1) es fun ps => Q (p :: ps)) ∨ (pE T G IO F e env E fun p => p.flat = true ∧ pArgs io env E (j + 1) es fun ps => Q (p :: ps))
def reS (q : PV) : Sl → Sl
  | .ow t _ => .ow t q
  | s => s
/-- the changed arguments' values are put back -/
def putBack : List Nat → List PV → PE → PE
  | i :: is, q :: qs, env => putBack is qs (env.set i (reS q (env[i]?.getD .no)))
  | _, _, env => env
def nodup : List Nat → Bool
  | [] => true
  | i :: is => !is.elem i && nodup is
/-- a call that changes arguments; what it hands back holds no list -/
def pM (f : Str) (es : CEs) (env : PE) (E : PX → PE → Prop) (K : PV → PE → Prop) : Prop :=
  ∃ is, ioSlots (IO f) es = some is ∧ nodup is = true ∧ pArgs T G IO F (IO f) env (exE env E) 0 es fun ps => F f ps (exE env E) fun r qs _ => r.flat = true ∧ K r (putBack is qs env)
def pAsg (t : Tg) (e : CE) (env : PE) (E : PX → PE → Prop) (N : PE → Prop) : Prop :=
  (∃ i, t = .nm i ∧ ((pE T G IO F e env (exE env E) fun p => p.flat = true ∧ N (env.set i (.fz p)))
    ∨ (pA T G IO F e env (exE env E) fun p fr => fr = true ∧ p.flat1 = true ∧ N (env.set i (.ow none p)))
    ∨ (∃ os, pA T G IO F e (hideBut os env) (exE env E) fun p fr => N (putS i p fr (dnAt os env)))
    ∨ (∃ f es, e = .call f es ∧ IO f ≠ [] ∧ pM T G IO F f es env E fun r env1 => N (env1.set i (.fz r)))
    ∨ (∃ j u ps p, e = .meth .pop (.var j) .nil ∧ env[j]? = some (.ow u (.lst (ps ++ [p]))) ∧ N ((env.set j (.ow u (.lst ps))).set i (.fz p)))))
  ∨ (∃ ts es is, t = .tp ts ∧ e = .tup es ∧ nameTs ts = some is ∧ Nat.ble is.length 1000 = true ∧ pPar T G IO F is es env E N)
  ∨ (∃ ts, t = .tp ts ∧ ((pE T G IO F e env (exE env E) fun p => p.flat = true ∧ pT t p env N)
    ∨ (∃ os, pE T G IO F e (hideBut os env) (exE env E) fun p => pT t p (dnAt os env) N)))
  ∨ (∃ i ix u q, t = .sb (.var i) ix ∧ env[i]? = some (.ow u q) ∧ ((pE T G IO F e env (exE env E) fun p => p.flat = true ∧ pE T G IO F ix env noX fun k => ∃ r, stP q k p = some r ∧ N (env.set i (.ow u r)))
    ∨ (∃ os, os.elem i = false ∧ pE T G IO F e (hideBut os env) (exE env E) fun p => pE T G IO F ix env noX fun k => ∃ r, stP q k p = some r ∧ N ((dnAt os env).set i (.ow u r)))))
def pExpr (e : CE) (env : PE) (E : PX → PE → Prop) (N : PE → Prop) : Prop :=
  (pE T G IO F e env (exE env E) fun _ => N env)
  ∨ (∃ f es, e = .call f es ∧ IO f ≠ [] ∧ pM T G IO F f es env E fun _ env1 => N env1)
  ∨ (∃ i a u ps, e = .meth .append (.var i) (.cons a .nil) ∧ env[i]? = some (.ow u (.lst ps)) ∧ ps.length < sizeLine ∧ ((pE T G IO F a env (exE env E) fun p => p.flat = true ∧ N (env.set i (.ow u (.lst (ps ++ [p])))))
    ∨ (∃ os, os.elem i = false ∧ pE T G IO F a (hideBut os env) (exE env E) fun p => N ((dnAt os env).set i (.ow u (.lst (ps ++ [p])))))))
  ∨ (∃ j u ps p, e = .meth .pop (.var j) .nil ∧ env[j]? = some (.ow u (.lst (ps ++ [p]))) ∧ N (env.set j (.ow u (.lst ps))))
def pRet (e : CE) (env : PE) (E : PX → PE → Prop) (V : PE → PV → Bool → Prop) : Prop :=
  (pE T G IO F e env (exE env E) fun p => p.flat = true ∧ V env p false)
  ∨ (∃ i p, e = .var i ∧ env[i]? = some (.ow none p) ∧ V (env.set i .no) p true)
  ∨ (pA T G IO F e (hideIO env) (exE env E) fun p fr => V (hideBut [] env) p fr)
  ∨ (∃ f es, e = .call f es ∧ IO f ≠ [] ∧ pM T G IO F f es env E fun r env1 => V env1 r false)
def pFor (b : PV → PE → (PE → Prop) → Prop) : List PV → PE → (PE → Prop) → Prop
  | [], env, N => N env
  | p :: ps, env, N => b p env fun env1 => pFor b ps env1 N
def pWhile (c : PE → (Bool → Prop) → Prop) (b : PE → (PE → Prop) → Prop) : Nat → PE → (PE → Prop) → Prop
  | 0, _, _ => False
  | n + 1, env, N => c env fun k => if k = true then b env fun env1 => pWhile c b n env1 N else N env
mutual
def pS : CS → PE → (PX → PE → Prop) → (PE → Prop) → (PE → PV → Bool → Prop) → Prop
  | .asg t e, env, E, N, _ => pAsg T G IO F t e env E N
  | .par ts es, env, E, N, _ => pPar T G IO F ts es env E N
  | .expr e, env, E, N, _ => pExpr T G IO F e env E N
  | .ret e, env, E, _, V => pRet T G IO F e env E V
  | .retN, env, _, _, V => V env .non false
  | .ife c a b, env, E, N, V => pE T G IO F c env (exE env E) fun p => ∃ k, p = .bl k ∧ if k = true then pSs a env E N V else pSs b env E N V
  | .for_ t it b, env, E, N, V => (pI T G IO F it env (exE env E) fun srcs items => PV.flats srcs = true ∧ PV.flats items = true ∧ pFor (fun p env1 K => pT t p env1 fun env2 => pSs b env2 E K V) items env N)
      ∨ (∃ os, pI T G IO F it (hideBut os env) (exE env E) fun _ items => pFor (fun p env1 K => pT t p env1 fun env2 => pSs b env2 E K V) items (dnAt os env) N)
  | .while_ c b, env, E, N, V => pWhile (fun env1 K => pE T G IO F c env1 (exE env1 E) fun p => ∃ k, p = .bl k ∧ K k) (fun env1 K => pSs b env1 E K V) turns env N
  | .pass, env, _, N, _ => N env
  | .never, _, _, _, _ => False
def pSs : CSs → PE → (PX → PE → Prop) → (PE → Prop) → (PE → PV → Bool → Prop) → Prop
  | .nil, env, _, N, _ => N env
  | .cons s ss, env, E, N, V => pS s env E (fun env1 => pSs ss env1 E N V) V
end
/-- the changed parameters' last values -/
def outs (env : PE) : List Nat → Option (List PV)
  | [] => some []
  | j :: js => match env[j]? with
    | some (.ow (some k) q) => if k = j then (outs env js).map (q :: ·) else none
    | _ => none
def inFrom (io : List Nat) : Nat → List PV → PE
  | _, [] => []
  | j, p :: ps => (if io.elem j then .ow (some j) p else .fz p) :: inFrom io (j + 1) ps
/-- a def's body, from its arguments on -/
def pBody (io : List Nat) (fn : Fn) (ps : List PV) (E : PX → Prop) (Q : PV → List PV → Bool → Prop) : Prop :=
  pSs T G IO F fn.body (inFrom io 0 ps ++ List.replicate (fn.N.length - ps.length) .no) (fun x _ => E x)
    (fun env => ∃ qs, outs env io = some qs ∧ Q .non qs false) (fun env p fr => (io ≠ [] → p.flat = true) ∧ ∃ qs, outs env io = some qs ∧ Q p qs fr)
end
/-- what is told of some defs in another way -/
abbrev Told := Str → Option (Nat → List PV → (PV → Prop) → Prop)
def pCallN (T : Tab) (G : Gb) (IO : Str → List Nat) (S : Told) : Nat → PF
  | 0, _, _, _, _ => False
  | k + 1, f, ps, E, Q => match S f with
    | some w => IO f = [] ∧ w (k + 1) ps fun r => Q r [] false
    | none => ∃ fn, T f = some fn ∧ ps.length = fn.ps.length ∧ pBody T G IO (pCallN T G IO S k) (IO f) fn ps E Q
@[irreducible] def pCall (T : Tab) (G : Gb) (IO : Str → List Nat) (S : Told) : Nat → PF := pCallN T G IO S
end Ab

set_option Elab.async false
set_option linter.all false
set_option autoImplicit false
set_option maxRecDepth 10000
/-! AbPureR: how a value without a store stands in a store; operations agree. -/
namespace Ab
open PySem
/-- the pool -/
def Pok (l : Nat) (st : Sto) : Prop := ∃ x y z : Int, st[l]? = some (.lst false [.int x, .int y, .int z])
theorem Pok.mono {l : Nat} {a b : Sto} (h : Pok l a) (e : Ext a b) : Pok l b := let ⟨x, y, z, q⟩ := h; ⟨x, y, z, e _ _ q⟩
section
variable (l0 : Nat) (A : Nat → Prop) (st : Sto)
mutual
def Rep : PV → D → Prop
  | .non, d => d = .non
  | .bl b, d => d = .bl b
  | .int i, d => d = .int i
  | .str x, d => d = .str x
  | .fn x, d => d = .fn x
  | .pool, d => d = .ref l0
  | .tup ps, d => ∃ ds, d = .tup ds ∧ Reps ps ds
  | .itm ps, d => ∃ ds, d = .itm ds ∧ Reps ps ds
  | .lst ps, d => ∃ l ds, d = .ref l ∧ A l ∧ st[l]? = some (.lst false ds) ∧ Reps ps ds
  | .dct ks ps, d => ∃ l ws, d = .ref l ∧ A l ∧ st[l]? = some (.dct ws) ∧ ws.map (·.1) = ks ∧ Reps ps (ws.map (·.2))
def Reps : List PV → List D → Prop
  | [], ds => ds = []
  | p :: ps, ds => ∃ d r, ds = d :: r ∧ Rep p d ∧ Reps ps r
end
/-- what stands at a place of its own -/
def Own (p : PV) (l : Nat) : Prop := match p with
  | .lst ps => ∃ ds, st[l]? = some (.lst false ds) ∧ Reps l0 A st ps ds
  | .dct ks ps => ∃ ws, st[l]? = some (.dct ws) ∧ ws.map (·.1) = ks ∧ Reps l0 A st ps (ws.map (·.2))
  | _ => False
structure Ok : Prop where
  pok : Pok l0 st
  na : ¬ A l0
  fut : ∀ l, st.length ≤ l → A l
def RepX (px : PX) (x : XV) : Prop := px.cls = x.cls ∧ px.fs.map (·.1) = x.fs.map (·.1) ∧ Reps l0 A st (px.fs.map (·.2)) (x.fs.map (·.2))
end
section
variable {l0 : Nat} {A B : Nat → Prop} {st st' st1 st2 : Sto}
mutual
theorem Rep.mono (h : ∀ (l : Nat) (o : AO), A l → st[l]? = some o → B l ∧ st'[l]? = some o) : ∀ (p : PV) (d : D), Rep l0 A st p d → Rep l0 B st' p d
  | .non, _, q => q
  | .bl _, _, q => q
  | .int _, _, q => q
  | .str _, _, q => q
  | .fn _, _, q => q
  | .pool, _, q => q
  | .tup ps, _, ⟨ds, e, q⟩ => ⟨ds, e, Reps.mono h ps ds q⟩
  | .itm ps, _, ⟨ds, e, q⟩ => ⟨ds, e, Reps.mono h ps ds q⟩
  | .lst ps, _, ⟨l, ds, e, a, s, q⟩ => ⟨l, ds, e, (h l _ a s).1, (h l _ a s).2, Reps.mono h ps ds q⟩
  | .dct ks ps, _, ⟨l, ws, e, a, s, k, q⟩ => ⟨l, ws, e, (h l _ a s).1, (h l _ a s).2, k, Reps.mono h ps _ q⟩
theorem Reps.mono (h : ∀ (l : Nat) (o : AO), A l → st[l]? = some o → B l ∧ st'[l]? = some o) : ∀ (ps : List PV) (ds : List D), Reps l0 A st ps ds → Reps l0 B st' ps ds
  | [], _, q => q
  | p :: ps, _, ⟨d, r, e, q1, q2⟩ => ⟨d, r, e, Rep.mono h p d q1, Reps.mono h ps r q2⟩
end
mutual
theorem Rep.flat : ∀ (p : PV) (d : D), p.flat = true → Rep l0 A st p d → Rep l0 B st' p d
  | .non, _, _, q => q
  | .bl _, _, _, q => q
  | .int _, _, _, q => q
  | .str _, _, _, q => q
  | .fn _, _, _, q => q
  | .pool, _, _, q => q
  | .tup ps, _, f, ⟨ds, e, q⟩ => ⟨ds, e, Reps.flat ps ds (by unfold PV.flat at f; exact f) q⟩
  | .itm ps, _, f, ⟨ds, e, q⟩ => ⟨ds, e, Reps.flat ps ds (by unfold PV.flat at f; exact f) q⟩
  | .lst ps, _, f, _ => by unfold PV.flat at f; cases f
  | .dct ks ps, _, f, _ => by unfold PV.flat at f; cases f
theorem Reps.flat : ∀ (ps : List PV) (ds : List D), PV.flats ps = true → Reps l0 A st ps ds → Reps l0 B st' ps ds
  | [], _, _, q => q
  | p :: ps, _, f, ⟨d, r, e, q1, q2⟩ => by
    unfold PV.flats at f
    rw [Bool.and_eq_true] at f
    exact ⟨d, r, e, Rep.flat p d f.1 q1, Reps.flat ps r f.2 q2⟩
end
theorem Kp.len {l0 : Nat} {a b : Sto} (k : Kp l0 a b) (p : Pok l0 b) : a.length ≤ b.length := by
  by_cases h : a.length ≤ l0
  · by_cases q : a.length = 0
    · omega
    · have e : a[a.length - 1]? = some a[a.length - 1] := List.getElem?_eq_getElem (by omega)
      have := (List.getElem?_eq_some_iff.mp (k _ _ (by omega) e)).1
      omega
  · by_cases q : a.length = l0 + 1
    · obtain ⟨x, y, z, e⟩ := p
      have := (List.getElem?_eq_some_iff.mp e).1
      omega
    · have e : a[a.length - 1]? = some a[a.length - 1] := List.getElem?_eq_getElem (by omega)
      have := (List.getElem?_eq_some_iff.mp (k _ _ (by omega) e)).1
      omega
theorem Rep.kp (o : Ok l0 A st) (k : Kp l0 st st') {p : PV} {d : D} (h : Rep l0 A st p d) : Rep l0 A st' p d := h.mono fun l u a e => ⟨a, k l u (fun q => o.na (q ▸ a)) e⟩
theorem Reps.kp (o : Ok l0 A st) (k : Kp l0 st st') {p : List PV} {d : List D} (h : Reps l0 A st p d) : Reps l0 A st' p d := Reps.mono (fun l u a e => ⟨a, k l u (fun q => o.na (q ▸ a)) e⟩) p d h
theorem Reps.length : ∀ {ps : List PV} {ds : List D}, Reps l0 A st ps ds → ds.length = ps.length
  | [], _, h => by cases h; rfl
  | p :: ps, _, ⟨d, r, e, _, h⟩ => by subst e; simp [Reps.length h]
theorem Reps.get : ∀ {ps : List PV} {ds : List D} {i : Nat} {p : PV}, Reps l0 A st ps ds → ps[i]? = some p → ∃ d, ds[i]? = some d ∧ Rep l0 A st p d
  | [], _, _, _, _, e => by simp at e
  | p :: ps, _, 0, _, ⟨d, r, e, h1, h2⟩, q => by subst e; cases q; exact ⟨d, rfl, h1⟩
  | p :: ps, _, i + 1, _, ⟨d, r, e, h1, h2⟩, q => by subst e; exact Reps.get (i := i) h2 (by simpa using q)
theorem Reps.append : ∀ {ps qs : List PV} {ds es : List D}, Reps l0 A st ps ds → Reps l0 A st qs es → Reps l0 A st (ps ++ qs) (ds ++ es)
  | [], _, _, _, h, q => by cases h; exact q
  | p :: ps, _, _, _, ⟨d, r, e, h1, h2⟩, q => by subst e; exact ⟨d, r ++ _, rfl, h1, Reps.append h2 q⟩
theorem Reps.one {p : PV} {d : D} (h : Rep l0 A st p d) : Reps l0 A st [p] [d] := ⟨d, [], rfl, h, rfl⟩
theorem Reps.take : ∀ {ps : List PV} {ds : List D} (n : Nat), Reps l0 A st ps ds → Reps l0 A st (ps.take n) (ds.take n)
  | _, _, 0, _ => by simp [Reps]
  | [], _, n + 1, h => by cases h; simp [Reps]
  | p :: ps, _, n + 1, ⟨d, r, e, h1, h2⟩ => by subst e; exact ⟨d, _, rfl, h1, Reps.take n h2⟩
theorem Reps.drop : ∀ {ps : List PV} {ds : List D} (n : Nat), Reps l0 A st ps ds → Reps l0 A st (ps.drop n) (ds.drop n)
  | _, _, 0, h => by simpa using h
  | [], _, n + 1, h => by cases h; simp [Reps]
  | p :: ps, _, n + 1, ⟨d, r, e, h1, h2⟩ => by subst e; simpa using Reps.drop n h2
theorem Reps.set : ∀ {ps : List PV} {ds : List D} {p : PV} {d : D} (n : Nat), Reps l0 A st ps ds → Rep l0 A st p d → Reps l0 A st (ps.set n p) (ds.set n d)
  | [], _, _, _, n, h, _ => by cases h; simp [Reps]
  | p :: ps, _, _, _, 0, ⟨d, r, e, h1, h2⟩, q => by subst e; exact ⟨_, r, rfl, q, h2⟩
  | p :: ps, _, _, _, n + 1, ⟨d, r, e, h1, h2⟩, q => by subst e; exact ⟨d, r.set n _, rfl, h1, Reps.set n h2 q⟩
theorem Reps.snoc_inv : ∀ {ps : List PV} {p : PV} {ds : List D}, Reps l0 A st (ps ++ [p]) ds → ∃ es d, ds = es ++ [d] ∧ Reps l0 A st ps es ∧ Rep l0 A st p d
  | [], p, _, ⟨d, r, e, h1, h2⟩ => by cases h2; exact ⟨[], d, e, rfl, h1⟩
  | q :: ps, p, _, ⟨d, r, e, h1, h2⟩ => by
    obtain ⟨es, d', e', h3, h4⟩ := Reps.snoc_inv (ps := ps) h2
    exact ⟨d :: es, d', by rw [e, e']; rfl, ⟨d, es, rfl, h1, h3⟩, h4⟩
theorem Reps.rep : ∀ {ps : List PV} {ds : List D} (n : Nat), Reps l0 A st ps ds → Reps l0 A st (List.replicate n ps).flatten (List.replicate n ds).flatten
  | _, _, 0, _ => rfl
  | _, _, n + 1, h => by
    rw [List.replicate_succ, List.replicate_succ, List.flatten_cons, List.flatten_cons]
    exact h.append (Reps.rep n h)
theorem Reps.at {ps : List PV} {ds : List D} (h : Reps l0 A st ps ds) {k : Int} {p : PV} (e : L2.atI ps k = some p) : ∃ d, L2.atI ds k = some d ∧ Rep l0 A st p d := by
  have hl := h.length
  unfold L2.atI at e ⊢
  rw [hl]
  cases q : L2.ixN ps.length k with
  | none => rw [q] at e; cases e
  | some j => rw [q] at e; exact h.get e
theorem Reps.all {f : PV → Bool} {g : D → Bool} (hfg : ∀ p d, Rep l0 A st p d → f p = true → g d = true) : ∀ {ps : List PV} {ds : List D}, Reps l0 A st ps ds → ps.all f = true → ds.all g = true
  | [], _, h, _ => by cases h; rfl
  | p :: ps, _, ⟨d, r, e, h1, h2⟩, q => by
    subst e
    rw [List.all_cons, Bool.and_eq_true] at q
    rw [List.all_cons, hfg _ _ h1 q.1, Reps.all hfg h2 q.2]
    rfl
theorem Reps.opt {α : Type} {f : PV → Option α} {g : D → Option α} (hfg : ∀ p d a, Rep l0 A st p d → f p = some a → g d = some a) : ∀ {ps : List PV} {ds : List D} {as : List α}, Reps l0 A st ps ds → optAll f ps = some as → optAll g ds = some as
  | [], _, _, h, q => by cases h; exact q
  | p :: ps, _, as, ⟨d, r, e, h1, h2⟩, q => by
    subst e
    unfold optAll at q ⊢
    cases e1 : f p with
    | none => rw [e1] at q; cases q
    | some a =>
      rw [e1] at q
      cases e2 : optAll f ps with
      | none => rw [e2] at q; cases q
      | some bs =>
        rw [e2] at q
        rw [hfg _ _ _ h1 e1, Reps.opt hfg h2 e2]
        exact q
theorem Rep.cut {ps : List PV} {ds : List D} (h : Reps l0 A st ps ds) (lo hi : Option Int) : Reps l0 A st (cut ps lo hi) (cut ds lo hi) := by
  unfold Ab.cut
  rw [h.length]
  exact Reps.take _ (Reps.drop _ h)

theorem pd_snd : ∀ (n : Nat) {p : PV} {d : D} {x : PyData}, Rep l0 A st p d → pdP n p = some x → pd st n d = some x
  | 0, p, d, x, h, e => by
    cases p with
    | tup _ => cases e
    | itm _ => cases e
    | lst _ => cases e
    | dct _ _ => cases e
    | pool => cases e
    | fn _ => cases e
    | _ => cases h; exact e
  | n + 1, p, d, x, h, e => by
    cases p with
    | tup ps =>
      obtain ⟨ds, rfl, h⟩ := h
      unfold pdP at e
      unfold pd
      dsimp only at e ⊢
      cases q : optAll (pdP n) ps with
      | none => rw [q] at e; cases e
      | some xs => rw [q] at e; rw [Reps.opt (fun p d a => pd_snd n) h q]; exact e
    | lst ps =>
      obtain ⟨l, ds, rfl, _, s, h⟩ := h
      unfold pdP at e
      unfold pd
      dsimp only at e ⊢
      rw [s]
      dsimp only
      cases q : optAll (pdP n) ps with
      | none => rw [q] at e; cases e
      | some xs => rw [q] at e; rw [Reps.opt (fun p d a => pd_snd n) h q]; exact e
    | dct ks ps => cases e
    | pool => cases e
    | fn x => cases e
    | itm x => cases e
    | _ => cases h; exact e
theorem eq_fall {p q : PV} {d e : D} {c : Bool} (hp : Rep l0 A st p d) (hq : Rep l0 A st q e) (h : (match pdP 60 p, pdP 60 q with
    | some a, some b => some (PyData.eqv a b)
    | _, _ => none) = some c) : (match pd st 60 d, pd st 60 e with
    | some a, some b => some (PyData.eqv a b)
    | _, _ => none) = some c := by
  cases e1 : pdP 60 p with
  | none => rw [e1] at h; cases h
  | some a =>
    cases e2 : pdP 60 q with
    | none => rw [e1, e2] at h; cases h
    | some b =>
      rw [e1, e2] at h
      rw [pd_snd 60 hp e1, pd_snd 60 hq e2]
      exact h
theorem eq_snd {p q : PV} {d e : D} {c : Bool} (hp : Rep l0 A st p d) (hq : Rep l0 A st q e) (h : eqP p q = some c) : eqD st d e = some c := by
  have go : ∀ {p' : PV} {d' : D}, Rep l0 A st p' d' → (p'.flat = true → True) → ((∀ i, d' ≠ .int i ∧ p' ≠ .int i) ∧ (∀ i, d' ≠ .str i ∧ p' ≠ .str i) ∧ (∀ i, d' ≠ .bl i ∧ p' ≠ .bl i) ∧ d' ≠ .non ∧ p' ≠ .non) ∨ (d' = .non ∧ p' = .non) ∨ (∃ b, d' = .bl b ∧ p' = .bl b) ∨ (∃ i, d' = .int i ∧ p' = .int i) ∨ (∃ x, d' = .str x ∧ p' = .str x) := by
    intro p' d' h _
    cases p' with
    | non => cases h; exact .inr (.inl ⟨rfl, rfl⟩)
    | bl b => cases h; exact .inr (.inr (.inl ⟨b, rfl, rfl⟩))
    | int i => cases h; exact .inr (.inr (.inr (.inl ⟨i, rfl, rfl⟩)))
    | str x => cases h; exact .inr (.inr (.inr (.inr ⟨x, rfl, rfl⟩)))
    | fn x => cases h; exact .inl (by simp)
    | pool => cases h; exact .inl (by simp)
    | tup ps => obtain ⟨ds, e, _⟩ := h; subst e; exact .inl (by simp)
    | itm ps => obtain ⟨ds, e, _⟩ := h; subst e; exact .inl (by simp)
    | lst ps => obtain ⟨l, ds, e, _⟩ := h; subst e; exact .inl (by simp)
    | dct ks ps => obtain ⟨l, ds, e, _⟩ := h; subst e; exact .inl (by simp)
  have fb : eqP p q = none ∨ True := .inr trivial
  clear fb
  have F : ∀ x, (match pdP 60 p, pdP 60 q with
    | some a, some b => some (PyData.eqv a b)
    | _, _ => none) = some x → (match pd st 60 d, pd st 60 e with
    | some a, some b => some (PyData.eqv a b)
    | _, _ => none) = some x := fun x => eq_fall hp hq
  have P0 : ∀ {u v : PV}, (∀ i j, ¬ (u = .int i ∧ v = .int j)) → (∀ i j, ¬ (u = .str i ∧ v = .str j)) → (∀ i j, ¬ (u = .bl i ∧ v = .bl j)) → ¬ (u = .non ∧ v = .non) → eqP u v = (match pdP 60 u, pdP 60 v with
    | some a, some b => some (PyData.eqv a b)
    | _, _ => none) := by
    intro u v h1 h2 h3 h4
    unfold eqP
    split
    · exact absurd ⟨rfl, rfl⟩ (h1 _ _)
    · exact absurd ⟨rfl, rfl⟩ (h2 _ _)
    · exact absurd ⟨rfl, rfl⟩ (h3 _ _)
    · exact absurd ⟨rfl, rfl⟩ h4
    · rfl
  have D0 : ∀ {u v : D}, (∀ i j, ¬ (u = .int i ∧ v = .int j)) → (∀ i j, ¬ (u = .str i ∧ v = .str j)) → (∀ i j, ¬ (u = .bl i ∧ v = .bl j)) → ¬ (u = .non ∧ v = .non) → eqD st u v = (match pd st 60 u, pd st 60 v with
    | some a, some b => some (PyData.eqv a b)
    | _, _ => none) := by
    intro u v h1 h2 h3 h4
    unfold eqD
    split
    · exact absurd ⟨rfl, rfl⟩ (h1 _ _)
    · exact absurd ⟨rfl, rfl⟩ (h2 _ _)
    · exact absurd ⟨rfl, rfl⟩ (h3 _ _)
    · exact absurd ⟨rfl, rfl⟩ h4
    · rfl
  have R1 : ∀ {u : PV} {v : D} {i : Int}, Rep l0 A st u v → (v = .int i ↔ u = .int i) := by
    intro u v i h
    rcases go h (fun _ => trivial) with h0 | ⟨h1, h2⟩ | ⟨_, h1, h2⟩ | ⟨_, h1, h2⟩ | ⟨_, h1, h2⟩
    · exact ⟨fun z => absurd z (h0.1 i).1, fun z => absurd z (h0.1 i).2⟩
    all_goals
      constructor
      · intro z; rw [h1] at z; first | (cases z; exact h2) | cases z
      · intro z; subst z; first | exact h | cases h2
  have R2 : ∀ {u : PV} {v : D} {i : Str}, Rep l0 A st u v → (v = .str i ↔ u = .str i) := by
    intro u v i h
    rcases go h (fun _ => trivial) with h0 | ⟨h1, h2⟩ | ⟨_, h1, h2⟩ | ⟨_, h1, h2⟩ | ⟨_, h1, h2⟩
    · exact ⟨fun z => absurd z (h0.2.1 i).1, fun z => absurd z (h0.2.1 i).2⟩
    all_goals
      constructor
      · intro z; rw [h1] at z; first | (cases z; exact h2) | cases z
      · intro z; subst z; first | exact h | cases h2
  have R3 : ∀ {u : PV} {v : D} {i : Bool}, Rep l0 A st u v → (v = .bl i ↔ u = .bl i) := by
    intro u v i h
    rcases go h (fun _ => trivial) with h0 | ⟨h1, h2⟩ | ⟨_, h1, h2⟩ | ⟨_, h1, h2⟩ | ⟨_, h1, h2⟩
    · exact ⟨fun z => absurd z (h0.2.2.1 i).1, fun z => absurd z (h0.2.2.1 i).2⟩
    all_goals
      constructor
      · intro z; rw [h1] at z; first | (cases z; exact h2) | cases z
      · intro z; subst z; first | exact h | cases h2
  have R4 : ∀ {u : PV} {v : D}, Rep l0 A st u v → (v = .non ↔ u = .non) := by
    intro u v h
    rcases go h (fun _ => trivial) with h0 | ⟨h1, h2⟩ | ⟨_, h1, h2⟩ | ⟨_, h1, h2⟩ | ⟨_, h1, h2⟩
    · exact ⟨fun z => absurd z h0.2.2.2.1, fun z => absurd z h0.2.2.2.2⟩
    all_goals
      constructor
      · intro z; rw [h1] at z; first | exact h2 | cases z
      · intro z; subst z; first | exact h | cases h2
  by_cases c1 : ∃ i j, p = .int i ∧ q = .int j
  · obtain ⟨i, j, rfl, rfl⟩ := c1; cases hp; cases hq; exact h
  by_cases c2 : ∃ i j, p = .str i ∧ q = .str j
  · obtain ⟨i, j, rfl, rfl⟩ := c2; cases hp; cases hq; exact h
  by_cases c3 : ∃ i j, p = .bl i ∧ q = .bl j
  · obtain ⟨i, j, rfl, rfl⟩ := c3; cases hp; cases hq; exact h
  by_cases c4 : p = .non ∧ q = .non
  · obtain ⟨rfl, rfl⟩ := c4; cases hp; cases hq; exact h
  rw [P0 (fun i j z => c1 ⟨i, j, z⟩) (fun i j z => c2 ⟨i, j, z⟩) (fun i j z => c3 ⟨i, j, z⟩) c4] at h
  rw [D0 (fun i j z => c1 ⟨i, j, (R1 hp).mp z.1, (R1 hq).mp z.2⟩) (fun i j z => c2 ⟨i, j, (R2 hp).mp z.1, (R2 hq).mp z.2⟩) (fun i j z => c3 ⟨i, j, (R3 hp).mp z.1, (R3 hq).mp z.2⟩) (fun z => c4 ⟨(R4 hp).mp z.1, (R4 hq).mp z.2⟩)]
  exact F _ h
theorem in_snd {p : PV} {d : D} (hp : Rep l0 A st p d) : ∀ {qs : List PV} {es : List D} {c : Bool}, Reps l0 A st qs es → inP p qs = some c → inD st d es = some c
  | [], _, c, h, e => by cases h; exact e
  | q :: qs, _, c, ⟨d', r, e1, h1, h2⟩, e => by
    subst e1
    unfold inP at e
    unfold inD
    cases e2 : eqP q p with
    | none => rw [e2] at e; cases e
    | some b =>
      cases e3 : inP p qs with
      | none => rw [e2, e3] at e; cases e
      | some b' =>
        rw [e2, e3] at e
        rw [eq_snd h1 hp e2, in_snd hp h2 e3]
        exact e
theorem find_snd {p : PV} {d : D} (hp : Rep l0 A st p d) : ∀ {qs : List PV} {es : List D} {k : Nat} {c : Option Nat}, Reps l0 A st qs es → findP p qs k = some c → findD st d es k = some c
  | [], _, k, c, h, e => by cases h; exact e
  | q :: qs, _, k, c, ⟨d', r, e1, h1, h2⟩, e => by
    subst e1
    unfold findP at e
    unfold findD
    cases e2 : eqP q p with
    | none => rw [e2] at e; cases e
    | some b =>
      rw [e2] at e
      rw [eq_snd h1 hp e2]
      cases b with
      | true => exact e
      | false => exact find_snd hp h2 e
theorem atom_snd {p : PV} {d : D} (h : Rep l0 A st p d) (e : atomP p = true) : flatD d = true := by
  cases p <;> first | (cases h; rfl) | cases e
theorem bool_snd {p : PV} {d : D} {b : Bool} (h : Rep l0 A st p d) (e : boolOfP p = some b) : boolOf d = some b := by
  cases p <;> first | (cases e; cases h; rfl) | cases e
theorem int_snd {p : PV} {d : D} {b : Int} (h : Rep l0 A st p d) (e : intOfP p = some b) : intOf d = some b := by
  cases p <;> first | (cases e; cases h; rfl) | cases e
theorem key_snd {p : PV} {d : D} {b : Sum Int Str} (h : Rep l0 A st p d) (e : keyOfP p = some b) : keyOf d = some b := by
  cases p <;> first | (cases e; cases h; rfl) | cases e
end
end Ab

set_option Elab.async false
set_option linter.all false
set_option autoImplicit false
set_option maxRecDepth 10000
/-! AbPureO: what an operation does with a store is what it does without. -/
namespace Ab
open PySem
section
variable {α β : Type}
theorem sat_bind {r : R α} {f : α → Sto → R β} {Q : β → Sto → Prop} {E : XV → Sto → Prop} : (r.bind f).sat Q E = r.sat (fun a st => (f a st).sat Q E) E := by cases r <;> rfl
theorem sat_noex {r : R α} {Q : α → Sto → Prop} {E : XV → Sto → Prop} (h : r.sat Q fun _ _ => False) : r.noex.sat Q E := by
  cases r with
  | ok a st => exact h
  | ex x st => exact h.elim
  | bad => exact h.elim
theorem R.sat.mono {r : R α} {Q Q' : α → Sto → Prop} {E E' : XV → Sto → Prop} (h : r.sat Q E) (f : ∀ a st, Q a st → Q' a st) (g : ∀ a st, E a st → E' a st) : r.sat Q' E' := by
  cases r with
  | ok a st => exact f a st h
  | ex x st => exact g x st h
  | bad => exact h.elim
end
section
variable (l0 : Nat) (A : Nat → Prop) (st : Sto) {α β : Type}
/-- what is wanted of a value, by what stands for it -/
def Snd (rel : Sto → β → α → Prop) (Q : β → Prop) (a : α) (st' : Sto) : Prop := ∃ b, Q b ∧ rel st' b a ∧ Kp l0 st st' ∧ Ok l0 A st'
def XS (E : PX → Prop) (x : XV) (st' : Sto) : Prop := ∃ px, E px ∧ RepX l0 A st' px x ∧ Kp l0 st st' ∧ Ok l0 A st'
end
section
variable {l0 : Nat} {A : Nat → Prop} {st st1 st' : Sto} {α β γ δ : Type}
theorem bindS {r : R α} {f : α → Sto → R γ} {rel : Sto → β → α → Prop} {rel2 : Sto → δ → γ → Prop} {Q : β → Prop} {Q2 : δ → Prop} {E : PX → Prop} (h : r.sat (Snd l0 A st rel Q) (XS l0 A st E))
    (k : ∀ b a st1, Q b → rel st1 b a → Kp l0 st st1 → Ok l0 A st1 → (f a st1).sat (Snd l0 A st1 rel2 Q2) (XS l0 A st1 E)) : (r.bind f).sat (Snd l0 A st rel2 Q2) (XS l0 A st E) := by
  rw [sat_bind]
  refine h.mono (fun a st1 ⟨b, q, r, kp, ok⟩ => (k b a st1 q r kp ok).mono (fun c st2 ⟨d, q2, r2, kp2, ok2⟩ => ⟨d, q2, r2, kp.trans kp2, ok2⟩) (fun x st2 ⟨px, e, r2, kp2, ok2⟩ => ⟨px, e, r2, kp.trans kp2, ok2⟩)) (fun x st1 h => h)
theorem noexS {r : R α} {rel : Sto → β → α → Prop} {Q : β → Prop} {E : PX → Prop} (h : r.sat (Snd l0 A st rel Q) (XS l0 A st noX)) : r.noex.sat (Snd l0 A st rel Q) (XS l0 A st E) := by
  refine sat_noex (h.mono (fun _ _ q => q) fun _ _ ⟨_, e, _⟩ => e)
theorem okS {a : α} {b : β} {rel : Sto → β → α → Prop} {Q : β → Prop} {E : PX → Prop} (ok : Ok l0 A st) (q : Q b) (r : rel st b a) : (R.ok a st).sat (Snd l0 A st rel Q) (XS l0 A st E) := ⟨b, q, r, Kp.refl _ _, ok⟩
theorem Ok.ext (ok : Ok l0 A st) (x : Ext st st') (h : st.length ≤ st'.length) : Ok l0 A st' := ⟨ok.pok.mono x, ok.na, fun l q => ok.fut l (by omega)⟩
/-- a new list -/
theorem allocS {ps : List PV} {ds : List D} {Q : PV → Prop} {E : PX → Prop} (ok : Ok l0 A st) (h : Reps l0 A st ps ds) (q : Q (.lst ps)) : (alloc (.lst false ds) st).sat (Snd l0 A st (Rep l0 A) Q) (XS l0 A st E) := by
  have x : Ext st (st ++ [.lst false ds]) := Ext.app st _
  refine ⟨.lst ps, q, ⟨st.length, ds, rfl, ok.fut _ (Nat.le_refl _), ?_, Reps.kp ok x.kp h⟩, x.kp, ok.ext x (by simp)⟩
  rw [List.getElem?_append_right (Nat.le_refl _)]
  simp
theorem allocKS {Q : PV → Prop} {E : PX → Prop} (ok : Ok l0 A st) (q : Q (.dct [] [])) : (alloc (.dct []) st).sat (Snd l0 A st (Rep l0 A) Q) (XS l0 A st E) := by
  have x : Ext st (st ++ [.dct []]) := Ext.app st _
  refine ⟨.dct [] [], q, ⟨st.length, [], rfl, ok.fut _ (Nat.le_refl _), ?_, rfl, rfl⟩, x.kp, ok.ext x (by simp)⟩
  rw [List.getElem?_append_right (Nat.le_refl _)]
  simp
theorem allocDS {ks : List (Sum Int Str)} {ps : List PV} {ds : List D} {Q : PV → Prop} {E : PX → Prop} (ok : Ok l0 A st) (h : Reps l0 A st ps ds) (hl : ds.length = ks.length) (q : Q (.dct ks ps)) : (alloc (.dct (ks.zip ds)) st).sat (Snd l0 A st (Rep l0 A) Q) (XS l0 A st E) := by
  have x : Ext st (st ++ [.dct (ks.zip ds)]) := Ext.app st _
  obtain ⟨z1, z2⟩ : (ks.zip ds).map (·.1) = ks ∧ (ks.zip ds).map (·.2) = ds := by
    clear h q x ok
    induction ks generalizing ds with
    | nil => cases ds with
      | nil => exact ⟨rfl, rfl⟩
      | cons => simp at hl
    | cons k ks ih => cases ds with
      | nil => simp at hl
      | cons d ds =>
        obtain ⟨i1, i2⟩ := ih (ds := ds) (by simpa using hl)
        exact ⟨by simp [i1], by simp [i2]⟩
  refine ⟨.dct ks ps, q, ⟨st.length, ks.zip ds, rfl, ok.fut _ (Nat.le_refl _), ?_, z1, by rw [z2]; exact Reps.kp ok x.kp h⟩, x.kp, ok.ext x (by simp)⟩
  rw [List.getElem?_append_right (Nat.le_refl _)]
  simp
abbrev ResP (l0 : Nat) (A : Nat → Prop) (st : Sto) (E : PX → Prop) (Q : PV → Prop) (r : R D) : Prop := r.sat (Snd l0 A st (Rep l0 A) Q) (XS l0 A st E)
section
variable {p q k r : PV} {d e : D} {E : PX → Prop} {Q : PV → Prop}
theorem optS {x : Option D} {r : PV} (ok : Ok l0 A st) (hx : ∃ d, x = some d ∧ Rep l0 A st r d) (hq : Q r) : ResP l0 A st E Q (ofOpt x st) := by
  obtain ⟨d, rfl, h⟩ := hx
  exact okS ok hq h
theorem binS {op : Operator} (ok : Ok l0 A st) (hp : Rep l0 A st p d) (hq : Rep l0 A st q e) (h : binP op p q = some r) (hQ : Q r) : ResP l0 A st E Q (binD op d e st) := by
  unfold binP at h
  split at h
  · cases h; cases hp; cases hq; exact okS ok hQ rfl
  · cases hp; cases hq
    split at h
    · rename_i z
      cases h
      show ResP l0 A st E Q (if _ then _ else _)
      rw [if_pos z]
      exact okS ok hQ rfl
    · cases h
  · obtain ⟨xs, rfl, h1⟩ := hp
    obtain ⟨ys, rfl, h2⟩ := hq
    split at h
    · rename_i z
      cases h
      show ResP l0 A st E Q (if _ then _ else _)
      rw [if_pos (by rw [h1.length, h2.length]; exact z)]
      exact okS ok hQ ⟨_, rfl, h1.append h2⟩
    · cases h
  · obtain ⟨l, xs, rfl, _, s1, h1⟩ := hp
    obtain ⟨m, ys, rfl, _, s2, h2⟩ := hq
    split at h
    · rename_i z
      cases h
      unfold binD
      dsimp only
      rw [s1, s2]
      show ResP l0 A st E Q (if _ then _ else _)
      rw [if_pos (by rw [h1.length, h2.length]; exact z)]
      exact allocS ok (h1.append h2) hQ
    · cases h
  · cases h; cases hp; cases hq; exact okS ok hQ rfl
  · cases hp; cases hq
    split at h
    · rename_i z
      cases h
      show ResP l0 A st E Q (if _ then _ else _)
      rw [if_pos z]
      exact okS ok hQ rfl
    · cases h
  · obtain ⟨l, xs, rfl, _, s1, h1⟩ := hp
    cases hq
    split at h
    · rename_i z
      cases h
      unfold binD
      dsimp only
      rw [s1]
      show ResP l0 A st E Q (if _ then _ else _)
      rw [if_pos (by rw [h1.length]; exact z)]
      exact allocS ok (h1.rep _) hQ
    · cases h
  · cases hp; cases hq
    split at h
    · rename_i z
      cases h
      show ResP l0 A st E Q (if _ then _ else _)
      rw [if_pos z]
      exact okS ok hQ rfl
    · cases h
  · obtain ⟨xs, rfl, h1⟩ := hp
    cases hq
    split at h
    · rename_i z
      cases h
      show ResP l0 A st E Q (if _ then _ else _)
      rw [if_pos (by rw [h1.length]; exact z)]
      exact okS ok hQ ⟨_, rfl, h1.rep _⟩
    · cases h
  · cases hp; cases hq
    split at h
    · rename_i z
      cases h
      show ResP l0 A st E Q (if _ then _ else _)
      rw [if_pos z]
      exact okS ok hQ rfl
    · cases h
  · cases hp; cases hq
    split at h
    · rename_i z
      cases h
      show ResP l0 A st E Q (if _ then _ else _)
      rw [if_pos z]
      exact okS ok hQ rfl
    · cases h
  · cases hp; cases hq
    split at h
    · rename_i z
      cases h
      show ResP l0 A st E Q (if _ then _ else _)
      rw [if_pos z]
      exact okS ok hQ rfl
    · cases h
  · cases h
theorem inOp_snd {c : Bool} (hp : Rep l0 A st p d) (hq : Rep l0 A st q e) (h : inOpP p q = some c) : inOp d e st = some c := by
  cases q with
  | str y =>
    cases hq
    cases p <;> first | (cases h; cases hp; rfl) | cases h
  | tup es =>
    obtain ⟨ds, rfl, h1⟩ := hq
    simp only [inOpP] at h
    split at h
    · rename_i z
      rw [Bool.and_eq_true] at z
      show (if _ then _ else _) = _
      rw [if_pos (by rw [atom_snd hp z.1, h1.all (fun _ _ => atom_snd) z.2]; rfl)]
      exact in_snd hp h1 h
    · cases h
  | lst es =>
    obtain ⟨l, ds, rfl, _, s, h1⟩ := hq
    simp only [inOpP] at h
    split at h
    · rename_i z
      rw [Bool.and_eq_true] at z
      unfold inOp
      dsimp only
      rw [s]
      show (if _ then _ else _) = _
      rw [if_pos (by rw [atom_snd hp z.1, h1.all (fun _ _ => atom_snd) z.2]; rfl)]
      exact in_snd hp h1 h
    · cases h
  | dct ks ps =>
    obtain ⟨l, ws, rfl, _, s, h1, h2⟩ := hq
    simp only [inOpP] at h
    cases ek : keyOfP p with
    | none => rw [ek] at h; cases h
    | some k =>
      rw [ek] at h
      unfold inOp
      dsimp only
      rw [s]
      have e0 : dctOf st l = some ws := by unfold dctOf; rw [s]
      show ((dctOf st l).bind fun kvs => (keyOf d).map fun k => (getK kvs k).isSome) = _
      rw [e0, key_snd hp ek]
      have h : some (ks.any fun a => decide (a = k)) = some c := h
      rw [← h]
      show some (getK ws k).isSome = _
      congr 1
      rw [← h1, List.any_map]
      clear h2 s e0 h1
      unfold getK
      rw [Option.isSome_map]
      induction ws with
      | nil => rfl
      | cons w ws ih =>
        rw [List.find?_cons, List.any_cons]
        by_cases z : w.1 = k
        · simp [z]
        · simp only [z, decide_false, Bool.false_or, Function.comp]
          exact ih
  | _ => cases h
theorem cmp_snd {op : CmpOp} {c : Bool} (hp : Rep l0 A st p d) (hq : Rep l0 A st q e) (h : cmpP op p q = some c) : cmpD op d e st = some c := by
  cases op with
  | Eq => exact eq_snd hp hq h
  | NotEq =>
    simp only [cmpP] at h
    cases z : eqP p q with
    | none => rw [z] at h; cases h
    | some b => rw [z] at h; show (eqD st d e).map _ = _; rw [eq_snd hp hq z]; exact h
  | In => exact inOp_snd hp hq h
  | NotIn =>
    simp only [cmpP] at h
    cases z : inOpP p q with
    | none => rw [z] at h; cases h
    | some b => rw [z] at h; show (inOp d e st).map _ = _; rw [inOp_snd hp hq z]; exact h
  | Is =>
    simp only [cmpP] at h
    cases q with
    | non =>
      cases hq
      cases p with
      | tup ps => obtain ⟨_, rfl, _⟩ := hp; exact h
      | itm ps => obtain ⟨_, rfl, _⟩ := hp; exact h
      | lst ps => obtain ⟨_, _, rfl, _⟩ := hp; exact h
      | dct ks ps => obtain ⟨_, _, rfl, _⟩ := hp; exact h
      | _ => cases hp; exact h
    | bl b =>
      cases hq
      cases p with
      | bl a => cases hp; exact h
      | _ => cases h
    | _ => cases h
  | IsNot =>
    simp only [cmpP] at h
    cases q with
    | non =>
      cases hq
      cases p with
      | tup ps => obtain ⟨_, rfl, _⟩ := hp; exact h
      | itm ps => obtain ⟨_, rfl, _⟩ := hp; exact h
      | lst ps => obtain ⟨_, _, rfl, _⟩ := hp; exact h
      | dct ks ps => obtain ⟨_, _, rfl, _⟩ := hp; exact h
      | _ => cases hp; exact h
    | bl b =>
      cases hq
      cases p with
      | bl a => cases hp; exact h
      | _ => cases h
    | _ => cases h
  | _ => cases p <;> cases q <;> first | (cases hp; cases hq; exact h) | cases h
theorem cmpS {op : CmpOp} {c : Bool} (ok : Ok l0 A st) (hp : Rep l0 A st p d) (hq : Rep l0 A st q e) (h : cmpP op p q = some c) (hQ : Q (.bl c)) : ResP l0 A st E Q (ofOpt ((cmpD op d e st).map D.bl) st) := by
  rw [cmp_snd hp hq h]
  exact okS ok hQ rfl
theorem get_snd : ∀ {ks : List (Sum Int Str)} {ps : List PV} {ws : List (Sum Int Str × D)} {k : Sum Int Str} {p : PV}, ws.map (·.1) = ks → Reps l0 A st ps (ws.map (·.2)) → getP ks ps k = some p → ∃ d, getK ws k = some d ∧ Rep l0 A st p d
  | [], ps, ws, k, p, e, h, g => by unfold getP at g; cases g
  | a :: ks, [], ws, k, p, e, h, g => by unfold getP at g; cases g
  | a :: ks, q :: ps, [], k, p, e, h, g => by cases e
  | a :: ks, q :: ps, w :: ws, k, p, e, h, g => by
    obtain ⟨d, r, e1, h1, h2⟩ := h
    cases e1
    cases e
    unfold getP at g
    by_cases z : w.1 = k
    · rw [if_pos z] at g
      cases g
      exact ⟨w.2, by simp [getK, List.find?_cons, z], h1⟩
    · rw [if_neg z] at g
      obtain ⟨d, g1, g2⟩ := get_snd (ws := ws) rfl h2 g
      exact ⟨d, by
        unfold getK at g1 ⊢
        rw [List.find?_cons]
        simpa [z] using g1, g2⟩
theorem subS (ok : Ok l0 A st) (hp : Rep l0 A st p d) (hk : Rep l0 A st k e) (h : subP p k = some r) (hQ : Q r) : ResP l0 A st E Q (subD d e st) := by
  unfold subP at h
  cases k with
  | int i =>
    cases hk
    cases p with
    | tup ps =>
      obtain ⟨ds, rfl, h1⟩ := hp
      exact optS ok (h1.at h) hQ
    | lst ps =>
      obtain ⟨l, ds, rfl, _, s, h1⟩ := hp
      unfold subD
      dsimp only
      rw [s]
      exact optS ok (h1.at h) hQ
    | dct ks ps =>
      obtain ⟨l, ws, rfl, _, s, h1, h2⟩ := hp
      obtain ⟨d, g1, g2⟩ := get_snd h1 h2 h
      unfold subD
      dsimp only
      rw [s]
      refine optS ok ⟨d, ?_, g2⟩ hQ
      unfold dctOf
      rw [s]
      exact g1
    | str x =>
      cases hp
      dsimp only at h
      split at h
      · rename_i z
        unfold subD
        dsimp only
        rw [if_pos z]
        cases e1 : L2.atI x.cps.toList i with
        | none => rw [e1] at h; cases h
        | some c => rw [e1] at h; cases h; exact okS ok hQ rfl
      · cases h
    | _ => cases h
  | str x =>
    cases hk
    cases p with
    | dct ks ps =>
      obtain ⟨l, ws, rfl, _, s, h1, h2⟩ := hp
      obtain ⟨d, g1, g2⟩ := get_snd h1 h2 h
      unfold subD
      dsimp only
      refine optS ok ⟨d, ?_, g2⟩ hQ
      unfold dctOf
      rw [s]
      exact g1
    | _ => cases h
  | _ => cases h
theorem slcS {lo hi : Option Int} (ok : Ok l0 A st) (hp : Rep l0 A st p d) (h : slcP p lo hi = some r) (hQ : Q r) : ResP l0 A st E Q (slcD d lo hi st) := by
  cases p with
  | tup ps =>
    obtain ⟨ds, rfl, h1⟩ := hp
    cases h
    exact okS ok hQ ⟨_, rfl, Rep.cut h1 _ _⟩
  | lst ps =>
    obtain ⟨l, ds, rfl, _, s, h1⟩ := hp
    cases h
    unfold slcD
    dsimp only
    rw [s]
    exact allocS ok (Rep.cut h1 _ _) hQ
  | str x =>
    cases hp
    unfold slcP at h
    dsimp only at h
    unfold slcD
    dsimp only
    split at h
    · rename_i hz
      cases h
      rw [if_pos hz]
      exact okS ok hQ rfl
    · cases h
  | _ => cases h
theorem isi_snd {t : Ty} {c : Bool} (hp : Rep l0 A st p d) (h : isiP t p = some c) : isiD t d st = some c := by
  cases p with
  | tup ps => obtain ⟨_, rfl, _⟩ := hp; exact h
  | lst ps =>
    obtain ⟨l, ds, rfl, _, s, _⟩ := hp
    unfold isiD
    dsimp only
    rw [s]
    exact h
  | dct ks ps =>
    obtain ⟨l, ws, rfl, _, s, _⟩ := hp
    unfold isiD
    dsimp only
    rw [s]
    unfold dctOf
    rw [s]
    exact h
  | pool => cases h
  | fn x => cases h
  | itm x => cases h
  | _ => cases hp; exact h
theorem listOf_lst {l : Nat} {f : Bool} {ds : List D} (s : st[l]? = some (.lst f ds)) : listOf st (.ref l) = some ds := by
  unfold listOf
  dsimp only
  rw [s]
theorem seqOf_lst {l : Nat} {f : Bool} {ds : List D} (s : st[l]? = some (.lst f ds)) : seqOf st (.ref l) = some ds := listOf_lst s
theorem seq_snd {xs : List PV} (hp : Rep l0 A st p d) (h : seqP p = some xs) : ∃ ds, seqOf st d = some ds ∧ Reps l0 A st xs ds := by
  cases p with
  | tup ps => obtain ⟨ds, rfl, h1⟩ := hp; cases h; exact ⟨ds, rfl, h1⟩
  | lst ps => obtain ⟨l, ds, rfl, _, s, h1⟩ := hp; cases h; exact ⟨ds, seqOf_lst s, h1⟩
  | _ => cases h
theorem Reps.nil_inv {ds : List D} (h : Reps l0 A st [] ds) : ds = [] := h
theorem Reps.cons_inv {p : PV} {ps : List PV} {ds : List D} (h : Reps l0 A st (p :: ps) ds) : ∃ d r, ds = d :: r ∧ Rep l0 A st p d ∧ Reps l0 A st ps r := h
theorem len_one {p : PV} {x : D} (ok : Ok l0 A st) (hp : Rep l0 A st p x) {xs : List PV} (e : seqP p = some xs) (hQ : Q (.int xs.length)) : ResP l0 A st E Q (ofOpt ((seqOf st x).map fun ys => D.int ys.length) st) := by
  obtain ⟨ds, e1, h1⟩ := seq_snd hp e
  rw [e1]
  show ResP l0 A st E Q (.ok (.int ds.length) st)
  rw [h1.length]
  exact okS ok hQ rfl
theorem bltS {b : Blt} {ps : List PV} {ds : List D} (ok : Ok l0 A st) (hp : Reps l0 A st ps ds) (h : bltP b ps = some r) (hQ : Q r) : ResP l0 A st E Q (bltD b ds st) := by
  unfold bltP at h
  split at h
  · obtain ⟨d, r', rfl, h1, h2⟩ := hp
    cases h1
    cases h2
    split at h
    · rename_i z
      cases h
      show ResP l0 A st E Q (if _ then _ else _)
      rw [if_pos z]
      exact okS ok hQ rfl
    · cases h
  · rename_i p _
    obtain ⟨d, r', rfl, h1, h2⟩ := hp
    cases h2
    cases p with
    | tup xs => obtain ⟨ds, rfl, h1⟩ := h1; cases h; exact len_one (p := .tup xs) ok ⟨ds, rfl, h1⟩ rfl hQ
    | lst xs => obtain ⟨l, ds, rfl, a, s, h1⟩ := h1; cases h; exact len_one (p := .lst xs) ok ⟨l, ds, rfl, a, s, h1⟩ rfl hQ
    | _ => cases h
  · rename_i xs
    obtain ⟨d, r', rfl, h1, h2⟩ := hp
    cases h2
    obtain ⟨l, ds, rfl, _, s, h1⟩ := h1
    cases e1 : optAll boolOfP xs with
    | none => rw [e1] at h; cases h
    | some bs =>
      rw [e1] at h
      cases h
      unfold bltD
      dsimp only
      rw [listOf_lst s]
      show ResP l0 A st E Q (ofOpt ((optAll boolOf ds).map _) st)
      rw [Reps.opt (fun _ _ _ => bool_snd) h1 e1]
      exact okS ok hQ rfl
  · rename_i xs
    obtain ⟨d, r', rfl, h1, h2⟩ := hp
    cases h2
    obtain ⟨l, ds, rfl, _, s, h1⟩ := h1
    cases e1 : optAll boolOfP xs with
    | none => rw [e1] at h; cases h
    | some bs =>
      rw [e1] at h
      cases h
      unfold bltD
      dsimp only
      rw [listOf_lst s]
      show ResP l0 A st E Q (ofOpt ((optAll boolOf ds).map _) st)
      rw [Reps.opt (fun _ _ _ => bool_snd) h1 e1]
      exact okS ok hQ rfl
  · obtain ⟨d, r', rfl, h1, h2⟩ := hp
    cases h2
    rename_i p
    cases e1 : seqP p with
    | none => rw [e1] at h; cases h
    | some xs =>
      rw [e1] at h
      have h : (optAll intOfP xs).map (fun ns => PV.int ns.sum) = some r := h
      obtain ⟨ds, e2, h1⟩ := seq_snd h1 e1
      cases e3 : optAll intOfP xs with
      | none => rw [e3] at h; cases h
      | some ns =>
        rw [e3] at h
        cases h
        unfold bltD
        dsimp only
        rw [e2]
        show ResP l0 A st E Q (ofOpt ((optAll intOf ds).map _) st)
        rw [Reps.opt (fun _ _ _ => int_snd) h1 e3]
        exact okS ok hQ rfl
  · obtain ⟨d, r', rfl, h1, h2⟩ := hp
    cases h2
    rename_i p
    cases e1 : seqP p with
    | none => rw [e1] at h; cases h
    | some xs =>
      rw [e1] at h
      cases h
      obtain ⟨ds, e2, h1⟩ := seq_snd h1 e1
      unfold bltD
      dsimp only
      rw [e2]
      exact okS ok hQ ⟨ds, rfl, h1⟩
  · obtain ⟨d, r', rfl, h1, h2⟩ := hp
    cases h2
    rename_i p
    cases e1 : seqP p with
    | none => rw [e1] at h; cases h
    | some xs =>
      rw [e1] at h
      cases h
      obtain ⟨ds, e2, h1⟩ := seq_snd h1 e1
      unfold bltD
      dsimp only
      rw [e2]
      exact allocS ok h1 hQ
  · obtain ⟨d, r', rfl, h1, h2⟩ := hp
    cases h1; cases h2; cases h
    exact okS ok hQ rfl
  · obtain ⟨d, r', rfl, h1, h2⟩ := hp
    cases h1; cases h2; cases h
    exact okS ok hQ rfl
  · obtain ⟨d, r', rfl, h1, h2⟩ := hp
    cases h1; cases h2; cases h
    exact okS ok hQ rfl
  · obtain ⟨d, r', rfl, h1, d2, r2, rfl, h2, h3⟩ := hp
    cases h1; cases h2; cases h3
    split at h
    · rename_i z
      cases h
      show ResP l0 A st E Q (if _ then _ else _)
      rw [if_pos z]
      exact okS ok hQ ⟨_, rfl, _, _, rfl, rfl, _, _, rfl, rfl, rfl⟩
    · cases h
  · obtain ⟨d, r', rfl, h1, d2, r2, rfl, h2, h3⟩ := hp
    cases h1; cases h2; cases h3; cases h
    exact okS ok hQ rfl
  · obtain ⟨d, r', rfl, h1, d2, r2, rfl, h2, h3⟩ := hp
    cases h1; cases h2; cases h3; cases h
    exact okS ok hQ rfl
  · rename_i xs
    obtain ⟨d, r', rfl, h1, h2⟩ := hp
    cases h2
    obtain ⟨l, ds, rfl, _, s, h1⟩ := h1
    cases e1 : optAll intOfP xs with
    | none => rw [e1] at h; cases h
    | some bs =>
      rw [e1] at h
      have h : (minL bs).map PV.int = some r := h
      unfold bltD
      dsimp only
      rw [listOf_lst s]
      show ResP l0 A st E Q (ofOpt (((optAll intOf ds).bind minL).map _) st)
      rw [Reps.opt (fun _ _ _ => int_snd) h1 e1]
      show ResP l0 A st E Q (ofOpt ((minL bs).map _) st)
      cases e2 : minL bs with
      | none => rw [e2] at h; cases h
      | some v => rw [e2] at h; cases h; exact okS ok hQ rfl
  · rename_i xs
    obtain ⟨d, r', rfl, h1, h2⟩ := hp
    cases h2
    obtain ⟨l, ds, rfl, _, s, h1⟩ := h1
    cases e1 : optAll intOfP xs with
    | none => rw [e1] at h; cases h
    | some bs =>
      rw [e1] at h
      have h : (maxL bs).map PV.int = some r := h
      unfold bltD
      dsimp only
      rw [listOf_lst s]
      show ResP l0 A st E Q (ofOpt (((optAll intOf ds).bind maxL).map _) st)
      rw [Reps.opt (fun _ _ _ => int_snd) h1 e1]
      show ResP l0 A st E Q (ofOpt ((maxL bs).map _) st)
      cases e2 : maxL bs with
      | none => rw [e2] at h; cases h
      | some v => rw [e2] at h; cases h; exact okS ok hQ rfl
  · cases h
theorem Reps.reverse {ps : List PV} {ds : List D} (h : Reps l0 A st ps ds) : Reps l0 A st ps.reverse ds.reverse := by
  induction ps generalizing ds with
  | nil => cases h; rfl
  | cons p ps ih =>
    obtain ⟨d, r, rfl, h1, h2⟩ := h
    rw [List.reverse_cons, List.reverse_cons]
    exact (ih h2).append ⟨d, [], rfl, h1, rfl⟩
theorem reps_ints (g : Nat → Int) : ∀ xs : List Nat, Reps l0 A st (xs.map fun c => PV.int (g c)) (xs.map fun c => D.int (g c))
  | [] => rfl
  | x :: xs => ⟨.int (g x), xs.map fun c => D.int (g c), rfl, rfl, reps_ints g xs⟩
theorem op1S {o : Op1} (ok : Ok l0 A st) (hp : Rep l0 A st p d) (h : op1P o p = some r) (hQ : Q r) : ResP l0 A st E Q (op1D o d st) := by
  cases o with
  | rev =>
    cases p with
    | tup ps => obtain ⟨ds, rfl, h1⟩ := hp; cases h; exact okS ok hQ ⟨_, rfl, h1.reverse⟩
    | lst ps =>
      obtain ⟨l, ds, rfl, _, s, h1⟩ := hp
      cases h
      show ResP l0 A st E Q (match st[l]? with
        | some (.lst _ ds) => alloc (.lst false ds.reverse) st
        | _ => .bad)
      rw [s]
      exact allocS ok h1.reverse hQ
    | _ => cases h
  | trg =>
    cases p with
    | int j =>
      cases hp
      have h : (if -(2 ^ 62) ≤ j ∧ j ≤ 16777216 then some (PV.tup (rangeP 0 j.toNat)) else none) = some r := h
      split at h
      · rename_i z
        cases h
        show ResP l0 A st E Q (if _ then _ else _)
        rw [if_pos z]
        exact okS ok hQ ⟨_, rfl, reps_ints (fun k => 0 + (k : Int)) _⟩
      · cases h
    | _ => cases h
theorem op2S {o : Op2} {q : PV} {e : D} (ok : Ok l0 A st) (hp : Rep l0 A st p d) (hq : Rep l0 A st q e) (h : op2P o p q = some r) (hQ : Q r) : ResP l0 A st E Q (op2D o d e st) := by
  cases o with
  | lcm =>
    cases p with
    | int i =>
      cases q with
      | int j =>
        cases hp
        cases hq
        have h : (if 0 ≤ i ∧ i < 1048576 ∧ 0 ≤ j ∧ j < 1048576 then some (PV.int ((Nat.lcm i.toNat j.toNat : Nat) : Int)) else none) = some r := h
        split at h
        · rename_i z
          cases h
          show ResP l0 A st E Q (if _ then _ else _)
          rw [if_pos z]
          exact okS ok hQ rfl
        · cases h
      | _ => cases h
    | _ => cases h
theorem str_snd {p : PV} {d : D} {b : Str} (h : Rep l0 A st p d) (e : strOfP p = some b) : strOf d = some b := by
  cases p <;> first | (cases e; cases h; rfl) | cases e
theorem mthS {m : Mth} {ps : List PV} {ds : List D} (ok : Ok l0 A st) (hp : Rep l0 A st p d) (hs : Reps l0 A st ps ds) (h : mthP m p ps = some r) (hQ : Q r) : (∃ xs, rcvD m st d = some xs) ∧ ResP l0 A st E Q (mthD m d ds st) := by
  unfold mthP at h
  split at h
  · obtain ⟨l, es, rfl, _, s, h1⟩ := hp
    obtain ⟨x, r', rfl, h2, h3⟩ := hs
    cases h3
    refine ⟨⟨es, listOf_lst s⟩, ?_⟩
    split at h
    · rename_i z
      rw [Bool.and_eq_true] at z
      unfold mthD
      dsimp only
      rw [s]
      dsimp only
      rw [if_pos (by rw [atom_snd h2 z.1, h1.all (fun _ _ => atom_snd) z.2]; rfl)]
      split at h
      · rename_i k e1
        cases h
        rw [find_snd h2 h1 e1]
        exact okS ok hQ rfl
      · cases h
    · cases h
  · obtain ⟨es, rfl, h1⟩ := hp
    obtain ⟨x, r', rfl, h2, h3⟩ := hs
    cases h3
    cases h2
    refine ⟨⟨es, rfl⟩, ?_⟩
    split at h
    · rename_i k e1
      cases h
      simp only [Option.bind_eq_some_iff] at e1
      obtain ⟨ys, e1, e2⟩ := e1
      unfold mthD
      dsimp only
      rw [Reps.opt (fun _ _ _ => str_snd) h1 e1]
      show ResP l0 A st E Q (match ys.findIdx? _ with
        | some k => .ok (.int k) st
        | none => .bad)
      rw [e2]
      exact okS ok hQ rfl
    · cases h
  · cases h
end
end
end Ab

set_option Elab.async false
set_option linter.all false
set_option autoImplicit false
set_option maxRecDepth 10000
/-! AbPureE: terms, with and without a store. -/
namespace Ab
open PySem
def rdS : Sl → Option PV
  | .no => none
  | .fz p => some p
  | .ow _ p => some p
section
variable (l0 : Nat) (A : Nat → Prop) (st : Sto)
/-- slots that are read -/
structure PEr (penv : PE) (env : En) : Prop where
  len : penv.length = env.length
  rd : ∀ (i : Nat) (s : Sl) (p : PV), penv[i]? = some s → rdS s = some p → ∃ d, env[i]? = some (some d) ∧ Rep l0 A st p d
/-- arguments; some are changed, these stand at places of their own -/
def ArgsOk (io : List Nat) (L : Nat → Nat) : Nat → List PV → List D → Prop
  | _, [], ds => ds = []
  | j, p :: ps, ds => ∃ d r, ds = d :: r ∧ (if io.elem j = true then d = .ref (L j) ∧ L j ≠ l0 ∧ ¬ A (L j) ∧ Own l0 A st p (L j) else Rep l0 A st p d) ∧ ArgsOk io L (j + 1) ps r
def OutsOk (L : Nat → Nat) : List Nat → List PV → Prop
  | [], qs => qs = []
  | j :: js, qs => ∃ q r, qs = q :: r ∧ Own l0 A st q (L j) ∧ OutsOk L js r
end
def FreshAt (st : Sto) (d : D) : Prop := ∃ l, d = .ref l ∧ st.length ≤ l
def Frm (l0 : Nat) (io : List Nat) (L : Nat → Nat) (st st' : Sto) : Prop := ∀ l o, l ≠ l0 → (∀ j ∈ io, l ≠ L j) → st[l]? = some o → st'[l]? = some o
/-- calls -/
def FSound (IO : Str → List Nat) (FP : PF) (FS : Str → List D → Sto → R D) : Prop :=
  ∀ (f : Str) (ps : List PV) (E : PX → Prop) (Q : PV → List PV → Bool → Prop) (l0 : Nat) (A : Nat → Prop) (st : Sto) (ds : List D) (L : Nat → Nat), FP f ps E Q → Ok l0 A st → ArgsOk l0 A st (IO f) L 0 ps ds →
    (∀ i ∈ IO f, ∀ j ∈ IO f, L i = L j → i = j) →
    (FS f ds st).sat (fun d st' => ∃ r qs fr, Q r qs fr ∧ Rep l0 A st' r d ∧ (fr = true → FreshAt st d) ∧ (IO f ≠ [] → r.flat = true) ∧ OutsOk l0 A st' L (IO f) qs ∧ Frm l0 (IO f) L st st' ∧ Ok l0 A st')
      (fun x st' => ∃ px, E px ∧ RepX l0 A st' px x ∧ Frm l0 (IO f) L st st' ∧ Ok l0 A st')
section
variable {l0 : Nat} {A : Nat → Prop} {st st1 st' : Sto} {penv : PE} {env : En}
theorem PEr.kp (ok : Ok l0 A st) (k : Kp l0 st st') (h : PEr l0 A st penv env) : PEr l0 A st' penv env := ⟨h.len, fun i s p e r => let ⟨d, h1, h2⟩ := h.rd i s p e r; ⟨d, h1, h2.kp ok k⟩⟩
theorem PEr.set (h : PEr l0 A st penv env) {p : PV} {d : D} (r : Rep l0 A st p d) (i : Nat) : PEr l0 A st (penv.set i (.fz p)) (env.set i (some d)) := by
  refine ⟨by simp [h.len], fun j s q e e2 => ?_⟩
  by_cases hj : i = j
  · subst hj
    by_cases hi : i < penv.length
    · rw [List.getElem?_set_self hi] at e
      cases e
      cases e2
      exact ⟨d, by rw [List.getElem?_set_self (by rw [← h.len]; exact hi)], r⟩
    · rw [List.getElem?_eq_none (by simpa using hi)] at e
      cases e
  · rw [List.getElem?_set_ne hj] at e
    obtain ⟨u, h1, h2⟩ := h.rd j s q e e2
    exact ⟨u, by rw [List.getElem?_set_ne hj]; exact h1, h2⟩
theorem PEr.drop (h : PEr l0 A st penv env) (i : Nat) (o : Option D) : PEr l0 A st (penv.set i .no) (env.set i o) := by
  refine ⟨by simp [h.len], fun j s q e e2 => ?_⟩
  by_cases hj : i = j
  · subst hj
    by_cases hi : i < penv.length
    · rw [List.getElem?_set_self hi] at e
      cases e
      cases e2
    · rw [List.getElem?_eq_none (by simpa using hi)] at e
      cases e
  · rw [List.getElem?_set_ne hj] at e
    obtain ⟨u, h1, h2⟩ := h.rd j s q e e2
    exact ⟨u, by rw [List.getElem?_set_ne hj]; exact h1, h2⟩
theorem PEr.wipe (h : PEr l0 A st penv env) : ∀ vs : List Nat, PEr l0 A st (wipeP penv vs) (wipeE env vs)
  | [] => h
  | v :: vs => (PEr.wipe h vs).drop v none
theorem ArgsOk.nil {L : Nat → Nat} : ∀ {j : Nat} {ps : List PV} {ds : List D}, Reps l0 A st ps ds → ArgsOk l0 A st [] L j ps ds
  | _, [], _, h => h
  | j, p :: ps, _, ⟨d, r, e, h1, h2⟩ => ⟨d, r, e, h1, ArgsOk.nil h2⟩
/-- targets of names alone -/
theorem pT_gen {T : Tab} {G : Gb} {F : Str → List D → Sto → R D} {W : PE → En → Prop} {A : PE → En → Nat → Prop}
    (hs : ∀ i p d penv env, Rep l0 (A penv env) st p d → W penv env → W (penv.set i (.fz p)) (env.set i (some d)) ∧ ∀ l, A penv env l → A (penv.set i (.fz p)) (env.set i (some d)) l) :
    ∀ (t : Tg) (p : PV) (d : D) (penv : PE) (env : En) (K : PE → Prop), pT t p penv K → Rep l0 (A penv env) st p d → W penv env → ∃ penv2 env2, setT T G F t d env st = .ok env2 st ∧ K penv2 ∧ W penv2 env2 ∧ (∀ l, A penv env l → A penv2 env2 l)
  | .nm i, p, d, penv, env, K, h, r, q => by
    obtain ⟨h1, h2⟩ := hs i p d penv env r q
    exact ⟨_, _, setT_nm, h, h1, h2⟩
  | .tp ts, p, d, penv, env, K, h, r, q => by
    obtain ⟨ps, hp, h⟩ := h
    rcases hp with rfl | rfl
    · obtain ⟨ds, rfl, r⟩ := r
      rw [setT_tp]
      exact pTs_gen hs ts ps ds penv env K h r q
    · obtain ⟨ds, rfl, r⟩ := r
      rw [setT_itm]
      exact pTs_gen hs ts ps ds penv env K h r q
  | .sb _ _, p, d, penv, env, K, h, r, q => h.elim
where
  pTs_gen {T : Tab} {G : Gb} {F : Str → List D → Sto → R D} {W : PE → En → Prop} {A : PE → En → Nat → Prop}
    (hs : ∀ i p d penv env, Rep l0 (A penv env) st p d → W penv env → W (penv.set i (.fz p)) (env.set i (some d)) ∧ ∀ l, A penv env l → A (penv.set i (.fz p)) (env.set i (some d)) l) :
    ∀ (t : Tgs) (p : List PV) (d : List D) (penv : PE) (env : En) (K : PE → Prop), pTs t p penv K → Reps l0 (A penv env) st p d → W penv env → ∃ penv2 env2, setTs T G F t d env st = .ok env2 st ∧ K penv2 ∧ W penv2 env2 ∧ (∀ l, A penv env l → A penv2 env2 l)
  | .nil, ps, ds, penv, env, K, h, r, q => by
    obtain ⟨rfl, h⟩ := h
    cases r
    exact ⟨penv, env, setTs_nil, h, q, fun _ a => a⟩
  | .cons t ts, ps, ds, penv, env, K, h, r, q => by
    obtain ⟨p, r', rfl, h⟩ := h
    obtain ⟨d, dr, rfl, r1, r2⟩ := r
    obtain ⟨penv1, env1, e1, h1, q1, m1⟩ := pT_gen hs t p d penv env _ h r1 q
    obtain ⟨penv2, env2, e2, h2, q2, m2⟩ := pTs_gen hs ts r' dr penv1 env1 K h1 (Reps.mono (fun l o a e => ⟨m1 l a, e⟩) _ _ r2) q1
    refine ⟨penv2, env2, ?_, h2, q2, fun l a => m2 l (m1 l a)⟩
    rw [setTs_cons, e1]
    exact e2
theorem pT_sound {T : Tab} {G : Gb} {F : Str → List D → Sto → R D} {t : Tg} {p : PV} {d : D} {K : PE → Prop} (h : pT t p penv K) (r : Rep l0 A st p d) (q : PEr l0 A st penv env) : ∃ penv2 env2, setT T G F t d env st = .ok env2 st ∧ K penv2 ∧ PEr l0 A st penv2 env2 := by
  obtain ⟨penv2, env2, h1, h2, h3, _⟩ := pT_gen (T := T) (G := G) (F := F) (W := PEr l0 A st) (A := fun _ _ => A) (fun i p d penv env r q => ⟨q.set r i, fun _ a => a⟩) t p d penv env K h r q
  exact ⟨penv2, env2, h1, h2, h3⟩
/-! comprehensions -/
def relO (l0 : Nat) (A : Nat → Prop) (st : Sto) (p : Option PV) (d : Option D) : Prop := match p, d with
  | some p, some d => Rep l0 A st p d
  | none, none => True
  | _, _ => False
theorem lc_sound {st0 : Sto} {fP : PV → (Option PV → Prop) → Prop} {fS : D → Sto → R (Option D)} {s : Src}
    (hf : ∀ p d st K, Rep l0 A st p d → Kp l0 st0 st → Ok l0 A st → fP p K → (fS d st).sat (Snd l0 A st (relO l0 A) K) (XS l0 A st noX)) (still : ∀ st, Kp l0 st0 st → s.still st) :
    ∀ (items : List PV) (ds : List D) (acc : List PV) (accD : List D) (st : Sto) (Q : List PV → Prop), Reps l0 A st items ds → Reps l0 A st acc accD → Kp l0 st0 st → Ok l0 A st → pLc fP items acc Q → (lcLoop s fS ds accD st).sat (Snd l0 A st (Reps l0 A) Q) (XS l0 A st noX)
  | [], ds, acc, accD, st, Q, hi, ha, k, ok, h => by
    cases hi
    unfold lcLoop
    rw [if_pos (still st k)]
    exact okS ok h ha
  | p :: ps, ds, acc, accD, st, Q, hi, ha, k, ok, h => by
    obtain ⟨d, dr, rfl, h1, h2⟩ := hi
    unfold lcLoop
    rw [if_pos (still st k)]
    have h : fP p _ := h
    refine bindS (hf p d st _ h1 k ok h) fun b a st1 q r kp ok1 => ?_
    cases b with
    | none =>
      cases a with
      | some _ => exact r.elim
      | none => exact lc_sound hf still ps dr acc accD st1 Q (h2.kp ok kp) (ha.kp ok kp) (k.trans kp) ok1 q
    | some y =>
      cases a with
      | none => exact r.elim
      | some y' =>
        obtain ⟨q1, q2⟩ := q
        dsimp only
        rw [if_pos (by rw [ha.length]; exact q1)]
        exact lc_sound hf still ps dr _ _ st1 Q (h2.kp ok kp) ((ha.kp ok kp).append (Reps.one r)) (k.trans kp) ok1 q2
/-! what is walked -/
def relI (l0 : Nat) (A : Nat → Prop) (st : Sto) (p : List PV × List PV) (s : Src) : Prop := Reps l0 A st p.2 s.items ∧ (∀ q ∈ s.lock, A q.1 ∧ ∃ f, st[q.1]? = some (.lst f q.2)) ∧ (PV.flats p.1 = true → s.lock = [])
theorem relI.still (ok : Ok l0 A st) {p : List PV × List PV} {s : Src} (h : relI l0 A st p s) : ∀ st', Kp l0 st st' → s.still st' := fun st' k q hq => by
  obtain ⟨a, f, e⟩ := h.2.1 q hq
  exact ⟨f, k _ _ (fun z => ok.na (z ▸ a)) e⟩
theorem Reps.chars (st : Sto) (A : Nat → Prop) : ∀ xs : List Nat, Reps l0 A st (xs.map fun c => PV.str ⟨#[c]⟩) (xs.map fun c => D.str ⟨#[c]⟩)
  | [] => rfl
  | x :: xs => ⟨_, _, rfl, rfl, Reps.chars st A xs⟩
theorem Reps.ints (st : Sto) (A : Nat → Prop) (g : Nat → Int) : ∀ xs : List Nat, Reps l0 A st (xs.map fun c => PV.int (g c)) (xs.map fun c => D.int (g c))
  | [] => rfl
  | x :: xs => ⟨_, _, rfl, rfl, Reps.ints st A g xs⟩
theorem Reps.enum : ∀ {ps : List PV} {ds : List D} (k : Nat), Reps l0 A st ps ds → Reps l0 A st (enumP k ps) (enumL k ds)
  | [], _, k, h => by cases h; rfl
  | p :: ps, _, k, ⟨d, r, e, h1, h2⟩ => by subst e; exact ⟨_, _, rfl, ⟨_, rfl, _, _, rfl, rfl, _, _, rfl, h1, rfl⟩, Reps.enum (k + 1) h2⟩
theorem Reps.zip : ∀ {ps qs : List PV} {ds es : List D}, Reps l0 A st ps ds → Reps l0 A st qs es → Reps l0 A st (zipP ps qs) (zipL ds es)
  | [], _, _, _, h, _ => by cases h; simp [zipP, zipL, Reps]
  | p :: ps, [], _, _, ⟨d, r, e, h1, h2⟩, h => by subst e; cases h; simp [zipP, zipL, Reps]
  | p :: ps, q :: qs, _, _, ⟨d, r, e, h1, h2⟩, ⟨d', r', e', h3, h4⟩ => by subst e; subst e'; exact ⟨_, _, rfl, ⟨_, rfl, _, _, rfl, h1, _, _, rfl, h3, rfl⟩, Reps.zip h2 h4⟩
section
variable {E : PX → Prop} {Q : List PV × List PV → Prop} {p q : PV} {d e : D} {xs : List PV}
theorem flats_one {p : PV} (h : PV.flats [p] = true) : p.flat = true := by
  unfold PV.flats at h
  rw [Bool.and_eq_true] at h
  exact h.1
theorem lst_nflat {xs : List PV} {A : Prop} (h : PV.flat (.lst xs) = true) : A := by unfold PV.flat at h; cases h
theorem srcSeqS (ok : Ok l0 A st) (hp : Rep l0 A st p d) (h : walkP p = some xs) (hQ : Q ([p], xs)) : (srcSeq d st).sat (Snd l0 A st (relI l0 A) Q) (XS l0 A st E) := by
  cases p with
  | tup ps => obtain ⟨ds, rfl, h1⟩ := hp; cases h; exact okS ok hQ ⟨h1, (fun _ z => nomatch z), fun _ => rfl⟩
  | lst ps =>
    obtain ⟨l, ds, rfl, a, s, h1⟩ := hp
    cases h
    unfold srcSeq
    dsimp only
    rw [s]
    refine okS ok hQ ⟨h1, fun z hz => ?_, fun z => lst_nflat (flats_one z)⟩
    cases List.mem_singleton.mp hz
    exact ⟨a, _, s⟩
  | str x => cases hp; cases h; exact okS ok hQ ⟨Reps.chars _ _ _, (fun _ z => nomatch z), fun _ => rfl⟩
  | _ => cases h
theorem srcEnumS (ok : Ok l0 A st) (hp : Rep l0 A st p d) (h : seqP p = some xs) (hQ : Q ([p], enumP 0 xs)) : (srcEnum d st).sat (Snd l0 A st (relI l0 A) Q) (XS l0 A st E) := by
  cases p with
  | tup ps => obtain ⟨ds, rfl, h1⟩ := hp; cases h; exact okS ok hQ ⟨h1.enum 0, (fun _ z => nomatch z), fun _ => rfl⟩
  | lst ps =>
    obtain ⟨l, ds, rfl, a, s, h1⟩ := hp
    cases h
    unfold srcEnum
    dsimp only
    rw [s]
    refine okS ok hQ ⟨h1.enum 0, fun z hz => ?_, fun z => lst_nflat (flats_one z)⟩
    cases List.mem_singleton.mp hz
    exact ⟨a, _, s⟩
  | _ => cases h
theorem srcRngS (ok : Ok l0 A st) (hp : Rep l0 A st p d) (hq : Rep l0 A st q e) (h : rngP p q = some xs) (hQ : Q ([], xs)) : (srcRng d e st).sat (Snd l0 A st (relI l0 A) Q) (XS l0 A st E) := by
  unfold rngP at h
  split at h
  · cases hp
    cases hq
    split at h
    · rename_i z
      cases h
      have e : ∀ i j : Int, srcRng (.int i) (.int j) st = if -(2 ^ 62) ≤ i ∧ i < 2 ^ 62 ∧ -(2 ^ 62) ≤ j ∧ j < 2 ^ 62 then .ok ⟨rangeL i (j - i).toNat, []⟩ st else .bad := fun i j => by unfold srcRng <;> rfl
      rw [e, if_pos z]
      exact okS ok hQ ⟨Reps.ints _ _ _ _, (fun _ z => nomatch z), fun _ => rfl⟩
    · cases h
  · cases h
theorem srcRngdS (ok : Ok l0 A st) (hp : Rep l0 A st p d) (hq : Rep l0 A st q e) (h : rngdP p q = some xs) (hQ : Q ([], xs)) : (srcRngd d e st).sat (Snd l0 A st (relI l0 A) Q) (XS l0 A st E) := by
  unfold rngdP at h
  split at h
  · cases hp
    cases hq
    split at h
    · rename_i z
      cases h
      have e : ∀ i j : Int, srcRngd (.int i) (.int j) st = if -(2 ^ 62) ≤ i ∧ i < 2 ^ 62 ∧ -(2 ^ 62) ≤ j ∧ j < 2 ^ 62 then .ok ⟨rangeB i (i - j).toNat, []⟩ st else .bad := fun i j => by unfold srcRngd <;> rfl
      rw [e, if_pos z]
      exact okS ok hQ ⟨Reps.ints _ _ _ _, (fun _ z => nomatch z), fun _ => rfl⟩
    · cases h
  · cases h
theorem srcZipS (ok : Ok l0 A st) (hp : Rep l0 A st p d) (hq : Rep l0 A st q e) (h : zipOfP p q = some xs) (hQ : Q ([p, q], xs)) : (srcZip d e st).sat (Snd l0 A st (relI l0 A) Q) (XS l0 A st E) := by
  unfold zipOfP at h
  split at h
  · obtain ⟨ds, rfl, h1⟩ := hp
    obtain ⟨es, rfl, h2⟩ := hq
    cases h
    exact okS ok hQ ⟨h1.zip h2, (fun _ z => nomatch z), fun _ => rfl⟩
  · obtain ⟨l, ds, rfl, a, s, h1⟩ := hp
    obtain ⟨m, es, rfl, b, s2, h2⟩ := hq
    cases h
    unfold srcZip
    dsimp only
    rw [s, s2]
    refine okS ok hQ ⟨h1.zip h2, fun z hz => ?_, fun z => ?_⟩
    · rcases List.mem_cons.mp hz with rfl | hz
      · exact ⟨a, _, s⟩
      · cases List.mem_singleton.mp hz
        exact ⟨b, _, s2⟩
    · unfold PV.flats at z
      rw [Bool.and_eq_true] at z
      exact lst_nflat z.1
  · obtain ⟨ds, rfl, h1⟩ := hp
    obtain ⟨m, es, rfl, b, s2, h2⟩ := hq
    cases h
    unfold srcZip
    dsimp only
    rw [s2]
    refine okS ok hQ ⟨h1.zip h2, fun z hz => ?_, fun z => ?_⟩
    · cases List.mem_singleton.mp hz
      exact ⟨b, _, s2⟩
    · unfold PV.flats at z
      rw [Bool.and_eq_true] at z
      exact lst_nflat (flats_one z.2)
  · obtain ⟨l, ds, rfl, a, s, h1⟩ := hp
    obtain ⟨es, rfl, h2⟩ := hq
    cases h
    unfold srcZip
    dsimp only
    rw [s]
    refine okS ok hQ ⟨h1.zip h2, fun z hz => ?_, fun z => ?_⟩
    · cases List.mem_singleton.mp hz
      exact ⟨a, _, s⟩
    · unfold PV.flats at z
      rw [Bool.and_eq_true] at z
      exact lst_nflat z.1
  · cases h
end
theorem ofD_snd {d : D} {p : PV} (h : ofD d = some p) : Rep l0 A st p d := by
  cases d <;> first | (cases h; exact rfl) | cases h
theorem asBoolE {p : PV} {d : D} {k : Bool} (r : Rep l0 A st p d) (e : p = .bl k) : asBool d st = .ok k st := by
  subst e
  cases r
  rfl
theorem asBoolS {p : PV} {d : D} {k : Bool} {E : PX → Prop} {Q : Bool → Prop} (ok : Ok l0 A st) (r : Rep l0 A st p d) (e : p = .bl k) (q : Q k) : (asBool d st).sat (Snd l0 A st (fun _ b a => b = a) Q) (XS l0 A st E) := by
  subst e
  cases r
  exact okS ok q rfl
theorem optAll_look {ks : List Str} {ws : List PV} {es : List D} (h : Reps l0 A st ws es) : ∀ {ps : List Str} {as : List PV}, optAll (fun p => (ks.zip ws).lookup p) ps = some as → ∃ bs, optAll (lookKw ks es) ps = some bs ∧ Reps l0 A st as bs
  | [], as, e => by cases e; exact ⟨[], rfl, rfl⟩
  | p :: ps, as, e => by
    unfold optAll at e
    cases e1 : (ks.zip ws).lookup p with
    | none => rw [e1] at e; cases e
    | some a =>
      cases e2 : optAll (fun p => (ks.zip ws).lookup p) ps with
      | none => rw [e1, e2] at e; cases e
      | some as' =>
        rw [e1, e2] at e
        cases e
        obtain ⟨bs, h1, h2⟩ := optAll_look h e2
        have : ∃ b, lookKw ks es p = some b ∧ Rep l0 A st a b := by
          clear e2 h1 h2
          unfold lookKw
          induction ks generalizing ws es with
          | nil => cases e1
          | cons k ks ih =>
            cases ws with
            | nil => cases e1
            | cons w ws =>
              obtain ⟨d, r, rfl, h1, h2⟩ := h
              rw [List.zip_cons_cons, List.lookup_cons] at e1 ⊢
              by_cases z : (p == k) = true
              · rw [z] at e1 ⊢
                cases e1
                exact ⟨d, rfl, h1⟩
              · have z : (p == k) = false := by simpa using z
                rw [z] at e1 ⊢
                exact ih h2 e1
        obtain ⟨b, h3, h4⟩ := this
        refine ⟨b :: bs, ?_, b, bs, rfl, h4, h2⟩
        unfold optAll
        rw [h3, h1]
theorem bindKw_snd {pn ks : List Str} {ps ws as : List PV} {ds es : List D} (h1 : Reps l0 A st ps ds) (h2 : Reps l0 A st ws es) (h : bindKwP pn ps ks ws = some as) : ∃ bs, bindKw pn ds ks es = some bs ∧ Reps l0 A st as bs := by
  unfold bindKwP at h
  cases e : optAll (fun p => (ks.zip ws).lookup p) (pn.drop ps.length) with
  | none => rw [e] at h; cases h
  | some as' =>
    rw [e] at h
    cases h
    obtain ⟨bs, h3, h4⟩ := optAll_look h2 e
    refine ⟨ds ++ bs, ?_, h1.append h4⟩
    unfold bindKw
    rw [h1.length, h3]
    rfl
/-- a call whose arguments stay as they are -/
theorem callS {IO : Str → List Nat} {FP : PF} {FS : Str → List D → Sto → R D} (hF : FSound IO FP FS) {f : Str} {ps : List PV} {ds : List D} {E : PX → Prop} {Q : PV → List PV → Bool → Prop} (hio : IO f = []) (h : FP f ps E Q) (ok : Ok l0 A st) (r : Reps l0 A st ps ds) :
    (FS f ds st).sat (fun d st' => ∃ r qs fr, Q r qs fr ∧ Rep l0 A st' r d ∧ (fr = true → FreshAt st d) ∧ Kp l0 st st' ∧ Ok l0 A st') (XS l0 A st E) := by
  have := hF f ps E Q l0 A st ds (fun _ => l0) h ok (by rw [hio]; exact ArgsOk.nil r) (by rw [hio]; exact fun _ z => nomatch z)
  rw [hio] at this
  exact this.mono (fun d st' ⟨r, qs, fr, h1, h2, h3, _, _, h4, h5⟩ => ⟨r, qs, fr, h1, h2, h3, fun l o n e => h4 l o n (fun _ z => nomatch z) e, h5⟩) (fun x st' ⟨px, h1, h2, h4, h5⟩ => ⟨px, h1, h2, fun l o n e => h4 l o n (fun _ z => nomatch z) e, h5⟩)
section
variable {T : Tab} {G : Gb} {IO : Str → List Nat} {FP : PF} {FS : Str → List D → Sto → R D}
mutual
theorem pE_snd (hF : FSound IO FP FS) : ∀ (c : CE) {penv : PE} {env : En} {st : Sto} {E : PX → Prop} {Q : PV → Prop}, pE T G IO FP c penv E Q → Ok l0 A st → PEr l0 A st penv env → ResP l0 A st E Q (evE T G FS c env st)
  | .var i, penv, env, st, E, Q, h, ok, hr => by
    rw [evE_var]
    unfold pE at h
    cases e : penv[i]? with
    | none => rw [e] at h; exact h.elim
    | some s =>
      rw [e] at h
      cases s with
      | no => exact h.elim
      | fz p => obtain ⟨d, h1, h2⟩ := hr.rd i _ p e rfl; rw [h1]; exact okS ok h h2
      | ow t p => obtain ⟨d, h1, h2⟩ := hr.rd i _ p e rfl; rw [h1]; exact okS ok h h2
  | .lit l, penv, env, st, E, Q, h, ok, hr => by
    rw [evE_lit]
    refine okS ok h ?_
    cases l <;> exact rfl
  | .glob x, penv, env, st, E, Q, h, ok, hr => by
    rw [evE_glob]
    obtain ⟨d, p, e1, e2, q⟩ := h
    rw [e1]
    exact okS ok q (ofD_snd e2)
  | .bin op a b, penv, env, st, E, Q, h, ok, hr => by
    rw [evE_bin]
    refine bindS (pE_snd hF a h ok hr) fun p d st1 h r1 k1 ok1 => ?_
    refine bindS (pE_snd hF b h ok1 (hr.kp ok k1)) fun q e st2 h r2 k2 ok2 => ?_
    obtain ⟨r, e1, q⟩ := h
    exact binS ok2 (r1.kp ok1 k2) r2 e1 q
  | .neg a, penv, env, st, E, Q, h, ok, hr => by
    rw [evE_neg]
    refine bindS (pE_snd hF a h ok hr) fun p d st1 h r1 k1 ok1 => ?_
    obtain ⟨i, rfl, q⟩ := h
    cases r1
    exact okS ok1 q rfl
  | .cmp op a b, penv, env, st, E, Q, h, ok, hr => by
    rw [evE_cmp]
    refine bindS (pE_snd hF a h ok hr) fun p d st1 h r1 k1 ok1 => ?_
    refine bindS (pE_snd hF b h ok1 (hr.kp ok k1)) fun q e st2 h r2 k2 ok2 => ?_
    obtain ⟨c, e1, q⟩ := h
    exact cmpS ok2 (r1.kp ok1 k2) r2 e1 q
  | .chain o1 o2 a b c, penv, env, st, E, Q, h, ok, hr => by
    rw [evE_chain]
    refine bindS (pE_snd hF a h ok hr) fun p d st1 h r1 k1 ok1 => ?_
    refine bindS (pE_snd hF b h ok1 (hr.kp ok k1)) fun q e st2 h r2 k2 ok2 => ?_
    obtain ⟨k, e1, h⟩ := h
    rw [cmp_snd (r1.kp ok1 k2) r2 e1]
    refine bindS (rel := fun _ b a => b = a) (Q := (· = k)) (okS ok2 rfl rfl) fun k' a st3 e r3 k3 ok3 => ?_
    subst e
    subst r3
    split
    · rename_i z
      rw [if_pos z] at h
      refine bindS (pE_snd hF c h ok3 ((hr.kp ok k1).kp ok1 (k2.trans k3))) fun r g st4 h r4 k4 ok4 => ?_
      obtain ⟨m, e2, q⟩ := h
      exact cmpS ok4 (r2.kp ok2 (k3.trans k4)) r4 e2 q
    · rename_i z
      rw [if_neg z] at h
      exact okS ok3 h rfl
  | .and_ a b, penv, env, st, E, Q, h, ok, hr => by
    rw [evE_and]
    refine bindS (pE_snd hF a h ok hr) fun p d st1 h r1 k1 ok1 => ?_
    obtain ⟨k, e, h⟩ := h
    rw [asBoolE r1 e]
    show ResP _ _ _ _ _ _
    unfold R.bind
    dsimp only
    split
    · rename_i z
      rw [if_pos z] at h
      exact pE_snd hF b h ok1 (hr.kp ok k1)
    · rename_i z
      rw [if_neg z] at h
      exact okS ok1 h rfl
  | .or_ a b, penv, env, st, E, Q, h, ok, hr => by
    rw [evE_or]
    refine bindS (pE_snd hF a h ok hr) fun p d st1 h r1 k1 ok1 => ?_
    obtain ⟨k, e, h⟩ := h
    rw [asBoolE r1 e]
    show ResP _ _ _ _ _ _
    unfold R.bind
    dsimp only
    split
    · rename_i z
      rw [if_pos z] at h
      exact okS ok1 h rfl
    · rename_i z
      rw [if_neg z] at h
      exact pE_snd hF b h ok1 (hr.kp ok k1)
  | .not_ a, penv, env, st, E, Q, h, ok, hr => by
    rw [evE_not]
    refine bindS (pE_snd hF a h ok hr) fun p d st1 h r1 k1 ok1 => ?_
    obtain ⟨k, e, h⟩ := h
    rw [asBoolE r1 e]
    show ResP _ _ _ _ _ _
    unfold R.bind
    dsimp only
    exact okS ok1 h rfl
  | .ife c a b, penv, env, st, E, Q, h, ok, hr => by
    rw [evE_ife]
    refine bindS (pE_snd hF c h ok hr) fun p d st1 h r1 k1 ok1 => ?_
    obtain ⟨k, e, h⟩ := h
    rw [asBoolE r1 e]
    show ResP _ _ _ _ _ _
    unfold R.bind
    dsimp only
    split
    · rename_i z
      rw [if_pos z] at h
      exact pE_snd hF a h ok1 (hr.kp ok k1)
    · rename_i z
      rw [if_neg z] at h
      exact pE_snd hF b h ok1 (hr.kp ok k1)
  | .tup es, penv, env, st, E, Q, h, ok, hr => by
    rw [evE_tup]
    refine bindS (pEs_snd hF es h ok hr) fun ps ds st1 h r1 k1 ok1 => ?_
    rw [if_pos (by rw [r1.length]; exact h.1)]
    exact okS ok1 h.2 ⟨ds, rfl, r1⟩
  | .lst es, penv, env, st, E, Q, h, ok, hr => by
    rw [evE_lst]
    refine bindS (pEs_snd hF es h ok hr) fun ps ds st1 h r1 k1 ok1 => ?_
    rw [if_pos (by rw [r1.length]; exact h.1)]
    exact allocS ok1 r1 h.2
  | .dnew, penv, env, st, E, Q, h, ok, hr => by
    rw [evE_dnew]
    exact allocKS ok h
  | .dlt ks es, penv, env, st, E, Q, h, ok, hr => by
    rw [evE_dlt]
    refine bindS (pEs_snd hF es h ok hr) fun ps ds st1 h r1 k1 ok1 => ?_
    exact allocDS ok1 r1 (by rw [r1.length]; exact h.1) h.2
  | .sub a i, penv, env, st, E, Q, h, ok, hr => by
    rw [evE_sub]
    refine bindS (pE_snd hF a h ok hr) fun p d st1 h r1 k1 ok1 => ?_
    refine bindS (pE_snd hF i h ok1 (hr.kp ok k1)) fun q e st2 h r2 k2 ok2 => ?_
    obtain ⟨r, e1, q⟩ := h
    exact subS ok2 (r1.kp ok1 k2) r2 e1 q
  | .slc a lo hi, penv, env, st, E, Q, h, ok, hr => by
    rw [evE_slc]
    refine bindS (pE_snd hF a h ok hr) fun p d st1 h r1 k1 ok1 => ?_
    refine bindS (pP_snd hF lo h ok1 (hr.kp ok k1)) fun l l' st2 h r2 k2 ok2 => ?_
    refine bindS (pP_snd hF hi h ok2 ((hr.kp ok k1).kp ok1 k2)) fun l2 l2' st3 h r3 k3 ok3 => ?_
    subst r2
    subst r3
    obtain ⟨r, e1, q⟩ := h
    exact slcS ok3 (r1.kp ok1 (k2.trans k3)) e1 q
  | .call f es, penv, env, st, E, Q, h, ok, hr => by
    rw [evE_call]
    obtain ⟨hio, h⟩ := h
    refine bindS (pEs_snd hF es h ok hr) fun ps ds st1 h r1 k1 ok1 => ?_
    exact (callS hF hio h ok1 r1).mono (fun d st' ⟨r, _, _, h1, h2, _, h3, h4⟩ => ⟨r, h1, h2, h3, h4⟩) fun _ _ h => h
  | .callk f es ks ws, penv, env, st, E, Q, h, ok, hr => by
    rw [evE_callk]
    obtain ⟨hio, fn, e1, h⟩ := h
    refine bindS (pEs_snd hF es h ok hr) fun ps ds st1 h r1 k1 ok1 => ?_
    refine bindS (pEs_snd hF ws h ok1 (hr.kp ok k1)) fun zs zd st2 h r2 k2 ok2 => ?_
    obtain ⟨as, e2, h⟩ := h
    obtain ⟨bs, e3, r3⟩ := bindKw_snd (r1.kp ok1 k2) r2 e2
    rw [e1]
    dsimp only
    rw [e3]
    exact (callS hF hio h ok2 r3).mono (fun d st' ⟨r, _, _, h1, h2, _, h3, h4⟩ => ⟨r, h1, h2, h3, h4⟩) fun _ _ h => h
  | .blt b es, penv, env, st, E, Q, h, ok, hr => by
    rw [evE_blt]
    refine bindS (pEs_snd hF es h ok hr) fun ps ds st1 h r1 k1 ok1 => ?_
    obtain ⟨r, e1, q⟩ := h
    exact bltS ok1 r1 e1 q
  | .op1 o a, penv, env, st, E, Q, h, ok, hr => by
    rw [evE_op1]
    refine bindS (pE_snd hF a h ok hr) fun p d st1 h r1 k1 ok1 => ?_
    obtain ⟨r, e1, q⟩ := h
    exact op1S ok1 r1 e1 q
  | .op2 o a b, penv, env, st, E, Q, h, ok, hr => by
    rw [evE_op2]
    refine bindS (pE_snd hF a h ok hr) fun p d st1 h r1 k1 ok1 => ?_
    refine bindS (pE_snd hF b h ok1 (hr.kp ok k1)) fun q e st2 h r2 k2 ok2 => ?_
    obtain ⟨r, e1, q⟩ := h
    exact op2S ok2 (r1.kp ok1 k2) r2 e1 q
  | .isi a t, penv, env, st, E, Q, h, ok, hr => by
    rw [evE_isi]
    refine bindS (pE_snd hF a h ok hr) fun p d st1 h r1 k1 ok1 => ?_
    obtain ⟨c, e1, q⟩ := h
    rw [isi_snd r1 e1]
    exact okS ok1 q rfl
  | .meth m o es, penv, env, st, E, Q, h, ok, hr => by
    rw [evE_meth]
    refine bindS (pE_snd hF o h ok hr) fun p d st1 h r1 k1 ok1 => ?_
    obtain ⟨hp, h⟩ := h
    have hl : ∃ xs, rcvD m st1 d = some xs := by
      rcases hp with ⟨ys, rfl⟩ | ⟨rfl, ys, rfl⟩
      · obtain ⟨l, ds, rfl, a, s, _⟩ := r1
        exact ⟨_, listOf_lst s⟩
      · obtain ⟨ds, rfl, _⟩ := r1
        exact ⟨_, rfl⟩
    obtain ⟨xs, e0⟩ := hl
    rw [e0]
    dsimp only
    refine bindS (pEs_snd hF es h ok1 (hr.kp ok k1)) fun ps ds st2 h r2 k2 ok2 => ?_
    obtain ⟨r, e1, q⟩ := h
    exact (mthS ok2 (r1.kp ok1 k2) r2 e1 q).2
  | .lc elt tg it cond own, penv, env, st, E, Q, h, ok, hr => by
    rw [evE_lc]
    unfold pE at h
    refine bindS (pI_snd hF it (Q := fun p => pLc _ p.2 [] _) h ok hr) fun p s st1 h r1 k1 ok1 => ?_
    have hr1 := hr.kp ok k1
    refine bindS (noexS (lc_sound (st0 := st1) (fun p d st2 K r k ok2 h => ?_) (r1.still ok1) _ _ [] [] st1 _ r1.1 rfl (Kp.refl _ _) ok1 h)) fun ys ds st2 h r2 k2 ok2 => allocS ok2 r2 h
    obtain ⟨penv2, env2, e1, h, hr2⟩ := pT_sound (T := T) (G := G) (F := FS) h r ((hr1.kp ok1 k).wipe own)
    rw [e1]
    show R.sat ((evC T G FS cond env2 st2).noex.bind _) _ _
    refine bindS (noexS (pC_snd hF cond h ok2 hr2)) fun b a st3 h rb k3 ok3 => ?_
    subst rb
    split
    · rename_i z
      rw [if_pos z] at h
      refine bindS (noexS (pE_snd hF elt h ok3 (hr2.kp ok2 k3))) fun y y' st4 h r4 k4 ok4 => ?_
      exact okS ok4 h r4
    · rename_i z
      rw [if_neg z] at h
      exact okS (b := none) ok3 h trivial
theorem pC_snd (hF : FSound IO FP FS) : ∀ (c : Pt) {penv : PE} {env : En} {st : Sto} {Q : Bool → Prop}, pC T G IO FP c penv Q → Ok l0 A st → PEr l0 A st penv env → (evC T G FS c env st).sat (Snd l0 A st (fun _ b a => b = a) Q) (XS l0 A st noX)
  | .none, penv, env, st, Q, h, ok, hr => by
    rw [evC_none]
    exact okS ok h rfl
  | .some c, penv, env, st, Q, h, ok, hr => by
    rw [evC_some]
    refine bindS (pE_snd hF c h ok hr) fun p d st1 h r1 k1 ok1 => ?_
    obtain ⟨k, e, h⟩ := h
    exact asBoolS ok1 r1 e h
theorem pP_snd (hF : FSound IO FP FS) : ∀ (c : Pt) {penv : PE} {env : En} {st : Sto} {E : PX → Prop} {Q : Option Int → Prop}, pP T G IO FP c penv E Q → Ok l0 A st → PEr l0 A st penv env → (evP T G FS c env st).sat (Snd l0 A st (fun _ b a => b = a) Q) (XS l0 A st E)
  | .none, penv, env, st, E, Q, h, ok, hr => by
    rw [evP_none]
    exact okS ok h rfl
  | .some c, penv, env, st, E, Q, h, ok, hr => by
    rw [evP_some]
    refine bindS (pE_snd hF c h ok hr) fun p d st1 h r1 k1 ok1 => ?_
    obtain ⟨k, e, h⟩ := h
    subst e
    cases r1
    exact okS ok1 h rfl
theorem pEs_snd (hF : FSound IO FP FS) : ∀ (c : CEs) {penv : PE} {env : En} {st : Sto} {E : PX → Prop} {Q : List PV → Prop}, pEs T G IO FP c penv E Q → Ok l0 A st → PEr l0 A st penv env → (evEs T G FS c env st).sat (Snd l0 A st (Reps l0 A) Q) (XS l0 A st E)
  | .nil, penv, env, st, E, Q, h, ok, hr => by
    rw [evEs_nil]
    exact okS ok h rfl
  | .cons e es, penv, env, st, E, Q, h, ok, hr => by
    rw [evEs_cons]
    refine bindS (pE_snd hF e h ok hr) fun p d st1 h r1 k1 ok1 => ?_
    refine bindS (pEs_snd hF es h ok1 (hr.kp ok k1)) fun ps ds st2 h r2 k2 ok2 => ?_
    exact okS ok2 h ⟨d, ds, rfl, r1.kp ok1 k2, r2⟩
theorem pI_snd (hF : FSound IO FP FS) : ∀ (c : Itr) {penv : PE} {env : En} {st : Sto} {E : PX → Prop} {Q : List PV × List PV → Prop}, pI T G IO FP c penv E (fun a b => Q (a, b)) → Ok l0 A st → PEr l0 A st penv env → (evI T G FS c env st).sat (Snd l0 A st (relI l0 A) Q) (XS l0 A st E)
  | .seq e, penv, env, st, E, Q, h, ok, hr => by
    rw [evI_seq]
    refine bindS (pE_snd hF e h ok hr) fun p d st1 h r1 k1 ok1 => ?_
    obtain ⟨xs, e1, q⟩ := h
    exact srcSeqS ok1 r1 e1 q
  | .rng1 a, penv, env, st, E, Q, h, ok, hr => by
    rw [evI_rng1]
    refine bindS (pE_snd hF a h ok hr) fun p d st1 h r1 k1 ok1 => ?_
    obtain ⟨xs, e1, q⟩ := h
    exact srcRngS ok1 (p := .int 0) rfl r1 e1 q
  | .rng2 a b, penv, env, st, E, Q, h, ok, hr => by
    rw [evI_rng2]
    refine bindS (pE_snd hF a h ok hr) fun p d st1 h r1 k1 ok1 => ?_
    refine bindS (pE_snd hF b h ok1 (hr.kp ok k1)) fun q e st2 h r2 k2 ok2 => ?_
    obtain ⟨xs, e1, q⟩ := h
    exact srcRngS ok2 (r1.kp ok1 k2) r2 e1 q
  | .rngd a b, penv, env, st, E, Q, h, ok, hr => by
    rw [evI_rngd]
    refine bindS (pE_snd hF a h ok hr) fun p d st1 h r1 k1 ok1 => ?_
    refine bindS (pE_snd hF b h ok1 (hr.kp ok k1)) fun q e st2 h r2 k2 ok2 => ?_
    obtain ⟨xs, e1, q⟩ := h
    exact srcRngdS ok2 (r1.kp ok1 k2) r2 e1 q
  | .enum a, penv, env, st, E, Q, h, ok, hr => by
    rw [evI_enum]
    refine bindS (pE_snd hF a h ok hr) fun p d st1 h r1 k1 ok1 => ?_
    obtain ⟨xs, e1, q⟩ := h
    exact srcEnumS ok1 r1 e1 q
  | .zip a b, penv, env, st, E, Q, h, ok, hr => by
    rw [evI_zip]
    refine bindS (pE_snd hF a h ok hr) fun p d st1 h r1 k1 ok1 => ?_
    refine bindS (pE_snd hF b h ok1 (hr.kp ok k1)) fun q e st2 h r2 k2 ok2 => ?_
    obtain ⟨xs, e1, q⟩ := h
    exact srcZipS ok2 (r1.kp ok1 k2) r2 e1 q
end
end
end
end Ab

set_option Elab.async false
set_option linter.all false
set_option autoImplicit false
set_option maxRecDepth 10000
/-! AbPureK: slots that own; what a store change leaves. -/
namespace Ab
open PySem
section
variable {l0 : Nat} {A B : Nat → Prop} {st st' : Sto}
/-! one value for one thing -/
theorem lst_flatten {ds es : List D} {f g : Bool} {o : Option AO} (h : o = some (.lst f ds)) (h' : o = some (.lst g es)) : ds = es := by rw [h] at h'; cases h'; rfl
mutual
theorem Rep.fun (hp : Pok l0 st) (ha : ¬ A l0) : ∀ (p q : PV) (d : D), Rep l0 A st p d → Rep l0 A st q d → p = q
  | .non, q, d, h, h' => by cases h; exact Rep.funA (by intro l e; cases e) (by intro ds e; cases e) (by intro ds e; cases e) h' rfl
  | .bl b, q, d, h, h' => by cases h; exact Rep.funA (by intro l e; cases e) (by intro ds e; cases e) (by intro ds e; cases e) h' rfl
  | .int i, q, d, h, h' => by cases h; exact Rep.funA (by intro l e; cases e) (by intro ds e; cases e) (by intro ds e; cases e) h' rfl
  | .str x, q, d, h, h' => by cases h; exact Rep.funA (by intro l e; cases e) (by intro ds e; cases e) (by intro ds e; cases e) h' rfl
  | .fn x, q, d, h, h' => by cases h; exact Rep.funA (by intro l e; cases e) (by intro ds e; cases e) (by intro ds e; cases e) h' rfl
  | .pool, q, d, h, h' => by
    cases h
    cases q with
    | pool => rfl
    | lst qs => obtain ⟨l, ds, e, a, _⟩ := h'; cases e; exact absurd a ha
    | dct ks qs => obtain ⟨l, ds, e, a, _⟩ := h'; cases e; exact absurd a ha
    | tup qs => obtain ⟨ds, e, _⟩ := h'; cases e
    | itm qs => obtain ⟨ds, e, _⟩ := h'; cases e
    | _ => cases h'
  | .tup ps, q, d, h, h' => by
    obtain ⟨ds, rfl, h1⟩ := h
    cases q with
    | tup qs => obtain ⟨ds', e, h2⟩ := h'; cases e; rw [Reps.fun hp ha ps qs ds h1 h2]
    | itm qs => obtain ⟨ds', e, h2⟩ := h'; cases e
    | lst qs => obtain ⟨l, ds', e, _⟩ := h'; cases e
    | dct ks qs => obtain ⟨l, ds', e, _⟩ := h'; cases e
    | _ => cases h'
  | .itm ps, q, d, h, h' => by
    obtain ⟨ds, rfl, h1⟩ := h
    cases q with
    | itm qs => obtain ⟨ds', e, h2⟩ := h'; cases e; rw [Reps.fun hp ha ps qs ds h1 h2]
    | tup qs => obtain ⟨ds', e, h2⟩ := h'; cases e
    | lst qs => obtain ⟨l, ds', e, _⟩ := h'; cases e
    | dct ks qs => obtain ⟨l, ds', e, _⟩ := h'; cases e
    | _ => cases h'
  | .lst ps, q, d, h, h' => by
    obtain ⟨l, ds, rfl, a, s, h1⟩ := h
    cases q with
    | tup qs => obtain ⟨ds', e, h2⟩ := h'; cases e
    | itm qs => obtain ⟨ds', e, h2⟩ := h'; cases e
    | lst qs =>
      obtain ⟨l', ds', e, _, s', h2⟩ := h'
      cases e
      rw [s] at s'
      cases s'
      rw [Reps.fun hp ha ps qs ds h1 h2]
    | dct ks qs =>
      obtain ⟨l', ds', e, _, s', h2⟩ := h'
      cases e
      rw [s] at s'
      cases s'
    | pool => cases h'; exact absurd a ha
    | _ => cases h'
  | .dct ks ps, q, d, h, h' => by
    obtain ⟨l, ws, rfl, a, s, e1, h1⟩ := h
    cases q with
    | tup qs => obtain ⟨ds', e, h2⟩ := h'; cases e
    | itm qs => obtain ⟨ds', e, h2⟩ := h'; cases e
    | dct ks' qs =>
      obtain ⟨l', ds', e, _, s', e2, h2⟩ := h'
      cases e
      rw [s] at s'
      cases s'
      rw [Reps.fun hp ha ps qs _ h1 h2, ← e1, ← e2]
    | lst qs =>
      obtain ⟨l', ds', e, _, s', h2⟩ := h'
      cases e
      rw [s] at s'
      cases s'
    | pool => cases h'; exact absurd a ha
    | _ => cases h'
theorem Reps.fun (hp : Pok l0 st) (ha : ¬ A l0) : ∀ (ps qs : List PV) (ds : List D), Reps l0 A st ps ds → Reps l0 A st qs ds → ps = qs
  | [], qs, ds, h, h' => by
    cases h
    cases qs with
    | nil => rfl
    | cons q qs => obtain ⟨d, r, e, _⟩ := h'; cases e
  | p :: ps, qs, ds, h, h' => by
    obtain ⟨d, r, rfl, h1, h2⟩ := h
    cases qs with
    | nil => cases h'
    | cons q qs =>
      obtain ⟨d', r', e, h3, h4⟩ := h'
      cases e
      rw [Rep.fun hp ha p q d h1 h3, Reps.fun hp ha ps qs r h2 h4]
/-- a thing that is neither a tuple nor at a place -/
theorem Rep.funA {p q : PV} {d : D} (h1 : ∀ l, d ≠ .ref l) (h2 : ∀ ds, d ≠ .tup ds) (h3 : ∀ ds, d ≠ .itm ds) (h : Rep l0 A st q d) (h' : Rep l0 A st p d) : p = q := by
  cases q with
  | tup qs => obtain ⟨ds, e, _⟩ := h; exact absurd e (h2 _)
  | itm qs => obtain ⟨ds, e, _⟩ := h; exact absurd e (h3 _)
  | lst qs => obtain ⟨l, ds, e, _⟩ := h; exact absurd e (h1 _)
  | dct ks qs => obtain ⟨l, ds, e, _⟩ := h; exact absurd e (h1 _)
  | pool => exact absurd h (h1 _)
  | _ =>
    cases h
    cases p with
    | tup qs => obtain ⟨ds, e, _⟩ := h'; cases e
    | itm qs => obtain ⟨ds, e, _⟩ := h'; cases e
    | lst qs => obtain ⟨l, ds, e, _⟩ := h'; cases e
    | dct ks qs => obtain ⟨l, ds, e, _⟩ := h'; cases e
    | pool => cases h'
    | _ => cases h' <;> rfl
end
mutual
/-- what stands within a thing does not stand at the thing's own place -/
theorem Rep.avoid (hp : Pok l0 st) (ha : ¬ A l0) {l : Nat} {P : PV} (hP : Rep l0 A st P (.ref l)) : ∀ (q : PV) (d : D), sizeOf q < sizeOf P → Rep l0 A st q d → Rep l0 (fun m => A m ∧ m ≠ l) st q d
  | .non, _, _, h => h
  | .bl _, _, _, h => h
  | .int _, _, _, h => h
  | .str _, _, _, h => h
  | .fn _, _, _, h => h
  | .pool, _, _, h => h
  | .tup ps, _, z, ⟨ds, e, h⟩ => ⟨ds, e, Reps.avoid hp ha hP ps ds (by simp only [PV.tup.sizeOf_spec] at z; omega) h⟩
  | .itm ps, _, z, ⟨ds, e, h⟩ => ⟨ds, e, Reps.avoid hp ha hP ps ds (by simp only [PV.itm.sizeOf_spec] at z; omega) h⟩
  | .lst ps, _, z, ⟨m, ds, e, a, s, h⟩ => ⟨m, ds, e, ⟨a, fun k => by
      subst k
      have := Rep.fun hp ha P (.lst ps) _ hP ⟨m, ds, rfl, a, s, h⟩
      rw [this] at z
      exact Nat.lt_irrefl _ z⟩, s, Reps.avoid hp ha hP ps ds (by simp only [PV.lst.sizeOf_spec] at z; omega) h⟩
  | .dct ks ps, _, z, ⟨m, ds, e, a, s, e2, h⟩ => ⟨m, ds, e, ⟨a, fun k => by
      subst k
      have := Rep.fun hp ha P (.dct ks ps) _ hP ⟨m, ds, rfl, a, s, e2, h⟩
      rw [this] at z
      exact Nat.lt_irrefl _ z⟩, s, e2, Reps.avoid hp ha hP ps _ (by simp only [PV.dct.sizeOf_spec] at z; omega) h⟩
theorem Reps.avoid (hp : Pok l0 st) (ha : ¬ A l0) {l : Nat} {P : PV} (hP : Rep l0 A st P (.ref l)) : ∀ (qs : List PV) (ds : List D), sizeOf qs < sizeOf P → Reps l0 A st qs ds → Reps l0 (fun m => A m ∧ m ≠ l) st qs ds
  | [], _, _, h => h
  | q :: qs, _, z, ⟨d, r, e, h1, h2⟩ => ⟨d, r, e, Rep.avoid hp ha hP q d (by simp only [List.cons.sizeOf_spec] at z; omega) h1, Reps.avoid hp ha hP qs r (by simp only [List.cons.sizeOf_spec] at z; omega) h2⟩
end
theorem Rep.own (ok : Ok l0 A st) {p : PV} {l : Nat} (h : Rep l0 A st p (.ref l)) (hc : p.cell = true) : A l ∧ Own l0 (fun m => A m ∧ m ≠ l) st p l := by
  cases p with
  | lst ps =>
    obtain ⟨m, ds, e, a, s, h1⟩ := h
    cases e
    refine ⟨a, ds, s, Reps.avoid ok.pok ok.na (P := .lst ps) ⟨l, ds, rfl, a, s, h1⟩ ps ds (by simp only [PV.lst.sizeOf_spec]; omega) h1⟩
  | dct ks ps =>
    obtain ⟨m, ds, e, a, s, e2, h1⟩ := h
    cases e
    refine ⟨a, ds, s, e2, Reps.avoid ok.pok ok.na (P := .dct ks ps) ⟨l, ds, rfl, a, s, e2, h1⟩ ps _ (by simp only [PV.dct.sizeOf_spec]; omega) h1⟩
  | _ => cases hc
theorem Own.mono {p : PV} {l : Nat} (h : ∀ (m : Nat) (o : AO), A m → st[m]? = some o → B m ∧ st'[m]? = some o) (hl : ∀ o, st[l]? = some o → st'[l]? = some o) (q : Own l0 A st p l) : Own l0 B st' p l := by
  cases p with
  | lst ps => obtain ⟨ds, s, h1⟩ := q; exact ⟨ds, hl _ s, Reps.mono h _ _ h1⟩
  | dct ks ps => obtain ⟨ds, s, e, h1⟩ := q; exact ⟨ds, hl _ s, e, Reps.mono h _ _ h1⟩
  | _ => exact q.elim
theorem Own.lt {p : PV} {l : Nat} (q : Own l0 A st p l) : l < st.length := by
  cases p with
  | lst ps => obtain ⟨ds, s, h1⟩ := q; exact (List.getElem?_eq_some_iff.mp s).1
  | dct ks ps => obtain ⟨ds, s, e, h1⟩ := q; exact (List.getElem?_eq_some_iff.mp s).1
  | _ => exact q.elim
theorem Own.rep {p : PV} {l : Nat} (h : ∀ m, A m → B m) (hl : B l) (q : Own l0 A st p l) : Rep l0 B st p (.ref l) := by
  cases p with
  | lst ps => obtain ⟨ds, s, h1⟩ := q; exact ⟨l, ds, rfl, hl, s, Reps.mono (fun m o a e => ⟨h m a, e⟩) _ _ h1⟩
  | dct ks ps => obtain ⟨ds, s, e, h1⟩ := q; exact ⟨l, ds, rfl, hl, s, e, Reps.mono (fun m o a e => ⟨h m a, e⟩) _ _ h1⟩
  | _ => exact q.elim
end
/-! slots -/
/-- the places that slots own -/
def OwC (penv : PE) (env : En) (l : Nat) : Prop := ∃ (i : Nat) (t : Option Nat) (p : PV), penv[i]? = some (.ow t p) ∧ env[i]? = some (some (.ref l))
def Fz (A : Nat → Prop) (penv : PE) (env : En) : Nat → Prop := fun l => A l ∧ ¬ OwC penv env l
def MarkOk (A : Nat → Prop) (n0 : Nat) (L : Nat → Nat) (t : Option Nat) (l : Nat) : Prop := match t with
  | none => A l ∧ n0 ≤ l
  | some j => l = L j ∧ ¬ A l
structure PEok (l0 : Nat) (A : Nat → Prop) (n0 : Nat) (L : Nat → Nat) (st : Sto) (penv : PE) (env : En) : Prop where
  len : penv.length = env.length
  fz : ∀ (i : Nat) (p : PV), penv[i]? = some (.fz p) → ∃ d, env[i]? = some (some d) ∧ Rep l0 (Fz A penv env) st p d
  ow : ∀ (i : Nat) (t : Option Nat) (p : PV), penv[i]? = some (.ow t p) → ∃ l, env[i]? = some (some (.ref l)) ∧ l ≠ l0 ∧ Own l0 (Fz A penv env) st p l ∧ MarkOk A n0 L t l
  inj : ∀ (i j : Nat) (t u : Option Nat) (p q : PV) (l : Nat), penv[i]? = some (.ow t p) → penv[j]? = some (.ow u q) → env[i]? = some (some (.ref l)) → env[j]? = some (some (.ref l)) → i = j
/-- what stays -/
def Fm (l0 : Nat) (penv : PE) (env : En) (st : Sto) (penv' : PE) (env' : En) (st' : Sto) : Prop := st.length ≤ st'.length ∧ ∀ (l : Nat) (o : AO), l ≠ l0 → ¬ OwC penv env l → st[l]? = some o → st'[l]? = some o ∧ ¬ OwC penv' env' l
section
variable {l0 : Nat} {A : Nat → Prop} {n0 : Nat} {L : Nat → Nat} {st st' : Sto} {penv : PE} {env : En}
theorem Fm.refl : Fm l0 penv env st penv env st := ⟨Nat.le_refl _, fun _ _ _ h e => ⟨e, h⟩⟩
theorem Fm.trans {p1 p2 p3 : PE} {e1 e2 e3 : En} {s1 s2 s3 : Sto} (a : Fm l0 p1 e1 s1 p2 e2 s2) (b : Fm l0 p2 e2 s2 p3 e3 s3) : Fm l0 p1 e1 s1 p3 e3 s3 :=
  ⟨Nat.le_trans a.1 b.1, fun l o n h e => let ⟨e1, h1⟩ := a.2 l o n h e; b.2 l o n h1 e1⟩
theorem Fm.kp (k : Kp l0 st st') (hl : st.length ≤ st'.length) : Fm l0 penv env st penv env st' := ⟨hl, fun l o n h e => ⟨k l o n e, h⟩⟩
theorem PEok.lt (h : PEok l0 A n0 L st penv env) {l : Nat} (o : OwC penv env l) : l < st.length ∧ l ≠ l0 := by
  obtain ⟨i, t, p, h1, h2⟩ := o
  obtain ⟨m, h3, h4, h5, _⟩ := h.ow i t p h1
  rw [h2] at h3
  cases h3
  exact ⟨h5.lt, h4⟩
/-- marks of slots -/
def noOwn (s s' : Sl) : Prop := match s' with
  | .ow t p => s = .ow t p
  | .fz p => s = .fz p ∨ s = .ow none p
  | .no => True
/-- fewer owned slots, no more values -/
theorem PEok.less (h : PEok l0 A n0 L st penv env) {penv' : PE} (hl : penv'.length = penv.length) (hs : ∀ (i : Nat) (s s' : Sl), penv[i]? = some s → penv'[i]? = some s' → noOwn s s') : PEok l0 A n0 L st penv' env ∧ ∀ l, OwC penv' env l → OwC penv env l := by
  have get : ∀ {i : Nat} {s' : Sl}, penv'[i]? = some s' → ∃ s, penv[i]? = some s ∧ noOwn s s' := fun {i s'} e => by
    have hi := (List.getElem?_eq_some_iff.mp e).1
    have e2 : penv[i]? = some (penv[i]'(by omega)) := List.getElem?_eq_getElem (by omega)
    exact ⟨_, e2, hs _ _ _ e2 e⟩
  have sub : ∀ l, OwC penv' env l → OwC penv env l := fun l ⟨i, t, p, h1, h2⟩ => by
    obtain ⟨s, e, hs⟩ := get h1
    have hs : s = .ow t p := hs
    exact ⟨i, t, p, by rw [e, hs], h2⟩
  have fz : ∀ l, Fz A penv env l → Fz A penv' env l := fun l ⟨a, n⟩ => ⟨a, fun o => n (sub l o)⟩
  refine ⟨⟨by rw [hl, h.len], fun i p e => ?_, fun i t p e => ?_, fun i j t u p q l e1 e2 => ?_⟩, sub⟩
  · obtain ⟨s, e1, hs⟩ := get e
    rcases hs with rfl | rfl
    · obtain ⟨d, h1, h2⟩ := h.fz i p e1
      exact ⟨d, h1, h2.mono fun l o a e => ⟨fz l a, e⟩⟩
    · obtain ⟨l, h1, h2, h3, h4⟩ := h.ow i none p e1
      refine ⟨_, h1, h3.rep fz ⟨h4.1, fun ⟨j, t, q, h5, h6⟩ => ?_⟩⟩
      obtain ⟨s, e2, hs⟩ := get h5
      have hs : s = .ow t q := hs
      subst hs
      have := h.inj i j none t p q l e1 e2 h1 h6
      subst this
      rw [e] at h5
      cases h5
  · obtain ⟨s, e1, hs⟩ := get e
    have hs : s = .ow t p := hs
    subst hs
    obtain ⟨l, h1, h2, h3, h4⟩ := h.ow i t p e1
    exact ⟨l, h1, h2, h3.mono (fun m o a e => ⟨fz m a, e⟩) (fun _ e => e), h4⟩
  · obtain ⟨s, e3, hs⟩ := get e1
    have hs : s = .ow t p := hs
    subst hs
    obtain ⟨s, e4, hs⟩ := get e2
    have hs : s = .ow u q := hs
    subst hs
    exact h.inj i j t u p q l e3 e4
theorem hideFrom_at (os : List Nat) : ∀ (k : Nat) (env : PE) (i : Nat), (hideFrom os k env)[i]? = env[i]?.map (hideS os (k + i))
  | k, [], i => by simp [hideFrom]
  | k, s :: r, 0 => by simp [hideFrom]
  | k, s :: r, i + 1 => by
    show (hideFrom os (k + 1) r)[i]? = _
    rw [hideFrom_at os (k + 1) r i, show k + 1 + i = k + (i + 1) from by omega]
    rfl
theorem dnFrom_at (os : List Nat) : ∀ (k : Nat) (env : PE) (i : Nat), (dnFrom os k env)[i]? = env[i]?.map (dnS os (k + i))
  | k, [], i => by simp [dnFrom]
  | k, s :: r, 0 => by simp [dnFrom]
  | k, s :: r, i + 1 => by
    show (dnFrom os (k + 1) r)[i]? = _
    rw [dnFrom_at os (k + 1) r i, show k + 1 + i = k + (i + 1) from by omega]
    rfl
theorem offFrom_at (os : List Nat) : ∀ (k : Nat) (env : PE) (i : Nat), (offFrom os k env)[i]? = env[i]?.map fun s => if os.elem (k + i) then .no else s
  | k, [], i => by simp [offFrom]
  | k, s :: r, 0 => by simp [offFrom]
  | k, s :: r, i + 1 => by
    show (offFrom os (k + 1) r)[i]? = _
    rw [offFrom_at os (k + 1) r i, show k + 1 + i = k + (i + 1) from by omega]
    rfl
theorem hideFrom_len (os : List Nat) : ∀ (k : Nat) (env : PE), (hideFrom os k env).length = env.length
  | k, [] => rfl
  | k, s :: r => by show (hideFrom os (k + 1) r).length + 1 = _; rw [hideFrom_len]; rfl
theorem dnFrom_len (os : List Nat) : ∀ (k : Nat) (env : PE), (dnFrom os k env).length = env.length
  | k, [] => rfl
  | k, s :: r => by show (dnFrom os (k + 1) r).length + 1 = _; rw [dnFrom_len]; rfl
theorem offFrom_len (os : List Nat) : ∀ (k : Nat) (env : PE), (offFrom os k env).length = env.length
  | k, [] => rfl
  | k, s :: r => by show (offFrom os (k + 1) r).length + 1 = _; rw [offFrom_len]; rfl
theorem dn_ok (h : PEok l0 A n0 L st penv env) (os : List Nat) : PEok l0 A n0 L st (dnAt os penv) env ∧ ∀ l, OwC (dnAt os penv) env l → OwC penv env l := by
  refine h.less (dnFrom_len os 0 penv) fun i s s' e1 e2 => ?_
  unfold dnAt at e2
  rw [dnFrom_at, e1] at e2
  cases e2
  cases s with
  | no => exact trivial
  | fz p => exact .inl rfl
  | ow t p =>
    cases t with
    | none =>
      show noOwn _ (if os.elem (0 + i) then .fz p else .ow none p)
      split
      · exact .inr rfl
      · exact rfl
    | some j => exact rfl
theorem hide_ok (h : PEok l0 A n0 L st penv env) (os : List Nat) : PEok l0 A n0 L st (hideBut os penv) env ∧ ∀ l, OwC (hideBut os penv) env l → OwC penv env l := by
  refine h.less (hideFrom_len os 0 penv) fun i s s' e1 e2 => ?_
  unfold hideBut at e2
  rw [hideFrom_at, e1] at e2
  cases e2
  cases s with
  | no => exact trivial
  | fz p => exact .inl rfl
  | ow t p =>
    cases t with
    | none =>
      show noOwn _ (if os.elem (0 + i) then .ow none p else .no)
      split
      · exact rfl
      · exact trivial
    | some j => exact trivial
theorem hide_none {l : Nat} : ¬ OwC (hideBut [] penv) env l := fun ⟨i, t, p, h1, h2⟩ => by
  unfold hideBut at h1
  rw [hideFrom_at] at h1
  cases e : penv[i]? with
  | none => rw [e] at h1; cases h1
  | some s =>
    rw [e] at h1
    cases s with
    | no => cases h1
    | fz p => cases h1
    | ow t p => cases t <;> cases h1
theorem off_ok (h : PEok l0 A n0 L st penv env) (os : List Nat) : PEok l0 A n0 L st (offAt os penv) env ∧ ∀ l, OwC (offAt os penv) env l → OwC penv env l := by
  refine h.less (offFrom_len os 0 penv) fun i s s' e1 e2 => ?_
  unfold offAt at e2
  rw [offFrom_at, e1] at e2
  have e2 : (if os.elem (0 + i) then Sl.no else s) = s' := Option.some.inj e2
  subst e2
  split
  · exact trivial
  · cases s with
    | no => exact trivial
    | fz p => exact .inl rfl
    | ow t p => exact rfl
/-- the store goes on -/
theorem PEok.kp (h : PEok l0 A n0 L st penv env) (na : ¬ A l0) (k : Kp l0 st st') : PEok l0 A n0 L st' penv env := by
  have mv : ∀ (l : Nat) (o : AO), Fz A penv env l → st[l]? = some o → Fz A penv env l ∧ st'[l]? = some o := fun l o a e => ⟨a, k l o (fun z => na (z ▸ a.1)) e⟩
  refine ⟨h.len, fun i p e => ?_, fun i t p e => ?_, h.inj⟩
  · obtain ⟨d, h1, h2⟩ := h.fz i p e
    exact ⟨d, h1, h2.mono mv⟩
  · obtain ⟨l, h1, h2, h3, h4⟩ := h.ow i t p e
    exact ⟨l, h1, h2, h3.mono mv (fun o e => k l o h2 e), h4⟩
/-- all slots are read -/
theorem PEok.readAll (h : PEok l0 A n0 L st penv env) : PEr l0 (fun l => A l ∨ OwC penv env l) st penv env := by
  refine ⟨h.len, fun i s p e r => ?_⟩
  cases s with
  | no => cases r
  | fz q =>
    cases r
    obtain ⟨d, h1, h2⟩ := h.fz i p e
    exact ⟨d, h1, h2.mono fun l o a e => ⟨.inl a.1, e⟩⟩
  | ow t q =>
    cases r
    obtain ⟨l, h1, h2, h3, h4⟩ := h.ow i t p e
    exact ⟨_, h1, h3.rep (fun m a => .inl a.1) (.inr ⟨i, t, p, e, h1⟩)⟩
theorem PEok.okAll (h : PEok l0 A n0 L st penv env) (ok : Ok l0 A st) : Ok l0 (fun l => A l ∨ OwC penv env l) st := ⟨ok.pok, fun o => o.elim ok.na fun o => (h.lt o).2 rfl, fun l q => .inl (ok.fut l q)⟩
/-- those that stay owned are not read -/
theorem PEok.readBut (h : PEok l0 A n0 L st penv env) (os : List Nat) : PEr l0 (Fz A (dnAt os penv) env) st (hideBut os penv) env := by
  obtain ⟨h1, h2⟩ := dn_ok h os
  refine ⟨by unfold hideBut; rw [hideFrom_len, h.len], fun i s p e r => ?_⟩
  unfold hideBut at e
  rw [hideFrom_at] at e
  cases e0 : penv[i]? with
  | none => rw [e0] at e; cases e
  | some s0 =>
    rw [e0] at e
    cases e
    cases s0 with
    | no => cases r
    | fz q =>
      cases r
      refine h1.fz i p ?_
      unfold dnAt
      rw [dnFrom_at, e0]
      rfl
    | ow t q =>
      cases t with
      | some j => cases r
      | none =>
        have r : rdS (if os.elem (0 + i) then .ow none q else .no) = some p := r
        split at r
        · rename_i z
          cases r
          refine h1.fz i p ?_
          unfold dnAt
          rw [dnFrom_at, e0]
          show some (if os.elem (0 + i) then Sl.fz p else .ow none p) = _
          rw [if_pos z]
        · cases r
theorem PEok.okBut (h : PEok l0 A n0 L st penv env) (ok : Ok l0 A st) : Ok l0 (Fz A penv env) st := ⟨ok.pok, fun o => ok.na o.1, fun l q => ⟨ok.fut l q, fun o => by have := (h.lt o).1; omega⟩⟩
theorem slot_set_get {α : Type} {xs : List α} {i j : Nat} {x y : α} (h : (xs.set i x)[j]? = some y) : (i = j ∧ x = y) ∨ (i ≠ j ∧ xs[j]? = some y) := by
  by_cases q : i = j
  · subst q
    by_cases hi : i < xs.length
    · rw [List.getElem?_set_self hi] at h
      exact .inl ⟨rfl, Option.some.inj h⟩
    · rw [List.getElem?_eq_none (by simpa using hi)] at h
      cases h
  · rw [List.getElem?_set_ne q] at h
    exact .inr ⟨q, h⟩
/-- a slot gets a value that is not its own -/
theorem PEok.setFz (h : PEok l0 A n0 L st penv env) (i : Nat) {p : PV} {d : D} (r : Rep l0 (Fz A penv env) st p d) : PEok l0 A n0 L st (penv.set i (.fz p)) (env.set i (some d)) ∧ ∀ l, OwC (penv.set i (.fz p)) (env.set i (some d)) l → OwC penv env l := by
  have sub : ∀ l, OwC (penv.set i (.fz p)) (env.set i (some d)) l → OwC penv env l := fun l ⟨j, t, q, h1, h2⟩ => by
    rcases slot_set_get h1 with ⟨_, z⟩ | ⟨n, h1⟩
    · cases z
    · rw [List.getElem?_set_ne n] at h2
      exact ⟨j, t, q, h1, h2⟩
  have fz : ∀ l, Fz A penv env l → Fz A (penv.set i (.fz p)) (env.set i (some d)) l := fun l ⟨a, n⟩ => ⟨a, fun o => n (sub l o)⟩
  have mv : ∀ (l : Nat) (o : AO), Fz A penv env l → st[l]? = some o → Fz A (penv.set i (.fz p)) (env.set i (some d)) l ∧ st[l]? = some o := fun l o a e => ⟨fz l a, e⟩
  refine ⟨⟨by simp [h.len], fun j q e => ?_, fun j t q e => ?_, fun j k t u q q' l e1 e2 e3 e4 => ?_⟩, sub⟩
  · rcases slot_set_get e with ⟨rfl, z⟩ | ⟨n, e⟩
    · cases z
      have hi : i < penv.length := by have := (List.getElem?_eq_some_iff.mp e).1; simpa using this
      exact ⟨d, by rw [List.getElem?_set_self (by rw [← h.len]; exact hi)], r.mono mv⟩
    · obtain ⟨d', h1, h2⟩ := h.fz j q e
      exact ⟨d', by rw [List.getElem?_set_ne n]; exact h1, h2.mono mv⟩
  · rcases slot_set_get e with ⟨rfl, z⟩ | ⟨n, e⟩
    · cases z
    · obtain ⟨l, h1, h2, h3, h4⟩ := h.ow j t q e
      exact ⟨l, by rw [List.getElem?_set_ne n]; exact h1, h2, h3.mono mv (fun _ e => e), h4⟩
  · rcases slot_set_get e1 with ⟨_, z⟩ | ⟨n1, e1⟩
    · cases z
    rcases slot_set_get e2 with ⟨_, z⟩ | ⟨n2, e2⟩
    · cases z
    rw [List.getElem?_set_ne n1] at e3
    rw [List.getElem?_set_ne n2] at e4
    exact h.inj j k t u q q' l e1 e2 e3 e4
/-- a slot gets a new thing of its own; the thing stands behind all that the slots know -/
theorem PEok.setOw (h : PEok l0 A n0 L st penv env) (na : ¬ A l0) (k : Kp l0 st st') (i : Nat) {p : PV} {l : Nat} (hl : st.length ≤ l) (hn : n0 ≤ l) (ha : A l) (r : Own l0 (fun m => Fz A penv env m ∧ m ≠ l) st' p l) : PEok l0 A n0 L st' (penv.set i (.ow none p)) (env.set i (some (.ref l))) ∧ ∀ m, OwC (penv.set i (.ow none p)) (env.set i (some (.ref l))) m → OwC penv env m ∨ m = l := by
  have sub : ∀ m, OwC (penv.set i (.ow none p)) (env.set i (some (.ref l))) m → OwC penv env m ∨ m = l := fun m ⟨j, t, q, h1, h2⟩ => by
    rcases slot_set_get h1 with ⟨rfl, z⟩ | ⟨n, h1⟩
    · rcases slot_set_get h2 with ⟨_, z⟩ | ⟨n, _⟩
      · cases z; exact .inr rfl
      · exact absurd rfl n
    · rw [List.getElem?_set_ne n] at h2
      exact .inl ⟨j, t, q, h1, h2⟩
  have fz : ∀ m, Fz A penv env m → m ≠ l → Fz A (penv.set i (.ow none p)) (env.set i (some (.ref l))) m := fun m ⟨a, n⟩ ne => ⟨a, fun o => (sub m o).elim n ne⟩
  have mv : ∀ (m : Nat) (o : AO), Fz A penv env m → st[m]? = some o → Fz A (penv.set i (.ow none p)) (env.set i (some (.ref l))) m ∧ st'[m]? = some o := fun m o a e => ⟨fz m a (by have := (List.getElem?_eq_some_iff.mp e).1; omega), k m o (fun z => na (z ▸ a.1)) e⟩
  have ne0 : l ≠ l0 := fun z => na (z ▸ ha)
  refine ⟨⟨by simp [h.len], fun j q e => ?_, fun j t q e => ?_, fun j j' t u q q' m e1 e2 e3 e4 => ?_⟩, sub⟩
  · rcases slot_set_get e with ⟨rfl, z⟩ | ⟨n, e⟩
    · cases z
    · obtain ⟨d', h1, h2⟩ := h.fz j q e
      exact ⟨d', by rw [List.getElem?_set_ne n]; exact h1, h2.mono mv⟩
  · rcases slot_set_get e with ⟨rfl, z⟩ | ⟨n, e⟩
    · cases z
      have hi : i < penv.length := by have := (List.getElem?_eq_some_iff.mp e).1; simpa using this
      exact ⟨l, by rw [List.getElem?_set_self (by rw [← h.len]; exact hi)], ne0, r.mono (fun m o a e => ⟨fz m a.1 a.2, e⟩) (fun _ e => e), ha, hn⟩
    · obtain ⟨m, h1, h2, h3, h4⟩ := h.ow j t q e
      exact ⟨m, by rw [List.getElem?_set_ne n]; exact h1, h2, h3.mono mv (fun o e => k m o h2 e), h4⟩
  · have old : ∀ {j : Nat} {t : Option Nat} {q : PV}, penv[j]? = some (.ow t q) → env[j]? = some (some (.ref m)) → m < st.length := fun {j t q} e1 e2 => (h.lt ⟨j, t, q, e1, e2⟩).1
    rcases slot_set_get e1 with ⟨z1, _⟩ | ⟨n1, e1⟩
    · rcases slot_set_get e2 with ⟨z2, _⟩ | ⟨n2, e2⟩
      · rw [← z1, ← z2]
      · subst z1
        rcases slot_set_get e3 with ⟨_, z⟩ | ⟨n, _⟩
        · cases z
          rw [List.getElem?_set_ne n2] at e4
          have := old e2 e4
          omega
        · exact absurd rfl n
    · rw [List.getElem?_set_ne n1] at e3
      rcases slot_set_get e2 with ⟨z2, _⟩ | ⟨n2, e2⟩
      · subst z2
        rcases slot_set_get e4 with ⟨_, z⟩ | ⟨n, _⟩
        · cases z
          have := old e1 e3
          omega
        · exact absurd rfl n
      · rw [List.getElem?_set_ne n2] at e4
        exact h.inj j j' t u q q' m e1 e2 e3 e4
/-- a thing of a slot's own is changed -/
theorem PEok.upd (h : PEok l0 A n0 L st penv env) {i : Nat} {t : Option Nat} {p r : PV} {l : Nat} (e : penv[i]? = some (.ow t p)) (el : env[i]? = some (some (.ref l)))
    (hk : ∀ (m : Nat) (o : AO), m ≠ l → st[m]? = some o → st'[m]? = some o) (q : Own l0 (Fz A penv env) st' r l) : PEok l0 A n0 L st' (penv.set i (.ow t r)) env ∧ ∀ m, OwC (penv.set i (.ow t r)) env m ↔ OwC penv env m := by
  have hi : i < penv.length := (List.getElem?_eq_some_iff.mp e).1
  have sub : ∀ m, OwC (penv.set i (.ow t r)) env m ↔ OwC penv env m := fun m => by
    constructor
    · rintro ⟨j, u, w, h1, h2⟩
      rcases slot_set_get h1 with ⟨rfl, z⟩ | ⟨n, h1⟩
      · cases z; exact ⟨i, t, p, e, h2⟩
      · exact ⟨j, u, w, h1, h2⟩
    · rintro ⟨j, u, w, h1, h2⟩
      by_cases z : i = j
      · subst z
        exact ⟨i, t, r, List.getElem?_set_self hi, h2⟩
      · exact ⟨j, u, w, by rw [List.getElem?_set_ne z]; exact h1, h2⟩
  have ol : OwC penv env l := ⟨i, t, p, e, el⟩
  have fz : ∀ m, Fz A penv env m → Fz A (penv.set i (.ow t r)) env m := fun m ⟨a, n⟩ => ⟨a, fun o => n ((sub m).mp o)⟩
  have mv : ∀ (m : Nat) (o : AO), Fz A penv env m → st[m]? = some o → Fz A (penv.set i (.ow t r)) env m ∧ st'[m]? = some o := fun m o a e => ⟨fz m a, hk m o (fun z => a.2 (z ▸ ol)) e⟩
  refine ⟨⟨by simp [h.len], fun j w e1 => ?_, fun j u w e1 => ?_, fun j j' u v w w' m e1 e2 e3 e4 => ?_⟩, sub⟩
  · rcases slot_set_get e1 with ⟨rfl, z⟩ | ⟨n, e1⟩
    · cases z
    · obtain ⟨d', h1, h2⟩ := h.fz j w e1
      exact ⟨d', h1, h2.mono mv⟩
  · rcases slot_set_get e1 with ⟨rfl, z⟩ | ⟨n, e1⟩
    · cases z
      obtain ⟨m, h1, h2, h3, h4⟩ := h.ow i t p e
      rw [el] at h1
      cases h1
      exact ⟨l, el, h2, q.mono (fun m o a e => ⟨fz m a, e⟩) (fun _ e => e), h4⟩
    · obtain ⟨m, h1, h2, h3, h4⟩ := h.ow j u w e1
      refine ⟨m, h1, h2, h3.mono mv (fun o e2 => hk m o (fun z => n ?_) e2), h4⟩
      subst z
      exact h.inj i j t u p w m e e1 el h1
  · have back : ∀ {j : Nat} {u : Option Nat} {w : PV}, (penv.set i (.ow t r))[j]? = some (.ow u w) → ∃ u w, penv[j]? = some (.ow u w) := fun {j u w} e1 => by
      rcases slot_set_get e1 with ⟨rfl, z⟩ | ⟨n, e1⟩
      · exact ⟨_, _, e⟩
      · exact ⟨_, _, e1⟩
    obtain ⟨_, _, f1⟩ := back e1
    obtain ⟨_, _, f2⟩ := back e2
    exact h.inj j j' _ _ _ _ m f1 f2 e3 e4
end
end Ab

set_option Elab.async false
set_option linter.all false
set_option autoImplicit false
set_option maxRecDepth 10000
/-! AbPureT: statements, with and without a store. -/
namespace Ab
open PySem
section
variable (l0 : Nat) (A : Nat → Prop) (n0 : Nat) (L : Nat → Nat) (penv : PE) (env : En) (st : Sto)
/-- what is wanted of a statement's end -/
def RSok (E : PX → PE → Prop) (N : PE → Prop) (V : PE → PV → Bool → Prop) : RS → Prop
  | .nx env' st' => ∃ penv', N penv' ∧ PEok l0 A n0 L st' penv' env' ∧ Ok l0 A st' ∧ Fm l0 penv env st penv' env' st'
  | .rt d st' => ∃ penv' p fr, V penv' p fr ∧ Rep l0 A st' p d ∧ (fr = true → ∃ l, d = .ref l ∧ n0 ≤ l) ∧ (∀ (i j : Nat) (q : PV), penv'[i]? = some (.ow (some j) q) → Own l0 A st' q (L j)) ∧ Ok l0 A st' ∧ st.length ≤ st'.length ∧ (∀ (l : Nat) (o : AO), l ≠ l0 → ¬ OwC penv env l → st[l]? = some o → st'[l]? = some o)
  | .ex x env' st' => ∃ penv' px, E px penv' ∧ RepX l0 A st' px x ∧ PEok l0 A n0 L st' penv' env' ∧ Ok l0 A st' ∧ Fm l0 penv env st penv' env' st'
  | _ => False
end
section
variable {l0 : Nat} {A : Nat → Prop} {n0 : Nat} {L : Nat → Nat} {penv : PE} {env : En} {st st' : Sto} {E : PX → PE → Prop} {N : PE → Prop} {V : PE → PV → Bool → Prop}
theorem RSok.later {p1 : PE} {e1 : En} {s1 : Sto} {p0 : PE} {e0 : En} {s0 : Sto} (f : Fm l0 p0 e0 s0 p1 e1 s1) {r : RS} (h : RSok l0 A n0 L p1 e1 s1 E N V r) : RSok l0 A n0 L p0 e0 s0 E N V r := by
  cases r with
  | nx env' st' => obtain ⟨p', h1, h2, h3, h4⟩ := h; exact ⟨p', h1, h2, h3, f.trans h4⟩
  | rt d st' => obtain ⟨p', p, fr, h1, h2, h3, h4, h5, h6, h7⟩ := h; exact ⟨p', p, fr, h1, h2, h3, h4, h5, Nat.le_trans f.1 h6, fun l o n a e => h7 l o n (f.2 l o n a e).2 (f.2 l o n a e).1⟩
  | ex x env' st' => obtain ⟨p', px, h1, h2, h3, h4, h5⟩ := h; exact ⟨p', px, h1, h2, h3, h4, f.trans h5⟩
  | _ => exact h.elim
theorem RSok.mono {N' : PE → Prop} {V' : PE → PV → Bool → Prop} {r : RS} (h : RSok l0 A n0 L penv env st E N V r) (f : ∀ p, N p → N' p) (g : ∀ p x y, V p x y → V' p x y) : RSok l0 A n0 L penv env st E N' V' r := by
  cases r with
  | nx env' st' => obtain ⟨p', h1, h2⟩ := h; exact ⟨p', f _ h1, h2⟩
  | rt d st' => obtain ⟨p', p, fr, h1, h2⟩ := h; exact ⟨p', p, fr, g _ _ _ h1, h2⟩
  | ex x env' st' => exact h
  | _ => exact h.elim
theorem Kp.ok_len (k : Kp l0 st st') (ok : Ok l0 A st') : st.length ≤ st'.length := k.len ok.pok
theorem ioFree_no : ∀ {penv : PE} {i j : Nat} {p : PV}, penv[i]? = some (.ow (some j) p) → ¬ ioFree penv = true
  | [], i, j, p, e => nomatch e
  | s :: r, 0, j, p, e => by cases e; intro z; cases z
  | s :: r, i + 1, j, p, e => by
    intro z
    refine ioFree_no (penv := r) (i := i) (j := j) (p := p) e ?_
    cases s with
    | no => exact z
    | fz p => exact z
    | ow t p => cases t with
      | none => exact z
      | some j => cases z
/-- an exception leaves a statement, all slots read -/
theorem exAll {x : XV} {st' : Sto} (h : PEok l0 A n0 L st penv env) (ok : Ok l0 A st) (e : XS l0 (fun l => A l ∨ OwC penv env l) st (exE penv E) x st') : RSok l0 A n0 L penv env st E N V (.ex x env st') := by
  obtain ⟨px, ⟨h1, h2⟩, h3, k, ok'⟩ := e
  have okA : Ok l0 A st' := ⟨ok'.pok, ok.na, fun l q => by
    have := k.len ok'.pok
    exact ok.fut l (by omega)⟩
  obtain ⟨h4, h5⟩ := hide_ok (h.kp ok.na k) []
  refine ⟨hideBut [] penv, px, h2, ⟨h3.1, h3.2.1, ?_⟩, h4, okA, k.len ok'.pok, fun l o n a e => ⟨k l o n e, hide_none⟩⟩
  rcases h1 with h1 | h1
  · refine Reps.mono (fun l o a e => ⟨?_, e⟩) _ _ h3.2.2
    rcases a with a | ⟨i, t, p, e1, e2⟩
    · exact a
    · obtain ⟨m, f1, f2, f3, f4⟩ := h.ow i t p e1
      rw [e2] at f1
      cases f1
      cases t with
      | none => exact f4.1
      | some j =>
        exact absurd h1 (ioFree_no e1)
  · exact Reps.flat _ _ h1 h3.2.2
/-- an exception leaves a statement, some slots read -/
theorem exBut {x : XV} {st' : Sto} {B : Nat → Prop} (h : PEok l0 A n0 L st penv env) (ok : Ok l0 A st) (hB : ∀ l, B l → A l) (e : XS l0 B st (exE penv E) x st') : RSok l0 A n0 L penv env st E N V (.ex x env st') := by
  obtain ⟨px, ⟨h1, h2⟩, h3, k, ok'⟩ := e
  have okA : Ok l0 A st' := ⟨ok'.pok, ok.na, fun l q => by
    have := k.len ok'.pok
    exact ok.fut l (by omega)⟩
  obtain ⟨h4, h5⟩ := hide_ok (h.kp ok.na k) []
  refine ⟨hideBut [] penv, px, h2, ⟨h3.1, h3.2.1, Reps.mono (fun l o a e => ⟨hB l a, e⟩) _ _ h3.2.2⟩, h4, okA, k.len ok'.pok, fun l o n a e => ⟨k l o n e, hide_none⟩⟩
theorem okA_of {B : Nat → Prop} (ok : Ok l0 A st) (k : Kp l0 st st') (ok' : Ok l0 B st') : Ok l0 A st' := ⟨ok'.pok, ok.na, fun l q => by
  have := k.len ok'.pok
  exact ok.fut l (by omega)⟩
/-- a term's value goes on into a statement, all slots read -/
theorem ofAll {α β : Type} {r : R α} {f : α → Sto → RS} {rel : Sto → β → α → Prop} {Q : β → Prop} (h : PEok l0 A n0 L st penv env) (ok : Ok l0 A st)
    (hr : r.sat (Snd l0 (fun l => A l ∨ OwC penv env l) st rel Q) (XS l0 (fun l => A l ∨ OwC penv env l) st (exE penv E)))
    (hf : ∀ b a st', Q b → rel st' b a → Kp l0 st st' → PEok l0 A n0 L st' penv env → Ok l0 A st' → RSok l0 A n0 L penv env st' E N V (f a st')) : RSok l0 A n0 L penv env st E N V (RS.of env r f) := by
  cases r with
  | ok a st' =>
    obtain ⟨b, q, r, k, ok'⟩ := hr
    exact (hf b a st' q r k (h.kp ok.na k) (okA_of ok k ok')).later (Fm.kp k (k.len ok'.pok))
  | ex x st' => exact exAll h ok hr
  | bad => exact hr.elim
theorem ofBut {α β : Type} {r : R α} {f : α → Sto → RS} {rel : Sto → β → α → Prop} {Q : β → Prop} {B : Nat → Prop} (h : PEok l0 A n0 L st penv env) (ok : Ok l0 A st) (hB : ∀ l, B l → A l)
    (hr : r.sat (Snd l0 B st rel Q) (XS l0 B st (exE penv E)))
    (hf : ∀ b a st', Q b → rel st' b a → Kp l0 st st' → PEok l0 A n0 L st' penv env → Ok l0 A st' → RSok l0 A n0 L penv env st' E N V (f a st')) : RSok l0 A n0 L penv env st E N V (RS.of env r f) := by
  cases r with
  | ok a st' =>
    obtain ⟨b, q, r, k, ok'⟩ := hr
    exact (hf b a st' q r k (h.kp ok.na k) (okA_of ok k ok')).later (Fm.kp k (k.len ok'.pok))
  | ex x st' => exact exBut h ok hB hr
  | bad => exact hr.elim
/-- slots with fewer of their own: the statement's end from there on is one from here on -/
theorem RSok.less {p1 : PE} (hl : ∀ l, OwC p1 env l → OwC penv env l) {r : RS} (h : RSok l0 A n0 L p1 env st E N V r) : RSok l0 A n0 L penv env st E N V r :=
  h.later ⟨Nat.le_refl _, fun l o n a e => ⟨e, fun q => a (hl l q)⟩⟩
/-! terms whose list is new -/
section
variable {T : Tab} {G : Gb} {IO : Str → List Nat} {FP : PF} {FS : Str → List D → Sto → R D}
/-- the value, and that a list or dict is new -/
def relN (l0 : Nat) (A : Nat → Prop) (n : Nat) (st : Sto) (p : PV) (d : D) : Prop := Rep l0 A st p d ∧ (p.cell = true → ∃ l, d = .ref l ∧ n ≤ l)
theorem alloc_new {o : AO} {d : D} (h : alloc o st = .ok d st') : d = .ref st.length := by cases h; rfl
theorem bin_new {op : Operator} {a b d : D} {l : Nat} (h : binD op a b st = .ok d st') (e : d = .ref l) : st.length ≤ l := by
  subst e
  unfold binD at h
  split at h
  case h_4 =>
    split at h
    · split at h
      · cases h; exact Nat.le_refl _
      · cases h
    · cases h
  case h_7 =>
    split at h
    · split at h
      · cases h; exact Nat.le_refl _
      · cases h
    · cases h
  all_goals first
    | cases h
    | (split at h <;> cases h)
theorem slc_new {a d : D} {lo hi : Option Int} {l : Nat} (h : slcD a lo hi st = .ok d st') (e : d = .ref l) : st.length ≤ l := by
  subst e
  unfold slcD at h
  split at h
  · cases h
  · split at h
    · cases h; exact Nat.le_refl _
    · cases h
  · split at h <;> cases h
  · cases h
theorem list_new {as : List D} {d : D} {l : Nat} (h : bltD .list as st = .ok d st') (e : d = .ref l) : st.length ≤ l := by
  subst e
  cases as with
  | nil => cases h
  | cons a r =>
    cases r with
    | cons b r => cases h
    | nil =>
      have h : (match seqOf st a with
        | some xs => alloc (.lst false xs) st
        | none => .bad) = .ok (.ref l) st' := h
      cases q : seqOf st a with
      | none => rw [q] at h; cases h
      | some xs => rw [q] at h; cases h; exact Nat.le_refl _
theorem op1_new {o : Op1} {a d : D} {l : Nat} (h : op1D o a st = .ok d st') (e : d = .ref l) : st.length ≤ l := by
  subst e
  cases o with
  | rev =>
    cases a with
    | tup ds => cases h
    | ref k =>
      have h : (match st[k]? with
        | some (.lst _ ds) => alloc (.lst false ds.reverse) st
        | _ => .bad) = .ok (.ref l) st' := h
      split at h
      · cases h; exact Nat.le_refl _
      · cases h
    | _ => cases h
  | trg =>
    cases a with
    | int j =>
      have h : (if -(2 ^ 62) ≤ j ∧ j ≤ 16777216 then R.ok (D.tup (rangeL 0 j.toNat)) st else .bad) = .ok (.ref l) st' := h
      split at h <;> cases h
    | _ => cases h
theorem sat_new {r : R D} {n : Nat} {E : PX → Prop} {Q : PV → Prop} (h : ResP l0 A st E Q r) (hn : ∀ d st' l, r = .ok d st' → d = .ref l → n ≤ l) : r.sat (Snd l0 A st (relN l0 A n) Q) (XS l0 A st E) := by
  cases r with
  | ok d st' =>
    obtain ⟨p, q, r, k, ok⟩ := h
    refine ⟨p, q, ⟨r, fun c => ?_⟩, k, ok⟩
    cases p with
    | lst ps => obtain ⟨l, ds, rfl, _⟩ := r; exact ⟨l, rfl, hn _ _ l rfl rfl⟩
    | dct ks ps => obtain ⟨l, ds, rfl, _⟩ := r; exact ⟨l, rfl, hn _ _ l rfl rfl⟩
    | _ => cases c
  | ex x st' => exact h
  | bad => exact h.elim
theorem pE_new (hF : FSound IO FP FS) (c : CE) (hc : c.fresh = true) {penv : PE} {env : En} {st : Sto} {E : PX → Prop} {Q : PV → Prop} (h : pE T G IO FP c penv E Q) (ok : Ok l0 A st) (hr : PEr l0 A st penv env) : (evE T G FS c env st).sat (Snd l0 A st (relN l0 A st.length) Q) (XS l0 A st E) := by
  have all := pE_snd hF c h ok hr
  cases c with
  | lst es =>
    rw [evE_lst]
    refine bindS (pEs_snd hF es h ok hr) fun ps ds st1 h r1 k1 ok1 => ?_
    rw [if_pos (by rw [r1.length]; exact h.1)]
    exact sat_new (allocS ok1 r1 h.2) fun d st' l e e2 => by rw [alloc_new e] at e2; cases e2; exact k1.len ok1.pok
  | dlt ks es =>
    rw [evE_dlt]
    refine bindS (pEs_snd hF es h ok hr) fun ps ds st1 h r1 k1 ok1 => ?_
    exact sat_new (allocDS ok1 r1 (by rw [r1.length]; exact h.1) h.2) fun d st' l e e2 => by rw [alloc_new e] at e2; cases e2; exact k1.len ok1.pok
  | dnew =>
    rw [evE_dnew]
    exact sat_new (allocKS ok h) fun d st' l e e2 => by rw [alloc_new e] at e2; cases e2; exact Nat.le_refl _
  | bin op a b =>
    rw [evE_bin]
    refine bindS (pE_snd hF a h ok hr) fun p d st1 h r1 k1 ok1 => ?_
    refine bindS (pE_snd hF b h ok1 (hr.kp ok k1)) fun q e st2 h r2 k2 ok2 => ?_
    obtain ⟨r, e1, q⟩ := h
    exact sat_new (binS ok2 (r1.kp ok1 k2) r2 e1 q) fun d st' l e e2 => by
      have := bin_new e e2
      have := k1.len ok1.pok
      have := k2.len ok2.pok
      omega
  | slc a lo hi =>
    rw [evE_slc]
    refine bindS (pE_snd hF a h ok hr) fun p d st1 h r1 k1 ok1 => ?_
    refine bindS (pP_snd hF lo h ok1 (hr.kp ok k1)) fun l l' st2 h r2 k2 ok2 => ?_
    refine bindS (pP_snd hF hi h ok2 ((hr.kp ok k1).kp ok1 k2)) fun l2 l2' st3 h r3 k3 ok3 => ?_
    subst r2
    subst r3
    obtain ⟨r, e1, q⟩ := h
    exact sat_new (slcS ok3 (r1.kp ok1 (k2.trans k3)) e1 q) fun d st' l e e2 => by
      have := slc_new e e2
      have := k1.len ok1.pok
      have := k2.len ok2.pok
      have := k3.len ok3.pok
      omega
  | blt b es =>
    have hb : b = .list := by cases b <;> first | rfl | cases hc
    subst hb
    rw [evE_blt]
    refine bindS (pEs_snd hF es h ok hr) fun ps ds st1 h r1 k1 ok1 => ?_
    obtain ⟨r, e1, q⟩ := h
    exact sat_new (bltS ok1 r1 e1 q) fun d st' l e e2 => by
      have := list_new e e2
      have := k1.len ok1.pok
      omega
  | op1 o a =>
    rw [evE_op1]
    refine bindS (pE_snd hF a h ok hr) fun p d st1 h r1 k1 ok1 => ?_
    obtain ⟨r, e1, q⟩ := h
    exact sat_new (op1S ok1 r1 e1 q) fun d st' l e e2 => by
      have := op1_new e e2
      have := k1.len ok1.pok
      omega
  | lc elt tg it cond own =>
    refine sat_new all fun d st' l e e2 => ?_
    have len : ∀ {d st'}, evE T G FS (.lc elt tg it cond own) env st = .ok d st' → ∃ (ys : List D) (st6 : Sto), d = .ref st6.length ∧ st.length ≤ st6.length := by
      intro d st' e
      rw [evE_lc] at e
      have h1 := pI_snd hF it (Q := fun p => pLc _ p.2 [] _) h ok hr
      cases q1 : evI T G FS it env st with
      | bad => rw [q1] at e; cases e
      | ex x s1 => rw [q1] at e; cases e
      | ok s st1 =>
        rw [q1] at e h1
        obtain ⟨p, h, r1, k1, ok1⟩ := h1
        have hr1 := hr.kp ok k1
        have h2 : R.sat _ _ _ := noexS (E := E) (lc_sound (fS := fun d st2 => (setT T G FS tg d (wipeE env own) st2).bind fun env2 st3 => (evC T G FS cond env2 st3).noex.bind fun k st4 =>
          if k = true then (evE T G FS elt env2 st4).noex.bind fun y st5 => .ok (some y) st5 else .ok none st4) (st0 := st1) (fun p d st2 K r k ok2 h => by
            obtain ⟨penv2, env2, e1, h, hr2⟩ := pT_sound (T := T) (G := G) (F := FS) h r ((hr1.kp ok1 k).wipe own)
            rw [e1]
            show R.sat ((evC T G FS cond env2 st2).noex.bind _) _ _
            refine bindS (noexS (pC_snd hF cond h ok2 hr2)) fun b a st3 h rb k3 ok3 => ?_
            subst rb
            split
            · rename_i z
              rw [if_pos z] at h
              refine bindS (noexS (pE_snd hF elt h ok3 (hr2.kp ok2 k3))) fun y y' st4 h r4 k4 ok4 => ?_
              exact okS ok4 h r4
            · rename_i z
              rw [if_neg z] at h
              exact okS (b := none) ok3 h trivial) (r1.still ok1) _ _ [] [] st1 _ r1.1 rfl (Kp.refl _ _) ok1 h)
        have e : ((lcLoop s (fun d st2 => (setT T G FS tg d (wipeE env own) st2).bind fun env2 st3 => (evC T G FS cond env2 st3).noex.bind fun k st4 =>
          if k = true then (evE T G FS elt env2 st4).noex.bind fun y st5 => .ok (some y) st5 else .ok none st4) s.items [] st1).noex.bind fun ys st6 => alloc (.lst false ys) st6) = .ok d st' := e
        revert e h2
        generalize (lcLoop s (fun d st2 => (setT T G FS tg d (wipeE env own) st2).bind fun env2 st3 => (evC T G FS cond env2 st3).noex.bind fun k st4 =>
          if k = true then (evE T G FS elt env2 st4).noex.bind fun y st5 => .ok (some y) st5 else .ok none st4) s.items [] st1).noex = w
        intro h2 e
        cases w with
        | bad => cases e
        | ex x s => cases e
        | ok ys st6 =>
          obtain ⟨_, _, _, k2, ok2⟩ := h2
          exact ⟨ys, st6, alloc_new e, by have := k1.len ok1.pok; have := k2.len ok2.pok; omega⟩
    obtain ⟨ys, st6, e3, e4⟩ := len e
    rw [e2] at e3
    cases e3
    exact e4
  | _ => cases hc
/-- the value, and whether its list or dict is new -/
def relF (l0 : Nat) (A : Nat → Prop) (n : Nat) (st : Sto) (p : PV × Bool) (d : D) : Prop := Rep l0 A st p.1 d ∧ (p.2 = true → ∃ l, d = .ref l ∧ n ≤ l)
theorem relF.le {n m : Nat} (h : m ≤ n) {st : Sto} {p : PV × Bool} {d : D} (r : relF l0 A n st p d) : relF l0 A m st p d := ⟨r.1, fun e => let ⟨l, h1, h2⟩ := r.2 e; ⟨l, h1, by omega⟩⟩
theorem pA_snd (hF : FSound IO FP FS) : ∀ (c : CE) {penv : PE} {env : En} {st : Sto} {E : PX → Prop} {Q : PV × Bool → Prop}, pA T G IO FP c penv E (fun a b => Q (a, b)) → Ok l0 A st → PEr l0 A st penv env → (evE T G FS c env st).sat (Snd l0 A st (relF l0 A st.length) Q) (XS l0 A st E) := by
  intro c
  have gen : ∀ (c : CE) {penv : PE} {env : En} {st : Sto} {E : PX → Prop} {Q : PV × Bool → Prop}, (pE T G IO FP c penv E fun p => Q (p, c.fresh && p.cell)) → Ok l0 A st → PEr l0 A st penv env → (evE T G FS c env st).sat (Snd l0 A st (relF l0 A st.length) Q) (XS l0 A st E) := by
    intro c penv env st E Q h ok hr
    by_cases hc : c.fresh = true
    · refine (pE_new hF c hc h ok hr).mono (fun d st' ⟨p, q, r, k, ok'⟩ => ⟨_, q, ⟨r.1, fun e => r.2 ?_⟩, k, ok'⟩) fun _ _ h => h
      rw [hc] at e
      exact e
    · refine (pE_snd hF c h ok hr).mono (fun d st' ⟨p, q, r, k, ok'⟩ => ⟨_, q, ⟨r, fun e => ?_⟩, k, ok'⟩) fun _ _ h => h
      rw [Bool.eq_false_iff.mpr hc] at e
      cases e
  intro penv env st E Q h ok hr
  match c, h with
  | .ife c a b, h =>
    rw [evE_ife]
    have h : pE T G IO FP c penv E fun p => ∃ k, p = .bl k ∧ if k = true then pA T G IO FP a penv E (fun a b => Q (a, b)) else pA T G IO FP b penv E (fun a b => Q (a, b)) := h
    refine bindS (pE_snd hF c h ok hr) fun p d st1 h r1 k1 ok1 => ?_
    obtain ⟨k, e, h⟩ := h
    rw [asBoolE r1 e]
    show R.sat (if k = true then evE T G FS a env st1 else evE T G FS b env st1) _ _
    split
    · rename_i z
      rw [if_pos z] at h
      exact (pA_snd hF a h ok1 (hr.kp ok k1)).mono (fun d st' ⟨p, q, r, k, ok'⟩ => ⟨p, q, r.le (k1.len ok1.pok), k, ok'⟩) fun _ _ h => h
    · rename_i z
      rw [if_neg z] at h
      exact (pA_snd hF b h ok1 (hr.kp ok k1)).mono (fun d st' ⟨p, q, r, k, ok'⟩ => ⟨p, q, r.le (k1.len ok1.pok), k, ok'⟩) fun _ _ h => h
  | .call f es, h =>
    rw [evE_call]
    obtain ⟨hio, h⟩ := h
    refine bindS (pEs_snd hF es h ok hr) fun ps ds st1 h r1 k1 ok1 => ?_
    exact (callS hF hio h ok1 r1).mono (fun d st' ⟨r, _, fr, h1, h2, h3, h4, h5⟩ => ⟨(r, fr), h1, ⟨h2, fun e => let ⟨l, h6, h7⟩ := h3 e; ⟨l, h6, by have := k1.len ok1.pok; omega⟩⟩, h4, h5⟩) fun _ _ h => h
  | .var i, h => exact gen _ h ok hr
  | .lit l, h => exact gen _ h ok hr
  | .glob x, h => exact gen _ h ok hr
  | .bin op a b, h => exact gen _ h ok hr
  | .neg a, h => exact gen _ h ok hr
  | .cmp op a b, h => exact gen _ h ok hr
  | .chain _ _ _ _ _, h => exact gen _ h ok hr
  | .and_ _ _, h => exact gen _ h ok hr
  | .or_ _ _, h => exact gen _ h ok hr
  | .not_ _, h => exact gen _ h ok hr
  | .tup _, h => exact gen _ h ok hr
  | .lst _, h => exact gen _ h ok hr
  | .dnew, h => exact gen _ h ok hr
  | .dlt _ _, h => exact gen _ h ok hr
  | .sub _ _, h => exact gen _ h ok hr
  | .slc _ _ _, h => exact gen _ h ok hr
  | .callk _ _ _ _, h => exact gen _ h ok hr
  | .blt _ _, h => exact gen _ h ok hr
  | .isi _ _, h => exact gen _ h ok hr
  | .op1 _ _, h => exact gen _ h ok hr
  | .op2 _ _ _, h => exact gen _ h ok hr
  | .meth _ _ _, h => exact gen _ h ok hr
  | .lc _ _ _ _ _, h => exact gen _ h ok hr
end
end
end Ab

set_option Elab.async false
set_option linter.all false
set_option autoImplicit false
set_option maxRecDepth 10000
/-! AbPureS: every statement and every call, with and without a store. -/
namespace Ab
open PySem
section
variable {l0 : Nat} {A : Nat → Prop} {n0 : Nat} {L : Nat → Nat} {T : Tab} {G : Gb} {IO : Str → List Nat} {FP : PF} {FS : Str → List D → Sto → R D}
theorem XS.wider {B : Nat → Prop} {st : Sto} {E : PX → Prop} {x : XV} {st' : Sto} (h : ∀ l, A l → B l) (nb : ¬ B l0) (e : XS l0 A st E x st') : XS l0 B st E x st' := by
  obtain ⟨px, h1, h2, k, ok⟩ := e
  exact ⟨px, h1, ⟨h2.1, h2.2.1, Reps.mono (fun l o a e => ⟨h l a, e⟩) _ _ h2.2.2⟩, k, ok.pok, nb, fun l q => h l (ok.fut l q)⟩
/-! a call that changes arguments -/
/-- arguments as they come -/
def AR (l0 : Nat) (B : Nat → Prop) (penv : PE) (env : En) (st : Sto) (io : List Nat) : Nat → CEs → List PV → List D → Prop
  | _, .nil, ps, ds => ps = [] ∧ ds = []
  | j, .cons e es, ps, ds => ∃ p pr d dr, ps = p :: pr ∧ ds = d :: dr ∧ (if io.elem j = true then ∃ i t l, e = .var i ∧ penv[i]? = some (.ow t p) ∧ env[i]? = some (some (.ref l)) ∧ d = .ref l else Rep l0 B st p d) ∧ AR l0 B penv env st io (j + 1) es pr dr
theorem AR.kp {B : Nat → Prop} {penv : PE} {env : En} {st st' : Sto} {io : List Nat} (ok : Ok l0 B st) (k : Kp l0 st st') : ∀ {j : Nat} {es : CEs} {ps : List PV} {ds : List D}, AR l0 B penv env st io j es ps ds → AR l0 B penv env st' io j es ps ds
  | j, .nil, ps, ds, h => h
  | j, .cons e es, ps, ds, ⟨p, pr, d, dr, e1, e2, h, r⟩ => by
    refine ⟨p, pr, d, dr, e1, e2, ?_, AR.kp ok k r⟩
    split
    · rename_i z
      rw [if_pos z] at h
      exact h
    · rename_i z
      rw [if_neg z] at h
      exact h.kp ok k
theorem pArgs_snd (hF : FSound IO FP FS) {penv : PE} {env : En} {io : List Nat} {E : PX → PE → Prop} : ∀ (es : CEs) (j : Nat) {st : Sto} {Q : List PV → Prop}, pArgs T G IO FP io penv (exE penv E) j es Q → Ok l0 A st → PEok l0 A n0 L st penv env →
    (evEs T G FS es env st).sat (fun ds st' => ∃ ps, Q ps ∧ AR l0 (Fz A penv env) penv env st' io j es ps ds ∧ Kp l0 st st' ∧ Ok l0 A st') (XS l0 (fun l => A l ∨ OwC penv env l) st (exE penv E))
  | .nil, j, st, Q, h, ok, pe => by
    rw [evEs_nil]
    exact ⟨[], h, ⟨rfl, rfl⟩, Kp.refl _ _, ok⟩
  | .cons e es, j, st, Q, h, ok, pe => by
    rw [evEs_cons]
    unfold pArgs at h
    have go : ∀ {p : PV} {d : D} {st1 : Sto}, Kp l0 st st1 → Ok l0 A st1 → (pArgs T G IO FP io penv (exE penv E) (j + 1) es fun ps => Q (p :: ps)) → (if io.elem j = true then ∃ i t l, e = .var i ∧ penv[i]? = some (.ow t p) ∧ env[i]? = some (some (.ref l)) ∧ d = .ref l else Rep l0 (Fz A penv env) st1 p d) →
        ((evEs T G FS es env st1).bind fun ds st2 => R.ok (d :: ds) st2).sat (fun ds st' => ∃ ps, Q ps ∧ AR l0 (Fz A penv env) penv env st' io j (.cons e es) ps ds ∧ Kp l0 st st' ∧ Ok l0 A st') (XS l0 (fun l => A l ∨ OwC penv env l) st (exE penv E)) := by
      intro p d st1 k1 ok1 h r
      rw [sat_bind]
      have pe1 := pe.kp ok.na k1
      refine (pArgs_snd hF es (j + 1) h ok1 pe1).mono (fun ds st2 ⟨ps, q, ar, k2, ok2⟩ => ?_) (fun x st2 ⟨px, h1, h2, k2, ok2⟩ => ⟨px, h1, h2, k1.trans k2, ok2⟩)
      refine ⟨p :: ps, q, ⟨p, ps, d, ds, rfl, rfl, ?_, ar⟩, k1.trans k2, ok2⟩
      split
      · rename_i z
        rw [if_pos z] at r
        exact r
      · rename_i z
        rw [if_neg z] at r
        exact r.kp (pe1.okBut ok1) k2
    by_cases z : io.elem j = true
    · rw [if_pos z] at h
      obtain ⟨i, t, p, rfl, e1, h⟩ := h
      obtain ⟨l, e2, _⟩ := pe.ow i t p e1
      have ev : evE T G FS (.var i) env st = .ok (.ref l) st := by rw [evE_var, e2]
      rw [ev]
      exact go (Kp.refl _ _) ok h (by rw [if_pos z]; exact ⟨i, t, l, rfl, e1, e2, rfl⟩)
    · rw [if_neg z] at h
      rw [sat_bind]
      rcases h with h | h
      · have pb := pe.readBut []
        have ob : Ok l0 (Fz A (dnAt [] penv) env) st := (dn_ok pe []).1.okBut ok
        refine (pE_snd hF e h ob pb).mono (fun d st1 ⟨p, h, r, k1, ok1⟩ => ?_) (fun x st1 e => XS.wider (fun l a => .inl a.1) (pe.okAll ok).na e)
        refine go k1 (okA_of ok k1 ok1) h ?_
        rw [if_neg z]
        refine r.mono fun l o a e => ⟨⟨a.1, fun o => a.2 ?_⟩, e⟩
        obtain ⟨i, t, p, h1, h2⟩ := o
        refine ⟨i, t, p, ?_, h2⟩
        unfold dnAt
        rw [dnFrom_at, h1]
        cases t <;> rfl
      · refine (pE_snd hF e h (pe.okAll ok) pe.readAll).mono (fun d st1 ⟨p, ⟨f, h⟩, r, k1, ok1⟩ => ?_) (fun x st1 e => e)
        refine go k1 (okA_of ok k1 ok1) h ?_
        rw [if_neg z]
        exact Rep.flat p d f r
theorem AR.args {B : Nat → Prop} {penv : PE} {env : En} {st : Sto} {io : List Nat} {M : Nat → Nat} (hM : ∀ (i : Nat) (t : Option Nat) (p : PV) (l : Nat), penv[i]? = some (.ow t p) → env[i]? = some (some (.ref l)) → l ≠ l0 ∧ ¬ B l ∧ Own l0 B st p l) :
    ∀ {es : CEs} {j : Nat} {ps : List PV} {ds : List D}, (∀ k l, ds[k]? = some (.ref l) → M (j + k) = l) → AR l0 B penv env st io j es ps ds → ArgsOk l0 B st io M j ps ds
  | .nil, j, ps, ds, hm, h => by obtain ⟨rfl, rfl⟩ := h; rfl
  | .cons e es, j, ps, ds, hm, h => by
    obtain ⟨p, pr, d, dr, rfl, rfl, h, r⟩ := h
    refine ⟨d, dr, rfl, ?_, AR.args hM (fun k l e => by have := hm (k + 1) l e; rw [← this]; congr 1; omega) r⟩
    split
    · rename_i z
      rw [if_pos z] at h
      obtain ⟨i, t, l, _, e1, e2, rfl⟩ := h
      have em : M j = l := hm 0 l rfl
      rw [em]
      obtain ⟨h1, h2, h3⟩ := hM i t p l e1 e2
      exact ⟨rfl, h1, h2, h3⟩
    · rename_i z
      rw [if_neg z] at h
      exact h
theorem AR.slot {B : Nat → Prop} {penv : PE} {env : En} {st : Sto} {io : List Nat} : ∀ {es : CEs} {j k : Nat} {ps : List PV} {ds : List D} {i : Nat}, AR l0 B penv env st io j es ps ds → io.elem (j + k) = true → slotAt es k = some i → ∃ t p l, penv[i]? = some (.ow t p) ∧ env[i]? = some (some (.ref l)) ∧ ds[k]? = some (.ref l)
  | .nil, j, k, ps, ds, i, h, z, e => by cases e
  | .cons e es, j, 0, ps, ds, i, h, z, e2 => by
    obtain ⟨p, pr, d, dr, rfl, rfl, h, r⟩ := h
    rw [if_pos (show io.elem j = true from z)] at h
    obtain ⟨i', t, l, rfl, e1, e3, rfl⟩ := h
    cases e2
    exact ⟨t, p, l, e1, e3, rfl⟩
  | .cons e es, j, k + 1, ps, ds, i, h, z, e2 => by
    obtain ⟨p, pr, d, dr, rfl, rfl, h, r⟩ := h
    exact AR.slot (k := k) r (by rw [show j + 1 + k = j + (k + 1) from by omega]; exact z) e2
theorem optAll_mem {α β : Type} {f : α → Option β} : ∀ {xs : List α} {ys : List β}, optAll f xs = some ys → ∀ x ∈ xs, ∃ y ∈ ys, f x = some y
  | [], ys, e, x, hx => nomatch hx
  | a :: xs, ys, e, x, hx => by
    unfold optAll at e
    cases e1 : f a with
    | none => rw [e1] at e; cases e
    | some b =>
      cases e2 : optAll f xs with
      | none => rw [e1, e2] at e; cases e
      | some bs =>
        rw [e1, e2] at e
        cases e
        rcases List.mem_cons.mp hx with rfl | hx
        · exact ⟨b, List.mem_cons_self, e1⟩
        · obtain ⟨y, h1, h2⟩ := optAll_mem e2 x hx
          exact ⟨y, List.mem_cons_of_mem _ h1, h2⟩
theorem elem_mem {i : Nat} {xs : List Nat} : xs.elem i = true ↔ i ∈ xs := List.elem_iff
theorem nodup_inj {f : Nat → Option Nat} : ∀ {io is : List Nat}, optAll f io = some is → nodup is = true → ∀ a ∈ io, ∀ b ∈ io, f a = f b → a = b
  | [], is, e, n, a, ha, b, hb, h => nomatch ha
  | c :: io, is, e, n, a, ha, b, hb, h => by
    unfold optAll at e
    cases e1 : f c with
    | none => rw [e1] at e; cases e
    | some y =>
      cases e2 : optAll f io with
      | none => rw [e1, e2] at e; cases e
      | some ys =>
        rw [e1, e2] at e
        cases e
        unfold nodup at n
        rw [Bool.and_eq_true, Bool.not_eq_true'] at n
        have no : ∀ x ∈ io, f x ≠ f c := fun x hx q => by
          obtain ⟨z, h1, h2⟩ := optAll_mem e2 x hx
          rw [q, e1] at h2
          cases h2
          rw [elem_mem.mpr h1] at n
          cases n.1
        rcases List.mem_cons.mp ha with z1 | ha1
        · rcases List.mem_cons.mp hb with z2 | hb1
          · rw [z1, z2]
          · exact absurd (z1 ▸ h.symm) (no b hb1)
        · rcases List.mem_cons.mp hb with z2 | hb1
          · exact absurd (z2 ▸ h) (no a ha1)
          · exact nodup_inj e2 n.2 a ha1 b hb1 h
theorem putBack_len : ∀ (is : List Nat) (qs : List PV) (env : PE), (putBack is qs env).length = env.length
  | [], _, _ => rfl
  | i :: is, [], _ => rfl
  | i :: is, q :: qs, env => by show (putBack is qs _).length = _; rw [putBack_len]; simp
/-- the slots behind a call that changes arguments -/
theorem putBack_ok {penv : PE} {env : En} {st : Sto} {M : Nat → Nat} {B : Nat → Prop} : ∀ {io is : List Nat} {f : Nat → Option Nat} {qs : List PV} {penv : PE}, optAll f io = some is → OutsOk l0 B st M io qs →
    (∀ j ∈ io, ∀ i, f j = some i → ∃ t p, penv[i]? = some (.ow t p) ∧ env[i]? = some (some (.ref (M j)))) →
    (∀ (i : Nat) (s : Sl), penv[i]? = some s → (∀ t p, s ≠ .ow t p) → (putBack is qs penv)[i]? = some s) ∧
    (∀ (i : Nat) (t : Option Nat) (p : PV), penv[i]? = some (.ow t p) → ∃ q, (putBack is qs penv)[i]? = some (.ow t q) ∧ (q = p ∨ ∃ l, env[i]? = some (some (.ref l)) ∧ Own l0 B st q l)) ∧
    (∀ (i : Nat) (t : Option Nat) (p : PV), i ∈ is → penv[i]? = some (.ow t p) → ∃ q l, (putBack is qs penv)[i]? = some (.ow t q) ∧ env[i]? = some (some (.ref l)) ∧ Own l0 B st q l)
  | [], is, f, qs, penv, e, o, hs => by
    cases e
    exact ⟨fun i s h _ => h, fun i t p h => ⟨p, h, .inl rfl⟩, fun i t p h => nomatch h⟩
  | j :: io, is, f, qs, penv, e, o, hs => by
    unfold optAll at e
    cases e1 : f j with
    | none => rw [e1] at e; cases e
    | some i0 =>
      cases e2 : optAll f io with
      | none => rw [e1, e2] at e; cases e
      | some is' =>
        rw [e1, e2] at e
        cases e
        obtain ⟨q, r, rfl, o1, o2⟩ := o
        obtain ⟨t0, p0, h1, h2⟩ := hs j List.mem_cons_self i0 e1
        have hi : i0 < penv.length := (List.getElem?_eq_some_iff.mp h1).1
        have es : reS q (penv[i0]?.getD .no) = .ow t0 q := by rw [h1]; rfl
        have set_at : ∀ (i : Nat) (t : Option Nat) (p : PV), penv[i]? = some (.ow t p) → ∃ p', (penv.set i0 (.ow t0 q))[i]? = some (.ow t p') ∧ (p' = p ∨ (p' = q ∧ i = i0)) := by
          intro i t p h
          by_cases z : i0 = i
          · subst z
            rw [h1] at h
            cases h
            exact ⟨q, List.getElem?_set_self hi, .inr ⟨rfl, rfl⟩⟩
          · exact ⟨p, by rw [List.getElem?_set_ne z]; exact h, .inl rfl⟩
        obtain ⟨r1, r2, r3⟩ := putBack_ok (penv := penv.set i0 (.ow t0 q)) e2 o2 (fun j' hj i hf => by
          obtain ⟨t, p, h3, h4⟩ := hs j' (List.mem_cons_of_mem _ hj) i hf
          obtain ⟨p', h5, _⟩ := set_at i t p h3
          exact ⟨t, p', h5, h4⟩)
        have eq : putBack (i0 :: is') (q :: r) penv = putBack is' r (penv.set i0 (.ow t0 q)) := by
          show putBack is' r (penv.set i0 (reS q (penv[i0]?.getD .no))) = _
          rw [es]
        rw [eq]
        refine ⟨fun i s h n => r1 i s ?_ n, fun i t p h => ?_, fun i t p hi h => ?_⟩
        · rw [List.getElem?_set_ne (fun z => ?_)]
          · exact h
          · subst z
            rw [h1] at h
            cases h
            exact n _ _ rfl
        · obtain ⟨p', h3, h4⟩ := set_at i t p h
          obtain ⟨q', h5, h6⟩ := r2 i t p' h3
          refine ⟨q', h5, ?_⟩
          rcases h6 with rfl | h6
          · rcases h4 with rfl | ⟨rfl, rfl⟩
            · exact .inl rfl
            · exact .inr ⟨M j, h2, o1⟩
          · exact .inr h6
        · obtain ⟨p', h3, h4⟩ := set_at i t p h
          by_cases hm : i ∈ is'
          · exact r3 i t p' hm h3
          · have : i = i0 := (List.mem_cons.mp hi).resolve_right hm
            obtain ⟨q', h5, h6⟩ := r2 i t p' h3
            rcases h4 with rfl | ⟨rfl, _⟩
            · subst this
              obtain ⟨p'', h7, h8⟩ := set_at i t p' h
              rw [h3] at h7
              cases h7
              have : penv.set i (.ow t0 q) = penv.set i (.ow t0 q) := rfl
              rw [List.getElem?_set_self (by simpa using (List.getElem?_eq_some_iff.mp h).1)] at h3
              cases h3
              rcases h6 with rfl | ⟨l, h9, h10⟩
              · exact ⟨_, _, h5, h2, o1⟩
              · exact ⟨_, l, h5, h9, h10⟩
            · subst this
              rcases h6 with rfl | ⟨l, h9, h10⟩
              · exact ⟨_, _, h5, h2, o1⟩
              · exact ⟨_, l, h5, h9, h10⟩
theorem pM_snd (hF : FSound IO FP FS) {penv : PE} {env : En} {st : Sto} {E : PX → PE → Prop} {K : PV → PE → Prop} {f : Str} {es : CEs} (h : pM T G IO FP f es penv E K) (ok : Ok l0 A st) (pe : PEok l0 A n0 L st penv env) :
    (evE T G FS (.call f es) env st).sat (fun d st' => ∃ r penv', K r penv' ∧ r.flat = true ∧ Rep l0 A st' r d ∧ PEok l0 A n0 L st' penv' env ∧ Ok l0 A st' ∧ Fm l0 penv env st penv' env st' ∧ (∀ l, OwC penv' env l → OwC penv env l)) (fun x st' => ∀ N V, RSok l0 A n0 L penv env st E N V (.ex x env st')) := by
  obtain ⟨is, h1, h2, h⟩ := h
  rw [evE_call, sat_bind]
  refine (pArgs_snd hF es 0 h ok pe).mono (fun ds st1 ⟨ps, h, ar, k1, ok1⟩ => ?_) (fun x st1 e N V => exAll pe ok e)
  have pe1 := pe.kp ok.na k1
  let M : Nat → Nat := fun j => match ds[j]? with
    | some (.ref l) => l
    | _ => 0
  have hM : ∀ k l, ds[k]? = some (.ref l) → M (0 + k) = l := fun k l e => by
    rw [Nat.zero_add]
    show (match ds[k]? with
    | some (.ref l) => l
    | _ => 0) = l
    rw [e]
  have sl : ∀ j ∈ IO f, ∀ i, slotAt es j = some i → ∃ t p, penv[i]? = some (.ow t p) ∧ env[i]? = some (some (.ref (M j))) := fun j hj i e => by
    obtain ⟨t, p, l, e1, e2, e3⟩ := ar.slot (by rw [Nat.zero_add]; exact elem_mem.mpr hj) e
    have := hM j l e3
    rw [Nat.zero_add] at this
    exact ⟨t, p, e1, by rw [this]; exact e2⟩
  have inj : ∀ i ∈ IO f, ∀ j ∈ IO f, M i = M j → i = j := fun i hi j hj e => by
    obtain ⟨a, ha, e1⟩ := optAll_mem h1 i hi
    obtain ⟨b, hb, e2⟩ := optAll_mem h1 j hj
    obtain ⟨t, p, e3, e4⟩ := sl i hi a e1
    obtain ⟨u, q, e5, e6⟩ := sl j hj b e2
    rw [e] at e4
    have := pe.inj a b t u p q _ e3 e5 e4 e6
    subst this
    exact nodup_inj h1 h2 i hi j hj (by rw [e1, e2])
  have ao : ArgsOk l0 (Fz A penv env) st1 (IO f) M 0 ps ds := ar.args (fun i t p l e1 e2 => by
    obtain ⟨m, e3, e4, e5, _⟩ := pe1.ow i t p e1
    rw [e2] at e3
    cases e3
    exact ⟨e4, fun a => a.2 ⟨i, t, p, e1, e2⟩, e5⟩) hM
  have okB := pe1.okBut ok1
  refine (hF f ps _ _ l0 _ st1 ds M h okB ao inj).mono (fun d st2 ⟨r, qs, fr, ⟨rf, hK⟩, r1, _, _, out, fm, ok2⟩ => ?_) (fun x st2 ⟨px, ⟨c1, c2⟩, rx, fm, ok2⟩ N V => ?_)
  · have len2 : st1.length ≤ st2.length := by
      by_cases q : st1.length ≤ st2.length
      · exact q
      · have := ok2.fut st2.length (Nat.le_refl _)
        by_cases q2 : st1.length = 0
        · omega
        · exfalso
          have e : st1[st2.length]? = some (st1[st2.length]'(by omega)) := List.getElem?_eq_getElem (by omega)
          by_cases z : ∃ j ∈ IO f, st2.length = M j
          · obtain ⟨j, hj, z⟩ := z
            obtain ⟨a, ha, e1⟩ := optAll_mem h1 j hj
            obtain ⟨t, p, e3, e4⟩ := sl j hj a e1
            rw [← z] at e4
            exact this.2 ⟨a, t, p, e3, e4⟩
          · have := fm _ _ (fun q => by
              have := ok2.pok
              obtain ⟨x, y, w, e⟩ := this
              have := (List.getElem?_eq_some_iff.mp e).1
              omega) (fun j hj q => z ⟨j, hj, q⟩) e
            have := (List.getElem?_eq_some_iff.mp this).1
            omega
    have okA2 : Ok l0 A st2 := ⟨ok2.pok, ok.na, fun l q => (ok2.fut l q).1⟩
    obtain ⟨b1, b2, b3⟩ := putBack_ok (env := env) (penv := penv) h1 out sl
    have get : ∀ {i : Nat} {t : Option Nat} {q : PV}, (putBack is qs penv)[i]? = some (.ow t q) → ∃ p, penv[i]? = some (.ow t p) := fun {i t q} e => by
      have hi : i < penv.length := by rw [← putBack_len is qs penv]; exact (List.getElem?_eq_some_iff.mp e).1
      have e0 : penv[i]? = some penv[i] := List.getElem?_eq_getElem hi
      cases e1 : penv[i] with
      | no => rw [b1 i _ (by rw [e0, e1]) (fun _ _ z => by cases z)] at e; cases e
      | fz p => rw [b1 i _ (by rw [e0, e1]) (fun _ _ z => by cases z)] at e; cases e
      | ow u p =>
        obtain ⟨q', e2, _⟩ := b2 i u p (by rw [e0, e1])
        rw [e] at e2
        cases e2
        exact ⟨p, by rw [e0, e1]⟩
    have sub : ∀ l, OwC (putBack is qs penv) env l → OwC penv env l := fun l ⟨i, t, q, e1, e2⟩ => by
      obtain ⟨p, e3⟩ := get e1
      exact ⟨i, t, p, e3, e2⟩
    have sup : ∀ l, OwC penv env l → OwC (putBack is qs penv) env l := fun l ⟨i, t, p, e1, e2⟩ => by
      obtain ⟨q, e3, _⟩ := b2 i t p e1
      exact ⟨i, t, q, e3, e2⟩
    have fz : ∀ l, Fz A penv env l → Fz A (putBack is qs penv) env l := fun l a => ⟨a.1, fun o => a.2 (sub l o)⟩
    have cells : ∀ j ∈ IO f, OwC penv env (M j) := fun j hj => by
      obtain ⟨a, ha, e1⟩ := optAll_mem h1 j hj
      obtain ⟨t, p, e3, e4⟩ := sl j hj a e1
      exact ⟨a, t, p, e3, e4⟩
    have mv : ∀ (l : Nat) (o : AO), Fz A penv env l → st1[l]? = some o → Fz A (putBack is qs penv) env l ∧ st2[l]? = some o := fun l o a e => ⟨fz l a, fm l o (fun z => ok.na (z ▸ a.1)) (fun j hj z => a.2 (by rw [z]; exact cells j hj)) e⟩
    refine ⟨r, _, hK, rf, Rep.flat r d rf r1, ⟨by rw [putBack_len, pe1.len], fun i p e => ?_, fun i t q e => ?_, fun i j t u p q l e1 e2 e3 e4 => ?_⟩, okA2, ⟨Nat.le_trans (k1.len ok1.pok) len2, fun l o n a e => ⟨fm l o n (fun j hj z => a (by rw [z]; exact cells j hj)) (k1 l o n e), fun o => a (sub l o)⟩⟩, sub⟩
    · have hi : i < penv.length := by rw [← putBack_len is qs penv]; exact (List.getElem?_eq_some_iff.mp e).1
      have e0 : penv[i]? = some penv[i] := List.getElem?_eq_getElem hi
      cases e1 : penv[i] with
      | no => rw [b1 i _ (by rw [e0, e1]) (fun _ _ z => by cases z)] at e; cases e
      | ow u p' =>
        obtain ⟨q', e2, _⟩ := b2 i u p' (by rw [e0, e1])
        rw [e] at e2
        cases e2
      | fz p' =>
        rw [b1 i _ (by rw [e0, e1]) (fun _ _ z => by cases z)] at e
        cases e
        obtain ⟨d', h3, h4⟩ := pe1.fz i p (by rw [e0, e1])
        exact ⟨d', h3, h4.mono mv⟩
    · obtain ⟨p, e1⟩ := get e
      obtain ⟨l, h3, h4, h5, h6⟩ := pe1.ow i t p e1
      by_cases hi : i ∈ is
      · obtain ⟨q', l', e2, e3, e4⟩ := b3 i t p hi e1
        rw [e] at e2
        cases e2
        rw [h3] at e3
        cases e3
        exact ⟨l, h3, h4, e4.mono (fun m o a e => ⟨fz m a, e⟩) (fun _ e => e), h6⟩
      · obtain ⟨q', e2, e3⟩ := b2 i t p e1
        rw [e] at e2
        cases e2
        rcases e3 with rfl | ⟨l', e4, e5⟩
        · refine ⟨l, h3, h4, h5.mono mv (fun o e => fm l o h4 (fun j hj z => hi ?_) e), h6⟩
          obtain ⟨a, ha, f1⟩ := optAll_mem h1 j hj
          obtain ⟨t', p', f3, f4⟩ := sl j hj a f1
          rw [← z] at f4
          rw [pe1.inj i a _ _ _ _ l e1 f3 h3 f4]
          exact ha
        · rw [h3] at e4
          cases e4
          exact ⟨l, h3, h4, e5.mono (fun m o a e => ⟨fz m a, e⟩) (fun _ e => e), h6⟩
    · obtain ⟨p', f1⟩ := get e1
      obtain ⟨q', f2⟩ := get e2
      exact pe1.inj i j t u p' q' l f1 f2 e3 e4
  · have okA2 : Ok l0 A st2 := ⟨ok2.pok, ok.na, fun l q => (ok2.fut l q).1⟩
    have cells : ∀ j ∈ IO f, OwC penv env (M j) := fun j hj => by
      obtain ⟨a, ha, e1⟩ := optAll_mem h1 j hj
      obtain ⟨t, p, e3, e4⟩ := sl j hj a e1
      exact ⟨a, t, p, e3, e4⟩
    have mv : ∀ (l : Nat) (o : AO), Fz A penv env l → st1[l]? = some o → Fz A (hideBut [] penv) env l ∧ st2[l]? = some o := fun l o a e => ⟨⟨a.1, hide_none⟩, fm l o (fun z => ok.na (z ▸ a.1)) (fun j hj z => a.2 (by rw [z]; exact cells j hj)) e⟩
    have noow : ∀ {i : Nat} {t : Option Nat} {p : PV}, (hideBut [] penv)[i]? ≠ some (.ow t p) := fun {i t p} e => by
      unfold hideBut at e
      rw [hideFrom_at] at e
      cases e0 : penv[i]? with
      | none => rw [e0] at e; cases e
      | some s =>
        rw [e0] at e
        cases s with
        | no => cases e
        | fz p => cases e
        | ow t p => cases t <;> cases e
    refine ⟨hideBut [] penv, px, c2, ⟨rx.1, rx.2.1, Reps.mono (fun l o a e => ⟨a.1, e⟩) _ _ rx.2.2⟩, ⟨by unfold hideBut; rw [hideFrom_len, pe1.len], fun i p e => ?_, fun i t p e => absurd e noow, fun i j t u p q l e => absurd e noow⟩, okA2, ?_, fun l o n a e => ⟨fm l o n (fun j hj z => a (by rw [z]; exact cells j hj)) (k1 l o n e), hide_none⟩⟩
    · unfold hideBut at e
      rw [hideFrom_at] at e
      cases e0 : penv[i]? with
      | none => rw [e0] at e; cases e
      | some s =>
        rw [e0] at e
        cases s with
        | no => cases e
        | ow t p => cases t <;> cases e
        | fz p' =>
          cases e
          obtain ⟨d', h3, h4⟩ := pe1.fz i p e0
          exact ⟨d', h3, h4.mono mv⟩
    · refine Nat.le_trans (k1.len ok1.pok) ?_
      by_cases q : st1.length ≤ st2.length
      · exact q
      · exfalso
        have := ok2.fut st2.length (Nat.le_refl _)
        have e : st1[st2.length]? = some (st1[st2.length]'(by omega)) := List.getElem?_eq_getElem (by omega)
        have := fm _ _ (fun q => by
              have := ok2.pok
              obtain ⟨x, y, w, e⟩ := this
              have := (List.getElem?_eq_some_iff.mp e).1
              omega) (fun j hj z => this.2 (by rw [z]; exact cells j hj)) e
        have := (List.getElem?_eq_some_iff.mp this).1
        omega
end
end Ab

set_option Elab.async false
set_option linter.all false
set_option autoImplicit false
set_option maxRecDepth 10000
/-! AbPureF: every statement and every call, with and without a store. -/
namespace Ab
open PySem
section
variable {l0 : Nat} {A B : Nat → Prop} {n0 : Nat} {L : Nat → Nat} {T : Tab} {G : Gb} {IO : Str → List Nat} {FP : PF} {FS : Str → List D → Sto → R D}
variable {penv : PE} {env : En} {st : Sto} {E : PX → PE → Prop} {N : PE → Prop} {V : PE → PV → Bool → Prop}
theorem ofAll2 {α β : Type} {r : R α} {f : α → Sto → RS} {rel : Sto → β → α → Prop} {Q : β → Prop} (h : PEok l0 A n0 L st penv env) (ok : Ok l0 A st)
    (hr : r.sat (Snd l0 (fun l => A l ∨ OwC penv env l) st rel Q) (XS l0 (fun l => A l ∨ OwC penv env l) st (exE penv E)))
    (hf : ∀ b a st', Q b → rel st' b a → Kp l0 st st' → PEok l0 A n0 L st' penv env → Ok l0 A st' → RSok l0 A n0 L penv env st E N V (f a st')) : RSok l0 A n0 L penv env st E N V (RS.of env r f) := by
  cases r with
  | ok a st' =>
    obtain ⟨b, q, r, k, ok'⟩ := hr
    exact hf b a st' q r k (h.kp ok.na k) (okA_of ok k ok')
  | ex x st' => exact exAll h ok hr
  | bad => exact hr.elim
theorem ofBut2 {α β : Type} {r : R α} {f : α → Sto → RS} {rel : Sto → β → α → Prop} {Q : β → Prop} {B : Nat → Prop} (h : PEok l0 A n0 L st penv env) (ok : Ok l0 A st) (hB : ∀ l, B l → A l)
    (hr : r.sat (Snd l0 B st rel Q) (XS l0 B st (exE penv E)))
    (hf : ∀ b a st', Q b → rel st' b a → Kp l0 st st' → PEok l0 A n0 L st' penv env → Ok l0 A st' → Ok l0 B st' → RSok l0 A n0 L penv env st E N V (f a st')) : RSok l0 A n0 L penv env st E N V (RS.of env r f) := by
  cases r with
  | ok a st' =>
    obtain ⟨b, q, r, k, ok'⟩ := hr
    exact hf b a st' q r k (h.kp ok.na k) (okA_of ok k ok') ok'
  | ex x st' => exact exBut h ok hB hr
  | bad => exact hr.elim
theorem Rep.isCell {p : PV} {l : Nat} (h : Rep l0 A st p (.ref l)) (n : l ≠ l0) : p.cell = true := by
  cases p with
  | lst ps => rfl
  | dct ks ps => rfl
  | tup ps => obtain ⟨_, e, _⟩ := h; cases e
  | itm ps => obtain ⟨_, e, _⟩ := h; cases e
  | pool => cases h; exact absurd rfl n
  | _ => cases h
theorem flat1_own {p : PV} {l : Nat} (h : Rep l0 A st p (.ref l)) (n : l ≠ l0) (f : p.flat1 = true) : Own l0 B st p l := by
  cases p with
  | lst ps => obtain ⟨m, ds, e, a, s, h1⟩ := h; cases e; exact ⟨ds, s, Reps.flat _ _ f h1⟩
  | dct ks ps => obtain ⟨m, ds, e, a, s, e2, h1⟩ := h; cases e; exact ⟨ds, s, e2, Reps.flat _ _ f h1⟩
  | tup ps => obtain ⟨_, e, _⟩ := h; cases e
  | itm ps => obtain ⟨_, e, _⟩ := h; cases e
  | pool => cases h; exact absurd rfl n
  | _ => cases h
theorem pok_lt (ok : Ok l0 A st) : l0 < st.length := by
  obtain ⟨x, y, z, e⟩ := ok.pok
  exact (List.getElem?_eq_some_iff.mp e).1
theorem nxSet {i : Nat} {p : PV} {d : D} {st1 : Sto} {penv1 : PE} (k : Fm l0 penv env st penv1 env st1) (pe1 : PEok l0 A n0 L st1 penv1 env) (ok1 : Ok l0 A st1) (r : Rep l0 (Fz A penv1 env) st1 p d) (h : N (penv1.set i (.fz p))) : RSok l0 A n0 L penv env st E N V (.nx (env.set i (some d)) st1) := by
  obtain ⟨h1, h2⟩ := pe1.setFz i r
  exact ⟨_, h, h1, ok1, k.trans ⟨Nat.le_refl _, fun l o n a e => ⟨e, fun q => a (h2 l q)⟩⟩⟩
theorem Fm.sub {penv1 : PE} {st1 : Sto} (k : Kp l0 st st1) (hl : st.length ≤ st1.length) (h : ∀ l, OwC penv1 env l → OwC penv env l) : Fm l0 penv env st penv1 env st1 := ⟨hl, fun l o n a e => ⟨k l o n e, fun q => a (h l q)⟩⟩
theorem nxOw {i : Nat} {p : PV} {l : Nat} {st1 : Sto} {penv1 : PE} (hs : ∀ l, OwC penv1 env l → OwC penv env l) (k : Kp l0 st st1) (pe1 : PEok l0 A n0 L st penv1 env) (ok : Ok l0 A st) (ok1 : Ok l0 A st1) (hl : st.length ≤ l) (hn : n0 ≤ st.length) (r : Own l0 (fun m => Fz A penv1 env m ∧ m ≠ l) st1 p l) (h : N (penv1.set i (.ow none p))) : RSok l0 A n0 L penv env st E N V (.nx (env.set i (some (.ref l))) st1) := by
  obtain ⟨h1, h2⟩ := pe1.setOw ok.na k i hl (by omega) (ok.fut l hl) r
  refine ⟨_, h, h1, ok1, k.len ok1.pok, fun m o n a e => ⟨k m o n e, fun q => ?_⟩⟩
  rcases h2 m q with q | rfl
  · exact a (hs m q)
  · have := (List.getElem?_eq_some_iff.mp e).1
    omega
/-! changes of things -/
theorem set_self {l : Nat} {o o' : AO} (h : st[l]? = some o) : (st.set l o')[l]? = some o' := List.getElem?_set_self (List.getElem?_eq_some_iff.mp h).1
theorem set_other {l m : Nat} {o o' : AO} (n : m ≠ l) (h : st[m]? = some o) : (st.set l o')[m]? = some o := by
  rw [List.getElem?_set_ne (fun z => n z.symm)]
  exact h
theorem keys_any {ws : List (Sum Int Str × D)} (k : Sum Int Str) : (ws.any fun kv => decide (kv.1 = k)) = (ws.map (·.1)).any fun a => decide (a = k) := by rw [List.any_map] <;> rfl
theorem setP_snd {k : Sum Int Str} {v : PV} {d : D} (hv : Rep l0 B st v d) : ∀ {ks : List (Sum Int Str)} {ps : List PV} {ws : List (Sum Int Str × D)}, ws.map (·.1) = ks → Reps l0 B st ps (ws.map (·.2)) → Reps l0 B st (setP ks ps k v) ((ws.map fun kv => if kv.1 = k then (kv.1, d) else kv).map (·.2))
  | ks, ps, [], e, h => by
    cases e
    cases h' : ps with
    | nil => exact rfl
    | cons p ps => rw [h'] at h; obtain ⟨_, _, z, _⟩ := h; cases z
  | ks, ps, w :: ws, e, h => by
    cases e
    cases ps with
    | nil => cases h
    | cons p ps =>
      obtain ⟨d', r, z, h1, h2⟩ := h
      cases z
      refine ⟨_, _, rfl, ?_, setP_snd hv rfl h2⟩
      show Rep l0 B st (if w.1 = k then v else p) (if w.1 = k then (w.1, d) else w).2
      split
      · exact hv
      · exact h1
theorem put_snd {ks : List (Sum Int Str)} {ps : List PV} {ws : List (Sum Int Str × D)} {k : Sum Int Str} {v : PV} {d : D} (e : ws.map (·.1) = ks) (h : Reps l0 B st ps (ws.map (·.2))) (hv : Rep l0 B st v d) :
    ∃ ks' ps', putP ks ps k v = .dct ks' ps' ∧ (putD ws k d).map (·.1) = ks' ∧ Reps l0 B st ps' ((putD ws k d).map (·.2)) := by
  unfold putP putD
  rw [keys_any, e]
  split
  · refine ⟨_, _, rfl, ?_, ?_⟩
    · rw [← e, List.map_map]
      refine List.map_congr_left fun w _ => ?_
      show (if w.1 = k then (w.1, d) else w).1 = w.1
      split <;> rfl
    · exact setP_snd hv e h
  · refine ⟨_, _, rfl, by rw [List.map_append, e]; rfl, ?_⟩
    rw [List.map_append]
    exact h.append (Reps.one hv)
theorem stS {q k p r : PV} {e d : D} {l : Nat} (hB : ∀ m, B m → m ≠ l) (hq : Own l0 B st q l) (hk : Rep l0 A st k e) (hp : Rep l0 B st p d) (h : stP q k p = some r) : ∃ o, setD (.ref l) e d st = .ok () (st.set l o) ∧ Own l0 B (st.set l o) r l := by
  have mv : ∀ (o : AO) (m : Nat) (u : AO), B m → st[m]? = some u → B m ∧ (st.set l o)[m]? = some u := fun o m u b e => ⟨b, set_other (hB m b) e⟩
  cases q with
  | lst ps =>
    obtain ⟨ds, s, h1⟩ := hq
    cases k with
    | int i =>
      cases hk
      unfold stP at h
      dsimp only at h
      unfold setD
      dsimp only
      rw [s]
      dsimp only
      rw [h1.length]
      cases ei : L2.ixN ps.length i with
      | none => rw [ei] at h; cases h
      | some j =>
        rw [ei] at h
        cases h
        exact ⟨_, rfl, _, set_self s, Reps.mono (mv _) _ _ (h1.set j hp)⟩
    | _ => cases h
  | dct ks ps =>
    obtain ⟨ws, s, e1, h1⟩ := hq
    have el : ws.length = ks.length := by rw [← e1, List.length_map]
    have dl : dctOf st l = some ws := by unfold dctOf; rw [s]
    unfold stP at h
    dsimp only at h
    cases ek : keyOfP k with
    | none => rw [ek] at h; cases h
    | some x =>
      rw [ek] at h
      dsimp only at h
      split at h
      · rename_i z
        cases h
        obtain ⟨ks', ps', e2, e3, h2⟩ := put_snd (k := x) e1 h1 hp
        rw [e2]
        refine ⟨.dct (putD ws x d), ?_, _, set_self s, e3, Reps.mono (mv _) _ _ h2⟩
        cases k with
        | int i =>
          cases hk
          cases ek
          unfold setD
          dsimp only
          rw [s]
          dsimp only
          rw [dl]
          exact if_pos (by rw [el]; exact z)
        | str y =>
          cases hk
          cases ek
          unfold setD
          dsimp only
          rw [dl]
          exact if_pos (by rw [el]; exact z)
        | _ => cases ek
      · cases h
  | _ => exact hq.elim
theorem appS {ps : List PV} {p : PV} {d : D} {l : Nat} (hB : ∀ m, B m → m ≠ l) (hq : Own l0 B st (.lst ps) l) (hp : Rep l0 B st p d) (h : ps.length < sizeLine) : ∃ o, mthD .append (.ref l) [d] st = .ok .non (st.set l o) ∧ Own l0 B (st.set l o) (.lst (ps ++ [p])) l := by
  obtain ⟨ds, s, h1⟩ := hq
  refine ⟨.lst false (ds ++ [d]), ?_, _, set_self s, Reps.mono (fun m u b e => ⟨b, set_other (hB m b) e⟩) _ _ (h1.append (Reps.one hp))⟩
  unfold mthD
  dsimp only
  rw [s]
  exact if_pos (by rw [h1.length]; exact h)
theorem popS {ps : List PV} {p : PV} {l : Nat} (hB : ∀ m, B m → m ≠ l) (hq : Own l0 B st (.lst (ps ++ [p])) l) : ∃ o d, mthD .pop (.ref l) [] st = .ok d (st.set l o) ∧ Own l0 B (st.set l o) (.lst ps) l ∧ Rep l0 B st p d := by
  obtain ⟨ds, s, h1⟩ := hq
  obtain ⟨es, d, rfl, h2, h3⟩ := h1.snoc_inv
  refine ⟨.lst false es, d, ?_, ⟨es, set_self s, Reps.mono (fun m u b e => ⟨b, set_other (hB m b) e⟩) _ _ h2⟩, h3⟩
  unfold mthD
  dsimp only
  rw [s]
  have e : (es ++ [d])[(es ++ [d]).length - 1]? = some d := by simp
  dsimp only
  rw [e]
  simp
/-- a thing of a slot's own is changed, the slots' end -/
theorem nxUpd {i : Nat} {t : Option Nat} {q r : PV} {l : Nat} {o : AO} {st1 : Sto} {penv1 : PE} (hs : ∀ l, OwC penv1 env l → OwC penv env l) (k : Kp l0 st st1) (pe1 : PEok l0 A n0 L st1 penv1 env) (ok1 : Ok l0 A st1) (e : penv1[i]? = some (.ow t q)) (el : env[i]? = some (some (.ref l))) (nl : l ≠ l0) (w : Own l0 (Fz A penv1 env) (st1.set l o) r l)
    (h : N (penv1.set i (.ow t r))) (ow0 : OwC penv env l) : RSok l0 A n0 L penv env st E N V (.nx env (st1.set l o)) := by
  obtain ⟨h1, h2⟩ := pe1.upd (st' := st1.set l o) e el (fun m u n e => set_other n e) w
  refine ⟨_, h, h1, ⟨?_, ok1.na, fun m q => ok1.fut m (by simpa using q)⟩, by simpa using k.len ok1.pok, fun m u n a e => ⟨set_other (fun z => a (by rw [z]; exact ow0)) (k m u n e), fun q => a (hs m ((h2 m).mp q))⟩⟩
  obtain ⟨x, y, z, e⟩ := ok1.pok
  exact ⟨x, y, z, set_other (fun q => nl q.symm) e⟩
theorem pT_ok {t : Tg} {p : PV} {d : D} {st1 : Sto} {penv1 : PE} (k : Fm l0 penv env st penv1 env st1) (pe1 : PEok l0 A n0 L st1 penv1 env) (ok1 : Ok l0 A st1) (r : Rep l0 (Fz A penv1 env) st1 p d) (h : pT t p penv1 N) : RSok l0 A n0 L penv env st E N V (RS.of env (setT T G FS t d env st1) fun env1 st2 => .nx env1 st2) := by
  obtain ⟨penv2, env2, e1, h1, ⟨h2, h3⟩, _⟩ := pT_gen (l0 := l0) (st := st1) (T := T) (G := G) (F := FS) (W := fun p e => PEok l0 A n0 L st1 p e ∧ ∀ l, OwC p e l → OwC penv1 env l) (A := Fz A) (fun i p d pe en r q => by
    obtain ⟨a, b⟩ := q.1.setFz i r
    exact ⟨⟨a, fun l o => q.2 l (b l o)⟩, fun l z => ⟨z.1, fun o => z.2 (b l o)⟩⟩) t p d penv1 env N h r ⟨pe1, fun _ o => o⟩
  rw [e1]
  exact ⟨penv2, h1, h2, ok1, k.trans ⟨Nat.le_refl _, fun l o n a e => ⟨e, fun q => a (h3 l q)⟩⟩⟩
theorem meth_var {m : Mth} {i l : Nat} {es : CEs} {q : PV} (el : env[i]? = some (some (.ref l))) (w : Own l0 B st q l) (hq : ∃ ps, q = .lst ps) : evE T G FS (.meth m (.var i) es) env st = (evEs T G FS es env st).bind fun ds st2 => mthD m (.ref l) ds st2 := by
  obtain ⟨ps, rfl⟩ := hq
  obtain ⟨ds, s, _⟩ := w
  rw [evE_meth, evE_var, el]
  show (match listOf st (.ref l) with | some _ => (evEs T G FS es env st).bind fun ds st2 => mthD m (.ref l) ds st2 | none => .bad) = _
  rw [listOf_lst s]
theorem fz_ne {i : Nat} {t : Option Nat} {q : PV} {l : Nat} (e : penv[i]? = some (.ow t q)) (el : env[i]? = some (some (.ref l))) : ∀ m, Fz A penv env m → m ≠ l := fun m a z => a.2 (by rw [z]; exact ⟨i, t, q, e, el⟩)
theorem dn_keep {os : List Nat} {i : Nat} {u : Option Nat} {w : PV} (e : penv[i]? = some (.ow u w)) (h : os.elem i = false) : (dnAt os penv)[i]? = some (.ow u w) := by
  unfold dnAt
  rw [dnFrom_at, e]
  cases u with
  | some j => rfl
  | none =>
    show some (if os.elem (0 + i) then Sl.fz w else .ow none w) = _
    rw [Nat.zero_add, h]
    rfl
/-! many values at once -/
def setAllE : List Nat → List D → En → En
  | i :: is, d :: ds, env => setAllE is ds (env.set i (some d))
  | _, _, env => env
theorem foldl_set : ∀ (is : List Nat) (ds : List D) (env : En), (is.zip ds).foldl (fun (v : En) p => v.set p.1 (some p.2)) env = setAllE is ds env
  | [], ds, env => rfl
  | i :: is, [], env => rfl
  | i :: is, d :: ds, env => foldl_set is ds (env.set i (some d))
theorem setTs_names : ∀ {ts : Tgs} {is : List Nat} {ds : List D} {env : En}, nameTs ts = some is → ds.length = is.length → setTs T G FS ts ds env st = .ok (setAllE is ds env) st
  | .nil, is, ds, env, h, hl => by
    cases h
    cases ds with
    | nil => rw [setTs_nil]; rfl
    | cons d ds => cases hl
  | .cons t ts, is, ds, env, h, hl => by
    cases t with
    | nm i =>
      unfold nameTs at h
      cases e : nameTs ts with
      | none => rw [e] at h; cases h
      | some js =>
        rw [e] at h
        cases h
        cases ds with
        | nil => cases hl
        | cons d ds =>
          rw [setTs_cons, setT_nm]
          exact setTs_names e (by simpa using hl)
    | _ => cases h
theorem PEr.wider {B' : Nat → Prop} (h : PEr l0 B st penv env) (f : ∀ (l : Nat) (o : AO), B l → st[l]? = some o → B' l) : PEr l0 B' st penv env := ⟨h.len, fun i s p e r => let ⟨d, h1, h2⟩ := h.rd i s p e r; ⟨d, h1, h2.mono fun l o a e => ⟨f l o a e, e⟩⟩⟩
/-- one more slot, at the end of a store that goes on -/
theorem putOne {p : PV} {fr : Bool} {d : D} {i : Nat} {st1 : Sto} {penv' : PE} {env' : En} (pe : PEok l0 A n0 L st penv' env') (ok : Ok l0 A st) (ok1 : Ok l0 A st1) (hn : n0 ≤ st.length) (k : Kp l0 st st1)
    (hv : if fr = true then ∃ l, d = .ref l ∧ st.length ≤ l ∧ Own l0 (fun m => Fz A penv' env' m ∧ m ≠ l) st1 p l else Rep l0 (Fz A penv' env') st1 p d) :
    PEok l0 A n0 L st1 (putS i p fr penv') (env'.set i (some d)) ∧ ∀ l, l < st.length → OwC (putS i p fr penv') (env'.set i (some d)) l → OwC penv' env' l := by
  cases fr with
  | true =>
    obtain ⟨l, rfl, hl, w⟩ := hv
    obtain ⟨h1, h2⟩ := pe.setOw ok.na k i hl (by omega) (ok.fut l hl) w
    exact ⟨h1, fun m hm o => (h2 m o).resolve_right (by omega)⟩
  | false =>
    obtain ⟨h1, h2⟩ := (pe.kp ok.na k).setFz i hv
    exact ⟨h1, fun m _ o => h2 m o⟩
theorem XS.from {B : Nat → Prop} {st st1 st2 : Sto} {E : PX → Prop} {x : XV} (k : Kp l0 st st1) (h : XS l0 B st1 E x st2) : XS l0 B st E x st2 := let ⟨px, h1, h2, k2, ok⟩ := h; ⟨px, h1, h2, k.trans k2, ok⟩
/-- all read: what comes is plain -/
theorem pAsA_snd (hF : FSound IO FP FS) {E : PX → Prop} {B : Nat → Prop} {penv : PE} {env : En} : ∀ (es : CEs) {is : List Nat} {st : Sto} {Q : List (PV × Bool) → Prop} {penv' : PE} {env' : En}, pAs T G IO FP es penv E Q → Ok l0 B st → PEr l0 B st penv env → Ok l0 A st → n0 ≤ st.length → PEok l0 A n0 L st penv' env' → (∀ l, A l → B l) →
    (evEs T G FS es env st).sat (fun ds st' => ∃ prs, Q prs ∧ ds.length = prs.length ∧ (prs.all plainPr = true → PEok l0 A n0 L st' (putAll is prs penv') (setAllE is ds env') ∧ ∀ l, l < st.length → OwC (putAll is prs penv') (setAllE is ds env') l → OwC penv' env' l) ∧ Kp l0 st st' ∧ Ok l0 A st') (XS l0 B st E)
  | .nil, is, st, Q, penv', env', h, okB, rd, ok, hn, pe, hAB => by
    rw [evEs_nil]
    refine ⟨[], h, rfl, fun _ => ?_, Kp.refl _ _, ok⟩
    cases is <;> exact ⟨pe, fun _ _ o => o⟩
  | .cons e es, is, st, Q, penv', env', h, okB, rd, ok, hn, pe, hAB => by
    rw [evEs_cons, sat_bind]
    refine (pA_snd hF e (Q := fun p => pAs T G IO FP es penv E fun prs => Q (p :: prs)) h okB rd).mono (fun d st1 ⟨⟨p, fr⟩, h, r, k1, ok1⟩ => ?_) (fun x st1 e => e)
    rw [sat_bind]
    have okA1 := okA_of ok k1 ok1
    have hn1 : n0 ≤ st1.length := Nat.le_trans hn (k1.len ok1.pok)
    by_cases hp : plainPr (p, fr) = true
    · have hv : if fr = true then ∃ l, d = .ref l ∧ st.length ≤ l ∧ Own l0 (fun m => Fz A penv' env' m ∧ m ≠ l) st1 p l else Rep l0 (Fz A penv' env') st1 p d := by
        cases fr with
        | true =>
          obtain ⟨l, rfl, hl⟩ := r.2 rfl
          exact ⟨l, rfl, hl, flat1_own r.1 (fun z => by have := pok_lt ok; omega) hp⟩
        | false => exact Rep.flat p d hp r.1
      cases is with
      | nil =>
        refine (pAsA_snd hF es (is := []) h ok1 (rd.kp okB k1) okA1 hn1 (pe.kp ok.na k1) hAB).mono (fun ds st2 ⟨prs, q, hl, h1, k2, ok2⟩ => ?_) (fun x st2 e => e.from k1)
        refine ⟨_, q, by simp [hl], fun z => ?_, k1.trans k2, ok2⟩
        rw [List.all_cons, Bool.and_eq_true] at z
        have hh := h1 z.2
        refine ⟨?_, fun l hl o => ?_⟩
        · have := hh.1
          cases prs <;> cases ds <;> exact this
        · have : OwC (putAll [] prs penv') (setAllE [] ds env') l := by cases prs <;> cases ds <;> exact o
          exact hh.2 l (by have := k1.len ok1.pok; omega) this
      | cons i is =>
        obtain ⟨h2, h3⟩ := putOne (i := i) pe ok okA1 hn k1 hv
        refine (pAsA_snd hF es (is := is) h ok1 (rd.kp okB k1) okA1 hn1 h2 hAB).mono (fun ds st2 ⟨prs, q, hl, h1, k2, ok2⟩ => ?_) (fun x st2 e => e.from k1)
        refine ⟨_, q, by simp [hl], fun z => ?_, k1.trans k2, ok2⟩
        rw [List.all_cons, Bool.and_eq_true] at z
        have hh := h1 z.2
        exact ⟨hh.1, fun l hl o => h3 l hl (hh.2 l (by have := k1.len ok1.pok; omega) o)⟩
    · refine (pAsA_snd hF es (is := []) h ok1 (rd.kp okB k1) okA1 hn1 (pe.kp ok.na k1) hAB).mono (fun ds st2 ⟨prs, q, hl, h1, k2, ok2⟩ => ?_) (fun x st2 e => e.from k1)
      refine ⟨_, q, by simp [hl], fun z => ?_, k1.trans k2, ok2⟩
      rw [List.all_cons, Bool.and_eq_true] at z
      exact absurd z.1 hp
/-- what owns is not read -/
theorem pAsH_snd (hF : FSound IO FP FS) {E : PX → Prop} {penv : PE} {env : En} : ∀ (es : CEs) {is : List Nat} {st : Sto} {Q : List (PV × Bool) → Prop} {penv' : PE} {env' : En}, pAs T G IO FP es penv E Q → PEr l0 (Fz A penv' env') st penv env → Ok l0 A st → n0 ≤ st.length → PEok l0 A n0 L st penv' env' →
    (evEs T G FS es env st).sat (fun ds st' => ∃ prs, Q prs ∧ ds.length = prs.length ∧ (prs.length = is.length → PEok l0 A n0 L st' (putAll is prs penv') (setAllE is ds env') ∧ ∀ l, l < st.length → OwC (putAll is prs penv') (setAllE is ds env') l → OwC penv' env' l) ∧ Kp l0 st st' ∧ Ok l0 A st') (XS l0 A st E)
  | .nil, is, st, Q, penv', env', h, rd, ok, hn, pe => by
    rw [evEs_nil]
    refine ⟨[], h, rfl, fun _ => ?_, Kp.refl _ _, ok⟩
    cases is <;> exact ⟨pe, fun _ _ o => o⟩
  | .cons e es, is, st, Q, penv', env', h, rd, ok, hn, pe => by
    rw [evEs_cons, sat_bind]
    have okB := pe.okBut ok
    refine (pA_snd hF e (Q := fun p => pAs T G IO FP es penv E fun prs => Q (p :: prs)) h okB rd).mono (fun d st1 ⟨⟨p, fr⟩, h, r, k1, ok1⟩ => ?_) (fun x st1 e => XS.wider (fun l a => a.1) ok.na e)
    rw [sat_bind]
    have okA1 := okA_of ok k1 ok1
    have hn1 : n0 ≤ st1.length := Nat.le_trans hn (k1.len ok1.pok)
    have hv : if fr = true then ∃ l, d = .ref l ∧ st.length ≤ l ∧ Own l0 (fun m => Fz A penv' env' m ∧ m ≠ l) st1 p l else Rep l0 (Fz A penv' env') st1 p d := by
      cases fr with
      | true =>
        obtain ⟨l, rfl, hl⟩ := r.2 rfl
        exact ⟨l, rfl, hl, (Rep.own ok1 r.1 (r.1.isCell fun z => by have := pok_lt ok; omega)).2⟩
      | false => exact r.1
    have rd1 := rd.kp okB k1
    cases is with
    | nil =>
      refine (pAsH_snd hF es (is := []) h rd1 okA1 hn1 (pe.kp ok.na k1)).mono (fun ds st2 ⟨prs, q, hl, h1, k2, ok2⟩ => ?_) (fun x st2 e => e.from k1)
      refine ⟨_, q, by simp [hl], fun z => by simp at z, k1.trans k2, ok2⟩
    | cons i is =>
      obtain ⟨h2, h3⟩ := putOne (i := i) pe ok okA1 hn k1 hv
      have rd2 : PEr l0 (Fz A (putS i p fr penv') (env'.set i (some d))) st1 penv env := by
        refine ⟨rd1.len, fun j s q e e2 => ?_⟩
        obtain ⟨d', h4, h5⟩ := rd.rd j s q e e2
        refine ⟨d', h4, h5.mono fun l o a e => ⟨⟨a.1, fun z => a.2 (h3 l (List.getElem?_eq_some_iff.mp e).1 z)⟩, k1 l o (fun z => ok.na (z ▸ a.1)) e⟩⟩
      refine (pAsH_snd hF es (is := is) h rd2 okA1 hn1 h2).mono (fun ds st2 ⟨prs, q, hl, h1, k2, ok2⟩ => ?_) (fun x st2 e => e.from k1)
      refine ⟨_, q, by simp [hl], fun z => ?_, k1.trans k2, ok2⟩
      have hh := h1 (by simpa using z)
      exact ⟨hh.1, fun l hl o => h3 l hl (hh.2 l (by have := k1.len ok1.pok; omega) o)⟩
theorem pPar_snd (hF : FSound IO FP FS) {is : List Nat} {es : CEs} {f : List D → Sto → RS} (h : pPar T G IO FP is es penv E N) (ok : Ok l0 A st) (hn : n0 ≤ st.length) (pe : PEok l0 A n0 L st penv env)
    (hf : ∀ ds st', ds.length = is.length → f ds st' = .nx (setAllE is ds env) st') : RSok l0 A n0 L penv env st E N V (RS.of env (evEs T G FS es env st) f) := by
  rcases h with h | h
  · have pd := (dn_ok pe []).1
    have rd := pe.readBut []
    have sub : ∀ l, OwC (dnAt [] penv) env l ↔ OwC penv env l := fun l => ⟨fun o => (dn_ok pe []).2 l o, fun ⟨i, t, p, h1, h2⟩ => ⟨i, t, p, by
      unfold dnAt
      rw [dnFrom_at, h1]
      cases t <;> rfl, h2⟩⟩
    have rd' : PEr l0 (Fz A penv env) st (hideBut [] penv) env := rd.wider fun l o a _ => ⟨a.1, fun q => a.2 ((sub l).mpr q)⟩
    have := pAsH_snd (is := is) hF es h rd' ok hn pe
    cases q : evEs T G FS es env st with
    | bad => rw [q] at this; exact this.elim
    | ex x st' => rw [q] at this; exact exBut pe ok (fun l a => a) this
    | ok ds st' =>
      rw [q] at this
      obtain ⟨prs, ⟨hl, hN⟩, hd, h1, k, ok'⟩ := this
      obtain ⟨h2, h3⟩ := h1 hl
      show RSok _ _ _ _ _ _ _ _ _ _ (f ds st')
      rw [hf ds st' (by omega)]
      exact ⟨_, hN, h2, ok', k.len ok'.pok, fun l o n a e => ⟨k l o n e, fun q => a (h3 l (List.getElem?_eq_some_iff.mp e).1 q)⟩⟩
  · have := pAsA_snd (is := is) hF es h (pe.okAll ok) pe.readAll ok hn pe (fun l a => .inl a)
    cases q : evEs T G FS es env st with
    | bad => rw [q] at this; exact this.elim
    | ex x st' => rw [q] at this; exact exAll pe ok this
    | ok ds st' =>
      rw [q] at this
      obtain ⟨prs, ⟨hl, hp, hN⟩, hd, h1, k, ok'⟩ := this
      obtain ⟨h2, h3⟩ := h1 hp
      show RSok _ _ _ _ _ _ _ _ _ _ (f ds st')
      rw [hf ds st' (by omega)]
      exact ⟨_, hN, h2, ok', k.len ok'.pok, fun l o n a e => ⟨k l o n e, fun q => a (h3 l (List.getElem?_eq_some_iff.mp e).1 q)⟩⟩
theorem pAsg_snd (hF : FSound IO FP FS) {t : Tg} {e : CE} (h : pAsg T G IO FP t e penv E N) (ok : Ok l0 A st) (hn : n0 ≤ st.length) (pe : PEok l0 A n0 L st penv env) : RSok l0 A n0 L penv env st E N V (evS T G FS (.asg t e) env st) := by
  rw [evS_asg]
  rcases h with ⟨i, rfl, h⟩ | ⟨ts, es, is, rfl, rfl, e1, e2, h⟩ | ⟨ts, rfl, h⟩ | ⟨i, ix, h⟩
  · rcases h with h | h | ⟨os, h⟩ | ⟨f, es, rfl, _, h⟩ | ⟨j, u, ps, p, rfl, e1, h⟩
    · refine ofAll2 pe ok (pE_snd hF e h (pe.okAll ok) pe.readAll) fun p d st1 ⟨f, h⟩ r k pe1 ok1 => ?_
      rw [setT_nm]
      exact nxSet (Fm.kp k (k.len ok1.pok)) pe1 ok1 (Rep.flat p d f r) h
    · refine ofAll2 pe ok (pA_snd hF e (Q := fun p => p.2 = true ∧ p.1.flat1 = true ∧ N (penv.set i (.ow none p.1))) h (pe.okAll ok) pe.readAll) fun p d st1 ⟨fr, f, h⟩ r k pe1 ok1 => ?_
      obtain ⟨l, rfl, hl⟩ := r.2 fr
      rw [setT_nm]
      have nl : l ≠ l0 := fun z => by have := pok_lt ok; omega
      exact nxOw (fun _ o => o) k pe ok ok1 hl hn (flat1_own r.1 nl f) h
    · obtain ⟨pd, sub⟩ := dn_ok pe os
      refine ofBut2 pe ok (fun l a => a.1) (pA_snd hF e (Q := fun p => N (putS i p.1 p.2 (dnAt os penv))) h (pd.okBut ok) (pe.readBut os)) fun p d st1 h r k pe1 ok1 okB => ?_
      obtain ⟨p, fr⟩ := p
      rw [setT_nm]
      cases fr with
      | false => exact nxSet (Fm.sub k (k.len ok1.pok) sub) (pd.kp ok.na k) ok1 r.1 h
      | true =>
        obtain ⟨l, rfl, hl⟩ := r.2 rfl
        have nl : l ≠ l0 := fun z => by have := pok_lt ok; omega
        exact nxOw sub k pd ok ok1 hl hn (Rep.own okB r.1 (r.1.isCell nl)).2 h
    · have := pM_snd (T := T) (G := G) hF h ok pe
      cases q : evE T G FS (.call f es) env st with
      | bad => rw [q] at this; exact this.elim
      | ex x st1 => rw [q] at this; exact this N V
      | ok d st1 =>
        rw [q] at this
        obtain ⟨r, penv1, h, f1, r1, pe1, ok1, fm, _⟩ := this
        show RSok _ _ _ _ _ _ _ _ _ _ (RS.of env (setT T G FS (.nm i) d env st1) _)
        rw [setT_nm]
        exact nxSet fm pe1 ok1 (Rep.flat r d f1 r1) h
    · obtain ⟨l, el, nl, w, mk⟩ := pe.ow j u _ e1
      rw [meth_var el w ⟨_, rfl⟩, evEs_nil]
      obtain ⟨o, d, em, w2, rp⟩ := popS (fz_ne e1 el) w
      show RSok _ _ _ _ _ _ _ _ _ _ (RS.of env (mthD .pop (.ref l) [] st) _)
      rw [em]
      show RSok _ _ _ _ _ _ _ _ _ _ (RS.of env (setT T G FS (.nm i) d env (st.set l o)) _)
      rw [setT_nm]
      obtain ⟨h1, h2⟩ := pe.upd (st' := st.set l o) e1 el (fun m u n e => set_other n e) w2
      have ol : OwC penv env l := ⟨j, u, _, e1, el⟩
      have ok1 : Ok l0 A (st.set l o) := ⟨by obtain ⟨x, y, z, e⟩ := ok.pok; exact ⟨x, y, z, set_other (fun q => nl q.symm) e⟩, ok.na, fun m q => ok.fut m (by simpa using q)⟩
      exact nxSet ⟨by simp, fun m v n a e => ⟨set_other (fun z => a (by rw [z]; exact ol)) e, fun q => a ((h2 m).mp q)⟩⟩ h1 ok1 (rp.mono fun m v a e => ⟨⟨a.1, fun q => a.2 ((h2 m).mp q)⟩, set_other (fz_ne e1 el m a) e⟩) h
  · rw [evE_tup]
    have of_bind : ∀ {r : R (List D)}, RS.of env (r.bind fun ds st1 => if ds.length ≤ sizeLine then R.ok (D.tup ds) st1 else .bad) (fun d st1 => RS.of env (setT T G FS (.tp ts) d env st1) fun env1 st2 => .nx env1 st2) = RS.of env r fun ds st1 => RS.of env (if ds.length ≤ sizeLine then R.ok (D.tup ds) st1 else .bad) (fun d st1 => RS.of env (setT T G FS (.tp ts) d env st1) fun env1 st2 => .nx env1 st2) := by
      intro r
      cases r <;> rfl
    rw [of_bind]
    refine pPar_snd hF h ok hn pe fun ds st' hl => ?_
    rw [if_pos (by rw [hl]; exact Nat.le_trans (Nat.le_of_ble_eq_true e2) (by decide))]
    show RS.of env (setT T G FS (.tp ts) (.tup ds) env st') _ = _
    rw [setT_tp, setTs_names e1 hl]
    rfl
  · rcases h with h | ⟨os, h⟩
    · refine ofAll2 pe ok (pE_snd hF e h (pe.okAll ok) pe.readAll) fun p d st1 ⟨f, h⟩ r k pe1 ok1 => ?_
      exact pT_ok (Fm.kp k (k.len ok1.pok)) pe1 ok1 (Rep.flat p d f r) h
    · obtain ⟨pd, sub⟩ := dn_ok pe os
      refine ofBut2 pe ok (fun l a => a.1) (pE_snd hF e h (pd.okBut ok) (pe.readBut os)) fun p d st1 h r k pe1 ok1 okB => ?_
      exact pT_ok (Fm.sub k (k.len ok1.pok) sub) (pd.kp ok.na k) ok1 r h
  · obtain ⟨u, w, rfl, e1, h⟩ := h
    obtain ⟨l, el, nl, _⟩ := pe.ow i u w e1
    have fin : ∀ {penv1 : PE} {p : PV} {d : D} {st1 : Sto}, (∀ l, OwC penv1 env l → OwC penv env l) → Kp l0 st st1 → PEok l0 A n0 L st1 penv1 env → PEok l0 A n0 L st1 penv env → Ok l0 A st1 → Rep l0 (Fz A penv1 env) st1 p d → penv1[i]? = some (.ow u w) →
        (pE T G IO FP ix penv noX fun k => ∃ r, stP w k p = some r ∧ N (penv1.set i (.ow u r))) → RSok l0 A n0 L penv env st E N V (RS.of env (setT T G FS (.sb (.var i) ix) d env st1) fun env1 st2 => .nx env1 st2) := by
      intro penv1 p d st1 sub k pe1 peA ok1 rp e1 h
      have hx := pE_snd hF ix h (peA.okAll ok1) peA.readAll
      rw [setT_sb, evE_var]
      cases q : evE T G FS ix env st1 with
      | bad => rw [q] at hx; exact hx.elim
      | ex x s => rw [q] at hx; obtain ⟨_, z, _⟩ := hx; exact z.elim
      | ok kd st2 =>
        rw [q] at hx
        obtain ⟨kp, ⟨r, e2, h⟩, rk, k2, okx⟩ := hx
        have ok2 := okA_of ok1 k2 okx
        have pe2 := pe1.kp ok1.na k2
        obtain ⟨l', el', nl', w1, mk⟩ := pe2.ow i u w e1
        rw [el] at el'
        cases el'
        have rp2 : Rep l0 (Fz A penv1 env) st2 p d := rp.kp (pe1.okBut ok1) k2
        obtain ⟨o, es, w2⟩ := stS (fz_ne e1 el) w1 rk rp2 e2
        rw [el]
        show RSok _ _ _ _ _ _ _ _ _ _ (RS.of env ((evE T G FS ix env st1).noex.bind _) _)
        rw [q]
        show RSok _ _ _ _ _ _ _ _ _ _ (RS.of env ((setD (.ref l) kd d st2).bind _) _)
        rw [es]
        exact nxUpd sub (k.trans k2) pe2 ok2 e1 el nl w2 h (sub l ⟨i, u, w, e1, el⟩)
    rcases h with h | ⟨os, ho, h⟩
    · refine ofAll2 pe ok (pE_snd hF e h (pe.okAll ok) pe.readAll) fun p d st1 ⟨f, h⟩ r k pe1 ok1 => ?_
      exact fin (fun _ o => o) k pe1 pe1 ok1 (Rep.flat p d f r) e1 h
    · obtain ⟨pd, sub⟩ := dn_ok pe os
      refine ofBut2 pe ok (fun l a => a.1) (pE_snd hF e h (pd.okBut ok) (pe.readBut os)) fun p d st1 h r k pe1 ok1 okB => ?_
      exact fin sub k (pd.kp ok.na k) pe1 ok1 r (dn_keep e1 ho) h
theorem pExpr_snd (hF : FSound IO FP FS) {e : CE} (h : pExpr T G IO FP e penv E N) (ok : Ok l0 A st) (hn : n0 ≤ st.length) (pe : PEok l0 A n0 L st penv env) : RSok l0 A n0 L penv env st E N V (evS T G FS (.expr e) env st) := by
  rw [evS_expr]
  rcases h with h | ⟨f, es, rfl, _, h⟩ | ⟨i, a, u, ps, rfl, e1, hs, h⟩ | ⟨j, u, ps, p, rfl, e1, h⟩
  · refine ofAll2 pe ok (pE_snd hF e h (pe.okAll ok) pe.readAll) fun p d st1 h r k pe1 ok1 => ?_
    exact ⟨penv, h, pe1, ok1, Fm.kp k (k.len ok1.pok)⟩
  · have := pM_snd (T := T) (G := G) hF h ok pe
    cases q : evE T G FS (.call f es) env st with
    | bad => rw [q] at this; exact this.elim
    | ex x st1 => rw [q] at this; exact this N V
    | ok d st1 =>
      rw [q] at this
      obtain ⟨r, penv1, h, f1, r1, pe1, ok1, fm, _⟩ := this
      exact ⟨penv1, h, pe1, ok1, fm⟩
  · obtain ⟨l, el, nl, w, mk⟩ := pe.ow i u _ e1
    have ev : evE T G FS (.meth .append (.var i) (.cons a .nil)) env st = (evE T G FS a env st).bind fun d st1 => mthD .append (.ref l) [d] st1 := by
      rw [meth_var el w ⟨_, rfl⟩, evEs_cons]
      cases evE T G FS a env st with
      | bad => rfl
      | ex x s => rfl
      | ok d s =>
        dsimp only [R.bind]
        rw [evEs_nil]
    have of_bind : ∀ {r : R D}, RS.of env (r.bind fun d st1 => mthD .append (.ref l) [d] st1) (fun _ st1 => RS.nx env st1) = RS.of env r fun d st1 => RS.of env (mthD .append (.ref l) [d] st1) fun _ st1 => RS.nx env st1 := by
      intro r
      cases r <;> rfl
    have fin : ∀ {penv1 : PE} {p : PV} {d : D} {st1 : Sto}, (∀ l, OwC penv1 env l → OwC penv env l) → Kp l0 st st1 → PEok l0 A n0 L st1 penv1 env → Ok l0 A st1 → Rep l0 (Fz A penv1 env) st1 p d →
        penv1[i]? = some (.ow u (.lst ps)) → N (penv1.set i (.ow u (.lst (ps ++ [p])))) → RSok l0 A n0 L penv env st E N V (RS.of env (mthD .append (.ref l) [d] st1) fun _ st1 => .nx env st1) := by
      intro penv1 p d st1 sub k pe1 ok1 rp e1 h
      obtain ⟨l', el', nl, w, mk⟩ := pe1.ow i u _ e1
      rw [el] at el'
      cases el'
      obtain ⟨o, em, w2⟩ := appS (fz_ne e1 el) w rp hs
      rw [em]
      exact nxUpd sub k pe1 ok1 e1 el nl w2 h (sub l ⟨i, u, _, e1, el⟩)
    rw [ev, of_bind]
    rcases h with h | ⟨os, ho, h⟩
    · refine ofAll2 pe ok (pE_snd hF a h (pe.okAll ok) pe.readAll) fun p d st1 ⟨f, h⟩ r k pe1 ok1 => ?_
      exact fin (fun _ o => o) k pe1 ok1 (Rep.flat p d f r) e1 h
    · obtain ⟨pd, sub⟩ := dn_ok pe os
      refine ofBut2 pe ok (fun l a => a.1) (pE_snd hF a h (pd.okBut ok) (pe.readBut os)) fun p d st1 h r k pe1 ok1 okB => ?_
      exact fin sub k (pd.kp ok.na k) ok1 r (dn_keep e1 ho) h
  · obtain ⟨l, el, nl, w, mk⟩ := pe.ow j u _ e1
    rw [meth_var el w ⟨_, rfl⟩, evEs_nil]
    obtain ⟨o, d, em, w2, rp⟩ := popS (fz_ne e1 el) w
    show RSok _ _ _ _ _ _ _ _ _ _ (RS.of env (mthD .pop (.ref l) [] st) _)
    rw [em]
    exact nxUpd (fun _ o => o) (Kp.refl _ _) pe ok e1 el nl w2 h ⟨j, u, _, e1, el⟩
theorem outs_of {st1 : Sto} {penv1 : PE} (pe : PEok l0 A n0 L st1 penv1 env) : ∀ (i j : Nat) (q : PV), penv1[i]? = some (.ow (some j) q) → Own l0 A st1 q (L j) := fun i j q e => by
  obtain ⟨l, el, nl, w, mk⟩ := pe.ow i _ q e
  rw [← mk.1]
  exact w.mono (fun m o a e => ⟨a.1, e⟩) (fun _ e => e)
theorem rtOk {p : PV} {d : D} {fr : Bool} {st1 : Sto} {penv1 : PE} (h : V penv1 p fr) (r : Rep l0 A st1 p d) (f : fr = true → ∃ l, d = .ref l ∧ n0 ≤ l) (o : ∀ (i j : Nat) (q : PV), penv1[i]? = some (.ow (some j) q) → Own l0 A st1 q (L j)) (ok1 : Ok l0 A st1) (hl : st.length ≤ st1.length)
    (k : ∀ (l : Nat) (o : AO), l ≠ l0 → ¬ OwC penv env l → st[l]? = some o → st1[l]? = some o) : RSok l0 A n0 L penv env st E N V (.rt d st1) := ⟨penv1, p, fr, h, r, f, o, ok1, hl, k⟩
theorem pRet_snd (hF : FSound IO FP FS) {e : CE} (h : pRet T G IO FP e penv E V) (ok : Ok l0 A st) (hn : n0 ≤ st.length) (pe : PEok l0 A n0 L st penv env) : RSok l0 A n0 L penv env st E N V (evS T G FS (.ret e) env st) := by
  rw [evS_ret]
  rcases h with h | ⟨i, p, rfl, e1, h⟩ | h | ⟨f, es, rfl, _, h⟩
  · refine ofAll2 pe ok (pE_snd hF e h (pe.okAll ok) pe.readAll) fun p d st1 ⟨f, h⟩ r k pe1 ok1 => ?_
    exact rtOk h (Rep.flat p d f r) (fun z => nomatch z) (outs_of pe1) ok1 (k.len ok1.pok) fun l o n a e => k l o n e
  · obtain ⟨l, el, nl, w, mk⟩ := pe.ow i none p e1
    rw [evE_var, el]
    refine rtOk h (w.rep (fun m a => a.1) mk.1) (fun _ => ⟨l, rfl, mk.2⟩) (fun j k q e => outs_of pe j k q ?_) ok (Nat.le_refl _) fun l o n a e => e
    rcases slot_set_get e with ⟨_, z⟩ | ⟨_, z⟩
    · cases z
    · exact z
  · have rd : PEr l0 A st (hideIO penv) env := by
      refine ⟨by unfold hideIO; rw [List.length_map, pe.len], fun i s p e r => ?_⟩
      unfold hideIO at e
      rw [List.getElem?_map] at e
      cases e0 : penv[i]? with
      | none => rw [e0] at e; cases e
      | some s0 =>
        rw [e0] at e
        cases e
        cases s0 with
        | no => cases r
        | fz q =>
          cases r
          obtain ⟨d, h1, h2⟩ := pe.fz i p e0
          exact ⟨d, h1, h2.mono fun l o a e => ⟨a.1, e⟩⟩
        | ow t q =>
          cases t with
          | some j => cases r
          | none =>
            cases r
            obtain ⟨l, h1, h2, h3, h4⟩ := pe.ow i none p e0
            exact ⟨_, h1, h3.rep (fun m a => a.1) h4.1⟩
    refine ofBut2 pe ok (fun l a => a) (pA_snd hF e (Q := fun p => V (hideBut [] penv) p.1 p.2) h ok rd) fun p d st1 h r k pe1 ok1 _ => ?_
    refine rtOk h r.1 (fun z => ?_) (fun i j q e => ?_) ok1 (k.len ok1.pok) fun l o n a e => k l o n e
    · obtain ⟨l, h1, h2⟩ := r.2 z
      exact ⟨l, h1, by omega⟩
    · exfalso
      unfold hideBut at e
      rw [hideFrom_at] at e
      cases e0 : penv[i]? with
      | none => rw [e0] at e; cases e
      | some s =>
        rw [e0] at e
        cases s with
        | no => cases e
        | fz p => cases e
        | ow t p => cases t <;> cases e
  · have := pM_snd (T := T) (G := G) hF h ok pe
    cases q : evE T G FS (.call f es) env st with
    | bad => rw [q] at this; exact this.elim
    | ex x st1 => rw [q] at this; exact this N V
    | ok d st1 =>
      rw [q] at this
      obtain ⟨r, penv1, h, f1, r1, pe1, ok1, fm, _⟩ := this
      exact rtOk h r1 (fun z => nomatch z) (outs_of pe1) ok1 fm.1 fun l o n a e => (fm.2 l o n a e).1
/-! loops -/
/-- what a block does, at any slots -/
def BlkOk (l0 : Nat) (A : Nat → Prop) (n0 : Nat) (L : Nat → Nat) (E : PX → PE → Prop) (V : PE → PV → Bool → Prop) (bP : PE → (PE → Prop) → Prop) (bS : En → Sto → RS) : Prop :=
  ∀ (penv : PE) (env : En) (st : Sto) (N : PE → Prop), bP penv N → Ok l0 A st → n0 ≤ st.length → PEok l0 A n0 L st penv env → RSok l0 A n0 L penv env st E N V (bS env st)
theorem for_snd {s : Src} {t : Tg} {bP : PE → (PE → Prop) → Prop} {bS : En → Sto → RS} (hb : BlkOk l0 A n0 L E V bP bS) : ∀ {items : List PV} {ds : List D} {penv : PE} {env : En} {st : Sto}, pFor (fun p env1 K => pT t p env1 fun env2 => bP env2 K) items penv N → Reps l0 (Fz A penv env) st items ds → (∀ q ∈ s.lock, Fz A penv env q.1 ∧ ∃ f, st[q.1]? = some (.lst f q.2)) →
    Ok l0 A st → n0 ≤ st.length → PEok l0 A n0 L st penv env → RSok l0 A n0 L penv env st E N V (forLoop s (setT T G FS t) bS ds env st)
  | [], ds, penv, env, st, h, r, hs, ok, hn, pe => by
    cases r
    unfold forLoop
    rw [if_pos (show s.still st from fun q hq => (hs q hq).2)]
    exact ⟨penv, h, pe, ok, Fm.refl⟩
  | p :: ps, ds, penv, env, st, h, r, hs, ok, hn, pe => by
    obtain ⟨d, dr, rfl, r1, r2⟩ := r
    unfold forLoop
    rw [if_pos (show s.still st from fun q hq => (hs q hq).2)]
    obtain ⟨penv2, env2, e1, h, ⟨pe2, sub⟩, _⟩ := pT_gen (l0 := l0) (st := st) (T := T) (G := G) (F := FS) (W := fun p e => PEok l0 A n0 L st p e ∧ ∀ l, OwC p e l → OwC penv env l) (A := Fz A) (fun i p d pe en r q => by
      obtain ⟨a, b⟩ := q.1.setFz i r
      exact ⟨⟨a, fun l o => q.2 l (b l o)⟩, fun l z => ⟨z.1, fun o => z.2 (b l o)⟩⟩) t p d penv env _ h r1 ⟨pe, fun _ o => o⟩
    rw [e1]
    have f0 : Fm l0 penv env st penv2 env2 st := ⟨Nat.le_refl _, fun l o n a e => ⟨e, fun q => a (sub l q)⟩⟩
    have hb1 := hb penv2 env2 st _ h ok hn pe2
    show RSok _ _ _ _ _ _ _ _ _ _ (match bS env2 st with
      | .nx env2 st2 => forLoop s (setT T G FS t) bS dr env2 st2
      | .ct env2 st2 => forLoop s (setT T G FS t) bS dr env2 st2
      | .bk env2 st2 => .nx env2 st2
      | r => r)
    refine RSok.later f0 ?_
    cases q : bS env2 st with
    | nx env3 st3 =>
      rw [q] at hb1
      obtain ⟨penv3, h3, pe3, ok3, f3⟩ := hb1
      refine RSok.later f3 ?_
      have f := f0.trans f3
      have mv : ∀ (l : Nat) (o : AO), Fz A penv env l → st[l]? = some o → Fz A penv3 env3 l ∧ st3[l]? = some o := fun l o a e => by
        obtain ⟨e2, a2⟩ := f.2 l o (fun z => ok.na (z ▸ a.1)) a.2 e
        exact ⟨⟨a.1, a2⟩, e2⟩
      exact for_snd hb h3 (Reps.mono mv _ _ r2) (fun q hq => let ⟨a, g, e⟩ := hs q hq; ⟨(mv _ _ a e).1, g, (mv _ _ a e).2⟩) ok3 (Nat.le_trans hn f.1) pe3
    | rt d st3 => rw [q] at hb1; exact hb1
    | ex x env3 st3 => rw [q] at hb1; exact hb1
    | bk _ _ => rw [q] at hb1; exact hb1.elim
    | ct _ _ => rw [q] at hb1; exact hb1.elim
    | bad => rw [q] at hb1; exact hb1.elim
theorem test_snd (hF : FSound IO FP FS) {c : CE} {f : Bool → Sto → RS} {K : Bool → Prop} (h : pE T G IO FP c penv (exE penv E) fun p => ∃ k, p = .bl k ∧ K k) (ok : Ok l0 A st) (pe : PEok l0 A n0 L st penv env)
    (hf : ∀ k st1, K k → Kp l0 st st1 → PEok l0 A n0 L st1 penv env → Ok l0 A st1 → RSok l0 A n0 L penv env st1 E N V (f k st1)) : RSok l0 A n0 L penv env st E N V (RS.of env (evT T G FS c env st) f) := by
  rw [evT_eq]
  have of_bind : ∀ {r : R D}, RS.of env (r.bind fun d st1 => asBool d st1) f = RS.of env r fun d st1 => RS.of env (asBool d st1) f := by
    intro r
    cases r <;> rfl
  rw [of_bind]
  refine ofAll pe ok (pE_snd hF c h (pe.okAll ok) pe.readAll) fun p d st1 ⟨k, e, h⟩ r kp pe1 ok1 => ?_
  rw [asBoolE r e]
  exact hf k st1 h kp pe1 ok1
theorem while_snd (hF : FSound IO FP FS) {c : CE} {bP : PE → (PE → Prop) → Prop} {bS : En → Sto → RS} (hb : BlkOk l0 A n0 L E V bP bS) : ∀ {n : Nat} {penv : PE} {env : En} {st : Sto}, pWhile (fun env1 K => pE T G IO FP c env1 (exE env1 E) fun p => ∃ k, p = .bl k ∧ K k) bP n penv N →
    Ok l0 A st → n0 ≤ st.length → PEok l0 A n0 L st penv env → RSok l0 A n0 L penv env st E N V (whileLoop (evT T G FS c) bS n env st)
  | 0, penv, env, st, h, ok, hn, pe => h.elim
  | n + 1, penv, env, st, h, ok, hn, pe => by
    unfold whileLoop
    refine test_snd hF h ok pe fun k st1 h kp pe1 ok1 => ?_
    have hn1 : n0 ≤ st1.length := Nat.le_trans hn (kp.len ok1.pok)
    cases k with
    | false => exact ⟨penv, h, pe1, ok1, Fm.refl⟩
    | true =>
      have hb1 := hb penv env st1 _ h ok1 hn1 pe1
      rw [if_pos rfl]
      cases q : bS env st1 with
      | nx env3 st3 =>
        rw [q] at hb1
        obtain ⟨penv3, h3, pe3, ok3, f3⟩ := hb1
        exact RSok.later f3 (while_snd hF hb h3 ok3 (Nat.le_trans hn1 f3.1) pe3)
      | rt d st3 => rw [q] at hb1; exact hb1
      | ex x env3 st3 => rw [q] at hb1; exact hb1
      | bk _ _ => rw [q] at hb1; exact hb1.elim
      | ct _ _ => rw [q] at hb1; exact hb1.elim
      | bad => rw [q] at hb1; exact hb1.elim
theorem par_snd {st1 : Sto} : ∀ {ts : List Nat} {ps : List PV} {ds : List D} {penv1 : PE} {env1 : En}, Reps l0 (Fz A penv1 env1) st1 ps ds → PEok l0 A n0 L st1 penv1 env1 →
    PEok l0 A n0 L st1 ((ts.zip ps).foldl (fun (v : PE) p => v.set p.1 (.fz p.2)) penv1) ((ts.zip ds).foldl (fun (v : En) p => v.set p.1 (some p.2)) env1) ∧ ∀ l, OwC ((ts.zip ps).foldl (fun (v : PE) p => v.set p.1 (.fz p.2)) penv1) ((ts.zip ds).foldl (fun (v : En) p => v.set p.1 (some p.2)) env1) l → OwC penv1 env1 l
  | [], ps, ds, penv1, env1, r, pe => ⟨pe, fun _ o => o⟩
  | t :: ts, [], ds, penv1, env1, r, pe => by cases r; exact ⟨pe, fun _ o => o⟩
  | t :: ts, p :: ps, ds, penv1, env1, r, pe => by
    obtain ⟨d, dr, rfl, r1, r2⟩ := r
    obtain ⟨h1, h2⟩ := pe.setFz t r1
    obtain ⟨h3, h4⟩ := par_snd (ts := ts) (Reps.mono (fun l o a e => ⟨⟨a.1, fun q => a.2 (h2 l q)⟩, e⟩) _ _ r2) h1
    exact ⟨h3, fun l o => h2 l (h4 l o)⟩
section
variable {l0 : Nat} {A : Nat → Prop} {n0 : Nat} {L : Nat → Nat}
mutual
theorem pS_snd (hF : FSound IO FP FS) : ∀ (s : CS) {penv : PE} {env : En} {st : Sto} {E : PX → PE → Prop} {N : PE → Prop} {V : PE → PV → Bool → Prop}, pS T G IO FP s penv E N V → Ok l0 A st → n0 ≤ st.length → PEok l0 A n0 L st penv env → RSok l0 A n0 L penv env st E N V (evS T G FS s env st)
  | .asg t e, penv, env, st, E, N, V, h, ok, hn, pe => pAsg_snd hF h ok hn pe
  | .par ts es, penv, env, st, E, N, V, h, ok, hn, pe => by
    rw [evS_par]
    refine pPar_snd hF h ok hn pe fun ds st' hl => ?_
    rw [if_pos hl, foldl_set]
  | .expr e, penv, env, st, E, N, V, h, ok, hn, pe => pExpr_snd hF h ok hn pe
  | .ret e, penv, env, st, E, N, V, h, ok, hn, pe => pRet_snd hF h ok hn pe
  | .retN, penv, env, st, E, N, V, h, ok, hn, pe => by
    rw [evS_retN]
    exact rtOk h rfl (fun z => nomatch z) (outs_of pe) ok (Nat.le_refl _) fun l o n a e => e
  | .ife c a b, penv, env, st, E, N, V, h, ok, hn, pe => by
    rw [evS_ife]
    refine test_snd hF (K := fun k => if k = true then pSs T G IO FP a penv E N V else pSs T G IO FP b penv E N V) h ok pe fun k st1 h kp pe1 ok1 => ?_
    have hn1 : n0 ≤ st1.length := Nat.le_trans hn (kp.len ok1.pok)
    cases k with
    | true => exact pSs_snd hF a h ok1 hn1 pe1
    | false => exact pSs_snd hF b h ok1 hn1 pe1
  | .for_ t it b, penv, env, st, E, N, V, h, ok, hn, pe => by
    rw [evS_for]
    have hb : BlkOk l0 A n0 L E V (fun p K => pSs T G IO FP b p E K V) (evSs T G FS b) := fun p e s N' h ok hn pe => pSs_snd hF b h ok hn pe
    rcases h with h | ⟨os, h⟩
    · refine ofAll pe ok (pI_snd hF it (Q := fun p => PV.flats p.1 = true ∧ PV.flats p.2 = true ∧ pFor (fun p env1 K => pT t p env1 fun env2 => pSs T G IO FP b env2 E K V) p.2 penv N) h (pe.okAll ok) pe.readAll) fun p s st1 ⟨f1, f2, h⟩ r k pe1 ok1 => ?_
      refine for_snd hb h (Reps.flat _ _ f2 r.1) ?_ ok1 (Nat.le_trans hn (k.len ok1.pok)) pe1
      rw [r.2.2 f1]
      exact fun _ z => nomatch z
    · obtain ⟨pd, sub⟩ := dn_ok pe os
      refine ofBut2 pe ok (fun l a => a.1) (pI_snd hF it (Q := fun p => pFor (fun p env1 K => pT t p env1 fun env2 => pSs T G IO FP b env2 E K V) p.2 (dnAt os penv) N) h (pd.okBut ok) (pe.readBut os)) fun p s st1 h r k pe1 ok1 okB => ?_
      refine RSok.later (Fm.sub k (k.len ok1.pok) sub) ?_
      exact for_snd hb h r.1 r.2.1 ok1 (Nat.le_trans hn (k.len ok1.pok)) (pd.kp ok.na k)
  | .while_ c b, penv, env, st, E, N, V, h, ok, hn, pe => by
    rw [evS_while]
    exact while_snd hF (bP := fun p K => pSs T G IO FP b p E K V) (fun p e s N' h ok hn pe => pSs_snd hF b h ok hn pe) h ok hn pe
  | .pass, penv, env, st, E, N, V, h, ok, hn, pe => by
    rw [evS_pass]
    exact ⟨penv, h, pe, ok, Fm.refl⟩
  | .never, penv, env, st, E, N, V, h, ok, hn, pe => h.elim
theorem pSs_snd (hF : FSound IO FP FS) : ∀ (s : CSs) {penv : PE} {env : En} {st : Sto} {E : PX → PE → Prop} {N : PE → Prop} {V : PE → PV → Bool → Prop}, pSs T G IO FP s penv E N V → Ok l0 A st → n0 ≤ st.length → PEok l0 A n0 L st penv env → RSok l0 A n0 L penv env st E N V (evSs T G FS s env st)
  | .nil, penv, env, st, E, N, V, h, ok, hn, pe => by
    rw [evSs_nil]
    exact ⟨penv, h, pe, ok, Fm.refl⟩
  | .cons s ss, penv, env, st, E, N, V, h, ok, hn, pe => by
    rw [evSs_cons]
    have h1 := pS_snd hF s h ok hn pe
    cases q : evS T G FS s env st with
    | nx env3 st3 =>
      rw [q] at h1
      obtain ⟨penv3, h3, pe3, ok3, f3⟩ := h1
      exact RSok.later f3 (pSs_snd hF ss h3 ok3 (Nat.le_trans hn f3.1) pe3)
    | rt d st3 => rw [q] at h1; exact h1
    | ex x env3 st3 => rw [q] at h1; exact h1
    | bk _ _ => rw [q] at h1; exact h1.elim
    | ct _ _ => rw [q] at h1; exact h1.elim
    | bad => rw [q] at h1; exact h1.elim
end
end
/-! calls -/
theorem in_at {io : List Nat} : ∀ {k : Nat} {ps : List PV} {i : Nat}, (inFrom io k ps)[i]? = ps[i]?.map fun p => if io.elem (k + i) then .ow (some (k + i)) p else .fz p
  | k, [], i => by simp [inFrom]
  | k, p :: ps, 0 => by simp [inFrom]
  | k, p :: ps, i + 1 => by
    show (inFrom io (k + 1) ps)[i]? = _
    rw [in_at, show k + 1 + i = k + (i + 1) from by omega]
    rfl
theorem in_len {io : List Nat} : ∀ {k : Nat} {ps : List PV}, (inFrom io k ps).length = ps.length
  | k, [] => rfl
  | k, p :: ps => by show (inFrom io (k + 1) ps).length + 1 = _; rw [in_len]; rfl
theorem ArgsOk.length {io : List Nat} : ∀ {k : Nat} {ps : List PV} {ds : List D}, ArgsOk l0 A st io L k ps ds → ds.length = ps.length
  | k, [], ds, h => by cases h; rfl
  | k, p :: ps, ds, ⟨d, r, e, _, h⟩ => by subst e; simp [ArgsOk.length h]
theorem ArgsOk.at {io : List Nat} : ∀ {k : Nat} {ps : List PV} {ds : List D} {i : Nat} {p : PV}, ArgsOk l0 A st io L k ps ds → ps[i]? = some p → ∃ d, ds[i]? = some d ∧ (if io.elem (k + i) = true then d = .ref (L (k + i)) ∧ L (k + i) ≠ l0 ∧ ¬ A (L (k + i)) ∧ Own l0 A st p (L (k + i)) else Rep l0 A st p d)
  | k, [], ds, i, p, h, e => by simp at e
  | k, p :: ps, _, 0, _, ⟨d, r, e, h, _⟩, e2 => by subst e; cases e2; exact ⟨d, rfl, h⟩
  | k, p :: ps, _, i + 1, q, ⟨d, r, e, _, h⟩, e2 => by
    subst e
    obtain ⟨d', h1, h2⟩ := ArgsOk.at (i := i) h e2
    refine ⟨d', h1, ?_⟩
    rw [show k + (i + 1) = k + 1 + i from by omega]
    exact h2
theorem outs_snd {penv1 : PE} (h : ∀ (i j : Nat) (q : PV), penv1[i]? = some (.ow (some j) q) → Own l0 A st q (L j)) : ∀ {io : List Nat} {qs : List PV}, outs penv1 io = some qs → OutsOk l0 A st L io qs
  | [], qs, e => by cases e; exact rfl
  | j :: js, qs, e => by
    unfold outs at e
    split at e
    · rename_i k q e1
      split at e
      · rename_i z
        cases e2 : outs penv1 js with
        | none => rw [e2] at e; cases e
        | some r => rw [e2] at e; cases e; exact ⟨q, r, rfl, by rw [← z]; exact h j k q e1, outs_snd h e2⟩
      · cases e
    · cases e
/-- a def's body -/
theorem body_snd (hF : FSound IO FP FS) {io : List Nat} {fn : Fn} {ps : List PV} {ds : List D} {E : PX → Prop} {Q : PV → List PV → Bool → Prop} (h : pBody T G IO FP io fn ps E Q) (ok : Ok l0 A st) (ha : ArgsOk l0 A st io L 0 ps ds) (inj : ∀ i ∈ io, ∀ j ∈ io, L i = L j → i = j) :
    (runFn T G FS fn ds st).sat (fun d st' => ∃ r qs fr, Q r qs fr ∧ Rep l0 A st' r d ∧ (fr = true → FreshAt st d) ∧ (io ≠ [] → r.flat = true) ∧ OutsOk l0 A st' L io qs ∧ Frm l0 io L st st' ∧ Ok l0 A st')
      (fun x st' => ∃ px, E px ∧ RepX l0 A st' px x ∧ Frm l0 io L st st' ∧ Ok l0 A st') := by
  have hl := ha.length
  have hin : ∀ {i : Nat} {s : Sl}, (inFrom io 0 ps ++ List.replicate (fn.N.length - ps.length) .no)[i]? = some s → s ≠ .no → ∃ p, ps[i]? = some p ∧ s = (if io.elem i then .ow (some i) p else .fz p) := by
    intro i s e n
    by_cases q : i < ps.length
    · rw [List.getElem?_append_left (by rw [in_len]; exact q), in_at, Nat.zero_add] at e
      cases e0 : ps[i]? with
      | none => rw [e0] at e; cases e
      | some p => rw [e0] at e; exact ⟨p, rfl, (Option.some.inj e).symm⟩
    · rw [List.getElem?_append_right (by rw [in_len]; omega)] at e
      have := List.mem_of_getElem? e
      exact absurd (List.mem_replicate.mp this).2 n
  have hen : ∀ {i : Nat} {d : D}, ds[i]? = some d → (ds.map some ++ List.replicate (fn.N.length - ds.length) none)[i]? = some (some d) := by
    intro i d e
    have := (List.getElem?_eq_some_iff.mp e).1
    rw [List.getElem?_append_left (by simpa using this), List.getElem?_map, e]
    rfl
  have oc : ∀ l, OwC (inFrom io 0 ps ++ List.replicate (fn.N.length - ps.length) .no) (ds.map some ++ List.replicate (fn.N.length - ds.length) none) l → ∃ j ∈ io, l = L j ∧ ¬ A l := by
    rintro l ⟨i, t, p, e1, e2⟩
    obtain ⟨p', e3, e4⟩ := hin e1 (by intro z; cases z)
    obtain ⟨d, e5, e6⟩ := ha.at e3
    rw [hen e5] at e2
    cases e2
    rw [Nat.zero_add] at e6
    by_cases z : io.elem i = true
    · rw [if_pos z] at e6
      obtain ⟨e7, _, e8, _⟩ := e6
      cases e7
      exact ⟨i, elem_mem.mp z, rfl, e8⟩
    · rw [if_neg z] at e4
      cases e4
  have pe : PEok l0 A st.length L st (inFrom io 0 ps ++ List.replicate (fn.N.length - ps.length) .no) (ds.map some ++ List.replicate (fn.N.length - ds.length) none) := by
    have fz : ∀ (l : Nat) (o : AO), A l → st[l]? = some o → Fz A (inFrom io 0 ps ++ List.replicate (fn.N.length - ps.length) .no) (ds.map some ++ List.replicate (fn.N.length - ds.length) none) l ∧ st[l]? = some o := fun l o a e => ⟨⟨a, fun q => let ⟨_, _, _, n⟩ := oc l q; n a⟩, e⟩
    refine ⟨by simp [in_len, hl], fun i p e => ?_, fun i t p e => ?_, fun i j t u p q l e1 e2 e3 e4 => ?_⟩
    · obtain ⟨p', e3, e4⟩ := hin e (by intro z; cases z)
      obtain ⟨d, e5, e6⟩ := ha.at e3
      rw [Nat.zero_add] at e6
      by_cases z : io.elem i = true
      · rw [if_pos z] at e4
        cases e4
      · rw [if_neg z] at e4 e6
        cases e4
        exact ⟨d, hen e5, e6.mono fz⟩
    · obtain ⟨p', e3, e4⟩ := hin e (by intro z; cases z)
      obtain ⟨d, e5, e6⟩ := ha.at e3
      rw [Nat.zero_add] at e6
      by_cases z : io.elem i = true
      · rw [if_pos z] at e4 e6
        cases e4
        obtain ⟨rfl, h1, h2, h3⟩ := e6
        exact ⟨L i, hen e5, h1, h3.mono fz (fun _ e => e), rfl, h2⟩
      · rw [if_neg z] at e4
        cases e4
    · have one : ∀ {i : Nat} {t : Option Nat} {p : PV}, (inFrom io 0 ps ++ List.replicate (fn.N.length - ps.length) .no)[i]? = some (.ow t p) → (ds.map some ++ List.replicate (fn.N.length - ds.length) none)[i]? = some (some (.ref l)) → i ∈ io ∧ l = L i := by
        intro i t p e1 e3
        obtain ⟨p', e4, e5⟩ := hin e1 (by intro z; cases z)
        obtain ⟨d, e6, e7⟩ := ha.at e4
        rw [hen e6] at e3
        cases e3
        rw [Nat.zero_add] at e7
        by_cases z : io.elem i = true
        · rw [if_pos z] at e7
          obtain ⟨e8, _⟩ := e7
          cases e8
          exact ⟨elem_mem.mp z, rfl⟩
        · rw [if_neg z] at e5
          cases e5
      obtain ⟨m1, l1⟩ := one e1 e3
      obtain ⟨m2, l2⟩ := one e2 e4
      exact inj i m1 j m2 (by rw [← l1, ← l2])
  have frm : ∀ {st' : Sto}, (∀ (l : Nat) (o : AO), l ≠ l0 → ¬ OwC (inFrom io 0 ps ++ List.replicate (fn.N.length - ps.length) .no) (ds.map some ++ List.replicate (fn.N.length - ds.length) none) l → st[l]? = some o → st'[l]? = some o) → Frm l0 io L st st' := fun h l o n a e => h l o n (fun q => by
    obtain ⟨j, hj, e, _⟩ := oc l q
    exact a j hj e) e
  have main := pSs_snd hF fn.body h ok (Nat.le_refl _) pe
  unfold runFn
  cases q : evSs T G FS fn.body (ds.map some ++ List.replicate (fn.N.length - ds.length) none) st with
  | nx env' st' =>
    rw [q] at main
    obtain ⟨penv', ⟨qs, ho, hQ⟩, pe', ok', f⟩ := main
    exact ⟨.non, qs, false, hQ, rfl, (fun z => nomatch z), fun _ => rfl, outs_snd (outs_of pe') ho, frm fun l o n a e => (f.2 l o n a e).1, ok'⟩
  | rt d st' =>
    rw [q] at main
    obtain ⟨penv', p, fr, ⟨hf, qs, ho, hQ⟩, r, hfr, out, ok', _, k⟩ := main
    exact ⟨p, qs, fr, hQ, r, hfr, hf, outs_snd out ho, frm k, ok'⟩
  | ex x env' st' =>
    rw [q] at main
    obtain ⟨penv', px, hE, rx, _, ok', f⟩ := main
    exact ⟨px, hE, rx, frm fun l o n a e => (f.2 l o n a e).1, ok'⟩
  | bk _ _ => rw [q] at main; exact main.elim
  | ct _ _ => rw [q] at main; exact main.elim
  | bad => rw [q] at main; exact main.elim
/-- what is told of a def in another way holds -/
def ToldOk (T : Tab) (G : Gb) (S : Told) : Prop := ∀ (f : Str) (w : Nat → List PV → (PV → Prop) → Prop), S f = some w → ∀ (k : Nat) (ps : List PV) (Q : PV → Prop) (l0 : Nat) (A : Nat → Prop) (st : Sto) (ds : List D), w k ps Q → Ok l0 A st → Reps l0 A st ps ds →
  (callN T G k f ds st).sat (Snd l0 A st (Rep l0 A) Q) (fun _ _ => False)
theorem call_snd {S : Told} (hS : ToldOk T G S) : ∀ k : Nat, FSound IO (pCallN T G IO S k) (callN T G k)
  | 0 => fun f ps E Q l0 A st ds L h ok ha inj => h.elim
  | k + 1 => fun f ps E Q l0 A st ds L h ok ha inj => by
    have h : (match S f with
      | some w => IO f = [] ∧ w (k + 1) ps fun r => Q r [] false
      | none => ∃ fn, T f = some fn ∧ ps.length = fn.ps.length ∧ pBody T G IO (pCallN T G IO S k) (IO f) fn ps E Q) := h
    cases e : S f with
    | some w =>
      rw [e] at h
      obtain ⟨hio, h⟩ := h
      rw [hio] at ha ⊢
      have hr : Reps l0 A st ps ds := by
        have go : ∀ {j : Nat} {ps : List PV} {ds : List D}, ArgsOk l0 A st [] L j ps ds → Reps l0 A st ps ds := by
          intro j ps
          induction ps generalizing j with
          | nil => intro ds h; exact h
          | cons p ps ih => rintro ds ⟨d, r, e, h1, h2⟩; exact ⟨d, r, e, h1, ih h2⟩
        exact go ha
      refine (hS f w e (k + 1) ps _ l0 A st ds h ok hr).mono (fun d st' ⟨r, q, rr, kp, ok'⟩ => ?_) (fun _ _ h => h.elim)
      exact ⟨r, [], false, q, rr, (fun z => nomatch z), (fun z => absurd rfl z), rfl, fun l o n _ e => kp l o n e, ok'⟩
    | none =>
      rw [e] at h
      obtain ⟨fn, hT, hl, h⟩ := h
      show (match T f with
        | some fn => if ds.length = fn.ps.length then runFn T G (callN T G k) fn ds st else .bad
        | none => .bad).sat _ _
      rw [hT]
      dsimp only
      rw [if_pos (by rw [ha.length]; exact hl)]
      exact body_snd (call_snd hS k) h ok ha inj
/-- a call of a def that changes no argument -/
theorem pure_call {S : Told} (hS : ToldOk T G S) {k : Nat} {f : Str} {ps : List PV} {ds : List D} {Q : PV → Prop} (hio : IO f = []) (h : pCall T G IO S k f ps noX fun r _ _ => Q r) (p : Pok l0 st) (r : Reps l0 (fun l => l ≠ l0) st ps ds) :
    (callF T G k f ds st).wp fun d st' => ∃ q, Q q ∧ Rep l0 (fun l => l ≠ l0) st' q d ∧ Kp l0 st st' ∧ Pok l0 st' := by
  have ok : Ok l0 (fun l => l ≠ l0) st := ⟨p, fun h => h rfl, fun l h => by
    obtain ⟨x, y, z, e⟩ := p
    have := (List.getElem?_eq_some_iff.mp e).1
    omega⟩
  unfold pCall at h
  rw [callF_def]
  have := callS (call_snd (IO := IO) hS k) hio h ok r
  cases q : callN T G k f ds st with
  | ok d st' =>
    rw [q] at this
    obtain ⟨r, _, _, h1, h2, _, h3, h4⟩ := this
    exact ⟨r, h1, h2, h3, h4.pok⟩
  | ex x st' => rw [q] at this; obtain ⟨_, z, _⟩ := this; exact z.elim
  | bad => rw [q] at this; exact this.elim
end
end Ab

set_option Elab.async false
set_option linter.all false
set_option autoImplicit false
set_option maxRecDepth 10000
/-! AbPW: rules, one a form, by which a def is walked without a store. -/
namespace Ab
open PySem
/-- a slot's new value -/
def slotN (fr : Bool) (p : PV) : Sl := if (fr && p.cell) = true then .ow none p else .fz p
section
variable {T : Tab} {G : Gb} {IO : Str → List Nat} {F : PF} {env : PE} {E : PX → Prop} {Q : PV → Prop} {EE : PX → PE → Prop} {N : PE → Prop} {V : PE → PV → Bool → Prop}
/-! terms -/
theorem p_var {i : Nat} {p : PV} (e : (env[i]?).bind rdS = some p) (h : Q p) : pE T G IO F (.var i) env E Q := by
  unfold pE
  cases q : env[i]? with
  | none => rw [q] at e; cases e
  | some s =>
    rw [q] at e
    cases s with
    | no => cases e
    | fz p' => cases e; exact h
    | ow t p' => cases e; exact h
theorem p_int {i : Int} (h : Q (.int i)) : pE T G IO F (.lit (.int i)) env E Q := h
theorem p_str {i : Str} (h : Q (.str i)) : pE T G IO F (.lit (.str i)) env E Q := h
theorem p_bl {i : Bool} (h : Q (.bl i)) : pE T G IO F (.lit (.bl i)) env E Q := h
theorem p_non (h : Q .non) : pE T G IO F (.lit .non) env E Q := h
theorem p_globI {x : Str} {i : Int} (e : G x = some (.int i)) (h : Q (.int i)) : pE T G IO F (.glob x) env E Q := ⟨_, _, e, rfl, h⟩
theorem p_globS {x : Str} {i : Str} (e : G x = some (.str i)) (h : Q (.str i)) : pE T G IO F (.glob x) env E Q := ⟨_, _, e, rfl, h⟩
theorem p_bin {op : Operator} {a b : CE} (h : pE T G IO F a env E fun p => pE T G IO F b env E fun q => ∃ r, binP op p q = some r ∧ Q r) : pE T G IO F (.bin op a b) env E Q := h
theorem p_neg {a : CE} (h : pE T G IO F a env E fun p => ∃ i, p = .int i ∧ Q (.int (-i))) : pE T G IO F (.neg a) env E Q := h
theorem p_cmp {op : CmpOp} {a b : CE} (h : pE T G IO F a env E fun p => pE T G IO F b env E fun q => ∃ c, cmpP op p q = some c ∧ Q (.bl c)) : pE T G IO F (.cmp op a b) env E Q := h
theorem p_chain {o1 o2 : CmpOp} {a b c : CE} (h : pE T G IO F a env E fun p => pE T G IO F b env E fun q => ∃ k, cmpP o1 p q = some k ∧ if k = true then (pE T G IO F c env E fun r => ∃ m, cmpP o2 q r = some m ∧ Q (.bl m)) else Q (.bl false)) : pE T G IO F (.chain o1 o2 a b c) env E Q := h
theorem p_and {a b : CE} (h : pE T G IO F a env E fun p => ∃ k, p = .bl k ∧ if k = true then pE T G IO F b env E Q else Q (.bl false)) : pE T G IO F (.and_ a b) env E Q := h
theorem p_or {a b : CE} (h : pE T G IO F a env E fun p => ∃ k, p = .bl k ∧ if k = true then Q (.bl true) else pE T G IO F b env E Q) : pE T G IO F (.or_ a b) env E Q := h
theorem p_not {a : CE} (h : pE T G IO F a env E fun p => ∃ k, p = .bl k ∧ Q (.bl (!k))) : pE T G IO F (.not_ a) env E Q := h
theorem p_ife {c a b : CE} (h : pE T G IO F c env E fun p => ∃ k, p = .bl k ∧ if k = true then pE T G IO F a env E Q else pE T G IO F b env E Q) : pE T G IO F (.ife c a b) env E Q := h
theorem p_tup {es : CEs} (h : pEs T G IO F es env E fun ps => ps.length ≤ sizeLine ∧ Q (.tup ps)) : pE T G IO F (.tup es) env E Q := h
theorem p_lst {es : CEs} (h : pEs T G IO F es env E fun ps => ps.length ≤ sizeLine ∧ Q (.lst ps)) : pE T G IO F (.lst es) env E Q := h
theorem p_size {ps : List PV} {A : Prop} (hb : Nat.ble ps.length 4000 = true) (h : A) : ps.length ≤ sizeLine ∧ A := ⟨Nat.le_trans (Nat.le_of_ble_eq_true hb) (by decide), h⟩
theorem p_dlt {ks : List (Sum Int Str)} {es : CEs} (h : pEs T G IO F es env E fun ps => ps.length = ks.length ∧ Q (.dct ks ps)) : pE T G IO F (.dlt ks es) env E Q := h
theorem x_dlt {ks : List (Sum Int Str)} {ps : List PV} {K : PV → Prop} (e : ps.length = ks.length) (h : K (.dct ks ps)) : ps.length = ks.length ∧ K (.dct ks ps) := ⟨e, h⟩
theorem p_dnew (h : Q (.dct [] [])) : pE T G IO F .dnew env E Q := h
theorem p_sub {a i : CE} (h : pE T G IO F a env E fun p => pE T G IO F i env E fun k => ∃ r, subP p k = some r ∧ Q r) : pE T G IO F (.sub a i) env E Q := h
theorem p_slc {a : CE} {lo hi : Pt} (h : pE T G IO F a env E fun p => pP T G IO F lo env E fun l => pP T G IO F hi env E fun u => ∃ r, slcP p l u = some r ∧ Q r) : pE T G IO F (.slc a lo hi) env E Q := h
theorem p_call {f : Str} {es : CEs} (hio : IO f = []) (h : pEs T G IO F es env E fun ps => F f ps E fun r _ _ => Q r) : pE T G IO F (.call f es) env E Q := ⟨hio, h⟩
theorem p_callk {f : Str} {es ws : CEs} {ks : List Str} {fn : Fn} (hio : IO f = []) (hT : T f = some fn) (h : pEs T G IO F es env E fun ps => pEs T G IO F ws env E fun zs => ∃ as, bindKwP fn.ps ps ks zs = some as ∧ F f as E fun r _ _ => Q r) : pE T G IO F (.callk f es ks ws) env E Q := ⟨hio, fn, hT, h⟩
theorem p_blt {b : Blt} {es : CEs} (h : pEs T G IO F es env E fun ps => ∃ r, bltP b ps = some r ∧ Q r) : pE T G IO F (.blt b es) env E Q := h
theorem p_isi {a : CE} {t : Ty} (h : pE T G IO F a env E fun p => ∃ c, isiP t p = some c ∧ Q (.bl c)) : pE T G IO F (.isi a t) env E Q := h
theorem p_op1 {o : Op1} {a : CE} (h : pE T G IO F a env E fun p => ∃ r, op1P o p = some r ∧ Q r) : pE T G IO F (.op1 o a) env E Q := h
theorem p_op2 {o : Op2} {a b : CE} (h : pE T G IO F a env E fun p => pE T G IO F b env E fun q => ∃ r, op2P o p q = some r ∧ Q r) : pE T G IO F (.op2 o a b) env E Q := h
theorem p_meth {m : Mth} {o : CE} {es : CEs} (h : pE T G IO F o env E fun p => ((∃ xs, p = .lst xs) ∨ (m = .index ∧ ∃ xs, p = .tup xs)) ∧ pEs T G IO F es env E fun ps => ∃ r, mthP m p ps = some r ∧ Q r) : pE T G IO F (.meth m o es) env E Q := h
/-- an item of a comprehension -/
def lcP (T : Tab) (G : Gb) (IO : Str → List Nat) (F : PF) (elt : CE) (tg : Tg) (cond : Pt) (env : PE) (p : PV) (K : Option PV → Prop) : Prop :=
  pT tg p env fun env2 => pC T G IO F cond env2 fun k => if k = true then pE T G IO F elt env2 noX fun y => K (some y) else K none
theorem p_lc {elt : CE} {tg : Tg} {it : Itr} {cond : Pt} {own : List Nat} (h : pI T G IO F it env E fun _ items => pLc (lcP T G IO F elt tg cond (wipeP env own)) items [] fun ys => Q (.lst ys)) : pE T G IO F (.lc elt tg it cond own) env E Q := h
theorem p_lcP {elt : CE} {tg : Tg} {cond : Pt} {p : PV} {K : Option PV → Prop} (h : pT tg p env fun env2 => pC T G IO F cond env2 fun k => if k = true then pE T G IO F elt env2 noX fun y => K (some y) else K none) : lcP T G IO F elt tg cond env p K := h
theorem p_cnone {Q : Bool → Prop} (h : Q true) : pC T G IO F .none env Q := h
theorem p_csome {c : CE} {Q : Bool → Prop} (h : pE T G IO F c env noX fun p => ∃ k, p = .bl k ∧ Q k) : pC T G IO F (.some c) env Q := h
theorem p_pnone {Q : Option Int → Prop} (h : Q none) : pP T G IO F .none env E Q := h
theorem p_psome {e : CE} {Q : Option Int → Prop} (h : pE T G IO F e env E fun p => ∃ i, p = .int i ∧ Q (some i)) : pP T G IO F (.some e) env E Q := h
theorem p_esnil {Q : List PV → Prop} (h : Q []) : pEs T G IO F .nil env E Q := h
theorem p_escons {e : CE} {es : CEs} {Q : List PV → Prop} (h : pE T G IO F e env E fun p => pEs T G IO F es env E fun ps => Q (p :: ps)) : pEs T G IO F (.cons e es) env E Q := h
theorem p_iseq {e : CE} {Q : List PV → List PV → Prop} (h : pE T G IO F e env E fun p => ∃ xs, walkP p = some xs ∧ Q [p] xs) : pI T G IO F (.seq e) env E Q := h
theorem p_irng1 {e : CE} {Q : List PV → List PV → Prop} (h : pE T G IO F e env E fun p => ∃ xs, rngP (.int 0) p = some xs ∧ Q [] xs) : pI T G IO F (.rng1 e) env E Q := h
theorem p_irng2 {a b : CE} {Q : List PV → List PV → Prop} (h : pE T G IO F a env E fun p => pE T G IO F b env E fun q => ∃ xs, rngP p q = some xs ∧ Q [] xs) : pI T G IO F (.rng2 a b) env E Q := h
theorem p_irngd {a b : CE} {Q : List PV → List PV → Prop} (h : pE T G IO F a env E fun p => pE T G IO F b env E fun q => ∃ xs, rngdP p q = some xs ∧ Q [] xs) : pI T G IO F (.rngd a b) env E Q := h
theorem p_ienum {e : CE} {Q : List PV → List PV → Prop} (h : pE T G IO F e env E fun p => ∃ xs, seqP p = some xs ∧ Q [p] (enumP 0 xs)) : pI T G IO F (.enum e) env E Q := h
theorem p_izip {a b : CE} {Q : List PV → List PV → Prop} (h : pE T G IO F a env E fun p => pE T G IO F b env E fun q => ∃ xs, zipOfP p q = some xs ∧ Q [p, q] xs) : pI T G IO F (.zip a b) env E Q := h
/-! targets -/
theorem p_nm {i : Nat} {p : PV} {K : PE → Prop} (h : K (env.set i (.fz p))) : pT (.nm i) p env K := h
theorem p_tp {ts : Tgs} {ps : List PV} {K : PE → Prop} (h : pTs ts ps env K) : pT (.tp ts) (.tup ps) env K := ⟨ps, .inl rfl, h⟩
theorem p_itm {ts : Tgs} {ps : List PV} {K : PE → Prop} (h : pTs ts ps env K) : pT (.tp ts) (.itm ps) env K := ⟨ps, .inr rfl, h⟩
theorem p_tsnil {K : PE → Prop} (h : K env) : pTs .nil [] env K := ⟨rfl, h⟩
theorem p_tscons {t : Tg} {ts : Tgs} {p : PV} {r : List PV} {K : PE → Prop} (h : pT t p env fun env1 => pTs ts r env1 K) : pTs (.cons t ts) (p :: r) env K := ⟨p, r, rfl, h⟩
/-! statements -/
theorem p_ssnil (h : N env) : pSs T G IO F .nil env EE N V := h
theorem p_sscons {s : CS} {ss : CSs} (h : pS T G IO F s env EE (fun env1 => pSs T G IO F ss env1 EE N V) V) : pSs T G IO F (.cons s ss) env EE N V := h
theorem p_pass (h : N env) : pS T G IO F .pass env EE N V := h
theorem p_retN (h : V env .non false) : pS T G IO F .retN env EE N V := h
theorem p_sife {c : CE} {a b : CSs} (h : pE T G IO F c env (exE env EE) fun p => ∃ k, p = .bl k ∧ if k = true then pSs T G IO F a env EE N V else pSs T G IO F b env EE N V) : pS T G IO F (.ife c a b) env EE N V := h
theorem dn_nil : ∀ (k : Nat) (env : PE), dnFrom [] k env = env
  | k, [] => rfl
  | k, s :: r => by
    show dnS [] k s :: dnFrom [] (k + 1) r = _
    rw [dn_nil (k + 1) r]
    cases s with
    | ow t p => cases t <;> rfl
    | _ => rfl
theorem dnAt_nil (env : PE) : dnAt [] env = env := dn_nil 0 env
/-- an assignment: what it reads owns nothing -/
theorem p_asg0 {i : Nat} {e : CE} (hc : e.fresh = false) (hp : ∀ Q, pA T G IO F e (hideBut [] env) (exE env EE) Q = pE T G IO F e (hideBut [] env) (exE env EE) fun p => Q p (e.fresh && p.cell)) (h : pE T G IO F e (hideBut [] env) (exE env EE) fun p => N (env.set i (.fz p))) : pS T G IO F (.asg (.nm i) e) env EE N V := by
  refine .inl ⟨i, rfl, .inr (.inr (.inl ⟨[], ?_⟩))⟩
  rw [hp, hc, dnAt_nil]
  exact h
theorem p_asgF {i : Nat} {e : CE} (hp : ∀ Q, pA T G IO F e (hideBut [] env) (exE env EE) Q = pE T G IO F e (hideBut [] env) (exE env EE) fun p => Q p (e.fresh && p.cell)) (h : pE T G IO F e (hideBut [] env) (exE env EE) fun p => N (env.set i (slotN e.fresh p))) : pS T G IO F (.asg (.nm i) e) env EE N V := by
  refine .inl ⟨i, rfl, .inr (.inr (.inl ⟨[], ?_⟩))⟩
  rw [hp, dnAt_nil]
  exact h
theorem p_asgC {i : Nat} {f : Str} {es : CEs} (hio : IO f = []) (h : pEs T G IO F es (hideBut [] env) (exE env EE) fun ps => F f ps (exE env EE) fun r _ fr => N (env.set i (if fr = true then .ow none r else .fz r))) : pS T G IO F (.asg (.nm i) (.call f es)) env EE N V := by
  refine .inl ⟨i, rfl, .inr (.inr (.inl ⟨[], ?_⟩))⟩
  rw [dnAt_nil]
  exact ⟨hio, h⟩
/-- an assignment of a choice -/
theorem p_asgI {i : Nat} {c a b : CE} (h : pA T G IO F (.ife c a b) (hideBut [] env) (exE env EE) fun p fr => N (env.set i (if fr = true then .ow none p else .fz p))) : pS T G IO F (.asg (.nm i) (.ife c a b)) env EE N V := by
  refine .inl ⟨i, rfl, .inr (.inr (.inl ⟨[], ?_⟩))⟩
  rw [dnAt_nil]
  exact h
theorem p_aife {c a b : CE} {Q : PV → Bool → Prop} (h : pE T G IO F c env E fun p => ∃ k, p = .bl k ∧ if k = true then pA T G IO F a env E Q else pA T G IO F b env E Q) : pA T G IO F (.ife c a b) env E Q := h
theorem p_acall {f : Str} {es : CEs} {Q : PV → Bool → Prop} (hio : IO f = []) (h : pEs T G IO F es env E fun ps => F f ps E fun r _ fr => Q r fr) : pA T G IO F (.call f es) env E Q := ⟨hio, h⟩
theorem p_agen {e : CE} {Q : PV → Bool → Prop} (hp : pA T G IO F e env E Q = pE T G IO F e env E fun p => Q p (e.fresh && p.cell)) (h : pE T G IO F e env E fun p => Q p (e.fresh && p.cell)) : pA T G IO F e env E Q := by rw [hp]; exact h
/-- an assignment of what holds no list, all read -/
theorem p_asgB {i : Nat} {e : CE} (h : pE T G IO F e env (exE env EE) fun p => p.flat = true ∧ N (env.set i (.fz p))) : pS T G IO F (.asg (.nm i) e) env EE N V := .inl ⟨i, rfl, .inl h⟩
/-- an assignment of a new list of what holds no list, all read -/
theorem p_asgA {i : Nat} {e : CE} (h : pA T G IO F e env (exE env EE) fun p fr => fr = true ∧ p.flat1 = true ∧ N (env.set i (.ow none p))) : pS T G IO F (.asg (.nm i) e) env EE N V := .inl ⟨i, rfl, .inr (.inl h)⟩
/-- an assignment after which some slots own nothing -/
theorem p_asgD {i : Nat} {e : CE} (os : List Nat) (h : pA T G IO F e (hideBut os env) (exE env EE) fun p fr => N ((dnAt os env).set i (if fr = true then .ow none p else .fz p))) : pS T G IO F (.asg (.nm i) e) env EE N V := .inl ⟨i, rfl, .inr (.inr (.inl ⟨os, h⟩))⟩
theorem p_pop {i j : Nat} {u : Option Nat} {ps : List PV} {p : PV} (e : env[j]? = some (.ow u (.lst (ps ++ [p])))) (h : N ((env.set j (.ow u (.lst ps))).set i (.fz p))) : pS T G IO F (.asg (.nm i) (.meth .pop (.var j) .nil)) env EE N V := .inl ⟨i, rfl, .inr (.inr (.inr (.inr ⟨j, u, ps, p, rfl, e, h⟩)))⟩
theorem p_asgT {ts : Tgs} {e : CE} (h : pE T G IO F e (hideBut [] env) (exE env EE) fun p => pT (.tp ts) p env N) : pS T G IO F (.asg (.tp ts) e) env EE N V := by
  refine .inr (.inr (.inl ⟨ts, rfl, .inr ⟨[], ?_⟩⟩))
  rw [dnAt_nil]
  exact h
theorem p_asgTB {ts : Tgs} {e : CE} (h : pE T G IO F e env (exE env EE) fun p => p.flat = true ∧ pT (.tp ts) p env N) : pS T G IO F (.asg (.tp ts) e) env EE N V := .inr (.inr (.inl ⟨ts, rfl, .inl h⟩))
theorem p_set0 {i : Nat} {ix e : CE} {u : Option Nat} {q : PV} (e1 : env[i]? = some (.ow u q)) (h : pE T G IO F e (hideBut [] env) (exE env EE) fun p => pE T G IO F ix env noX fun k => ∃ r, stP q k p = some r ∧ N (env.set i (.ow u r))) : pS T G IO F (.asg (.sb (.var i) ix) e) env EE N V := by
  refine .inr (.inr (.inr ⟨i, ix, u, q, rfl, e1, .inr ⟨[], rfl, ?_⟩⟩))
  rw [dnAt_nil]
  exact h
theorem p_setB {i : Nat} {ix e : CE} {u : Option Nat} {q : PV} (e1 : env[i]? = some (.ow u q)) (h : pE T G IO F e env (exE env EE) fun p => p.flat = true ∧ pE T G IO F ix env noX fun k => ∃ r, stP q k p = some r ∧ N (env.set i (.ow u r))) : pS T G IO F (.asg (.sb (.var i) ix) e) env EE N V :=
  .inr (.inr (.inr ⟨i, ix, u, q, rfl, e1, .inl h⟩))
theorem p_expr {e : CE} (h : pE T G IO F e env (exE env EE) fun _ => N env) : pS T G IO F (.expr e) env EE N V := .inl h
theorem p_app0 {i : Nat} {a : CE} {u : Option Nat} {ps : List PV} (e1 : env[i]? = some (.ow u (.lst ps))) (hs : ps.length < sizeLine) (h : pE T G IO F a (hideBut [] env) (exE env EE) fun p => N (env.set i (.ow u (.lst (ps ++ [p]))))) : pS T G IO F (.expr (.meth .append (.var i) (.cons a .nil))) env EE N V := by
  refine .inr (.inr (.inl ⟨i, a, u, ps, rfl, e1, hs, .inr ⟨[], rfl, ?_⟩⟩))
  rw [dnAt_nil]
  exact h
theorem p_appB {i : Nat} {a : CE} {u : Option Nat} {ps : List PV} (e1 : env[i]? = some (.ow u (.lst ps))) (hs : ps.length < sizeLine) (h : pE T G IO F a env (exE env EE) fun p => p.flat = true ∧ N (env.set i (.ow u (.lst (ps ++ [p]))))) : pS T G IO F (.expr (.meth .append (.var i) (.cons a .nil))) env EE N V :=
  .inr (.inr (.inl ⟨i, a, u, ps, rfl, e1, hs, .inl h⟩))
theorem p_popE {j : Nat} {u : Option Nat} {ps : List PV} {p : PV} (e : env[j]? = some (.ow u (.lst (ps ++ [p])))) (h : N (env.set j (.ow u (.lst ps)))) : pS T G IO F (.expr (.meth .pop (.var j) .nil)) env EE N V := .inr (.inr (.inr ⟨j, u, ps, p, rfl, e, h⟩))
theorem p_M {f : Str} {es : CEs} {is : List Nat} (hio : IO f ≠ []) (h1 : ioSlots (IO f) es = some is) (h2 : nodup is = true) (h : pArgs T G IO F (IO f) env (exE env EE) 0 es fun ps => F f ps (exE env EE) fun r qs _ => r.flat = true ∧ N (putBack is qs env)) : pS T G IO F (.expr (.call f es)) env EE N V :=
  .inr (.inl ⟨f, es, rfl, hio, is, h1, h2, h⟩)
theorem p_ret {e : CE} (h : pE T G IO F e env (exE env EE) fun p => p.flat = true ∧ V env p false) : pS T G IO F (.ret e) env EE N V := .inl h
theorem p_retV {i : Nat} {p : PV} (e : env[i]? = some (.ow none p)) (h : V (env.set i .no) p true) : pS T G IO F (.ret (.var i)) env EE N V := .inr (.inl ⟨i, p, rfl, e, h⟩)
theorem p_retA {e : CE} (h : pA T G IO F e (hideIO env) (exE env EE) fun p fr => V (hideBut [] env) p fr) : pS T G IO F (.ret e) env EE N V := .inr (.inr (.inl h))
theorem p_par {is : List Nat} {es : CEs} (h : pAs T G IO F es (hideBut [] env) (exE env EE) fun prs => prs.length = is.length ∧ N (putAll is prs env)) : pS T G IO F (.par is es) env EE N V := .inl h
theorem p_parA {is : List Nat} {es : CEs} (h : pAs T G IO F es env (exE env EE) fun prs => prs.length = is.length ∧ prs.all plainPr = true ∧ N (putAll is prs env)) : pS T G IO F (.par is es) env EE N V := .inr h
theorem p_asgP {ts : Tgs} {es : CEs} {is : List Nat} (e1 : nameTs ts = some is) (e2 : Nat.ble is.length 1000 = true) (h : pAs T G IO F es (hideBut [] env) (exE env EE) fun prs => prs.length = is.length ∧ N (putAll is prs env)) : pS T G IO F (.asg (.tp ts) (.tup es)) env EE N V := .inr (.inl ⟨ts, es, is, rfl, rfl, e1, e2, .inl h⟩)
theorem p_asgPA {ts : Tgs} {es : CEs} {is : List Nat} (e1 : nameTs ts = some is) (e2 : Nat.ble is.length 1000 = true) (h : pAs T G IO F es env (exE env EE) fun prs => prs.length = is.length ∧ prs.all plainPr = true ∧ N (putAll is prs env)) : pS T G IO F (.asg (.tp ts) (.tup es)) env EE N V := .inr (.inl ⟨ts, es, is, rfl, rfl, e1, e2, .inr h⟩)
theorem p_asnil {Q : List (PV × Bool) → Prop} (h : Q []) : pAs T G IO F .nil env E Q := h
theorem p_ascons {e : CE} {es : CEs} {Q : List (PV × Bool) → Prop} (h : pA T G IO F e env E fun p fr => pAs T G IO F es env E fun prs => Q ((p, fr) :: prs)) : pAs T G IO F (.cons e es) env E Q := h
theorem x_len {A : Prop} {a b : Nat} (e : a = b) (h : A) : a = b ∧ A := ⟨e, h⟩
theorem x_len2 {A : Prop} {prs : List (PV × Bool)} {b : Nat} (e : prs.length = b) (f : prs.all plainPr = true) (h : A) : prs.length = b ∧ prs.all plainPr = true ∧ A := ⟨e, f, h⟩
/-- a walk's block -/
def bkP (T : Tab) (G : Gb) (IO : Str → List Nat) (F : PF) (t : Tg) (b : CSs) (EE : PX → PE → Prop) (V : PE → PV → Bool → Prop) (p : PV) (env1 : PE) (K : PE → Prop) : Prop := pT t p env1 fun env2 => pSs T G IO F b env2 EE K V
theorem p_bkP {t : Tg} {b : CSs} {p : PV} {K : PE → Prop} (h : pT t p env fun env2 => pSs T G IO F b env2 EE K V) : bkP T G IO F t b EE V p env K := h
theorem p_for {t : Tg} {it : Itr} {b : CSs} (h : pI T G IO F it (hideBut [] env) (exE env EE) fun _ items => pFor (bkP T G IO F t b EE V) items env N) : pS T G IO F (.for_ t it b) env EE N V := by
  refine .inr ⟨[], ?_⟩
  rw [dnAt_nil]
  exact h
theorem p_forB {t : Tg} {it : Itr} {b : CSs} (h : pI T G IO F it env (exE env EE) fun srcs items => PV.flats srcs = true ∧ PV.flats items = true ∧ pFor (bkP T G IO F t b EE V) items env N) : pS T G IO F (.for_ t it b) env EE N V := .inl h
theorem p_forD {t : Tg} {it : Itr} {b : CSs} (os : List Nat) (h : pI T G IO F it (hideBut os env) (exE env EE) fun _ items => pFor (bkP T G IO F t b EE V) items (dnAt os env) N) : pS T G IO F (.for_ t it b) env EE N V := .inr ⟨os, h⟩
def tsP (T : Tab) (G : Gb) (IO : Str → List Nat) (F : PF) (c : CE) (EE : PX → PE → Prop) (env1 : PE) (K : Bool → Prop) : Prop := pE T G IO F c env1 (exE env1 EE) fun p => ∃ k, p = .bl k ∧ K k
def blP (T : Tab) (G : Gb) (IO : Str → List Nat) (F : PF) (b : CSs) (EE : PX → PE → Prop) (V : PE → PV → Bool → Prop) (env1 : PE) (K : PE → Prop) : Prop := pSs T G IO F b env1 EE K V
theorem p_tsP {c : CE} {K : Bool → Prop} (h : pE T G IO F c env (exE env EE) fun p => ∃ k, p = .bl k ∧ K k) : tsP T G IO F c EE env K := h
theorem p_blP {b : CSs} {K : PE → Prop} (h : pSs T G IO F b env EE K V) : blP T G IO F b EE V env K := h
theorem p_while {c : CE} {b : CSs} (h : pWhile (tsP T G IO F c EE) (blP T G IO F b EE V) turns env N) : pS T G IO F (.while_ c b) env EE N V := h
/-! loops -/
theorem pFor_inv {b : PV → PE → (PE → Prop) → Prop} : ∀ {items : List PV} {env : PE} {N : PE → Prop} (I : Nat → PE → Prop) (h0 : I 0 env) (step : ∀ i p env (K : PE → Prop), items[i]? = some p → I i env → (∀ env', I (i + 1) env' → K env') → b p env K) (fin : ∀ env, I items.length env → N env), pFor b items env N
  | [], env, N, I, h0, step, fin => fin _ h0
  | p :: ps, env, N, I, h0, step, fin => step 0 p env _ rfl h0 fun env' h => pFor_inv (fun i => I (i + 1)) h (fun i q e K he hi hk => step (i + 1) q e K he hi hk) fin
theorem pWhile_inv {c : PE → (Bool → Prop) → Prop} {b : PE → (PE → Prop) → Prop} {N : PE → Prop} : ∀ {n : Nat} {env : PE} (I : Nat → PE → Prop) (m : Nat) (h0 : I m env) (hm : m < n)
    (step : ∀ m env (C : Bool → Prop), I m env → (C false ∨ False → True) → (∀ k, (k = true → ∀ K : PE → Prop, (∀ m' env', m' < m → I m' env' → K env') → b env K) → (k = false → N env) → C k) → c env C), pWhile c b n env N := by
  intro n
  induction n with
  | zero => intro env I m h0 hm; omega
  | succ n ih =>
    intro env I m h0 hm step
    refine step m env _ h0 (fun _ => trivial) fun k h1 h2 => ?_
    cases k with
    | true => exact h1 rfl _ fun m' env' hlt hi => ih I m' hi (by omega) step
    | false => exact h2 rfl
/-! comprehensions -/
section
variable {f : PV → (Option PV → Prop) → Prop} {QQ : List PV → Prop}
theorem pLc_inv : ∀ {items acc : List PV} (I : Nat → List PV → Prop) (h0 : I 0 acc) (step : ∀ i p acc (K : Option PV → Prop), items[i]? = some p → I i acc → (∀ y, acc.length < sizeLine → I (i + 1) (acc ++ [y]) → K (some y)) → (I (i + 1) acc → K none) → f p K)
    (hn : ∀ i acc, i ≤ items.length → I i acc → acc.length < sizeLine) (fin : ∀ acc, I items.length acc → QQ acc), pLc f items acc QQ
  | [], acc, I, h0, step, hn, fin => fin _ h0
  | p :: ps, acc, I, h0, step, hn, fin => by
    refine step 0 p acc _ rfl h0 (fun y hs h => ⟨hs, ?_⟩) fun h => ?_
    · exact pLc_inv (fun i => I (i + 1)) h (fun i p acc K e hi h1 h2 => step (i + 1) p acc K e hi h1 h2) (fun i acc hi h => hn (i + 1) acc (by simp only [List.length_cons]; omega) h) fin
    · exact pLc_inv (fun i => I (i + 1)) h (fun i p acc K e hi h1 h2 => step (i + 1) p acc K e hi h1 h2) (fun i acc hi h => hn (i + 1) acc (by simp only [List.length_cons]; omega) h) fin
theorem pLc_go {α : Type} (g : α → PV) (h : α → Option PV) : ∀ (xs : List α) (acc : List PV), acc.length + xs.length ≤ sizeLine → (∀ x ∈ xs, ∀ K : Option PV → Prop, K (h x) → f (g x) K) → QQ (acc ++ xs.filterMap h) → pLc f (xs.map g) acc QQ
  | [], acc, hn, step, fin => by simpa [pLc] using fin
  | x :: xs, acc, hn, step, fin => by
    refine step x List.mem_cons_self _ ?_
    cases e : h x with
    | none =>
      refine pLc_go g h xs acc (by simp only [List.length_cons] at hn; omega) (fun y hy => step y (List.mem_cons_of_mem _ hy)) ?_
      rw [List.filterMap_cons, e] at fin
      exact fin
    | some y =>
      refine ⟨by simp only [List.length_cons] at hn; omega, ?_⟩
      refine pLc_go g h xs (acc ++ [y]) (by simp only [List.length_cons, List.length_append, List.length_nil] at hn ⊢; omega) (fun y hy => step y (List.mem_cons_of_mem _ hy)) ?_
      rw [List.filterMap_cons, e] at fin
      rw [List.append_assoc]
      exact fin
/-- items made and left out as told -/
theorem lpM {α : Type} (xs : List α) (g : α → PV) (h : α → Option PV) (hn : xs.length ≤ sizeLine) (step : ∀ x ∈ xs, ∀ K : Option PV → Prop, K (h x) → f (g x) K) (fin : QQ (xs.filterMap h)) : pLc f (xs.map g) [] QQ :=
  pLc_go g h xs [] (by simpa using hn) step (by simpa using fin)
/-- an item's value each -/
theorem lpF {α : Type} (xs : List α) (g : α → PV) (h : α → PV) (hn : xs.length ≤ sizeLine) (step : ∀ x ∈ xs, ∀ K : Option PV → Prop, K (some (h x)) → f (g x) K) (fin : QQ (xs.map h)) : pLc f (xs.map g) [] QQ :=
  lpM xs g (fun x => some (h x)) hn step (by
    have : xs.filterMap (fun x => some (h x)) = xs.map h := by
      induction xs with
      | nil => rfl
      | cons x xs ih => simp
    rw [this]
    exact fin)
/-- some of the items, no matter which -/
theorem lpU {α : Type} (xs : List α) (g : α → PV) (h : α → PV) (hn : xs.length ≤ sizeLine) (step : ∀ x ∈ xs, ∀ K : Option PV → Prop, K (some (h x)) → K none → f (g x) K) (fin : ∀ ys : List α, ys.Sublist xs → QQ (ys.map h)) : pLc f (xs.map g) [] QQ := by
  have go : ∀ (its done ys : List α), done ++ its = xs → ys.Sublist done → pLc f (its.map g) (ys.map h) QQ := by
    intro its
    induction its with
    | nil => intro done ys e s; rw [List.append_nil] at e; subst e; exact fin ys s
    | cons x its ih =>
      intro done ys e s
      have hl := s.length_le
      have e2 : (done ++ [x]) ++ its = xs := by rw [List.append_assoc]; exact e
      have hx : done.length + its.length + 1 = xs.length := by rw [← e]; simp only [List.length_append, List.length_cons]; omega
      refine step x (by rw [← e]; simp) _ ?_ ?_
      · refine ⟨by rw [List.length_map]; omega, ?_⟩
        have := ih (done ++ [x]) (ys ++ [x]) e2 (s.append (List.Sublist.refl [x]))
        rw [List.map_append] at this
        exact this
      · exact ih (done ++ [x]) ys e2 (s.trans (List.sublist_append_left done [x]))
  exact go xs [] [] rfl (List.Sublist.refl [])
/-- those items that pass, a value each -/
theorem lpC {α : Type} (xs : List α) (g : α → PV) (c : α → Bool) (h : α → PV) (hn : xs.length ≤ sizeLine) (step : ∀ x ∈ xs, ∀ K : Option PV → Prop, (c x = true → K (some (h x))) → (c x = false → K none) → f (g x) K) (fin : QQ ((xs.filter c).map h)) : pLc f (xs.map g) [] QQ :=
  lpM xs g (fun x => if c x = true then some (h x) else none) hn (fun x hx K k => step x hx K (fun e => by rw [if_pos e] at k; exact k) (fun e => by rw [if_neg (by rw [e]; decide)] at k; exact k)) (by
    have : xs.filterMap (fun x => if c x = true then some (h x) else none) = (xs.filter c).map h := by
      clear hn step fin
      induction xs with
      | nil => rfl
      | cons x xs ih =>
        rw [List.filterMap_cons, List.filter_cons]
        by_cases e : c x = true
        · rw [if_pos e, if_pos e]
          simp [ih]
        · rw [if_neg e, if_neg e]
          exact ih
    rw [this]
    exact fin)
/-- by place -/
theorem lpI {items : List PV} (h : Nat → PV) (hn : items.length ≤ sizeLine) (step : ∀ i p, items[i]? = some p → ∀ K : Option PV → Prop, K (some (h i)) → f p K) (fin : QQ ((List.range items.length).map h)) : pLc f items [] QQ := by
  have go : ∀ (its acc : List PV) (k : Nat), acc = (List.range k).map h → k + its.length = items.length → (∀ i, its[i]? = items[k + i]?) → pLc f its acc QQ := by
    intro its
    induction its with
    | nil =>
      rintro acc k rfl hl _
      have : k = items.length := by simpa using hl
      rw [this]
      exact fin
    | cons p ps ih =>
      rintro acc k rfl hl he
      simp only [List.length_cons] at hl
      refine step k p (by rw [← show (p :: ps)[0]? = some p from rfl, he 0, Nat.add_zero]) _ ⟨by rw [List.length_map, List.length_range]; omega, ih _ (k + 1) ?_ (by omega) (fun i => ?_)⟩
      · rw [List.range_succ, List.map_append]
        rfl
      · rw [← show (p :: ps)[i + 1]? = ps[i]? from rfl, he (i + 1), show k + (i + 1) = k + 1 + i from by omega]
  exact go items [] 0 rfl (by simp) (fun i => by simp)
/-- some values, each as P says -/
theorem lpS {items : List PV} {β : Type} (g : β → PV) (P : Nat → β → Prop) (hn : items.length ≤ sizeLine) (step : ∀ i p, items[i]? = some p → ∀ K : Option PV → Prop, (∀ b, P i b → K (some (g b))) → f p K)
    (fin : ∀ bs : List β, bs.length = items.length → (∀ (i : Nat) (b : β), bs[i]? = some b → P i b) → QQ (bs.map g)) : pLc f items [] QQ := by
  have go : ∀ (its acc : List PV) (bs : List β), acc = bs.map g → bs.length + its.length = items.length → (∀ (i : Nat) (b : β), bs[i]? = some b → P i b) → (∀ i, its[i]? = items[bs.length + i]?) → pLc f its acc QQ := by
    intro its
    induction its with
    | nil =>
      rintro acc bs rfl hl hp _
      exact fin bs (by simpa using hl) hp
    | cons p ps ih =>
      rintro acc bs rfl hl hp he
      refine step bs.length p (by rw [← show (p :: ps)[0]? = some p from rfl, he 0, Nat.add_zero]) _ fun b hb => ?_
      simp only [List.length_cons] at hl
      refine ⟨by rw [List.length_map]; omega, ih _ (bs ++ [b]) (by simp) (by simp; omega) (fun i c hc => ?_) (fun i => ?_)⟩
      · by_cases q : i < bs.length
        · rw [List.getElem?_append_left q] at hc
          exact hp i c hc
        · have hlt := (List.getElem?_eq_some_iff.mp hc).1
          simp at hlt
          have : i = bs.length := by omega
          subst this
          rw [List.getElem?_append_right (Nat.le_refl _)] at hc
          simp at hc
          rw [← hc]
          exact hb
      · rw [← show (p :: ps)[i + 1]? = ps[i]? from rfl, he (i + 1)]
        simp
        congr 1
        omega
  exact go items [] [] rfl (by simp) (fun i b e => by simp at e) (fun i => by simp)
end
end
end Ab

set_option Elab.async false
set_option linter.all false
set_option autoImplicit false
set_option maxRecDepth 10000
/-! AbPX: rules for operations and tests; which slots a term reads. -/
namespace Ab
open PySem
def ownSl : Sl → Bool
  | .ow _ _ => true
  | _ => false
def ownSlot (i : Nat) (env : PE) : Bool := match env[i]? with
  | some s => ownSl s
  | none => false
mutual
/-- whether a term reads a slot that owns -/
def ownC : CE → PE → Bool
  | .var i, env => ownSlot i env
  | .lit _, _ => false
  | .glob _, _ => false
  | .bin _ a b, env => ownC a env || ownC b env
  | .neg a, env => ownC a env
  | .cmp _ a b, env => ownC a env || ownC b env
  | .chain _ _ a b c, env => ownC a env || (ownC b env || ownC c env)
  | .and_ a b, env => ownC a env || ownC b env
  | .or_ a b, env => ownC a env || ownC b env
  | .not_ a, env => ownC a env
  | .ife c a b, env => ownC c env || (ownC a env || ownC b env)
  | .tup es, env => ownCs es env
  | .lst es, env => ownCs es env
  | .dnew, _ => false
  | .dlt _ es, env => ownCs es env
  | .sub a i, env => ownC a env || ownC i env
  | .slc a lo hi, env => ownC a env || (ownCp lo env || ownCp hi env)
  | .call _ es, env => ownCs es env
  | .callk _ es _ ws, env => ownCs es env || ownCs ws env
  | .blt _ es, env => ownCs es env
  | .isi a _, env => ownC a env
  | .op1 _ a, env => ownC a env
  | .op2 _ a b, env => ownC a env || ownC b env
  | .meth _ o es, env => ownC o env || ownCs es env
  | .lc elt _ it cond own, env => ownCi it env || (ownC elt (wipeP env own) || ownCp cond (wipeP env own))
def ownCp : Pt → PE → Bool
  | .none, _ => false
  | .some e, env => ownC e env
def ownCs : CEs → PE → Bool
  | .nil, _ => false
  | .cons e es, env => ownC e env || ownCs es env
def ownCi : Itr → PE → Bool
  | .seq e, env => ownC e env
  | .rng1 a, env => ownC a env
  | .rng2 a b, env => ownC a env || ownC b env
  | .rngd a b, env => ownC a env || ownC b env
  | .enum e, env => ownC e env
  | .zip a b, env => ownC a env || ownC b env
end
def ownCE (env : PE) (e : CE) : Bool := ownC e env
def ownCEs (env : PE) (e : CEs) : Bool := ownCs e env
def ownIt (env : PE) (e : Itr) : Bool := ownCi e env
section
variable {T : Tab} {G : Gb} {IO : Str → List Nat} {F : PF} {env : PE} {E : PX → Prop} {Q : PV → Prop} {EE : PX → PE → Prop} {N : PE → Prop} {V : PE → PV → Bool → Prop}
theorem q_asg0 {i : Nat} {e : CE} (ho : ownCE env e = false) (hc : e.fresh = false) (hp : ∀ Q, pA T G IO F e (hideBut [] env) (exE env EE) Q = pE T G IO F e (hideBut [] env) (exE env EE) fun p => Q p (e.fresh && p.cell)) (h : pE T G IO F e (hideBut [] env) (exE env EE) fun p => N (env.set i (.fz p))) : pS T G IO F (.asg (.nm i) e) env EE N V := p_asg0 hc hp h
theorem q_asgF {i : Nat} {e : CE} (ho : ownCE env e = false) (hp : ∀ Q, pA T G IO F e (hideBut [] env) (exE env EE) Q = pE T G IO F e (hideBut [] env) (exE env EE) fun p => Q p (e.fresh && p.cell)) (h : pE T G IO F e (hideBut [] env) (exE env EE) fun p => N (env.set i (slotN e.fresh p))) : pS T G IO F (.asg (.nm i) e) env EE N V := p_asgF hp h
theorem q_asgC {i : Nat} {f : Str} {es : CEs} (ho : ownCEs env es = false) (hio : IO f = []) (h : pEs T G IO F es (hideBut [] env) (exE env EE) fun ps => F f ps (exE env EE) fun r _ fr => N (env.set i (if fr = true then .ow none r else .fz r))) : pS T G IO F (.asg (.nm i) (.call f es)) env EE N V := p_asgC hio h
theorem q_asgI {i : Nat} {c a b : CE} (ho : ownCE env (.ife c a b) = false) (h : pA T G IO F (.ife c a b) (hideBut [] env) (exE env EE) fun p fr => N (env.set i (if fr = true then .ow none p else .fz p))) : pS T G IO F (.asg (.nm i) (.ife c a b)) env EE N V := p_asgI h
/-- own list + ..: what it holds may be anything -/
theorem q_asgS {i : Nat} {b : CE} {p0 : PV} (e1 : env[i]? = some (.ow none p0)) (ho : ownCE (env.set i .no) b = false) (h : pE T G IO F (.bin .Add (.var i) b) (hideBut [i] env) (exE env EE) fun p => N ((dnAt [i] env).set i (slotN true p))) : pS T G IO F (.asg (.nm i) (.bin .Add (.var i) b)) env EE N V := p_asgD [i] h
/-- a new list, all read -/
theorem q_asgA {i : Nat} {e : CE} (hc : e.fresh = true) (hp : ∀ Q, pA T G IO F e env (exE env EE) Q = pE T G IO F e env (exE env EE) fun p => Q p (e.fresh && p.cell)) (h : pE T G IO F e env (exE env EE) fun p => p.flat1 = true ∧ p.cell = true ∧ N (env.set i (.ow none p))) : pS T G IO F (.asg (.nm i) e) env EE N V := by
  refine p_asgA ?_
  rw [hp, hc]
  have : (fun p : PV => (true && p.cell) = true ∧ p.flat1 = true ∧ N (env.set i (.ow none p))) = fun p : PV => p.flat1 = true ∧ p.cell = true ∧ N (env.set i (.ow none p)) := funext fun p => propext ⟨fun h => ⟨h.2.1, by simpa using h.1, h.2.2⟩, fun h => ⟨by simpa using h.2.1, h.1, h.2.2⟩⟩
  rw [this]
  exact h
theorem q_asgT {ts : Tgs} {e : CE} (ho : ownCE env e = false) (h : pE T G IO F e (hideBut [] env) (exE env EE) fun p => pT (.tp ts) p env N) : pS T G IO F (.asg (.tp ts) e) env EE N V := p_asgT h
theorem q_par {is : List Nat} {es : CEs} (ho : ownCEs env es = false) (h : pAs T G IO F es (hideBut [] env) (exE env EE) fun prs => prs.length = is.length ∧ N (putAll is prs env)) : pS T G IO F (.par is es) env EE N V := p_par h
theorem q_asgP {ts : Tgs} {es : CEs} {is : List Nat} (ho : ownCEs env es = false) (e1 : nameTs ts = some is) (e2 : Nat.ble is.length 1000 = true) (h : pAs T G IO F es (hideBut [] env) (exE env EE) fun prs => prs.length = is.length ∧ N (putAll is prs env)) : pS T G IO F (.asg (.tp ts) (.tup es)) env EE N V := p_asgP e1 e2 h
theorem q_set0 {i : Nat} {ix e : CE} {u : Option Nat} {q : PV} (ho : ownCE env e = false) (e1 : env[i]? = some (.ow u q)) (h : pE T G IO F e (hideBut [] env) (exE env EE) fun p => pE T G IO F ix env noX fun k => ∃ r, stP q k p = some r ∧ N (env.set i (.ow u r))) : pS T G IO F (.asg (.sb (.var i) ix) e) env EE N V := p_set0 e1 h
theorem q_app0 {i : Nat} {a : CE} {u : Option Nat} {ps : List PV} (ho : ownCE env a = false) (e1 : env[i]? = some (.ow u (.lst ps))) (h : pE T G IO F a (hideBut [] env) (exE env EE) fun p => N (env.set i (.ow u (.lst (ps ++ [p]))))) (hs : ps.length < sizeLine) : pS T G IO F (.expr (.meth .append (.var i) (.cons a .nil))) env EE N V := p_app0 e1 hs h
theorem q_appB {i : Nat} {a : CE} {u : Option Nat} {ps : List PV} (e1 : env[i]? = some (.ow u (.lst ps))) (h : pE T G IO F a env (exE env EE) fun p => p.flat = true ∧ N (env.set i (.ow u (.lst (ps ++ [p]))))) (hs : ps.length < sizeLine) : pS T G IO F (.expr (.meth .append (.var i) (.cons a .nil))) env EE N V := p_appB e1 hs h
theorem q_for {t : Tg} {it : Itr} {b : CSs} (ho : ownIt env it = false) (h : pI T G IO F it (hideBut [] env) (exE env EE) fun _ items => pFor (bkP T G IO F t b EE V) items env N) : pS T G IO F (.for_ t it b) env EE N V := p_for h
/-- a list or dict of its own that gets a second name: it is nobody's own then -/
theorem q_asgO {i j : Nat} {p : PV} (e1 : env[j]? = some (.ow none p)) (hc : p.cell = true) (h : N ((dnAt [j] env).set i (.fz p))) : pS T G IO F (.asg (.nm i) (.var j)) env EE N V := by
  refine p_asgD [j] ?_
  have e2 : (hideBut [j] env)[j]? = some (.ow none p) := by
    have go : ∀ (k : Nat) (env : PE) (n : Nat), env[n]? = some (.ow none p) → k + n = j → (hideFrom [j] k env)[n]? = some (.ow none p) := by
      intro k env
      induction env generalizing k with
      | nil => intro n h; simp at h
      | cons s r ih =>
        intro n h hn
        cases n with
        | zero =>
          have : s = .ow none p := by simpa using h
          subst this
          show some (if List.elem k [j] = true then Sl.ow none p else .no) = _
          rw [if_pos (by simp; omega)]
        | succ n =>
          show (hideFrom [j] (k + 1) r)[n]? = _
          exact ih (k + 1) n (by simpa using h) (by omega)
    exact go 0 env j e1 (by omega)
  have e3 : pA T G IO F (.var j) (hideBut [j] env) (exE env EE) (fun p fr => N ((dnAt [j] env).set i (if fr = true then .ow none p else .fz p))) = pE T G IO F (.var j) (hideBut [j] env) (exE env EE) fun p => N ((dnAt [j] env).set i (if ((CE.var j).fresh && p.cell) = true then .ow none p else .fz p)) := rfl
  rw [e3]
  unfold pE
  rw [e2]
  exact h
/-- a walk over a list of its own: it is nobody's own then -/
theorem q_forO {i : Nat} {t : Tg} {b : CSs} {ps : List PV} (e1 : env[i]? = some (.ow none (.lst ps))) (h : pFor (bkP T G IO F t b EE V) ps (dnAt [i] env) N) : pS T G IO F (.for_ t (.seq (.var i)) b) env EE N V := by
  refine p_forD [i] ?_
  refine p_iseq ?_
  have e2 : (hideBut [i] env)[i]? = some (.ow none (.lst ps)) := by
    have go : ∀ (k : Nat) (env : PE) (n : Nat), env[n]? = some (.ow none (.lst ps)) → k + n = i → (hideFrom [i] k env)[n]? = some (.ow none (.lst ps)) := by
      intro k env
      induction env generalizing k with
      | nil => intro n h; simp at h
      | cons s r ih =>
        intro n h hn
        cases n with
        | zero =>
          have : s = .ow none (.lst ps) := by simpa using h
          subst this
          show some (if List.elem k [i] = true then Sl.ow none (.lst ps) else .no) = _
          rw [if_pos (by simp; omega)]
        | succ n =>
          show (hideFrom [i] (k + 1) r)[n]? = _
          exact ih (k + 1) n (by simpa using h) (by omega)
    exact go 0 env i e1 (by omega)
  unfold pE
  rw [e2]
  exact ⟨ps, rfl, h⟩
/-- handing back what is read of what owns nothing marked -/
theorem q_retA {e : CE} (hp : ∀ Q, pA T G IO F e (hideIO env) (exE env EE) Q = pE T G IO F e (hideIO env) (exE env EE) fun p => Q p (e.fresh && p.cell)) (h : pE T G IO F e (hideIO env) (exE env EE) fun p => V (hideBut [] env) p (e.fresh && p.cell)) : pS T G IO F (.ret e) env EE N V := p_retA (by rw [hp]; exact h)
theorem q_retC {f : Str} {es : CEs} (hio : IO f = []) (h : pEs T G IO F es (hideIO env) (exE env EE) fun ps => F f ps (exE env EE) fun r _ fr => V (hideBut [] env) r fr) : pS T G IO F (.ret (.call f es)) env EE N V := p_retA ⟨hio, h⟩
theorem q_retI {c a b : CE} (h : pA T G IO F (.ife c a b) (hideIO env) (exE env EE) fun p fr => V (hideBut [] env) p fr) : pS T G IO F (.ret (.ife c a b)) env EE N V := p_retA h
/-! operations -/
theorem x_some {α : Type} {x : Option α} {r : α} {K : α → Prop} (e : x = some r) (h : K r) : ∃ r, x = some r ∧ K r := ⟨r, e, h⟩
theorem x_asB {b : Bool} {K : Bool → Prop} (h : K b) : ∃ k, PV.bl b = .bl k ∧ K k := ⟨b, rfl, h⟩
theorem x_asI {i : Int} {K : Int → Prop} (h : K i) : ∃ k, PV.int i = .int k ∧ K k := ⟨i, rfl, h⟩
theorem x_asL {m : Mth} {xs : List PV} {A : Prop} (h : A) : ((∃ ys, PV.lst xs = .lst ys) ∨ (m = .index ∧ ∃ ys, PV.lst xs = .tup ys)) ∧ A := ⟨.inl ⟨xs, rfl⟩, h⟩
theorem x_asT {xs : List PV} {A : Prop} (h : A) : ((∃ ys, PV.tup xs = .lst ys) ∨ (Mth.index = .index ∧ ∃ ys, PV.tup xs = .tup ys)) ∧ A := ⟨.inr ⟨rfl, xs, rfl⟩, h⟩
theorem x_if {p : Prop} [Decidable p] {A B : Prop} (h1 : p → A) (h2 : ¬ p → B) : if decide p = true then A else B := by
  by_cases q : p
  · rw [if_pos (decide_eq_true q)]; exact h1 q
  · rw [if_neg (by rw [decide_eq_false q]; decide)]; exact h2 q
theorem x_nif {p : Prop} [Decidable p] {A B : Prop} (h1 : p → B) (h2 : ¬ p → A) : if (!decide p) = true then A else B := by
  by_cases q : p
  · rw [if_neg (by rw [decide_eq_true q]; decide)]; exact h1 q
  · rw [if_pos (by rw [decide_eq_false q]; rfl)]; exact h2 q
theorem x_ifT {c : Bool} {A B : Prop} (e : c = true) (h : A) : if c = true then A else B := by rw [if_pos e]; exact h
theorem x_ifF {c : Bool} {A B : Prop} (e : c = false) (h : B) : if c = true then A else B := by rw [if_neg (by rw [e]; decide)]; exact h
theorem x_ifB {c : Bool} {A B : Prop} (h1 : c = true → A) (h2 : c = false → B) : if c = true then A else B := by
  cases c with
  | true => exact h1 rfl
  | false => exact h2 rfl
theorem x_ifN {c : Bool} {A B : Prop} (h1 : c = true → B) (h2 : c = false → A) : if (!c) = true then A else B := by
  cases c with
  | true => exact h1 rfl
  | false => exact h2 rfl
section
variable {K : PV → Prop}
theorem x_mul {i j : Int} (b : (-18446744073709551616 < i ∧ i < 18446744073709551616) ∨ (-18446744073709551616 < j ∧ j < 18446744073709551616)) (h : K (.int (i * j))) : ∃ r, binP .Mult (.int i) (.int j) = some r ∧ K r := ⟨_, by
  show (if _ then _ else _) = _
  exact if_pos (by simpa using b), h⟩
theorem x_div {i j : Int} (b : 0 < j ∧ j < 1073741824) (h : K (.int (i / j))) : ∃ r, binP .FloorDiv (.int i) (.int j) = some r ∧ K r := ⟨_, if_pos b, h⟩
theorem x_mod {i j : Int} (b : 0 < j) (h : K (.int (i % j))) : ∃ r, binP .Mod (.int i) (.int j) = some r ∧ K r := ⟨_, if_pos b, h⟩
theorem x_pow {i j : Int} (b : 0 ≤ j ∧ j ≤ 1000000 ∧ i.natAbs < 18446744073709551616) (h : K (.int (i ^ j.toNat))) : ∃ r, binP .Pow (.int i) (.int j) = some r ∧ K r := ⟨_, by
  show (if _ then _ else _) = _
  exact if_pos (by simpa using b), h⟩
theorem x_divmod {i j : Int} (b : 0 < j ∧ j < 1073741824) (h : K (.tup [.int (i / j), .int (i % j)])) : ∃ r, bltP .divmod [.int i, .int j] = some r ∧ K r := ⟨_, if_pos b, h⟩
theorem x_addT {xs ys : List PV} (h : K (.tup (xs ++ ys))) (b : xs.length + ys.length ≤ sizeLine) : ∃ r, binP .Add (.tup xs) (.tup ys) = some r ∧ K r := ⟨_, if_pos b, h⟩
theorem x_addL {xs ys : List PV} (h : K (.lst (xs ++ ys))) (b : xs.length + ys.length ≤ sizeLine) : ∃ r, binP .Add (.lst xs) (.lst ys) = some r ∧ K r := ⟨_, if_pos b, h⟩
theorem x_addS {xs ys : Str} (h : K (.str (xs ++ ys))) (b : xs.length + ys.length ≤ sizeLine) : ∃ r, binP .Add (.str xs) (.str ys) = some r ∧ K r := ⟨_, if_pos b, h⟩
theorem x_rep {xs : List PV} {k : Int} (h : K (.lst (List.replicate k.toNat xs).flatten)) (b : -9223372036854775808 ≤ k ∧ k < 9223372036854775808 ∧ xs.length * k.toNat ≤ sizeLine) : ∃ r, binP .Mult (.lst xs) (.int k) = some r ∧ K r := ⟨_, by
  show (if _ then _ else _) = _
  exact if_pos (by simpa using b), h⟩
theorem x_trg {j : Int} (h : K (.tup (rangeP 0 j.toNat))) (b : -4611686018427387904 ≤ j ∧ j ≤ 16777216) : ∃ r, op1P .trg (.int j) = some r ∧ K r := ⟨_, by
  show (if _ then _ else _) = _
  exact if_pos (by simpa using b), h⟩
theorem x_slS {x : Str} {lo hi : Option Int} (h : K (.str (L2.cutS x lo hi))) (b : x.length ≤ sizeLine) : ∃ r, slcP (.str x) lo hi = some r ∧ K r := ⟨_, if_pos b, h⟩
theorem x_lcm {i j : Int} (h : K (.int ((Nat.lcm i.toNat j.toNat : Nat) : Int))) (b : 0 ≤ i ∧ i < 1048576 ∧ 0 ≤ j ∧ j < 1048576) : ∃ r, op2P .lcm (.int i) (.int j) = some r ∧ K r := ⟨_, if_pos b, h⟩
theorem x_repT {xs : List PV} {k : Int} (h : K (.tup (List.replicate k.toNat xs).flatten)) (b : -9223372036854775808 ≤ k ∧ k < 9223372036854775808 ∧ xs.length * k.toNat ≤ sizeLine) : ∃ r, binP .Mult (.tup xs) (.int k) = some r ∧ K r := ⟨_, by
  show (if _ then _ else _) = _
  exact if_pos (by simpa using b), h⟩
theorem x_subT {xs : List PV} {i : Int} {p : PV} (e : L2.atI xs i = some p) (h : K p) : ∃ r, subP (.tup xs) (.int i) = some r ∧ K r := ⟨p, e, h⟩
theorem x_subL {xs : List PV} {i : Int} {p : PV} (e : L2.atI xs i = some p) (h : K p) : ∃ r, subP (.lst xs) (.int i) = some r ∧ K r := ⟨p, e, h⟩
theorem x_subS {ks : List (Sum Int Str)} {ps : List PV} {x : Str} {p : PV} (e : getP ks ps (.inr x) = some p) (h : K p) : ∃ r, subP (.dct ks ps) (.str x) = some r ∧ K r := ⟨p, e, h⟩
theorem x_subI {ks : List (Sum Int Str)} {ps : List PV} {x : Int} {p : PV} (e : getP ks ps (.inl x) = some p) (h : K p) : ∃ r, subP (.dct ks ps) (.int x) = some r ∧ K r := ⟨p, e, h⟩
/-! lists of what is told -/
theorem optAll_of {α β : Type} {f : PV → Option β} (g : α → PV) (h : α → β) (e : ∀ x, f (g x) = some (h x)) : ∀ xs : List α, optAll f (xs.map g) = some (xs.map h)
  | [] => rfl
  | x :: xs => by
    rw [List.map_cons]
    unfold optAll
    rw [e, optAll_of g h e xs]
    rfl
theorem x_all {α : Type} {xs : List α} {p : α → Bool} (h : K (.bl (xs.all p))) : ∃ r, bltP .all [.lst (xs.map fun x => .bl (p x))] = some r ∧ K r := by
  refine ⟨_, ?_, h⟩
  show (optAll boolOfP (xs.map fun x => .bl (p x))).map _ = _
  rw [optAll_of _ p (fun _ => rfl)]
  show some (PV.bl ((xs.map p).all id)) = _
  rw [all_id]
theorem x_any {α : Type} {xs : List α} {p : α → Bool} (h : K (.bl (xs.any p))) : ∃ r, bltP .any [.lst (xs.map fun x => .bl (p x))] = some r ∧ K r := by
  refine ⟨_, ?_, h⟩
  show (optAll boolOfP (xs.map fun x => .bl (p x))).map _ = _
  rw [optAll_of _ p (fun _ => rfl)]
  show some (PV.bl ((xs.map p).any id)) = _
  rw [any_id]
theorem x_sumL {α : Type} {xs : List α} {p : α → Int} (h : K (.int (xs.map p).sum)) : ∃ r, bltP .sum [.lst (xs.map fun x => .int (p x))] = some r ∧ K r := by
  refine ⟨_, ?_, h⟩
  show (optAll intOfP (xs.map fun x => .int (p x))).map _ = _
  rw [optAll_of _ p (fun _ => rfl)]
  rfl
theorem x_sumT {α : Type} {xs : List α} {p : α → Int} (h : K (.int (xs.map p).sum)) : ∃ r, bltP .sum [.tup (xs.map fun x => .int (p x))] = some r ∧ K r := by
  refine ⟨_, ?_, h⟩
  show (optAll intOfP (xs.map fun x => .int (p x))).map _ = _
  rw [optAll_of _ p (fun _ => rfl)]
  rfl
theorem x_minL {α : Type} {xs : List α} {p : α → Int} {m : Int} (e : minL (xs.map p) = some m) (h : K (.int m)) : ∃ r, bltP .min [.lst (xs.map fun x => .int (p x))] = some r ∧ K r := by
  refine ⟨_, ?_, h⟩
  show ((optAll intOfP (xs.map fun x => .int (p x))).bind minL).map _ = _
  rw [optAll_of _ p (fun _ => rfl)]
  show (minL (xs.map p)).map _ = _
  rw [e]
  rfl
theorem x_maxL {α : Type} {xs : List α} {p : α → Int} {m : Int} (e : maxL (xs.map p) = some m) (h : K (.int m)) : ∃ r, bltP .max [.lst (xs.map fun x => .int (p x))] = some r ∧ K r := by
  refine ⟨_, ?_, h⟩
  show ((optAll intOfP (xs.map fun x => .int (p x))).bind maxL).map _ = _
  rw [optAll_of _ p (fun _ => rfl)]
  show (maxL (xs.map p)).map _ = _
  rw [e]
  rfl
end
theorem x_rng {i j : Int} {K : List PV → Prop} (h : K (rangeP i (j - i).toNat)) (b : -4611686018427387904 ≤ i ∧ i < 4611686018427387904 ∧ -4611686018427387904 ≤ j ∧ j < 4611686018427387904) : ∃ xs, rngP (.int i) (.int j) = some xs ∧ K xs := by
  refine ⟨_, ?_, h⟩
  have e : ∀ i j : Int, rngP (.int i) (.int j) = if -(2 ^ 62) ≤ i ∧ i < 2 ^ 62 ∧ -(2 ^ 62) ≤ j ∧ j < 2 ^ 62 then some (rangeP i (j - i).toNat) else none := fun i j => by unfold rngP <;> rfl
  rw [e]
  exact if_pos (by simpa using b)
theorem x_rngd {i j : Int} {K : List PV → Prop} (h : K (rangeBP i (i - j).toNat)) (b : -4611686018427387904 ≤ i ∧ i < 4611686018427387904 ∧ -4611686018427387904 ≤ j ∧ j < 4611686018427387904) : ∃ xs, rngdP (.int i) (.int j) = some xs ∧ K xs := by
  refine ⟨_, ?_, h⟩
  have e : ∀ i j : Int, rngdP (.int i) (.int j) = if -(2 ^ 62) ≤ i ∧ i < 2 ^ 62 ∧ -(2 ^ 62) ≤ j ∧ j < 2 ^ 62 then some (rangeBP i (i - j).toNat) else none := fun i j => by unfold rngdP <;> rfl
  rw [e]
  exact if_pos (by simpa using b)
theorem rangeP_len (lo : Int) (n : Nat) : (rangeP lo n).length = n := by simp [rangeP]
theorem rangeP_at {lo : Int} {n i : Nat} {p : PV} (h : (rangeP lo n)[i]? = some p) : i < n ∧ p = .int (lo + (i : Int)) := by
  unfold rangeP at h
  rw [List.getElem?_map] at h
  by_cases q : i < n
  · rw [List.getElem?_range q] at h
    exact ⟨q, (Option.some.inj h).symm⟩
  · rw [List.getElem?_eq_none (by simp; omega)] at h
    cases h
theorem enumP_len : ∀ (xs : List PV) (k : Nat), (enumP k xs).length = xs.length
  | [], _ => rfl
  | x :: xs, k => by show (enumP (k + 1) xs).length + 1 = _; rw [enumP_len]; rfl
theorem enumP_at : ∀ {xs : List PV} {k i : Nat} {d : PV}, (enumP k xs)[i]? = some d → ∃ x, xs[i]? = some x ∧ d = .itm [.int ((k + i : Nat) : Int), x]
  | [], _, _, _, h => nomatch h
  | x :: xs, k, 0, d, h => ⟨x, rfl, by have e : PV.itm [.int (k : Int), x] = d := Option.some.inj h; rw [← e]; rfl⟩
  | x :: xs, k, i + 1, d, h => by
    obtain ⟨y, h1, h2⟩ := enumP_at (k := k + 1) (i := i) (xs := xs) h
    exact ⟨y, h1, by rw [h2, show k + 1 + i = k + (i + 1) from by omega]⟩
theorem zipP_at : ∀ {xs ys : List PV} {i : Nat} {d : PV}, (zipP xs ys)[i]? = some d → ∃ x y, xs[i]? = some x ∧ ys[i]? = some y ∧ d = .itm [x, y]
  | [], _, _, _, h => by simp [zipP] at h
  | x :: xs, [], _, _, h => by simp [zipP] at h
  | x :: xs, y :: ys, 0, d, h => ⟨x, y, rfl, rfl, (Option.some.inj h).symm⟩
  | x :: xs, y :: ys, i + 1, d, h => zipP_at (xs := xs) (ys := ys) (i := i) h
/-- items with their places, by a list of places -/
theorem enumP_map {α : Type} (g : α → PV) : ∀ (xs : List α) (k : Nat), enumP k (xs.map g) = (xs.zipIdx k).map fun x => .itm [.int (x.2 : Int), g x.1]
  | [], _ => rfl
  | x :: xs, k => by
    show _ :: enumP (k + 1) (xs.map g) = _
    rw [enumP_map g xs (k + 1)]
    rfl
theorem zipP_map {α β : Type} (g : α → PV) (h : β → PV) : ∀ (xs : List α) (ys : List β), zipP (xs.map g) (ys.map h) = (xs.zip ys).map fun x => .itm [g x.1, h x.2]
  | [], _ => by simp [zipP]
  | x :: xs, [] => by simp [zipP]
  | x :: xs, y :: ys => by
    show _ :: zipP (xs.map g) (ys.map h) = _
    rw [zipP_map g h xs ys]
    rfl
/-! what holds no list -/
theorem flats_map {α : Type} (g : α → PV) : ∀ xs : List α, PV.flats (xs.map g) = xs.all fun x => (g x).flat
  | [] => rfl
  | x :: xs => by rw [List.map_cons, List.all_cons]; show ((g x).flat && PV.flats (xs.map g)) = _; rw [flats_map g xs]
theorem flats_app : ∀ xs ys : List PV, PV.flats (xs ++ ys) = (PV.flats xs && PV.flats ys)
  | [], ys => by simp [PV.flats]
  | x :: xs, ys => by show (x.flat && PV.flats (xs ++ ys)) = ((x.flat && PV.flats xs) && PV.flats ys); rw [flats_app xs ys, Bool.and_assoc]
theorem flats_range (lo : Int) (n : Nat) : PV.flats (rangeP lo n) = true := by
  unfold rangeP
  rw [flats_map]
  simp [PV.flat]
theorem x_flat {p : PV} {A : Prop} (e : p.flat = true) (h : A) : p.flat = true ∧ A := ⟨e, h⟩
theorem x_flat1 {p : PV} {A : Prop} (e : p.flat1 = true) (c : p.cell = true) (h : A) : p.flat1 = true ∧ p.cell = true ∧ A := ⟨e, c, h⟩
theorem x_flat3 {ps qs : List PV} {A : Prop} (e : PV.flats ps = true) (c : PV.flats qs = true) (h : A) : PV.flats ps = true ∧ PV.flats qs = true ∧ A := ⟨e, c, h⟩
end
/-! calls -/
section
variable {T : Tab} {G : Gb} {IO : Str → List Nat} {S : Told} {k : Nat} {f : Str} {fn : Fn} {ps : List PV} {E : PX → Prop} {Q : PV → List PV → Bool → Prop}
theorem pcall (hS : S f = none) (hT : T f = some fn) (hio : IO f = []) (hl : ps.length = fn.ps.length)
    (h : pSs T G IO (pCall T G IO S k) fn.body (inFrom [] 0 ps ++ List.replicate (fn.N.length - ps.length) .no) (fun x _ => E x) (fun _ => Q .non [] false) (fun _ p fr => Q p [] fr)) : pCall T G IO S (k + 1) f ps E Q := by
  unfold pCall at h ⊢
  show (match S f with
      | some w => IO f = [] ∧ w (k + 1) ps fun r => Q r [] false
      | none => ∃ fn, T f = some fn ∧ ps.length = fn.ps.length ∧ pBody T G IO (pCallN T G IO S k) (IO f) fn ps E Q)
  rw [hS]
  refine ⟨fn, hT, hl, ?_⟩
  unfold pBody
  rw [hio]
  have e1 : (fun env : PE => ∃ qs, outs env [] = some qs ∧ Q .non qs false) = fun _ => Q .non [] false := funext fun env => propext ⟨fun ⟨qs, e, h⟩ => by cases e; exact h, fun h => ⟨[], rfl, h⟩⟩
  have e2 : (fun (env : PE) (p : PV) (fr : Bool) => (([] : List Nat) ≠ [] → p.flat = true) ∧ ∃ qs, outs env [] = some qs ∧ Q p qs fr) = fun _ p fr => Q p [] fr := funext fun env => funext fun p => funext fun fr => propext ⟨fun ⟨_, qs, e, h⟩ => by cases e; exact h, fun h => ⟨fun z => absurd rfl z, [], rfl, h⟩⟩
  rw [e1, e2]
  exact h
theorem pcallM (hS : S f = none) (hT : T f = some fn) (hl : ps.length = fn.ps.length) (h : pBody T G IO (pCall T G IO S k) (IO f) fn ps E Q) : pCall T G IO S (k + 1) f ps E Q := by
  unfold pCall at h ⊢
  show (match S f with
      | some w => IO f = [] ∧ w (k + 1) ps fun r => Q r [] false
      | none => ∃ fn, T f = some fn ∧ ps.length = fn.ps.length ∧ pBody T G IO (pCallN T G IO S k) (IO f) fn ps E Q)
  rw [hS]
  exact ⟨fn, hT, hl, h⟩
theorem ptold {w : Nat → List PV → (PV → Prop) → Prop} (hS : S f = some w) (hio : IO f = []) (h : w (k + 1) ps fun r => Q r [] false) : pCall T G IO S (k + 1) f ps E Q := by
  unfold pCall
  show (match S f with
      | some w => IO f = [] ∧ w (k + 1) ps fun r => Q r [] false
      | none => ∃ fn, T f = some fn ∧ ps.length = fn.ps.length ∧ pBody T G IO (pCallN T G IO S k) (IO f) fn ps E Q)
  rw [hS]
  exact ⟨hio, h⟩
end
end Ab
namespace Ab
open PySem
theorem x_ifP {p : Prop} [Decidable p] {A B : Prop} (e : p) (h : A) : if decide p = true then A else B := by rw [if_pos (decide_eq_true e)]; exact h
theorem x_ifQ {p : Prop} [Decidable p] {A B : Prop} (e : ¬ p) (h : B) : if decide p = true then A else B := by rw [if_neg (by rw [decide_eq_false e]; decide)]; exact h
theorem x_nifP {p : Prop} [Decidable p] {A B : Prop} (e : p) (h : B) : if (!decide p) = true then A else B := by rw [if_neg (by rw [decide_eq_true e]; decide)]; exact h
theorem x_nifQ {p : Prop} [Decidable p] {A B : Prop} (e : ¬ p) (h : A) : if (!decide p) = true then A else B := by rw [if_pos (by rw [decide_eq_false e]; rfl)]; exact h
/-- a draw -/
def belowW (k : Nat) (ps : List PV) (Q : PV → Prop) : Prop := ∃ m : Int, ps = [.pool, .int m] ∧ 1 ≤ k ∧ (0 < m ∧ m < 1073741824) ∧ ∀ r : Int, 0 ≤ r → r < m → Q (.int r)
end Ab
namespace Ab
open PySem
theorem inP_str (x : Str) : ∀ xs : List Str, inP (.str x) (xs.map PV.str) = some (decide (x ∈ xs))
  | [] => by simp [inP]
  | y :: xs => by
    rw [List.map_cons]
    unfold inP
    rw [inP_str x xs]
    show some (decide (y = x) || decide (x ∈ xs)) = _
    congr 1
    by_cases q : y = x
    · simp [q]
    · have : x ≠ y := fun z => q z.symm
      simp [q, this]
theorem inP_int (x : Int) : ∀ xs : List Int, inP (.int x) (xs.map PV.int) = some (decide (x ∈ xs))
  | [] => by simp [inP]
  | y :: xs => by
    rw [List.map_cons]
    unfold inP
    rw [inP_int x xs]
    show some (decide (y = x) || decide (x ∈ xs)) = _
    congr 1
    by_cases q : y = x
    · simp [q]
    · have : x ≠ y := fun z => q z.symm
      simp [q, this]
theorem atoms_of {α : Type} (g : α → PV) (h : ∀ x, atomP (g x) = true) (xs : List α) : (xs.map g).all atomP = true := by
  rw [List.all_eq_true]
  intro p hp
  obtain ⟨x, _, rfl⟩ := List.mem_map.mp hp
  exact h x
section
variable {K : Bool → Prop}
theorem x_inSL {x : Str} {xs : List Str} (h : K (decide (x ∈ xs))) : ∃ c, cmpP .In (.str x) (.lst (xs.map PV.str)) = some c ∧ K c := ⟨_, by
  show (if (atomP (.str x) && (xs.map PV.str).all atomP) = true then inP (.str x) (xs.map PV.str) else none) = _
  rw [atoms_of PV.str (fun _ => rfl), inP_str]
  rfl, h⟩
theorem x_inST {x : Str} {xs : List Str} (h : K (decide (x ∈ xs))) : ∃ c, cmpP .In (.str x) (.tup (xs.map PV.str)) = some c ∧ K c := ⟨_, by
  show (if (atomP (.str x) && (xs.map PV.str).all atomP) = true then inP (.str x) (xs.map PV.str) else none) = _
  rw [atoms_of PV.str (fun _ => rfl), inP_str]
  rfl, h⟩
theorem x_niSL {x : Str} {xs : List Str} (h : K (!decide (x ∈ xs))) : ∃ c, cmpP .NotIn (.str x) (.lst (xs.map PV.str)) = some c ∧ K c := ⟨_, by
  show (if (atomP (.str x) && (xs.map PV.str).all atomP) = true then inP (.str x) (xs.map PV.str) else none).map _ = _
  rw [atoms_of PV.str (fun _ => rfl), inP_str]
  rfl, h⟩
theorem x_niST {x : Str} {xs : List Str} (h : K (!decide (x ∈ xs))) : ∃ c, cmpP .NotIn (.str x) (.tup (xs.map PV.str)) = some c ∧ K c := ⟨_, by
  show (if (atomP (.str x) && (xs.map PV.str).all atomP) = true then inP (.str x) (xs.map PV.str) else none).map _ = _
  rw [atoms_of PV.str (fun _ => rfl), inP_str]
  rfl, h⟩
theorem x_inIL {x : Int} {xs : List Int} (h : K (decide (x ∈ xs))) : ∃ c, cmpP .In (.int x) (.lst (xs.map PV.int)) = some c ∧ K c := ⟨_, by
  show (if (atomP (.int x) && (xs.map PV.int).all atomP) = true then inP (.int x) (xs.map PV.int) else none) = _
  rw [atoms_of PV.int (fun _ => rfl), inP_int]
  rfl, h⟩
theorem x_inIT {x : Int} {xs : List Int} (h : K (decide (x ∈ xs))) : ∃ c, cmpP .In (.int x) (.tup (xs.map PV.int)) = some c ∧ K c := ⟨_, by
  show (if (atomP (.int x) && (xs.map PV.int).all atomP) = true then inP (.int x) (xs.map PV.int) else none) = _
  rw [atoms_of PV.int (fun _ => rfl), inP_int]
  rfl, h⟩
theorem x_niIL {x : Int} {xs : List Int} (h : K (!decide (x ∈ xs))) : ∃ c, cmpP .NotIn (.int x) (.lst (xs.map PV.int)) = some c ∧ K c := ⟨_, by
  show (if (atomP (.int x) && (xs.map PV.int).all atomP) = true then inP (.int x) (xs.map PV.int) else none).map _ = _
  rw [atoms_of PV.int (fun _ => rfl), inP_int]
  rfl, h⟩
theorem x_niIT {x : Int} {xs : List Int} (h : K (!decide (x ∈ xs))) : ∃ c, cmpP .NotIn (.int x) (.tup (xs.map PV.int)) = some c ∧ K c := ⟨_, by
  show (if (atomP (.int x) && (xs.map PV.int).all atomP) = true then inP (.int x) (xs.map PV.int) else none).map _ = _
  rw [atoms_of PV.int (fun _ => rfl), inP_int]
  rfl, h⟩
end
theorem pigeon {α : Type} [DecidableEq α] : ∀ {xs ys : List α}, xs.Nodup → (∀ x ∈ xs, x ∈ ys) → xs.length ≤ ys.length
  | [], ys, _, _ => Nat.zero_le _
  | x :: xs, ys, hn, h => by
    rw [List.nodup_cons] at hn
    have hx := h x List.mem_cons_self
    have := pigeon (ys := ys.erase x) hn.2 (fun y hy => (List.mem_erase_of_ne (by intro z; subst z; exact hn.1 hy)).mpr (h y (List.mem_cons_of_mem _ hy)))
    rw [List.length_erase_of_mem hx] at this
    have := List.length_pos_of_mem hx
    simp only [List.length_cons]
    omega
end Ab
namespace Ab
open PySem
/-- numbers, texts, None, and rows of these, to a depth -/
def plainN : Nat → PV → Bool
  | 0, p => match p with
    | .non => true
    | .int _ => true
    | .str _ => true
    | _ => false
  | n + 1, p => match p with
    | .non => true
    | .int _ => true
    | .str _ => true
    | .tup ps => ps.all (plainN n)
    | .lst ps => ps.all (plainN n)
    | _ => false
theorem plain_all {n : Nat} (ih : ∀ p, plainN n p = true → ∃ x, pdP n p = some x) : ∀ ps : List PV, ps.all (plainN n) = true → ∃ xs, optAll (pdP n) ps = some xs
  | [], _ => ⟨[], rfl⟩
  | p :: ps, h => by
    rw [List.all_cons, Bool.and_eq_true] at h
    obtain ⟨x, e1⟩ := ih p h.1
    obtain ⟨xs, e2⟩ := plain_all ih ps h.2
    exact ⟨x :: xs, by unfold optAll; rw [e1, e2]⟩
theorem plain_pd : ∀ (n : Nat) (p : PV), plainN n p = true → ∃ x, pdP n p = some x
  | 0, p, h => by cases p <;> first | exact ⟨_, rfl⟩ | cases h
  | n + 1, p, h => by
    cases p with
    | tup ps =>
      obtain ⟨xs, e⟩ := plain_all (plain_pd n) ps h
      refine ⟨.tuple xs, ?_⟩
      unfold pdP
      dsimp only
      rw [e]
      rfl
    | lst ps =>
      obtain ⟨xs, e⟩ := plain_all (plain_pd n) ps h
      refine ⟨.list xs, ?_⟩
      unfold pdP
      dsimp only
      rw [e]
      rfl
    | non => exact ⟨_, rfl⟩
    | int i => exact ⟨_, rfl⟩
    | str x => exact ⟨_, rfl⟩
    | _ => cases h
theorem plain_eqs {n : Nat} (ih : ∀ p q x y, plainN n p = true → plainN n q = true → pdP n p = some x → pdP n q = some y → (PyData.eqv x y = true ↔ p = q)) : ∀ (ps qs : List PV) (xs ys : List PyData), ps.all (plainN n) = true → qs.all (plainN n) = true → optAll (pdP n) ps = some xs → optAll (pdP n) qs = some ys → (PyData.eqvAll xs ys = true ↔ ps = qs)
  | [], [], xs, ys, _, _, e1, e2 => by cases e1; cases e2; simp [PyData.eqvAll]
  | [], q :: qs, xs, ys, _, h2, e1, e2 => by
    cases e1
    unfold optAll at e2
    cases z1 : pdP n q with
    | none => rw [z1] at e2; cases e2
    | some y => cases z2 : optAll (pdP n) qs with
      | none => rw [z1, z2] at e2; cases e2
      | some ys' => rw [z1, z2] at e2; cases e2; simp [PyData.eqvAll]
  | p :: ps, [], xs, ys, h1, _, e1, e2 => by
    cases e2
    unfold optAll at e1
    cases z1 : pdP n p with
    | none => rw [z1] at e1; cases e1
    | some y => cases z2 : optAll (pdP n) ps with
      | none => rw [z1, z2] at e1; cases e1
      | some ys' => rw [z1, z2] at e1; cases e1; simp [PyData.eqvAll]
  | p :: ps, q :: qs, xs, ys, h1, h2, e1, e2 => by
    rw [List.all_cons, Bool.and_eq_true] at h1 h2
    unfold optAll at e1 e2
    cases z1 : pdP n p with
    | none => rw [z1] at e1; cases e1
    | some x => cases z2 : optAll (pdP n) ps with
      | none => rw [z1, z2] at e1; cases e1
      | some xs' =>
        rw [z1, z2] at e1
        cases e1
        cases z3 : pdP n q with
        | none => rw [z3] at e2; cases e2
        | some y => cases z4 : optAll (pdP n) qs with
          | none => rw [z3, z4] at e2; cases e2
          | some ys' =>
            rw [z3, z4] at e2
            cases e2
            unfold PyData.eqvAll
            rw [Bool.and_eq_true, ih p q x y h1.1 h2.1 z1 z3, plain_eqs ih ps qs xs' ys' h1.2 h2.2 z2 z4, List.cons.injEq]
theorem plain_eq : ∀ (n : Nat) (p q : PV) (x y : PyData), plainN n p = true → plainN n q = true → pdP n p = some x → pdP n q = some y → (PyData.eqv x y = true ↔ p = q)
  | 0, p, q, x, y, h1, h2, e1, e2 => by
    cases p with
    | non =>
      cases q with
      | non => cases e1; cases e2; simp [PyData.eqv]
      | int _ => cases e1; cases e2; simp [PyData.eqv]
      | str _ => cases e1; cases e2; simp [PyData.eqv]
      | _ => cases h2
    | int _ =>
      cases q with
      | non => cases e1; cases e2; simp [PyData.eqv]
      | int _ => cases e1; cases e2; simp [PyData.eqv]
      | str _ => cases e1; cases e2; simp [PyData.eqv]
      | _ => cases h2
    | str _ =>
      cases q with
      | non => cases e1; cases e2; simp [PyData.eqv]
      | int _ => cases e1; cases e2; simp [PyData.eqv]
      | str _ => cases e1; cases e2; simp [PyData.eqv]
      | _ => cases h2
    | _ => cases h1
  | n + 1, p, q, x, y, h1, h2, e1, e2 => by
    have tupE : ∀ {ps : List PV} {x : PyData}, pdP (n + 1) (.tup ps) = some x → ∃ xs, optAll (pdP n) ps = some xs ∧ x = .tuple xs := fun {ps x} e => by
      unfold pdP at e
      dsimp only at e
      cases z : optAll (pdP n) ps with
      | none => rw [z] at e; cases e
      | some xs => rw [z] at e; exact ⟨xs, rfl, (Option.some.inj e).symm⟩
    have lstE : ∀ {ps : List PV} {x : PyData}, pdP (n + 1) (.lst ps) = some x → ∃ xs, optAll (pdP n) ps = some xs ∧ x = .list xs := fun {ps x} e => by
      unfold pdP at e
      dsimp only at e
      cases z : optAll (pdP n) ps with
      | none => rw [z] at e; cases e
      | some xs => rw [z] at e; exact ⟨xs, rfl, (Option.some.inj e).symm⟩
    cases p with
    | tup ps =>
      obtain ⟨xs, z1, rfl⟩ := tupE e1
      cases q with
      | tup qs =>
        obtain ⟨ys, z2, rfl⟩ := tupE e2
        unfold PyData.eqv
        rw [plain_eqs (plain_eq n) ps qs xs ys h1 h2 z1 z2]
        simp
      | lst qs => obtain ⟨ys, z2, rfl⟩ := lstE e2; simp [PyData.eqv]
      | non => cases e2; simp [PyData.eqv]
      | int i => cases e2; simp [PyData.eqv]
      | str i => cases e2; simp [PyData.eqv]
      | _ => cases h2
    | lst ps =>
      obtain ⟨xs, z1, rfl⟩ := lstE e1
      cases q with
      | lst qs =>
        obtain ⟨ys, z2, rfl⟩ := lstE e2
        unfold PyData.eqv
        rw [plain_eqs (plain_eq n) ps qs xs ys h1 h2 z1 z2]
        simp
      | tup qs => obtain ⟨ys, z2, rfl⟩ := tupE e2; simp [PyData.eqv]
      | non => cases e2; simp [PyData.eqv]
      | int i => cases e2; simp [PyData.eqv]
      | str i => cases e2; simp [PyData.eqv]
      | _ => cases h2
    | non =>
      cases e1
      cases q with
      | lst qs => obtain ⟨ys, z2, rfl⟩ := lstE e2; simp [PyData.eqv]
      | tup qs => obtain ⟨ys, z2, rfl⟩ := tupE e2; simp [PyData.eqv]
      | non => cases e2; simp [PyData.eqv]
      | int i => cases e2; simp [PyData.eqv]
      | str i => cases e2; simp [PyData.eqv]
      | _ => cases h2
    | int i =>
      cases e1
      cases q with
      | lst qs => obtain ⟨ys, z2, rfl⟩ := lstE e2; simp [PyData.eqv]
      | tup qs => obtain ⟨ys, z2, rfl⟩ := tupE e2; simp [PyData.eqv]
      | non => cases e2; simp [PyData.eqv]
      | int i => cases e2; simp [PyData.eqv]
      | str i => cases e2; simp [PyData.eqv]
      | _ => cases h2
    | str i =>
      cases e1
      cases q with
      | lst qs => obtain ⟨ys, z2, rfl⟩ := lstE e2; simp [PyData.eqv]
      | tup qs => obtain ⟨ys, z2, rfl⟩ := tupE e2; simp [PyData.eqv]
      | non => cases e2; simp [PyData.eqv]
      | int i => cases e2; simp [PyData.eqv]
      | str i => cases e2; simp [PyData.eqv]
      | _ => cases h2
    | _ => cases h1
theorem eqP_plain {p q : PV} (h1 : plainN 60 p = true) (h2 : plainN 60 q = true) : (p = q ∧ eqP p q = some true) ∨ (p ≠ q ∧ eqP p q = some false) := by
  obtain ⟨x, e1⟩ := plain_pd 60 p h1
  obtain ⟨y, e2⟩ := plain_pd 60 q h2
  have key := plain_eq 60 p q x y h1 h2 e1 e2
  have fb : (match pdP 60 p, pdP 60 q with
    | some a, some b => some (PyData.eqv a b)
    | _, _ => none) = some (PyData.eqv x y) := by rw [e1, e2]
  have main : eqP p q = some (PyData.eqv x y) := by
    unfold eqP
    split
    · cases e1; cases e2; unfold PyData.eqv; first | rfl | (congr 1; done) | (congr 1; rw [Bool.eq_iff_iff]; simp)
    · cases e1; cases e2; unfold PyData.eqv; first | rfl | (congr 1; done) | (congr 1; rw [Bool.eq_iff_iff]; simp)
    · cases h1
    · cases e1; cases e2; simp [PyData.eqv]
    · exact fb
  rw [main]
  by_cases q : PyData.eqv x y = true
  · exact .inl ⟨key.mp q, by rw [q]⟩
  · exact .inr ⟨fun z => q (key.mpr z), by rw [Bool.eq_false_iff.mpr q]⟩
section
variable {K : Bool → Prop}
theorem x_eqv {p q : PV} (h1 : plainN 60 p = true) (h2 : plainN 60 q = true) (a : p = q → K true) (b : p ≠ q → K false) : ∃ c, cmpP .Eq p q = some c ∧ K c := by
  rcases eqP_plain h1 h2 with ⟨e, h⟩ | ⟨e, h⟩
  · exact ⟨_, h, a e⟩
  · exact ⟨_, h, b e⟩
theorem x_nev {p q : PV} (h1 : plainN 60 p = true) (h2 : plainN 60 q = true) (a : p = q → K false) (b : p ≠ q → K true) : ∃ c, cmpP .NotEq p q = some c ∧ K c := by
  rcases eqP_plain h1 h2 with ⟨e, h⟩ | ⟨e, h⟩
  · exact ⟨_, by show (eqP p q).map _ = _; rw [h]; rfl, a e⟩
  · exact ⟨_, by show (eqP p q).map _ = _; rw [h]; rfl, b e⟩
theorem plain_map {α : Type} (g : α → PV) (n : Nat) (h : ∀ x, plainN n (g x) = true) (xs : List α) : (xs.map g).all (plainN n) = true := by
  rw [List.all_eq_true]
  intro p hp
  obtain ⟨x, _, rfl⟩ := List.mem_map.mp hp
  exact h x
theorem x_eqNil {α : Type} {g : α → PV} {xs : List α} (h : ∀ x, plainN 59 (g x) = true) (k : K xs.isEmpty) : ∃ c, cmpP .Eq (.lst (xs.map g)) (.lst []) = some c ∧ K c := by
  refine x_eqv (plain_map g 59 h xs) rfl (fun e => ?_) (fun e => ?_)
  · cases xs with
    | nil => exact k
    | cons x xs => cases e
  · cases xs with
    | nil => exact absurd rfl e
    | cons x xs => exact k
theorem x_neNil {α : Type} {g : α → PV} {xs : List α} (h : ∀ x, plainN 59 (g x) = true) (k : K (!xs.isEmpty)) : ∃ c, cmpP .NotEq (.lst (xs.map g)) (.lst []) = some c ∧ K c := by
  refine x_nev (plain_map g 59 h xs) rfl (fun e => ?_) (fun e => ?_)
  · cases xs with
    | nil => exact k
    | cons x xs => cases e
  · cases xs with
    | nil => exact absurd rfl e
    | cons x xs => exact k
end
/-- a statement apart from what follows -/
theorem p_cut {T : Tab} {G : Gb} {IO : Str → List Nat} {F : PF} {env : PE} {EE : PX → PE → Prop} {N : PE → Prop} {V : PE → PV → Bool → Prop} {s : CS} {ss : CSs} (P : PE → Prop) (h1 : ∀ N' : PE → Prop, (∀ env, P env → N' env) → pS T G IO F s env EE N' V) (h2 : ∀ env, P env → pSs T G IO F ss env EE N V) : pSs T G IO F (.cons s ss) env EE N V := h1 _ h2
theorem atI_last {α : Type} {xs : List α} {x : α} : L2.atI (xs ++ [x]) (-1) = some x := by
  have : L2.ixN (xs ++ [x]).length (-1) = some xs.length := by
    unfold L2.ixN
    simp
    omega
  unfold L2.atI
  rw [this]
  simp
end Ab
namespace Ab
open PySem
theorem last_at {α : Type} (g : α → PV) {xs : List α} (h : 0 < xs.length) : ∃ x ∈ xs, L2.atI (xs.map g) (-1) = some (g x) := by
  have hl : (xs.length - 1) < xs.length := by omega
  refine ⟨xs[xs.length - 1], List.getElem_mem hl, ?_⟩
  have : L2.ixN (xs.map g).length (-1) = some (xs.length - 1) := by
    unfold L2.ixN
    rw [List.length_map]
    rw [if_neg (by omega), if_pos (by omega)]
    congr 1
    omega
  unfold L2.atI
  rw [this]
  show (xs.map g)[xs.length - 1]? = _
  rw [List.getElem?_map, List.getElem?_eq_getElem hl]
  rfl
theorem map_snoc {α β : Type} (g : α → β) (xs : List α) (x : α) : xs.map g ++ [g x] = (xs ++ [x]).map g := by simp
end Ab
namespace Ab
open PySem
theorem x_lenS {x : Str} {K : PV → Prop} (h : K (.int x.length)) (b : x.length ≤ sizeLine) : ∃ r, bltP .len [.str x] = some r ∧ K r := ⟨_, if_pos b, h⟩
end Ab
namespace Ab
open PySem
theorem zip_self {α : Type} : ∀ xs : List α, xs.zip xs = xs.map fun x => (x, x)
  | [] => rfl
  | x :: xs => by rw [List.zip_cons_cons, zip_self xs]; rfl
theorem any_inr (ks : List Str) (x : Str) : ((ks.map Sum.inr : List (Sum Int Str)).any fun a => decide (a = .inr x)) = decide (x ∈ ks) := by
  induction ks with
  | nil => rfl
  | cons k ks ih =>
    rw [List.map_cons, List.any_cons, ih]
    by_cases q : k = x
    · simp [q]
    · have : x ≠ k := fun z => q z.symm
      simp [q, this]
theorem x_putNew {ks : List Str} {ps : List PV} {x : Str} {v : PV} {K : PV → Prop} (hn : x ∉ ks) (hs : ks.length < sizeLine) (h : K (.dct ((ks ++ [x]).map Sum.inr) (ps ++ [v]))) : ∃ r, stP (.dct (ks.map Sum.inr) ps) (.str x) v = some r ∧ K r := by
  refine ⟨_, ?_, h⟩
  show (if (ks.map Sum.inr : List (Sum Int Str)).length < sizeLine then some (putP (ks.map Sum.inr) ps (.inr x) v) else none) = _
  rw [if_pos (by rw [List.length_map]; exact hs)]
  unfold putP
  rw [any_inr, decide_eq_false hn, if_neg (by decide), List.map_append]
  rfl
theorem setP_at : ∀ {ks : List Str} {ps : List PV} {i : Nat} {x : Str} (v : PV), ks.Nodup → ks[i]? = some x → setP (ks.map Sum.inr) ps (.inr x) v = ps.set i v
  | [], ps, i, x, v, _, e => by simp at e
  | k :: ks, [], i, x, v, _, e => by simp [setP]
  | k :: ks, p :: ps, 0, x, v, hn, e => by
    rw [List.nodup_cons] at hn
    cases e
    have : ∀ (ks : List Str) (ps : List PV), k ∉ ks → setP (ks.map Sum.inr) ps (.inr k) v = ps := by
      intro ks
      induction ks with
      | nil => intro ps _; simp [setP]
      | cons a ks ih =>
        intro ps h
        cases ps with
        | nil => simp [setP]
        | cons p ps =>
          have : a ≠ k := fun z => h (by rw [z]; exact List.mem_cons_self)
          show (if (Sum.inr a : Sum Int Str) = .inr k then v else p) :: setP (ks.map Sum.inr) ps (.inr k) v = _
          rw [if_neg (by simpa using this), ih ps (fun z => h (List.mem_cons_of_mem _ z))]
    show (if (Sum.inr k : Sum Int Str) = .inr k then v else p) :: setP (ks.map Sum.inr) ps (.inr k) v = _
    rw [if_pos rfl, this ks ps hn.1]
    rfl
  | k :: ks, p :: ps, i + 1, x, v, hn, e => by
    rw [List.nodup_cons] at hn
    have hx : x ∈ ks := List.mem_of_getElem? (i := i) (by simpa using e)
    have : k ≠ x := fun z => hn.1 (z ▸ hx)
    show (if (Sum.inr k : Sum Int Str) = .inr x then v else p) :: setP (ks.map Sum.inr) ps (.inr x) v = _
    rw [if_neg (by simpa using this), setP_at v hn.2 (by simpa using e)]
    rfl
theorem x_putOld {ks : List Str} {ps : List PV} {x : Str} {i : Nat} {v : PV} {K : PV → Prop} (hn : ks.Nodup) (e : ks[i]? = some x) (hs : ks.length < sizeLine) (h : K (.dct (ks.map Sum.inr) (ps.set i v))) : ∃ r, stP (.dct (ks.map Sum.inr) ps) (.str x) v = some r ∧ K r := by
  refine ⟨_, ?_, h⟩
  show (if (ks.map Sum.inr : List (Sum Int Str)).length < sizeLine then some (putP (ks.map Sum.inr) ps (.inr x) v) else none) = _
  rw [if_pos (by rw [List.length_map]; exact hs)]
  unfold putP
  rw [any_inr, decide_eq_true (List.mem_of_getElem? e), if_pos rfl, setP_at v hn e]
theorem getP_at : ∀ {ks : List Str} {ps : List PV} {i : Nat} {x : Str} {p : PV}, ks.Nodup → ks[i]? = some x → ps[i]? = some p → getP (ks.map Sum.inr) ps (.inr x) = some p
  | [], ps, i, x, p, _, e, _ => by simp at e
  | k :: ks, [], i, x, p, _, _, e => by simp at e
  | k :: ks, q :: ps, 0, x, p, hn, e1, e2 => by
    cases e1
    cases e2
    show (if (Sum.inr k : Sum Int Str) = .inr k then some q else _) = _
    rw [if_pos rfl]
  | k :: ks, q :: ps, i + 1, x, p, hn, e1, e2 => by
    rw [List.nodup_cons] at hn
    have hx : x ∈ ks := List.mem_of_getElem? (i := i) (by simpa using e1)
    have : k ≠ x := fun z => hn.1 (z ▸ hx)
    show (if (Sum.inr k : Sum Int Str) = .inr x then some q else getP (ks.map Sum.inr) ps (.inr x)) = _
    rw [if_neg (by simpa using this), getP_at hn.2 (by simpa using e1) (by simpa using e2)]
theorem x_idxT {xs : List Str} {z : Str} {i : Nat} {K : PV → Prop} (hn : xs.Nodup) (e : xs[i]? = some z) (h : K (.int (i : Int))) : ∃ r, mthP .index (.tup (xs.map PV.str)) [.str z] = some r ∧ K r := by
  refine ⟨_, ?_, h⟩
  have e1 : optAll strOfP (xs.map PV.str) = some xs := by
    have := optAll_of (f := strOfP) PV.str id (fun _ => rfl) xs
    simpa using this
  have e2 : xs.findIdx? (fun y => decide (y = z)) = some i := by
    rw [List.findIdx?_eq_some_iff_getElem]
    have hi := (List.getElem?_eq_some_iff.mp e).1
    refine ⟨hi, by simpa using (List.getElem?_eq_some_iff.mp e).2, fun j hj => ?_⟩
    have hj' : j < xs.length := by omega
    have : xs[j] ≠ z := fun q => by
      have : j = i := (List.getElem?_inj hj' hn).mp (by rw [List.getElem?_eq_getElem hj', q, e])
      omega
    simpa using this
  show (match (optAll strOfP (xs.map PV.str)).bind fun ys => ys.findIdx? fun y => decide (y = z) with
    | some k => some (PV.int (k : Int))
    | none => none) = _
  rw [e1]
  show (match xs.findIdx? fun y => decide (y = z) with
    | some k => some (PV.int (k : Int))
    | none => none) = _
  rw [e2]
end Ab
set_option Elab.async false
set_option linter.all false
set_option autoImplicit false
set_option maxRecDepth 100000
namespace Z
open Ab PySem PySem.Spec PyProof.Rows L2
def top (i : Nat) : Stmt := PySem.Challenge.pw_lentlimits_k02_trees_and_buckets_of_anyt.main.body.getD i (.Pass ⟨0, 0, 0, 0⟩)
def b_is_number : CSs := (.cons (.ret (.and_ (.isi (.var 0) .int) (.and_ (.not_ (.isi (.var 0) .bool)) (.cmp .GtE (.var 0) (.lit (.int 0))))))
    .nil)
def d_is_number : Fn := ⟨["value"], ["value"], b_is_number⟩
def r_is_number : DRow := ⟨"is_number", d_is_number, top 3⟩
def b_is_up_to : CSs := (.cons (.ret (.and_ (.call "is_number" (.cons (.var 0) .nil)) (.cmp .LtE (.var 0) (.var 1))))
    .nil)
def d_is_up_to : Fn := ⟨["value", "most"], ["value", "most"], b_is_up_to⟩
def r_is_up_to : DRow := ⟨"is_up_to", d_is_up_to, top 4⟩
def b_is_name : CSs := (.cons (.ife (.or_ (.not_ (.isi (.var 0) .str)) (.not_ (.chain .LtE .LtE (.lit (.int 1)) (.blt .len (.cons (.var 0) .nil)) (.glob "MOST_LETTERS"))))
    (.cons (.ret (.lit (.bl false)))
    .nil)
    .nil)
    (.cons (.ret (.blt .all (.cons (.lc (.cmp .In (.var 1) (.glob "LETTERS")) (.nm 1) (.seq (.var 0)) .none [1]) .nil)))
    .nil))
def d_is_name : Fn := ⟨["value"], ["value", "sign"], b_is_name⟩
def r_is_name : DRow := ⟨"is_name", d_is_name, top 5⟩
def b_are_refills : CSs := (.cons (.ife (.or_ (.not_ (.isi (.var 0) .tuple)) (.not_ (.chain .LtE .LtE (.lit (.int 1)) (.blt .len (.cons (.var 0) .nil)) (.glob "MOST_PERIOD"))))
    (.cons (.ret (.lit (.bl false)))
    .nil)
    .nil)
    (.cons (.ret (.blt .all (.cons (.lc (.call "is_up_to" (.cons (.var 2) (.cons (.var 1) .nil))) (.nm 2) (.seq (.var 0)) .none [2]) .nil)))
    .nil))
def d_are_refills : Fn := ⟨["value", "most"], ["value", "most", "each"], b_are_refills⟩
def r_are_refills : DRow := ⟨"are_refills", d_are_refills, top 9⟩
def b_is_bucket_by : CSs := (.cons (.ife (.or_ (.not_ (.isi (.var 0) .tuple)) (.cmp .NotEq (.blt .len (.cons (.var 0) .nil)) (.lit (.int 3))))
    (.cons (.ret (.lit (.bl false)))
    .nil)
    .nil)
    (.cons (.ret (.and_ (.call "is_up_to" (.cons (.sub (.var 0) (.lit (.int 0))) (.cons (.glob "MOST") .nil))) (.and_ (.call "are_refills" (.cons (.sub (.var 0) (.lit (.int 1))) (.cons (.glob "MOST") .nil))) (.call "is_up_to" (.cons (.sub (.var 0) (.lit (.int 2))) (.cons (.glob "MOST") .nil))))))
    .nil))
def d_is_bucket_by : Fn := ⟨["value"], ["value"], b_is_bucket_by⟩
def r_is_bucket_by : DRow := ⟨"is_bucket_by", d_is_bucket_by, top 10⟩
def b_is_node : CSs := (.cons (.ret (.and_ (.isi (.var 0) .tuple) (.and_ (.cmp .Eq (.blt .len (.cons (.var 0) .nil)) (.lit (.int 5))) (.and_ (.call "is_name" (.cons (.sub (.var 0) (.lit (.int 0))) .nil)) (.call "is_bucket_by" (.cons (.slc (.var 0) (.some (.lit (.int 2))) .none) .nil))))))
    .nil)
def d_is_node : Fn := ⟨["value"], ["value"], b_is_node⟩
def r_is_node : DRow := ⟨"is_node", d_is_node, top 13⟩
def b_is_parent : CSs := (.cons (.ife (.cmp .Eq (.var 1) (.lst .nil))
    (.cons (.ret (.cmp .Is (.var 0) (.lit .non)))
    .nil)
    .nil)
    (.cons (.ret (.and_ (.isi (.var 0) .str) (.cmp .In (.var 0) (.var 1))))
    .nil))
def d_is_parent : Fn := ⟨["value", "names"], ["value", "names"], b_is_parent⟩
def r_is_parent : DRow := ⟨"is_parent", d_is_parent, top 14⟩
def b_is_tree_by : CSs := (.cons (.ife (.or_ (.not_ (.isi (.var 0) .tuple)) (.or_ (.not_ (.chain .LtE .LtE (.lit (.int 1)) (.blt .len (.cons (.var 0) .nil)) (.glob "MOST_NODES"))) (.not_ (.blt .all (.cons (.lc (.call "is_node" (.cons (.var 1) .nil)) (.nm 1) (.seq (.var 0)) .none [1]) .nil)))))
    (.cons (.ret (.lit (.bl false)))
    .nil)
    .nil)
    (.cons (.asg (.nm 2) (.lst .nil))
    (.cons (.for_ (.tp (.cons (.nm 3) (.cons (.nm 4) (.cons (.nm 5) (.cons (.nm 6) (.cons (.nm 5) .nil)))))) (.seq (.var 0))
    (.cons (.ife (.or_ (.cmp .In (.var 3) (.var 2)) (.or_ (.not_ (.call "is_parent" (.cons (.var 4) (.cons (.var 2) .nil)))) (.cmp .NotEq (.blt .len (.cons (.var 6) .nil)) (.blt .len (.cons (.sub (.sub (.var 0) (.lit (.int 0))) (.lit (.int 3))) .nil)))))
    (.cons (.ret (.lit (.bl false)))
    .nil)
    .nil)
    (.cons (.expr (.meth .append (.var 2) (.cons (.var 3) .nil)))
    .nil)))
    (.cons (.ret (.lit (.bl true)))
    .nil))))
def d_is_tree_by : Fn := ⟨["value"], ["value", "each", "names", "name", "parent", "_", "refills"], b_is_tree_by⟩
def r_is_tree_by : DRow := ⟨"is_tree_by", d_is_tree_by, top 15⟩
def b_is_tree : CSs := (.cons (.ret (.call "is_tree_by" (.cons (.var 0) .nil)))
    .nil)
def d_is_tree : Fn := ⟨["value"], ["value"], b_is_tree⟩
def r_is_tree : DRow := ⟨"is_tree", d_is_tree, top 17⟩
def b_is_bucket : CSs := (.cons (.ret (.call "is_bucket_by" (.cons (.var 0) .nil)))
    .nil)
def d_is_bucket : Fn := ⟨["value"], ["value"], b_is_bucket⟩
def r_is_bucket : DRow := ⟨"is_bucket", d_is_bucket, top 19⟩
def b__law_pool : CSs := (.cons (.asg (.nm 2) (.ife (.cmp .Lt (.var 1) (.blt .len (.cons (.var 0) .nil))) (.blt .int (.cons (.sub (.var 0) (.var 1)) .nil)) (.bin .Add (.bin .Mult (.lit (.int 7205)) (.var 1)) (.lit (.int 623)))))
    (.cons (.asg (.nm 3) (.bin .Add (.lit (.int 78409)) (.bin .Mult (.lit (.int 5725)) (.var 1))))
    (.cons (.for_ (.nm 4) (.seq (.slc (.var 0) .none (.some (.lit (.int 12)))))
    (.cons (.asg (.nm 3) (.bin .Mod (.blt .int (.cons (.bin .Add (.bin .Add (.bin .Mult (.var 3) (.lit (.int 30601))) (.bin .Mod (.blt .int (.cons (.var 4) .nil)) (.lit (.int 2147483587)))) (.lit (.int 95))) .nil)) (.lit (.int 2147483647))))
    .nil))
    (.cons (.asg (.nm 3) (.bin .Mod (.blt .int (.cons (.bin .Add (.bin .Add (.bin .Mult (.var 3) (.lit (.int 55))) (.bin .Mult (.bin .Mod (.blt .int (.cons (.var 2) .nil)) (.lit (.int 2147483587))) (.lit (.int 24903)))) (.lit (.int 11))) .nil)) (.lit (.int 2147483647))))
    (.cons (.ret (.lst (.cons (.ife (.or_ (.cmp .Lt (.var 2) (.lit (.int 0))) (.cmp .GtE (.var 2) (.bin .Pow (.lit (.int 10)) (.lit (.int 15))))) (.blt .abs (.cons (.var 2) .nil)) (.lit (.int 0))) (.cons (.var 3) (.cons (.lit (.int 0)) .nil)))))
    .nil)))))
def d__law_pool : Fn := ⟨["script", "lap"], ["script", "lap", "cell", "stirred", "each"], b__law_pool⟩
def r__law_pool : DRow := ⟨"_law_pool", d__law_pool, top 21⟩
def b__law_below : CSs := (.cons (.ife (.cmp .Gt (.sub (.var 0) (.lit (.int 0))) (.lit (.int 0)))
    (.cons (.asg (.tp (.cons (.sb (.var 0) (.lit (.int 0))) (.cons (.nm 2) .nil))) (.blt .divmod (.cons (.sub (.var 0) (.lit (.int 0))) (.cons (.var 1) .nil))))
    (.cons (.ret (.var 2))
    .nil))
    .nil)
    (.cons (.asg (.sb (.var 0) (.lit (.int 2))) (.bin .Add (.sub (.var 0) (.lit (.int 2))) (.lit (.int 1))))
    (.cons (.asg (.nm 3) (.bin .Mod (.blt .int (.cons (.bin .Add (.bin .Add (.bin .Mult (.sub (.var 0) (.lit (.int 1))) (.lit (.int 37973))) (.bin .Mult (.lit (.int 4171)) (.sub (.var 0) (.lit (.int 2))))) (.lit (.int 71))) .nil)) (.lit (.int 2147483563))))
    (.cons (.asg (.sb (.var 0) (.lit (.int 1))) (.bin .Mod (.blt .int (.cons (.bin .Add (.bin .Mult (.var 3) (.bin .Add (.bin .Mod (.blt .int (.cons (.var 3) .nil)) (.lit (.int 3989))) (.lit (.int 14499)))) (.sub (.var 0) (.lit (.int 2)))) .nil)) (.lit (.int 2147483563))))
    (.cons (.ret (.bin .Mod (.blt .int (.cons (.bin .FloorDiv (.sub (.var 0) (.lit (.int 1))) (.lit (.int 359))) .nil)) (.var 1)))
    .nil)))))
def d__law_below : Fn := ⟨["pool", "many"], ["pool", "many", "figure", "stirred"], b__law_below⟩
def r__law_below : DRow := ⟨"_law_below", d__law_below, top 22⟩
def b__law_one : CSs := (.cons (.ret (.sub (.var 1) (.call "_law_below" (.cons (.var 0) (.cons (.blt .len (.cons (.var 1) .nil)) .nil)))))
    .nil)
def d__law_one : Fn := ⟨["pool", "some"], ["pool", "some"], b__law_one⟩
def r__law_one : DRow := ⟨"_law_one", d__law_one, top 23⟩
def b__law_name : CSs := (.cons (.asg (.nm 2) (.lit (.str "abcdefghijklmnopqrstuvwxyz")))
    (.cons (.for_ (.nm 3) (.rng1 (.lit (.int 20)))
    (.cons (.asg (.nm 4) (.lit (.str "")))
    (.cons (.for_ (.nm 5) (.rng1 (.call "_law_one" (.cons (.var 0) (.cons (.tup (.cons (.lit (.int 1)) (.cons (.lit (.int 2)) (.cons (.lit (.int 3)) (.cons (.lit (.int 3)) (.cons (.lit (.int 5)) (.cons (.lit (.int 8)) .nil))))))) .nil))))
    (.cons (.asg (.nm 4) (.bin .Add (.var 4) (.sub (.var 2) (.call "_law_below" (.cons (.var 0) (.cons (.lit (.int 26)) .nil))))))
    .nil))
    (.cons (.ife (.cmp .NotIn (.var 4) (.var 1))
    (.cons (.ret (.var 4))
    .nil)
    .nil)
    .nil))))
    (.cons (.ret (.sub (.lc (.bin .Mult (.sub (.var 2) (.var 6)) (.lit (.int 8))) (.nm 6) (.rng1 (.lit (.int 26))) (.some (.cmp .NotIn (.bin .Mult (.sub (.var 2) (.var 6)) (.lit (.int 8))) (.var 1))) [6]) (.lit (.int 0))))
    .nil)))
def d__law_name : Fn := ⟨["pool", "used"], ["pool", "used", "letters", "lap", "found", "spot", "k"], b__law_name⟩
def r__law_name : DRow := ⟨"_law_name", d__law_name, top 24⟩
def b__law_num : CSs := (.cons (.ret (.call "_law_one" (.cons (.var 0) (.cons (.tup (.cons (.lit (.int 0)) (.cons (.lit (.int 1)) (.cons (.ife (.cmp .Gt (.var 1) (.lit (.int 1))) (.lit (.int 2)) (.lit (.int 1))) (.cons (.var 1) (.cons (.call "_law_below" (.cons (.var 0) (.cons (.bin .Add (.var 1) (.lit (.int 1))) .nil))) (.cons (.call "_law_below" (.cons (.var 0) (.cons (.bin .Add (.var 1) (.lit (.int 1))) .nil))) .nil))))))) .nil))))
    .nil)
def d__law_num : Fn := ⟨["pool", "high"], ["pool", "high"], b__law_num⟩
def r__law_num : DRow := ⟨"_law_num", d__law_num, top 25⟩
def b__law_bucket : CSs := (.cons (.asg (.nm 3) (.blt .tuple (.cons (.lc (.call "_law_num" (.cons (.var 0) (.cons (.var 1) .nil))) (.nm 4) (.rng1 (.var 2)) .none [4]) .nil)))
    (.cons (.ret (.tup (.cons (.call "_law_num" (.cons (.var 0) (.cons (.var 1) .nil))) (.cons (.var 3) (.cons (.call "_law_num" (.cons (.var 0) (.cons (.var 1) .nil))) .nil)))))
    .nil))
def d__law_bucket : Fn := ⟨["pool", "high", "size"], ["pool", "high", "size", "refill", "lap"], b__law_bucket⟩
def r__law_bucket : DRow := ⟨"_law_bucket", d__law_bucket, top 26⟩
def b__law_tree : CSs := (.cons (.asg (.tp (.cons (.nm 3) (.cons (.nm 4) (.cons (.nm 5) (.cons (.nm 6) .nil))))) (.tup (.cons (.bin .Add (.lit (.int 1)) (.call "_law_below" (.cons (.var 0) (.cons (.lit (.int 4)) .nil)))) (.cons (.call "_law_below" (.cons (.var 0) (.cons (.lit (.int 5)) .nil))) (.cons (.lst .nil) (.cons (.lst .nil) .nil))))))
    (.cons (.for_ (.nm 7) (.rng1 (.bin .Add (.lit (.int 1)) (.call "_law_below" (.cons (.var 0) (.cons (.var 1) .nil)))))
    (.cons (.asg (.nm 8) (.lit .non))
    (.cons (.ife (.cmp .Gt (.var 7) (.lit (.int 0)))
    (.cons (.asg (.nm 8) (.ife (.cmp .Eq (.var 4) (.lit (.int 0))) (.sub (.var 6) (.lit (.int 0))) (.ife (.cmp .Eq (.var 4) (.lit (.int 1))) (.sub (.var 6) (.neg (.lit (.int 1)))) (.call "_law_one" (.cons (.var 0) (.cons (.var 6) .nil))))))
    .nil)
    .nil)
    (.cons (.asg (.nm 9) (.call "_law_bucket" (.cons (.var 0) (.cons (.var 2) (.cons (.var 3) .nil)))))
    (.cons (.expr (.meth .append (.var 6) (.cons (.call "_law_name" (.cons (.var 0) (.cons (.var 6) .nil))) .nil)))
    (.cons (.expr (.meth .append (.var 5) (.cons (.tup (.cons (.sub (.var 6) (.neg (.lit (.int 1)))) (.cons (.var 8) (.cons (.sub (.var 9) (.lit (.int 0))) (.cons (.sub (.var 9) (.lit (.int 1))) (.cons (.sub (.var 9) (.lit (.int 2))) .nil)))))) .nil)))
    .nil))))))
    (.cons (.ret (.blt .tuple (.cons (.var 5) .nil)))
    .nil)))
def d__law_tree : Fn := ⟨["pool", "most", "high"], ["pool", "most", "high", "size", "way", "found", "names", "at", "above", "cup"], b__law_tree⟩
def r__law_tree : DRow := ⟨"_law_tree", d__law_tree, top 27⟩
def b__law_same : CSs := (.cons (.ife (.cmp .Is (.var 1) (.lit .non))
    (.cons (.ret (.cmp .Is (.var 0) (.lit .non)))
    .nil)
    .nil)
    (.cons (.ife (.isi (.var 1) .bool)
    (.cons (.ret (.and_ (.isi (.var 0) .bool) (.cmp .Eq (.var 0) (.var 1))))
    .nil)
    .nil)
    (.cons (.ife (.isi (.var 1) .int)
    (.cons (.ret (.and_ (.isi (.var 0) .int) (.and_ (.not_ (.isi (.var 0) .bool)) (.cmp .Eq (.var 0) (.var 1)))))
    .nil)
    .nil)
    (.cons (.ife (.isi (.var 1) .str)
    (.cons (.ret (.and_ (.isi (.var 0) .str) (.cmp .Eq (.var 0) (.var 1))))
    .nil)
    .nil)
    (.cons (.ife (.or_ (.not_ (.isi (.var 0) .tuple)) (.cmp .NotEq (.blt .len (.cons (.var 0) .nil)) (.blt .len (.cons (.var 1) .nil))))
    (.cons (.ret (.lit (.bl false)))
    .nil)
    .nil)
    (.cons (.ret (.blt .all (.cons (.lc (.call "_law_same" (.cons (.var 2) (.cons (.var 3) .nil))) (.tp (.cons (.nm 2) (.cons (.nm 3) .nil))) (.zip (.var 0) (.var 1)) .none [2, 3]) .nil)))
    .nil))))))
def d__law_same : Fn := ⟨["told", "due"], ["told", "due", "x", "y"], b__law_same⟩
def r__law_same : DRow := ⟨"_law_same", d__law_same, top 28⟩
def b__law_thing : CSs := (.cons (.ret (.call "_law_one" (.cons (.var 0) (.cons (.tup (.cons (.lit .non) (.cons (.lit (.bl true)) (.cons (.lit (.bl false)) (.cons (.neg (.lit (.int 1))) (.cons (.lit (.str "")) (.cons (.lit (.str "3")) (.cons (.lit (.str "ann")) (.cons (.lit (.str "Ann")) (.cons (.lst .nil) (.cons (.lst (.cons (.lit (.int 1)) .nil)) (.cons .dnew (.cons (.dlt [(.inr "a")] (.cons (.lit (.int 1)) .nil)) (.cons (.tup (.cons (.lit .non) .nil)) (.cons (.tup (.cons (.tup (.cons (.tup (.cons (.tup (.cons (.lit (.int 5)) .nil)) .nil)) .nil)) .nil)) (.cons (.tup (.cons (.lit (.bl true)) .nil)) (.cons (.lst (.cons (.tup (.cons (.lit (.int 1)) (.cons (.lit (.int 2)) .nil))) .nil)) (.cons (.bin .Pow (.lit (.int 10)) (.lit (.int 29))) (.cons (.neg (.lit (.int 5))) (.cons (.tup (.cons (.lit (.str "ann")) .nil)) (.cons (.tup (.cons (.tup .nil) .nil)) (.cons (.lit (.str "a b")) (.cons (.lit (.str "ann\n")) (.cons (.tup (.cons (.lit (.int 1)) (.cons (.lit (.int 2)) (.cons (.lit (.int 3)) (.cons (.lit (.int 4)) .nil))))) .nil)))))))))))))))))))))))) .nil))))
    .nil)
def d__law_thing : Fn := ⟨["pool"], ["pool"], b__law_thing⟩
def r__law_thing : DRow := ⟨"_law_thing", d__law_thing, top 29⟩
def b__law_is_number : CSs := (.cons (.ret (.and_ (.isi (.var 0) .int) (.and_ (.not_ (.isi (.var 0) .bool)) (.chain .LtE .LtE (.lit (.int 0)) (.var 0) (.var 1)))))
    .nil)
def d__law_is_number : Fn := ⟨["thing", "high"], ["thing", "high"], b__law_is_number⟩
def r__law_is_number : DRow := ⟨"_law_is_number", d__law_is_number, top 30⟩
def b__law_is_cup : CSs := (.cons (.ife (.or_ (.not_ (.isi (.var 0) .tuple)) (.or_ (.cmp .NotEq (.blt .len (.cons (.var 0) .nil)) (.lit (.int 3))) (.not_ (.isi (.sub (.var 0) (.lit (.int 1))) .tuple))))
    (.cons (.ret (.lit (.bl false)))
    .nil)
    .nil)
    (.cons (.ife (.or_ (.not_ (.call "_law_is_number" (.cons (.sub (.var 0) (.lit (.int 0))) (.cons (.lit (.int 99)) .nil)))) (.or_ (.not_ (.call "_law_is_number" (.cons (.sub (.var 0) (.lit (.int 2))) (.cons (.lit (.int 99)) .nil)))) (.not_ (.chain .Lt .Lt (.lit (.int 0)) (.blt .len (.cons (.sub (.var 0) (.lit (.int 1))) .nil)) (.lit (.int 5))))))
    (.cons (.ret (.lit (.bl false)))
    .nil)
    .nil)
    (.cons (.ret (.blt .all (.cons (.lc (.call "_law_is_number" (.cons (.var 1) (.cons (.lit (.int 99)) .nil))) (.nm 1) (.seq (.sub (.var 0) (.lit (.int 1)))) .none [1]) .nil)))
    .nil)))
def d__law_is_cup : Fn := ⟨["thing"], ["thing", "each"], b__law_is_cup⟩
def r__law_is_cup : DRow := ⟨"_law_is_cup", d__law_is_cup, top 31⟩
def b__law_is_name : CSs := (.cons (.ife (.or_ (.not_ (.isi (.var 0) .str)) (.not_ (.chain .Lt .Lt (.lit (.int 0)) (.blt .len (.cons (.var 0) .nil)) (.lit (.int 9)))))
    (.cons (.ret (.lit (.bl false)))
    .nil)
    .nil)
    (.cons (.ret (.blt .all (.cons (.lc (.cmp .In (.var 1) (.lit (.str "abcdefghijklmnopqrstuvwxyz"))) (.nm 1) (.seq (.var 0)) .none [1]) .nil)))
    .nil))
def d__law_is_name : Fn := ⟨["thing"], ["thing", "letter"], b__law_is_name⟩
def r__law_is_name : DRow := ⟨"_law_is_name", d__law_is_name, top 32⟩
def b__law_is_plan : CSs := (.cons (.ife (.or_ (.not_ (.isi (.var 0) .tuple)) (.not_ (.chain .Lt .Lt (.lit (.int 0)) (.blt .len (.cons (.var 0) .nil)) (.lit (.int 7)))))
    (.cons (.ret (.lit (.bl false)))
    .nil)
    .nil)
    (.cons (.asg (.nm 1) (.lst .nil))
    (.cons (.for_ (.nm 2) (.seq (.var 0))
    (.cons (.ife (.or_ (.not_ (.isi (.var 2) .tuple)) (.or_ (.cmp .NotEq (.blt .len (.cons (.var 2) .nil)) (.lit (.int 5))) (.or_ (.not_ (.call "_law_is_name" (.cons (.sub (.var 2) (.lit (.int 0))) .nil))) (.not_ (.call "_law_is_cup" (.cons (.slc (.var 2) (.some (.lit (.int 2))) .none) .nil))))))
    (.cons (.ret (.lit (.bl false)))
    .nil)
    .nil)
    (.cons (.ife (.or_ (.cmp .In (.sub (.var 2) (.lit (.int 0))) (.var 1)) (.cmp .NotEq (.blt .len (.cons (.sub (.var 2) (.lit (.int 3))) .nil)) (.blt .len (.cons (.sub (.sub (.var 0) (.lit (.int 0))) (.lit (.int 3))) .nil))))
    (.cons (.ret (.lit (.bl false)))
    .nil)
    .nil)
    (.cons (.ife (.and_ (.cmp .Eq (.var 1) (.lst .nil)) (.cmp .IsNot (.sub (.var 2) (.lit (.int 1))) (.lit .non)))
    (.cons (.ret (.lit (.bl false)))
    .nil)
    .nil)
    (.cons (.ife (.and_ (.cmp .NotEq (.var 1) (.lst .nil)) (.not_ (.and_ (.isi (.sub (.var 2) (.lit (.int 1))) .str) (.cmp .In (.sub (.var 2) (.lit (.int 1))) (.var 1)))))
    (.cons (.ret (.lit (.bl false)))
    .nil)
    .nil)
    (.cons (.expr (.meth .append (.var 1) (.cons (.sub (.var 2) (.lit (.int 0))) .nil)))
    .nil))))))
    (.cons (.ret (.lit (.bl true)))
    .nil))))
def d__law_is_plan : Fn := ⟨["thing"], ["thing", "names", "node"], b__law_is_plan⟩
def r__law_is_plan : DRow := ⟨"_law_is_plan", d__law_is_plan, top 33⟩
def b__law_bent_cup : CSs := (.cons (.asg (.nm 2) (.call "_law_below" (.cons (.var 0) (.cons (.blt .len (.cons (.sub (.var 1) (.lit (.int 1))) .nil)) .nil))))
    (.cons (.asg (.nm 3) (.lst (.cons (.var 1) (.cons (.blt .list (.cons (.var 1) .nil)) (.cons (.bin .Add (.var 1) (.tup (.cons (.lit (.int 0)) .nil))) (.cons (.slc (.var 1) .none (.some (.lit (.int 2)))) (.cons (.op1 .rev (.var 1)) (.cons (.tup (.cons (.var 1) .nil)) (.cons (.tup (.cons (.sub (.var 1) (.lit (.int 0))) (.cons (.blt .list (.cons (.sub (.var 1) (.lit (.int 1))) .nil)) (.cons (.sub (.var 1) (.lit (.int 2))) .nil)))) (.cons (.tup (.cons (.sub (.var 1) (.lit (.int 0))) (.cons (.tup .nil) (.cons (.sub (.var 1) (.lit (.int 2))) .nil)))) .nil))))))))))
    (.cons (.asg (.nm 3) (.bin .Add (.var 3) (.lst (.cons (.tup (.cons (.sub (.var 1) (.lit (.int 0))) (.cons (.bin .Add (.sub (.var 1) (.lit (.int 1))) (.bin .Mult (.tup (.cons (.lit (.int 1)) .nil)) (.bin .Sub (.lit (.int 5)) (.blt .len (.cons (.sub (.var 1) (.lit (.int 1))) .nil))))) (.cons (.sub (.var 1) (.lit (.int 2))) .nil)))) (.cons (.tup (.cons (.sub (.var 1) (.lit (.int 0))) (.cons (.sub (.sub (.var 1) (.lit (.int 1))) (.lit (.int 0))) (.cons (.sub (.var 1) (.lit (.int 2))) .nil)))) .nil)))))
    (.cons (.for_ (.nm 4) (.seq (.tup (.cons (.lit (.int 99)) (.cons (.lit (.int 100)) (.cons (.neg (.lit (.int 1))) (.cons (.lit (.bl true)) (.cons (.lit (.bl false)) (.cons (.lit (.str "1")) (.cons (.lit .non) (.cons (.tup (.cons (.lit (.int 1)) .nil)) (.cons (.lit (.int 0)) (.cons (.bin .Pow (.lit (.int 10)) (.lit (.int 29))) .nil))))))))))))
    (.cons (.asg (.nm 3) (.bin .Add (.var 3) (.lst (.cons (.tup (.cons (.var 4) (.cons (.sub (.var 1) (.lit (.int 1))) (.cons (.sub (.var 1) (.lit (.int 2))) .nil)))) (.cons (.tup (.cons (.sub (.var 1) (.lit (.int 0))) (.cons (.sub (.var 1) (.lit (.int 1))) (.cons (.var 4) .nil)))) (.cons (.tup (.cons (.sub (.var 1) (.lit (.int 0))) (.cons (.bin .Add (.bin .Add (.slc (.sub (.var 1) (.lit (.int 1))) .none (.some (.var 2))) (.tup (.cons (.var 4) .nil))) (.slc (.sub (.var 1) (.lit (.int 1))) (.some (.bin .Add (.var 2) (.lit (.int 1)))) .none)) (.cons (.sub (.var 1) (.lit (.int 2))) .nil)))) .nil))))))
    .nil))
    (.cons (.ret (.var 3))
    .nil)))))
def d__law_bent_cup : Fn := ⟨["pool", "cup"], ["pool", "cup", "at", "found", "c"], b__law_bent_cup⟩
def r__law_bent_cup : DRow := ⟨"_law_bent_cup", d__law_bent_cup, top 34⟩
def b__law_bent_plan : CSs := (.cons (.asg (.nm 2) (.call "_law_below" (.cons (.var 0) (.cons (.blt .len (.cons (.var 1) .nil)) .nil))))
    (.cons (.par [3, 4] (.cons (.sub (.var 1) (.var 2)) (.cons (.lc (.sub (.var 5) (.lit (.int 0))) (.nm 5) (.seq (.var 1)) .none [5]) .nil)))
    (.cons (.asg (.nm 6) (.lst (.cons (.var 1) (.cons (.blt .list (.cons (.var 1) .nil)) (.cons (.slc (.var 1) (.some (.lit (.int 1))) .none) (.cons (.op1 .rev (.var 1)) (.cons (.tup .nil) (.cons (.bin .Add (.var 1) (.tup (.cons (.var 3) .nil))) (.cons (.tup (.cons (.var 1) .nil)) (.cons (.bin .Add (.slc (.var 1) .none (.some (.var 2))) (.slc (.var 1) (.some (.bin .Add (.var 2) (.lit (.int 1)))) .none)) .nil))))))))))
    (.cons (.asg (.nm 7) (.var 1))
    (.cons (.for_ (.nm 8) (.rng1 (.lit (.int 7)))
    (.cons (.asg (.nm 7) (.bin .Add (.var 7) (.tup (.cons (.bin .Add (.tup (.cons (.call "_law_name" (.cons (.var 0) (.cons (.lc (.sub (.var 5) (.lit (.int 0))) (.nm 5) (.seq (.var 7)) .none [5]) .nil))) (.cons (.sub (.var 4) (.lit (.int 0))) .nil))) (.slc (.sub (.var 1) (.lit (.int 0))) (.some (.lit (.int 2))) .none)) .nil))))
    (.cons (.ife (.cmp .Lt (.blt .len (.cons (.var 7) .nil)) (.lit (.int 9)))
    (.cons (.expr (.meth .append (.var 6) (.cons (.var 7) .nil)))
    .nil)
    .nil)
    .nil)))
    (.cons (.asg (.nm 9) (.call "_law_name" (.cons (.var 0) (.cons (.var 4) .nil))))
    (.cons (.asg (.nm 10) (.lst (.cons (.blt .list (.cons (.var 3) .nil)) (.cons (.slc (.var 3) .none (.some (.lit (.int 4)))) (.cons (.bin .Add (.var 3) (.tup (.cons (.lit (.int 0)) .nil))) (.cons (.lit .non) (.cons (.sub (.var 3) (.lit (.int 0))) (.cons (.tup (.cons (.var 3) .nil)) .nil))))))))
    (.cons (.for_ (.nm 11) (.seq (.tup (.cons (.lit (.str "")) (.cons (.lit (.str "Ann")) (.cons (.lit (.str "a b")) (.cons (.bin .Add (.var 9) (.bin .Mult (.lit (.str "z")) (.lit (.int 8)))) (.cons (.bin .Add (.slc (.var 9) .none (.some (.lit (.int 1)))) (.bin .Mult (.lit (.str "z")) (.lit (.int 7)))) (.cons (.lit (.str "a1")) (.cons (.lit (.str "a_")) (.cons (.lit (.int 7)) (.cons (.lit .non) (.cons (.lit (.bl true)) (.cons (.bin .Add (.var 9) (.lit (.str "\n"))) (.cons (.tup (.cons (.var 9) .nil)) (.cons (.var 9) (.cons (.sub (.var 4) (.lit (.int 0))) .nil))))))))))))))))
    (.cons (.expr (.meth .append (.var 10) (.cons (.bin .Add (.tup (.cons (.var 11) .nil)) (.slc (.var 3) (.some (.lit (.int 1))) .none)) .nil)))
    .nil))
    (.cons (.for_ (.nm 11) (.seq (.tup (.cons (.lit .non) (.cons (.sub (.var 4) (.lit (.int 0))) (.cons (.sub (.var 4) (.neg (.lit (.int 1)))) (.cons (.sub (.var 3) (.lit (.int 0))) (.cons (.var 9) (.cons (.lit (.str "")) (.cons (.lit (.int 0)) (.cons (.lit (.bl true)) (.cons (.tup (.cons (.sub (.var 4) (.lit (.int 0))) .nil)) (.cons (.lst (.cons (.sub (.var 4) (.lit (.int 0))) .nil)) .nil))))))))))))
    (.cons (.expr (.meth .append (.var 10) (.cons (.bin .Add (.tup (.cons (.sub (.var 3) (.lit (.int 0))) (.cons (.var 11) .nil))) (.slc (.var 3) (.some (.lit (.int 2))) .none)) .nil)))
    .nil))
    (.cons (.for_ (.nm 12) (.seq (.call "_law_bent_cup" (.cons (.var 0) (.cons (.slc (.var 3) (.some (.lit (.int 2))) .none) .nil))))
    (.cons (.expr (.meth .append (.var 10) (.cons (.ife (.isi (.var 12) .tuple) (.bin .Add (.slc (.var 3) .none (.some (.lit (.int 2)))) (.var 12)) (.bin .Add (.slc (.var 3) .none (.some (.lit (.int 2)))) (.blt .tuple (.cons (.var 12) .nil)))) .nil)))
    .nil))
    (.cons (.expr (.meth .append (.var 10) (.cons (.bin .Add (.slc (.var 3) .none (.some (.lit (.int 3)))) (.tup (.cons (.bin .Add (.sub (.var 3) (.lit (.int 3))) (.tup (.cons (.lit (.int 1)) .nil))) (.cons (.sub (.var 3) (.lit (.int 4))) .nil)))) .nil)))
    (.cons (.expr (.meth .append (.var 10) (.cons (.bin .Add (.slc (.var 3) .none (.some (.lit (.int 3)))) (.tup (.cons (.slc (.sub (.var 3) (.lit (.int 3))) (.some (.lit (.int 1))) .none) (.cons (.sub (.var 3) (.lit (.int 4))) .nil)))) .nil)))
    (.cons (.ret (.bin .Add (.var 6) (.lc (.bin .Add (.bin .Add (.slc (.var 1) .none (.some (.var 2))) (.tup (.cons (.var 13) .nil))) (.slc (.var 1) (.some (.bin .Add (.var 2) (.lit (.int 1)))) .none)) (.nm 13) (.seq (.var 10)) .none [13])))
    .nil)))))))))))))
def d__law_bent_plan : Fn := ⟨["pool", "plan"], ["pool", "plan", "at", "node", "names", "each", "found", "wide", "lap", "new", "some", "word", "cup", "thing"], b__law_bent_plan⟩
def r__law_bent_plan : DRow := ⟨"_law_bent_plan", d__law_bent_plan, top 35⟩
def b__law_right : CSs := (.cons (.for_ (.nm 1) (.rng1 (.lit (.int 3)))
    (.cons (.asg (.nm 2) (.call "_law_tree" (.cons (.var 0) (.cons (.lit (.int 6)) (.cons (.call "_law_one" (.cons (.var 0) (.cons (.tup (.cons (.lit (.int 1)) (.cons (.lit (.int 9)) (.cons (.lit (.int 99)) .nil)))) .nil))) .nil)))))
    (.cons (.asg (.nm 3) (.call "_law_bucket" (.cons (.var 0) (.cons (.lit (.int 99)) (.cons (.bin .Add (.lit (.int 1)) (.call "_law_below" (.cons (.var 0) (.cons (.lit (.int 4)) .nil)))) .nil)))))
    (.cons (.for_ (.tp (.cons (.nm 4) (.cons (.nm 5) .nil))) (.enum (.call "_law_bent_plan" (.cons (.var 0) (.cons (.var 2) .nil))))
    (.cons (.asg (.nm 6) (.ife (.cmp .Eq (.bin .Mod (.blt .int (.cons (.var 4) .nil)) (.lit (.int 3))) (.lit (.int 0))) (.callk "is_tree" .nil ["value"] (.cons (.var 5) .nil)) (.call "is_tree" (.cons (.var 5) .nil))))
    (.cons (.ife (.not_ (.call "_law_same" (.cons (.var 6) (.cons (.call "_law_is_plan" (.cons (.var 5) .nil)) .nil))))
    (.cons (.ret (.lit (.bl false)))
    .nil)
    .nil)
    .nil)))
    (.cons (.for_ (.tp (.cons (.nm 4) (.cons (.nm 5) .nil))) (.enum (.bin .Add (.call "_law_bent_cup" (.cons (.var 0) (.cons (.var 3) .nil))) (.lst (.cons (.var 2) (.cons (.sub (.var 2) (.lit (.int 0))) (.cons (.slc (.sub (.var 2) (.lit (.int 0))) (.some (.lit (.int 2))) .none) .nil))))))
    (.cons (.asg (.nm 6) (.ife (.cmp .Eq (.bin .Mod (.blt .int (.cons (.var 4) .nil)) (.lit (.int 3))) (.lit (.int 0))) (.callk "is_bucket" .nil ["value"] (.cons (.var 5) .nil)) (.call "is_bucket" (.cons (.var 5) .nil))))
    (.cons (.ife (.not_ (.call "_law_same" (.cons (.var 6) (.cons (.call "_law_is_cup" (.cons (.var 5) .nil)) .nil))))
    (.cons (.ret (.lit (.bl false)))
    .nil)
    .nil)
    .nil)))
    (.cons (.asg (.nm 5) (.call "_law_thing" (.cons (.var 0) .nil)))
    (.cons (.ife (.or_ (.not_ (.call "_law_same" (.cons (.call "is_tree" (.cons (.var 5) .nil)) (.cons (.call "_law_is_plan" (.cons (.var 5) .nil)) .nil)))) (.not_ (.call "_law_same" (.cons (.call "is_bucket" (.cons (.var 5) .nil)) (.cons (.call "_law_is_cup" (.cons (.var 5) .nil)) .nil)))))
    (.cons (.ret (.lit (.bl false)))
    .nil)
    .nil)
    (.cons (.for_ (.nm 7) (.seq (.tup (.cons (.lit (.int 1)) (.cons (.lit (.bl true)) (.cons (.lit (.int 1)) (.cons (.lit (.bl true)) .nil))))))
    (.cons (.ife (.not_ (.call "_law_same" (.cons (.call "is_bucket" (.cons (.tup (.cons (.var 7) (.cons (.tup (.cons (.var 7) .nil)) (.cons (.lit (.int 0)) .nil)))) .nil)) (.cons (.call "_law_is_cup" (.cons (.tup (.cons (.var 7) (.cons (.tup (.cons (.var 7) .nil)) (.cons (.lit (.int 0)) .nil)))) .nil)) .nil))))
    (.cons (.ret (.lit (.bl false)))
    .nil)
    .nil)
    (.cons (.ife (.not_ (.call "_law_same" (.cons (.call "is_tree" (.cons (.tup (.cons (.tup (.cons (.lit (.str "a")) (.cons (.lit .non) (.cons (.lit (.int 1)) (.cons (.tup (.cons (.lit (.int 1)) .nil)) (.cons (.var 7) .nil)))))) .nil)) .nil)) (.cons (.call "_law_is_plan" (.cons (.tup (.cons (.tup (.cons (.lit (.str "a")) (.cons (.lit .non) (.cons (.lit (.int 1)) (.cons (.tup (.cons (.lit (.int 1)) .nil)) (.cons (.var 7) .nil)))))) .nil)) .nil)) .nil))))
    (.cons (.ret (.lit (.bl false)))
    .nil)
    .nil)
    .nil)))
    .nil))))))))
    (.cons (.ret (.lit (.bl true)))
    .nil))
def d__law_right : Fn := ⟨["pool"], ["pool", "lap", "plan", "cup", "at", "thing", "told", "c"], b__law_right⟩
def r__law_right : DRow := ⟨"_law_right", d__law_right, top 36⟩
def b_law : CSs := (.cons (.ret (.blt .all (.cons (.lc (.call "_law_right" (.cons (.call "_law_pool" (.cons (.var 0) (.cons (.var 1) .nil))) .nil)) (.nm 1) (.rng1 (.blt .max (.cons (.lit (.int 1)) (.cons (.blt .min (.cons (.blt .len (.cons (.var 0) .nil)) (.cons (.lit (.int 2)) .nil))) .nil)))) .none [1]) .nil)))
    .nil)
def d_law : Fn := ⟨["script"], ["script", "lap"], b_law⟩
def r_law : DRow := ⟨"law", d_law, top 37⟩
def rows : List DRow := [r_is_number, r_is_up_to, r_is_name, r_are_refills, r_is_bucket_by, r_is_node, r_is_parent, r_is_tree_by, r_is_tree, r_is_bucket, r__law_pool, r__law_below, r__law_one, r__law_name, r__law_num, r__law_bucket, r__law_tree, r__law_same, r__law_thing, r__law_is_number, r__law_is_cup, r__law_is_name, r__law_is_plan, r__law_bent_cup, r__law_bent_plan, r__law_right, r_law]
def cs : List (Str × Lit) := [("LETTERS", (.str "abcdefghijklmnopqrstuvwxyz")), ("MOST_LETTERS", (.int 8)), ("MOST", (.int 99)), ("MOST_PERIOD", (.int 4)), ("MOST_NODES", (.int 6))]
def KW : Tx := ⟨[("is_number" : Str), ("is_up_to" : Str), ("is_name" : Str), ("are_refills" : Str), ("is_bucket_by" : Str), ("is_node" : Str), ("is_parent" : Str), ("is_tree_by" : Str), ("is_tree" : Str), ("is_bucket" : Str), ("_law_pool" : Str), ("_law_below" : Str), ("_law_one" : Str), ("_law_name" : Str), ("_law_num" : Str), ("_law_bucket" : Str), ("_law_tree" : Str), ("_law_same" : Str), ("_law_thing" : Str), ("_law_is_number" : Str), ("_law_is_cup" : Str), ("_law_is_name" : Str), ("_law_is_plan" : Str), ("_law_bent_cup" : Str), ("_law_bent_plan" : Str), ("_law_right" : Str), ("law" : Str)], [(("is_bucket" : Str), 0, ["value"]), (("is_tree" : Str), 0, ["value"])], []⟩
theorem kw_is_tree : (KW.kw.filter fun p => decide (p.1 = r_is_tree.x)).map (·.2) = ([(0, ["value"])] : List (Nat × List Str)) := by kernel_rfl
theorem kw_is_bucket : (KW.kw.filter fun p => decide (p.1 = r_is_bucket.x)).map (·.2) = ([(0, ["value"])] : List (Nat × List Str)) := by kernel_rfl
abbrev T : Tab := tabOf rows
abbrev G : Gb := gbOf cs
theorem t_is_number : T "is_number" = some d_is_number := by kernel_rfl
theorem t_is_up_to : T "is_up_to" = some d_is_up_to := by kernel_rfl
theorem t_is_name : T "is_name" = some d_is_name := by kernel_rfl
theorem t_are_refills : T "are_refills" = some d_are_refills := by kernel_rfl
theorem t_is_bucket_by : T "is_bucket_by" = some d_is_bucket_by := by kernel_rfl
theorem t_is_node : T "is_node" = some d_is_node := by kernel_rfl
theorem t_is_parent : T "is_parent" = some d_is_parent := by kernel_rfl
theorem t_is_tree_by : T "is_tree_by" = some d_is_tree_by := by kernel_rfl
theorem t_is_tree : T "is_tree" = some d_is_tree := by kernel_rfl
theorem t_is_bucket : T "is_bucket" = some d_is_bucket := by kernel_rfl
theorem t__law_pool : T "_law_pool" = some d__law_pool := by kernel_rfl
theorem t__law_below : T "_law_below" = some d__law_below := by kernel_rfl
theorem t__law_one : T "_law_one" = some d__law_one := by kernel_rfl
theorem t__law_name : T "_law_name" = some d__law_name := by kernel_rfl
theorem t__law_num : T "_law_num" = some d__law_num := by kernel_rfl
theorem t__law_bucket : T "_law_bucket" = some d__law_bucket := by kernel_rfl
theorem t__law_tree : T "_law_tree" = some d__law_tree := by kernel_rfl
theorem t__law_same : T "_law_same" = some d__law_same := by kernel_rfl
theorem t__law_thing : T "_law_thing" = some d__law_thing := by kernel_rfl
theorem t__law_is_number : T "_law_is_number" = some d__law_is_number := by kernel_rfl
theorem t__law_is_cup : T "_law_is_cup" = some d__law_is_cup := by kernel_rfl
theorem t__law_is_name : T "_law_is_name" = some d__law_is_name := by kernel_rfl
theorem t__law_is_plan : T "_law_is_plan" = some d__law_is_plan := by kernel_rfl
theorem t__law_bent_cup : T "_law_bent_cup" = some d__law_bent_cup := by kernel_rfl
theorem t__law_bent_plan : T "_law_bent_plan" = some d__law_bent_plan := by kernel_rfl
theorem t__law_right : T "_law_right" = some d__law_right := by kernel_rfl
theorem t_law : T "law" = some d_law := by kernel_rfl
theorem w_is_number {k : Nat} {a0 : D} {st : Sto} {Q : D → Sto → Prop} (h : (evSs T G (callF T G k) b_is_number [some a0] st).wp (fun _ st1 => Q .non st1) Q) : (callF T G (k + 1) "is_number" [a0] st).wp Q := call_wp (fn := d_is_number) t_is_number rfl h
theorem w_is_up_to {k : Nat} {a0 a1 : D} {st : Sto} {Q : D → Sto → Prop} (h : (evSs T G (callF T G k) b_is_up_to [some a0, some a1] st).wp (fun _ st1 => Q .non st1) Q) : (callF T G (k + 1) "is_up_to" [a0, a1] st).wp Q := call_wp (fn := d_is_up_to) t_is_up_to rfl h
theorem w_is_name {k : Nat} {a0 : D} {st : Sto} {Q : D → Sto → Prop} (h : (evSs T G (callF T G k) b_is_name [some a0, none] st).wp (fun _ st1 => Q .non st1) Q) : (callF T G (k + 1) "is_name" [a0] st).wp Q := call_wp (fn := d_is_name) t_is_name rfl h
theorem w_are_refills {k : Nat} {a0 a1 : D} {st : Sto} {Q : D → Sto → Prop} (h : (evSs T G (callF T G k) b_are_refills [some a0, some a1, none] st).wp (fun _ st1 => Q .non st1) Q) : (callF T G (k + 1) "are_refills" [a0, a1] st).wp Q := call_wp (fn := d_are_refills) t_are_refills rfl h
theorem w_is_bucket_by {k : Nat} {a0 : D} {st : Sto} {Q : D → Sto → Prop} (h : (evSs T G (callF T G k) b_is_bucket_by [some a0] st).wp (fun _ st1 => Q .non st1) Q) : (callF T G (k + 1) "is_bucket_by" [a0] st).wp Q := call_wp (fn := d_is_bucket_by) t_is_bucket_by rfl h
theorem w_is_node {k : Nat} {a0 : D} {st : Sto} {Q : D → Sto → Prop} (h : (evSs T G (callF T G k) b_is_node [some a0] st).wp (fun _ st1 => Q .non st1) Q) : (callF T G (k + 1) "is_node" [a0] st).wp Q := call_wp (fn := d_is_node) t_is_node rfl h
theorem w_is_parent {k : Nat} {a0 a1 : D} {st : Sto} {Q : D → Sto → Prop} (h : (evSs T G (callF T G k) b_is_parent [some a0, some a1] st).wp (fun _ st1 => Q .non st1) Q) : (callF T G (k + 1) "is_parent" [a0, a1] st).wp Q := call_wp (fn := d_is_parent) t_is_parent rfl h
theorem w_is_tree_by {k : Nat} {a0 : D} {st : Sto} {Q : D → Sto → Prop} (h : (evSs T G (callF T G k) b_is_tree_by [some a0, none, none, none, none, none, none] st).wp (fun _ st1 => Q .non st1) Q) : (callF T G (k + 1) "is_tree_by" [a0] st).wp Q := call_wp (fn := d_is_tree_by) t_is_tree_by rfl h
theorem w_is_tree {k : Nat} {a0 : D} {st : Sto} {Q : D → Sto → Prop} (h : (evSs T G (callF T G k) b_is_tree [some a0] st).wp (fun _ st1 => Q .non st1) Q) : (callF T G (k + 1) "is_tree" [a0] st).wp Q := call_wp (fn := d_is_tree) t_is_tree rfl h
theorem w_is_bucket {k : Nat} {a0 : D} {st : Sto} {Q : D → Sto → Prop} (h : (evSs T G (callF T G k) b_is_bucket [some a0] st).wp (fun _ st1 => Q .non st1) Q) : (callF T G (k + 1) "is_bucket" [a0] st).wp Q := call_wp (fn := d_is_bucket) t_is_bucket rfl h
theorem w__law_pool {k : Nat} {a0 a1 : D} {st : Sto} {Q : D → Sto → Prop} (h : (evSs T G (callF T G k) b__law_pool [some a0, some a1, none, none, none] st).wp (fun _ st1 => Q .non st1) Q) : (callF T G (k + 1) "_law_pool" [a0, a1] st).wp Q := call_wp (fn := d__law_pool) t__law_pool rfl h
theorem w__law_below {k : Nat} {a0 a1 : D} {st : Sto} {Q : D → Sto → Prop} (h : (evSs T G (callF T G k) b__law_below [some a0, some a1, none, none] st).wp (fun _ st1 => Q .non st1) Q) : (callF T G (k + 1) "_law_below" [a0, a1] st).wp Q := call_wp (fn := d__law_below) t__law_below rfl h
theorem w__law_one {k : Nat} {a0 a1 : D} {st : Sto} {Q : D → Sto → Prop} (h : (evSs T G (callF T G k) b__law_one [some a0, some a1] st).wp (fun _ st1 => Q .non st1) Q) : (callF T G (k + 1) "_law_one" [a0, a1] st).wp Q := call_wp (fn := d__law_one) t__law_one rfl h
theorem w__law_name {k : Nat} {a0 a1 : D} {st : Sto} {Q : D → Sto → Prop} (h : (evSs T G (callF T G k) b__law_name [some a0, some a1, none, none, none, none, none] st).wp (fun _ st1 => Q .non st1) Q) : (callF T G (k + 1) "_law_name" [a0, a1] st).wp Q := call_wp (fn := d__law_name) t__law_name rfl h
theorem w__law_num {k : Nat} {a0 a1 : D} {st : Sto} {Q : D → Sto → Prop} (h : (evSs T G (callF T G k) b__law_num [some a0, some a1] st).wp (fun _ st1 => Q .non st1) Q) : (callF T G (k + 1) "_law_num" [a0, a1] st).wp Q := call_wp (fn := d__law_num) t__law_num rfl h
theorem w__law_bucket {k : Nat} {a0 a1 a2 : D} {st : Sto} {Q : D → Sto → Prop} (h : (evSs T G (callF T G k) b__law_bucket [some a0, some a1, some a2, none, none] st).wp (fun _ st1 => Q .non st1) Q) : (callF T G (k + 1) "_law_bucket" [a0, a1, a2] st).wp Q := call_wp (fn := d__law_bucket) t__law_bucket rfl h
theorem w__law_tree {k : Nat} {a0 a1 a2 : D} {st : Sto} {Q : D → Sto → Prop} (h : (evSs T G (callF T G k) b__law_tree [some a0, some a1, some a2, none, none, none, none, none, none, none] st).wp (fun _ st1 => Q .non st1) Q) : (callF T G (k + 1) "_law_tree" [a0, a1, a2] st).wp Q := call_wp (fn := d__law_tree) t__law_tree rfl h
theorem w__law_same {k : Nat} {a0 a1 : D} {st : Sto} {Q : D → Sto → Prop} (h : (evSs T G (callF T G k) b__law_same [some a0, some a1, none, none] st).wp (fun _ st1 => Q .non st1) Q) : (callF T G (k + 1) "_law_same" [a0, a1] st).wp Q := call_wp (fn := d__law_same) t__law_same rfl h
theorem w__law_thing {k : Nat} {a0 : D} {st : Sto} {Q : D → Sto → Prop} (h : (evSs T G (callF T G k) b__law_thing [some a0] st).wp (fun _ st1 => Q .non st1) Q) : (callF T G (k + 1) "_law_thing" [a0] st).wp Q := call_wp (fn := d__law_thing) t__law_thing rfl h
theorem w__law_is_number {k : Nat} {a0 a1 : D} {st : Sto} {Q : D → Sto → Prop} (h : (evSs T G (callF T G k) b__law_is_number [some a0, some a1] st).wp (fun _ st1 => Q .non st1) Q) : (callF T G (k + 1) "_law_is_number" [a0, a1] st).wp Q := call_wp (fn := d__law_is_number) t__law_is_number rfl h
theorem w__law_is_cup {k : Nat} {a0 : D} {st : Sto} {Q : D → Sto → Prop} (h : (evSs T G (callF T G k) b__law_is_cup [some a0, none] st).wp (fun _ st1 => Q .non st1) Q) : (callF T G (k + 1) "_law_is_cup" [a0] st).wp Q := call_wp (fn := d__law_is_cup) t__law_is_cup rfl h
theorem w__law_is_name {k : Nat} {a0 : D} {st : Sto} {Q : D → Sto → Prop} (h : (evSs T G (callF T G k) b__law_is_name [some a0, none] st).wp (fun _ st1 => Q .non st1) Q) : (callF T G (k + 1) "_law_is_name" [a0] st).wp Q := call_wp (fn := d__law_is_name) t__law_is_name rfl h
theorem w__law_is_plan {k : Nat} {a0 : D} {st : Sto} {Q : D → Sto → Prop} (h : (evSs T G (callF T G k) b__law_is_plan [some a0, none, none] st).wp (fun _ st1 => Q .non st1) Q) : (callF T G (k + 1) "_law_is_plan" [a0] st).wp Q := call_wp (fn := d__law_is_plan) t__law_is_plan rfl h
theorem w__law_bent_cup {k : Nat} {a0 a1 : D} {st : Sto} {Q : D → Sto → Prop} (h : (evSs T G (callF T G k) b__law_bent_cup [some a0, some a1, none, none, none] st).wp (fun _ st1 => Q .non st1) Q) : (callF T G (k + 1) "_law_bent_cup" [a0, a1] st).wp Q := call_wp (fn := d__law_bent_cup) t__law_bent_cup rfl h
theorem w__law_bent_plan {k : Nat} {a0 a1 : D} {st : Sto} {Q : D → Sto → Prop} (h : (evSs T G (callF T G k) b__law_bent_plan [some a0, some a1, none, none, none, none, none, none, none, none, none, none, none, none] st).wp (fun _ st1 => Q .non st1) Q) : (callF T G (k + 1) "_law_bent_plan" [a0, a1] st).wp Q := call_wp (fn := d__law_bent_plan) t__law_bent_plan rfl h
theorem w__law_right {k : Nat} {a0 : D} {st : Sto} {Q : D → Sto → Prop} (h : (evSs T G (callF T G k) b__law_right [some a0, none, none, none, none, none, none, none] st).wp (fun _ st1 => Q .non st1) Q) : (callF T G (k + 1) "_law_right" [a0] st).wp Q := call_wp (fn := d__law_right) t__law_right rfl h
theorem w_law {k : Nat} {a0 : D} {st : Sto} {Q : D → Sto → Prop} (h : (evSs T G (callF T G k) b_law [some a0, none] st).wp (fun _ st1 => Q .non st1) Q) : (callF T G (k + 1) "law" [a0] st).wp Q := call_wp (fn := d_law) t_law rfl h
def IO : Str → List Nat := fun x => []
def S : Told := fun x => if x = "_law_below" then some belowW else none
theorem z_is_number : S "is_number" = none := by kernel_rfl
theorem i_is_number : IO "is_number" = [] := by kernel_rfl
theorem v_is_number {k : Nat} {a0 : PV} {E : PX → Prop} {Q : PV → List PV → Bool → Prop} (h : pSs T G IO (pCall T G IO S k) b_is_number [.fz a0] (fun x _ => E x) (fun _ => Q .non [] false) (fun _ p fr => Q p [] fr)) : pCall T G IO S (k + 1) "is_number" [a0] E Q := pcall (fn := d_is_number) z_is_number t_is_number i_is_number rfl h
theorem z_is_up_to : S "is_up_to" = none := by kernel_rfl
theorem i_is_up_to : IO "is_up_to" = [] := by kernel_rfl
theorem v_is_up_to {k : Nat} {a0 a1 : PV} {E : PX → Prop} {Q : PV → List PV → Bool → Prop} (h : pSs T G IO (pCall T G IO S k) b_is_up_to [.fz a0, .fz a1] (fun x _ => E x) (fun _ => Q .non [] false) (fun _ p fr => Q p [] fr)) : pCall T G IO S (k + 1) "is_up_to" [a0, a1] E Q := pcall (fn := d_is_up_to) z_is_up_to t_is_up_to i_is_up_to rfl h
theorem z_is_name : S "is_name" = none := by kernel_rfl
theorem i_is_name : IO "is_name" = [] := by kernel_rfl
theorem v_is_name {k : Nat} {a0 : PV} {E : PX → Prop} {Q : PV → List PV → Bool → Prop} (h : pSs T G IO (pCall T G IO S k) b_is_name [.fz a0, .no] (fun x _ => E x) (fun _ => Q .non [] false) (fun _ p fr => Q p [] fr)) : pCall T G IO S (k + 1) "is_name" [a0] E Q := pcall (fn := d_is_name) z_is_name t_is_name i_is_name rfl h
theorem z_are_refills : S "are_refills" = none := by kernel_rfl
theorem i_are_refills : IO "are_refills" = [] := by kernel_rfl
theorem v_are_refills {k : Nat} {a0 a1 : PV} {E : PX → Prop} {Q : PV → List PV → Bool → Prop} (h : pSs T G IO (pCall T G IO S k) b_are_refills [.fz a0, .fz a1, .no] (fun x _ => E x) (fun _ => Q .non [] false) (fun _ p fr => Q p [] fr)) : pCall T G IO S (k + 1) "are_refills" [a0, a1] E Q := pcall (fn := d_are_refills) z_are_refills t_are_refills i_are_refills rfl h
theorem z_is_bucket_by : S "is_bucket_by" = none := by kernel_rfl
theorem i_is_bucket_by : IO "is_bucket_by" = [] := by kernel_rfl
theorem v_is_bucket_by {k : Nat} {a0 : PV} {E : PX → Prop} {Q : PV → List PV → Bool → Prop} (h : pSs T G IO (pCall T G IO S k) b_is_bucket_by [.fz a0] (fun x _ => E x) (fun _ => Q .non [] false) (fun _ p fr => Q p [] fr)) : pCall T G IO S (k + 1) "is_bucket_by" [a0] E Q := pcall (fn := d_is_bucket_by) z_is_bucket_by t_is_bucket_by i_is_bucket_by rfl h
theorem z_is_node : S "is_node" = none := by kernel_rfl
theorem i_is_node : IO "is_node" = [] := by kernel_rfl
theorem v_is_node {k : Nat} {a0 : PV} {E : PX → Prop} {Q : PV → List PV → Bool → Prop} (h : pSs T G IO (pCall T G IO S k) b_is_node [.fz a0] (fun x _ => E x) (fun _ => Q .non [] false) (fun _ p fr => Q p [] fr)) : pCall T G IO S (k + 1) "is_node" [a0] E Q := pcall (fn := d_is_node) z_is_node t_is_node i_is_node rfl h
theorem z_is_parent : S "is_parent" = none := by kernel_rfl
theorem i_is_parent : IO "is_parent" = [] := by kernel_rfl
theorem v_is_parent {k : Nat} {a0 a1 : PV} {E : PX → Prop} {Q : PV → List PV → Bool → Prop} (h : pSs T G IO (pCall T G IO S k) b_is_parent [.fz a0, .fz a1] (fun x _ => E x) (fun _ => Q .non [] false) (fun _ p fr => Q p [] fr)) : pCall T G IO S (k + 1) "is_parent" [a0, a1] E Q := pcall (fn := d_is_parent) z_is_parent t_is_parent i_is_parent rfl h
theorem z_is_tree_by : S "is_tree_by" = none := by kernel_rfl
theorem i_is_tree_by : IO "is_tree_by" = [] := by kernel_rfl
theorem v_is_tree_by {k : Nat} {a0 : PV} {E : PX → Prop} {Q : PV → List PV → Bool → Prop} (h : pSs T G IO (pCall T G IO S k) b_is_tree_by [.fz a0, .no, .no, .no, .no, .no, .no] (fun x _ => E x) (fun _ => Q .non [] false) (fun _ p fr => Q p [] fr)) : pCall T G IO S (k + 1) "is_tree_by" [a0] E Q := pcall (fn := d_is_tree_by) z_is_tree_by t_is_tree_by i_is_tree_by rfl h
theorem z_is_tree : S "is_tree" = none := by kernel_rfl
theorem i_is_tree : IO "is_tree" = [] := by kernel_rfl
theorem v_is_tree {k : Nat} {a0 : PV} {E : PX → Prop} {Q : PV → List PV → Bool → Prop} (h : pSs T G IO (pCall T G IO S k) b_is_tree [.fz a0] (fun x _ => E x) (fun _ => Q .non [] false) (fun _ p fr => Q p [] fr)) : pCall T G IO S (k + 1) "is_tree" [a0] E Q := pcall (fn := d_is_tree) z_is_tree t_is_tree i_is_tree rfl h
theorem z_is_bucket : S "is_bucket" = none := by kernel_rfl
theorem i_is_bucket : IO "is_bucket" = [] := by kernel_rfl
theorem v_is_bucket {k : Nat} {a0 : PV} {E : PX → Prop} {Q : PV → List PV → Bool → Prop} (h : pSs T G IO (pCall T G IO S k) b_is_bucket [.fz a0] (fun x _ => E x) (fun _ => Q .non [] false) (fun _ p fr => Q p [] fr)) : pCall T G IO S (k + 1) "is_bucket" [a0] E Q := pcall (fn := d_is_bucket) z_is_bucket t_is_bucket i_is_bucket rfl h
theorem z__law_pool : S "_law_pool" = none := by kernel_rfl
theorem i__law_pool : IO "_law_pool" = [] := by kernel_rfl
theorem v__law_pool {k : Nat} {a0 a1 : PV} {E : PX → Prop} {Q : PV → List PV → Bool → Prop} (h : pSs T G IO (pCall T G IO S k) b__law_pool [.fz a0, .fz a1, .no, .no, .no] (fun x _ => E x) (fun _ => Q .non [] false) (fun _ p fr => Q p [] fr)) : pCall T G IO S (k + 1) "_law_pool" [a0, a1] E Q := pcall (fn := d__law_pool) z__law_pool t__law_pool i__law_pool rfl h
theorem z__law_below : S "_law_below" = some belowW := by kernel_rfl
theorem z__law_one : S "_law_one" = none := by kernel_rfl
theorem i__law_one : IO "_law_one" = [] := by kernel_rfl
theorem v__law_one {k : Nat} {a0 a1 : PV} {E : PX → Prop} {Q : PV → List PV → Bool → Prop} (h : pSs T G IO (pCall T G IO S k) b__law_one [.fz a0, .fz a1] (fun x _ => E x) (fun _ => Q .non [] false) (fun _ p fr => Q p [] fr)) : pCall T G IO S (k + 1) "_law_one" [a0, a1] E Q := pcall (fn := d__law_one) z__law_one t__law_one i__law_one rfl h
theorem z__law_name : S "_law_name" = none := by kernel_rfl
theorem i__law_name : IO "_law_name" = [] := by kernel_rfl
theorem v__law_name {k : Nat} {a0 a1 : PV} {E : PX → Prop} {Q : PV → List PV → Bool → Prop} (h : pSs T G IO (pCall T G IO S k) b__law_name [.fz a0, .fz a1, .no, .no, .no, .no, .no] (fun x _ => E x) (fun _ => Q .non [] false) (fun _ p fr => Q p [] fr)) : pCall T G IO S (k + 1) "_law_name" [a0, a1] E Q := pcall (fn := d__law_name) z__law_name t__law_name i__law_name rfl h
theorem z__law_num : S "_law_num" = none := by kernel_rfl
theorem i__law_num : IO "_law_num" = [] := by kernel_rfl
theorem v__law_num {k : Nat} {a0 a1 : PV} {E : PX → Prop} {Q : PV → List PV → Bool → Prop} (h : pSs T G IO (pCall T G IO S k) b__law_num [.fz a0, .fz a1] (fun x _ => E x) (fun _ => Q .non [] false) (fun _ p fr => Q p [] fr)) : pCall T G IO S (k + 1) "_law_num" [a0, a1] E Q := pcall (fn := d__law_num) z__law_num t__law_num i__law_num rfl h
theorem z__law_bucket : S "_law_bucket" = none := by kernel_rfl
theorem i__law_bucket : IO "_law_bucket" = [] := by kernel_rfl
theorem v__law_bucket {k : Nat} {a0 a1 a2 : PV} {E : PX → Prop} {Q : PV → List PV → Bool → Prop} (h : pSs T G IO (pCall T G IO S k) b__law_bucket [.fz a0, .fz a1, .fz a2, .no, .no] (fun x _ => E x) (fun _ => Q .non [] false) (fun _ p fr => Q p [] fr)) : pCall T G IO S (k + 1) "_law_bucket" [a0, a1, a2] E Q := pcall (fn := d__law_bucket) z__law_bucket t__law_bucket i__law_bucket rfl h
theorem z__law_tree : S "_law_tree" = none := by kernel_rfl
theorem i__law_tree : IO "_law_tree" = [] := by kernel_rfl
theorem v__law_tree {k : Nat} {a0 a1 a2 : PV} {E : PX → Prop} {Q : PV → List PV → Bool → Prop} (h : pSs T G IO (pCall T G IO S k) b__law_tree [.fz a0, .fz a1, .fz a2, .no, .no, .no, .no, .no, .no, .no] (fun x _ => E x) (fun _ => Q .non [] false) (fun _ p fr => Q p [] fr)) : pCall T G IO S (k + 1) "_law_tree" [a0, a1, a2] E Q := pcall (fn := d__law_tree) z__law_tree t__law_tree i__law_tree rfl h
theorem z__law_same : S "_law_same" = none := by kernel_rfl
theorem i__law_same : IO "_law_same" = [] := by kernel_rfl
theorem v__law_same {k : Nat} {a0 a1 : PV} {E : PX → Prop} {Q : PV → List PV → Bool → Prop} (h : pSs T G IO (pCall T G IO S k) b__law_same [.fz a0, .fz a1, .no, .no] (fun x _ => E x) (fun _ => Q .non [] false) (fun _ p fr => Q p [] fr)) : pCall T G IO S (k + 1) "_law_same" [a0, a1] E Q := pcall (fn := d__law_same) z__law_same t__law_same i__law_same rfl h
theorem z__law_thing : S "_law_thing" = none := by kernel_rfl
theorem i__law_thing : IO "_law_thing" = [] := by kernel_rfl
theorem v__law_thing {k : Nat} {a0 : PV} {E : PX → Prop} {Q : PV → List PV → Bool → Prop} (h : pSs T G IO (pCall T G IO S k) b__law_thing [.fz a0] (fun x _ => E x) (fun _ => Q .non [] false) (fun _ p fr => Q p [] fr)) : pCall T G IO S (k + 1) "_law_thing" [a0] E Q := pcall (fn := d__law_thing) z__law_thing t__law_thing i__law_thing rfl h
theorem z__law_is_number : S "_law_is_number" = none := by kernel_rfl
theorem i__law_is_number : IO "_law_is_number" = [] := by kernel_rfl
theorem v__law_is_number {k : Nat} {a0 a1 : PV} {E : PX → Prop} {Q : PV → List PV → Bool → Prop} (h : pSs T G IO (pCall T G IO S k) b__law_is_number [.fz a0, .fz a1] (fun x _ => E x) (fun _ => Q .non [] false) (fun _ p fr => Q p [] fr)) : pCall T G IO S (k + 1) "_law_is_number" [a0, a1] E Q := pcall (fn := d__law_is_number) z__law_is_number t__law_is_number i__law_is_number rfl h
theorem z__law_is_cup : S "_law_is_cup" = none := by kernel_rfl
theorem i__law_is_cup : IO "_law_is_cup" = [] := by kernel_rfl
theorem v__law_is_cup {k : Nat} {a0 : PV} {E : PX → Prop} {Q : PV → List PV → Bool → Prop} (h : pSs T G IO (pCall T G IO S k) b__law_is_cup [.fz a0, .no] (fun x _ => E x) (fun _ => Q .non [] false) (fun _ p fr => Q p [] fr)) : pCall T G IO S (k + 1) "_law_is_cup" [a0] E Q := pcall (fn := d__law_is_cup) z__law_is_cup t__law_is_cup i__law_is_cup rfl h
theorem z__law_is_name : S "_law_is_name" = none := by kernel_rfl
theorem i__law_is_name : IO "_law_is_name" = [] := by kernel_rfl
theorem v__law_is_name {k : Nat} {a0 : PV} {E : PX → Prop} {Q : PV → List PV → Bool → Prop} (h : pSs T G IO (pCall T G IO S k) b__law_is_name [.fz a0, .no] (fun x _ => E x) (fun _ => Q .non [] false) (fun _ p fr => Q p [] fr)) : pCall T G IO S (k + 1) "_law_is_name" [a0] E Q := pcall (fn := d__law_is_name) z__law_is_name t__law_is_name i__law_is_name rfl h
theorem z__law_is_plan : S "_law_is_plan" = none := by kernel_rfl
theorem i__law_is_plan : IO "_law_is_plan" = [] := by kernel_rfl
theorem v__law_is_plan {k : Nat} {a0 : PV} {E : PX → Prop} {Q : PV → List PV → Bool → Prop} (h : pSs T G IO (pCall T G IO S k) b__law_is_plan [.fz a0, .no, .no] (fun x _ => E x) (fun _ => Q .non [] false) (fun _ p fr => Q p [] fr)) : pCall T G IO S (k + 1) "_law_is_plan" [a0] E Q := pcall (fn := d__law_is_plan) z__law_is_plan t__law_is_plan i__law_is_plan rfl h
theorem z__law_bent_cup : S "_law_bent_cup" = none := by kernel_rfl
theorem i__law_bent_cup : IO "_law_bent_cup" = [] := by kernel_rfl
theorem v__law_bent_cup {k : Nat} {a0 a1 : PV} {E : PX → Prop} {Q : PV → List PV → Bool → Prop} (h : pSs T G IO (pCall T G IO S k) b__law_bent_cup [.fz a0, .fz a1, .no, .no, .no] (fun x _ => E x) (fun _ => Q .non [] false) (fun _ p fr => Q p [] fr)) : pCall T G IO S (k + 1) "_law_bent_cup" [a0, a1] E Q := pcall (fn := d__law_bent_cup) z__law_bent_cup t__law_bent_cup i__law_bent_cup rfl h
theorem z__law_bent_plan : S "_law_bent_plan" = none := by kernel_rfl
theorem i__law_bent_plan : IO "_law_bent_plan" = [] := by kernel_rfl
theorem v__law_bent_plan {k : Nat} {a0 a1 : PV} {E : PX → Prop} {Q : PV → List PV → Bool → Prop} (h : pSs T G IO (pCall T G IO S k) b__law_bent_plan [.fz a0, .fz a1, .no, .no, .no, .no, .no, .no, .no, .no, .no, .no, .no, .no] (fun x _ => E x) (fun _ => Q .non [] false) (fun _ p fr => Q p [] fr)) : pCall T G IO S (k + 1) "_law_bent_plan" [a0, a1] E Q := pcall (fn := d__law_bent_plan) z__law_bent_plan t__law_bent_plan i__law_bent_plan rfl h
theorem z__law_right : S "_law_right" = none := by kernel_rfl
theorem i__law_right : IO "_law_right" = [] := by kernel_rfl
theorem v__law_right {k : Nat} {a0 : PV} {E : PX → Prop} {Q : PV → List PV → Bool → Prop} (h : pSs T G IO (pCall T G IO S k) b__law_right [.fz a0, .no, .no, .no, .no, .no, .no, .no] (fun x _ => E x) (fun _ => Q .non [] false) (fun _ p fr => Q p [] fr)) : pCall T G IO S (k + 1) "_law_right" [a0] E Q := pcall (fn := d__law_right) z__law_right t__law_right i__law_right rfl h
theorem z_law : S "law" = none := by kernel_rfl
theorem i_law : IO "law" = [] := by kernel_rfl
theorem v_law {k : Nat} {a0 : PV} {E : PX → Prop} {Q : PV → List PV → Bool → Prop} (h : pSs T G IO (pCall T G IO S k) b_law [.fz a0, .no] (fun x _ => E x) (fun _ => Q .non [] false) (fun _ p fr => Q p [] fr)) : pCall T G IO S (k + 1) "law" [a0] E Q := pcall (fn := d_law) z_law t_law i_law rfl h
theorem pk_is_bucket_0 {v0 : PV} : bindKwP d_is_bucket.ps [] ["value"] [v0] = some [v0] := by kernel_rfl
theorem bk_is_bucket_0 {v0 : D} : bindKw d_is_bucket.ps [] ["value"] [v0] = some [v0] := by kernel_rfl
theorem pk_is_tree_0 {v0 : PV} : bindKwP d_is_tree.ps [] ["value"] [v0] = some [v0] := by kernel_rfl
theorem bk_is_tree_0 {v0 : D} : bindKw d_is_tree.ps [] ["value"] [v0] = some [v0] := by kernel_rfl
theorem g_LETTERS : G "LETTERS" = some (.str "abcdefghijklmnopqrstuvwxyz") := by kernel_rfl
theorem g_MOST_LETTERS : G "MOST_LETTERS" = some (.int 8) := by kernel_rfl
theorem g_MOST : G "MOST" = some (.int 99) := by kernel_rfl
theorem g_MOST_PERIOD : G "MOST_PERIOD" = some (.int 4) := by kernel_rfl
theorem g_MOST_NODES : G "MOST_NODES" = some (.int 6) := by kernel_rfl
end Z
set_option maxHeartbeats 0
set_option autoImplicit true
namespace Z
open Ab PySem PySem.Spec PyProof.Rows L2

theorem s_is_number : FnScope d_is_number.N d_is_number.ps (defScope r_is_number.st) := ⟨rfl, rfl, rfl, by decide +kernel, rfl, by decide +kernel, by decide +kernel⟩
theorem c_is_number : chkSs d_is_number.N KW (defScope r_is_number.st) d_is_number.body (defBody r_is_number.st) = true := by decide +kernel
theorem o_is_number : r_is_number.Ok KW where
  S := s_is_number
  c := c_is_number
  b := fun _ _ _ _ _ _ us hl => match us, hl with | [_], _ => rfl
  kw := fun n ks hm => absurd hm (no_kw (by kernel_rfl))
theorem s_is_up_to : FnScope d_is_up_to.N d_is_up_to.ps (defScope r_is_up_to.st) := ⟨rfl, rfl, rfl, by decide +kernel, rfl, by decide +kernel, by decide +kernel⟩
theorem c_is_up_to : chkSs d_is_up_to.N KW (defScope r_is_up_to.st) d_is_up_to.body (defBody r_is_up_to.st) = true := by decide +kernel
theorem o_is_up_to : r_is_up_to.Ok KW where
  S := s_is_up_to
  c := c_is_up_to
  b := fun _ _ _ _ _ _ us hl => match us, hl with | [_, _], _ => rfl
  kw := fun n ks hm => absurd hm (no_kw (by kernel_rfl))
theorem s_is_name : FnScope d_is_name.N d_is_name.ps (defScope r_is_name.st) := ⟨rfl, rfl, rfl, by decide +kernel, rfl, by decide +kernel, by decide +kernel⟩
theorem c_is_name : chkSs d_is_name.N KW (defScope r_is_name.st) d_is_name.body (defBody r_is_name.st) = true := by decide +kernel
theorem o_is_name : r_is_name.Ok KW where
  S := s_is_name
  c := c_is_name
  b := fun _ _ _ _ _ _ us hl => match us, hl with | [_], _ => rfl
  kw := fun n ks hm => absurd hm (no_kw (by kernel_rfl))
theorem s_are_refills : FnScope d_are_refills.N d_are_refills.ps (defScope r_are_refills.st) := ⟨rfl, rfl, rfl, by decide +kernel, rfl, by decide +kernel, by decide +kernel⟩
theorem c_are_refills : chkSs d_are_refills.N KW (defScope r_are_refills.st) d_are_refills.body (defBody r_are_refills.st) = true := by decide +kernel
theorem o_are_refills : r_are_refills.Ok KW where
  S := s_are_refills
  c := c_are_refills
  b := fun _ _ _ _ _ _ us hl => match us, hl with | [_, _], _ => rfl
  kw := fun n ks hm => absurd hm (no_kw (by kernel_rfl))
theorem s_is_bucket_by : FnScope d_is_bucket_by.N d_is_bucket_by.ps (defScope r_is_bucket_by.st) := ⟨rfl, rfl, rfl, by decide +kernel, rfl, by decide +kernel, by decide +kernel⟩
theorem c_is_bucket_by : chkSs d_is_bucket_by.N KW (defScope r_is_bucket_by.st) d_is_bucket_by.body (defBody r_is_bucket_by.st) = true := by decide +kernel
theorem o_is_bucket_by : r_is_bucket_by.Ok KW where
  S := s_is_bucket_by
  c := c_is_bucket_by
  b := fun _ _ _ _ _ _ us hl => match us, hl with | [_], _ => rfl
  kw := fun n ks hm => absurd hm (no_kw (by kernel_rfl))
theorem s_is_node : FnScope d_is_node.N d_is_node.ps (defScope r_is_node.st) := ⟨rfl, rfl, rfl, by decide +kernel, rfl, by decide +kernel, by decide +kernel⟩
theorem c_is_node : chkSs d_is_node.N KW (defScope r_is_node.st) d_is_node.body (defBody r_is_node.st) = true := by decide +kernel
theorem o_is_node : r_is_node.Ok KW where
  S := s_is_node
  c := c_is_node
  b := fun _ _ _ _ _ _ us hl => match us, hl with | [_], _ => rfl
  kw := fun n ks hm => absurd hm (no_kw (by kernel_rfl))
theorem s_is_parent : FnScope d_is_parent.N d_is_parent.ps (defScope r_is_parent.st) := ⟨rfl, rfl, rfl, by decide +kernel, rfl, by decide +kernel, by decide +kernel⟩
theorem c_is_parent : chkSs d_is_parent.N KW (defScope r_is_parent.st) d_is_parent.body (defBody r_is_parent.st) = true := by decide +kernel
theorem o_is_parent : r_is_parent.Ok KW where
  S := s_is_parent
  c := c_is_parent
  b := fun _ _ _ _ _ _ us hl => match us, hl with | [_, _], _ => rfl
  kw := fun n ks hm => absurd hm (no_kw (by kernel_rfl))
theorem s_is_tree_by : FnScope d_is_tree_by.N d_is_tree_by.ps (defScope r_is_tree_by.st) := ⟨rfl, rfl, rfl, by decide +kernel, rfl, by decide +kernel, by decide +kernel⟩
theorem c_is_tree_by : chkSs d_is_tree_by.N KW (defScope r_is_tree_by.st) d_is_tree_by.body (defBody r_is_tree_by.st) = true := by decide +kernel
theorem o_is_tree_by : r_is_tree_by.Ok KW where
  S := s_is_tree_by
  c := c_is_tree_by
  b := fun _ _ _ _ _ _ us hl => match us, hl with | [_], _ => rfl
  kw := fun n ks hm => absurd hm (no_kw (by kernel_rfl))
theorem s_is_tree : FnScope d_is_tree.N d_is_tree.ps (defScope r_is_tree.st) := ⟨rfl, rfl, rfl, by decide +kernel, rfl, by decide +kernel, by decide +kernel⟩
theorem c_is_tree : chkSs d_is_tree.N KW (defScope r_is_tree.st) d_is_tree.body (defBody r_is_tree.st) = true := by decide +kernel
theorem o_is_tree : r_is_tree.Ok KW where
  S := s_is_tree
  c := c_is_tree
  b := fun _ _ _ _ _ _ us hl => match us, hl with | [_], _ => rfl
  kw := by
    intro n ks hm
    have hm := kw_mem hm
    rw [kw_is_tree] at hm
    simp only [List.mem_cons, List.not_mem_nil, or_false] at hm
    cases hm
    intro kV doc pm an cdv ct us ws as hu hw hz
    · match us, ws, hu, hw with
      | [], [w0], _, _ =>
        have hz : some [w0] = some as := hz
        cases hz
        rfl
theorem s_is_bucket : FnScope d_is_bucket.N d_is_bucket.ps (defScope r_is_bucket.st) := ⟨rfl, rfl, rfl, by decide +kernel, rfl, by decide +kernel, by decide +kernel⟩
theorem c_is_bucket : chkSs d_is_bucket.N KW (defScope r_is_bucket.st) d_is_bucket.body (defBody r_is_bucket.st) = true := by decide +kernel
theorem o_is_bucket : r_is_bucket.Ok KW where
  S := s_is_bucket
  c := c_is_bucket
  b := fun _ _ _ _ _ _ us hl => match us, hl with | [_], _ => rfl
  kw := by
    intro n ks hm
    have hm := kw_mem hm
    rw [kw_is_bucket] at hm
    simp only [List.mem_cons, List.not_mem_nil, or_false] at hm
    cases hm
    intro kV doc pm an cdv ct us ws as hu hw hz
    · match us, ws, hu, hw with
      | [], [w0], _, _ =>
        have hz : some [w0] = some as := hz
        cases hz
        rfl
theorem s__law_pool : FnScope d__law_pool.N d__law_pool.ps (defScope r__law_pool.st) := ⟨rfl, rfl, rfl, by decide +kernel, rfl, by decide +kernel, by decide +kernel⟩
theorem c__law_pool : chkSs d__law_pool.N KW (defScope r__law_pool.st) d__law_pool.body (defBody r__law_pool.st) = true := by decide +kernel
theorem o__law_pool : r__law_pool.Ok KW where
  S := s__law_pool
  c := c__law_pool
  b := fun _ _ _ _ _ _ us hl => match us, hl with | [_, _], _ => rfl
  kw := fun n ks hm => absurd hm (no_kw (by kernel_rfl))
theorem s__law_below : FnScope d__law_below.N d__law_below.ps (defScope r__law_below.st) := ⟨rfl, rfl, rfl, by decide +kernel, rfl, by decide +kernel, by decide +kernel⟩
theorem c__law_below : chkSs d__law_below.N KW (defScope r__law_below.st) d__law_below.body (defBody r__law_below.st) = true := by decide +kernel
theorem o__law_below : r__law_below.Ok KW where
  S := s__law_below
  c := c__law_below
  b := fun _ _ _ _ _ _ us hl => match us, hl with | [_, _], _ => rfl
  kw := fun n ks hm => absurd hm (no_kw (by kernel_rfl))
theorem s__law_one : FnScope d__law_one.N d__law_one.ps (defScope r__law_one.st) := ⟨rfl, rfl, rfl, by decide +kernel, rfl, by decide +kernel, by decide +kernel⟩
theorem c__law_one : chkSs d__law_one.N KW (defScope r__law_one.st) d__law_one.body (defBody r__law_one.st) = true := by decide +kernel
theorem o__law_one : r__law_one.Ok KW where
  S := s__law_one
  c := c__law_one
  b := fun _ _ _ _ _ _ us hl => match us, hl with | [_, _], _ => rfl
  kw := fun n ks hm => absurd hm (no_kw (by kernel_rfl))
theorem s__law_name : FnScope d__law_name.N d__law_name.ps (defScope r__law_name.st) := ⟨rfl, rfl, rfl, by decide +kernel, rfl, by decide +kernel, by decide +kernel⟩
theorem c__law_name : chkSs d__law_name.N KW (defScope r__law_name.st) d__law_name.body (defBody r__law_name.st) = true := by decide +kernel
theorem o__law_name : r__law_name.Ok KW where
  S := s__law_name
  c := c__law_name
  b := fun _ _ _ _ _ _ us hl => match us, hl with | [_, _], _ => rfl
  kw := fun n ks hm => absurd hm (no_kw (by kernel_rfl))
theorem s__law_num : FnScope d__law_num.N d__law_num.ps (defScope r__law_num.st) := ⟨rfl, rfl, rfl, by decide +kernel, rfl, by decide +kernel, by decide +kernel⟩
theorem c__law_num : chkSs d__law_num.N KW (defScope r__law_num.st) d__law_num.body (defBody r__law_num.st) = true := by decide +kernel
theorem o__law_num : r__law_num.Ok KW where
  S := s__law_num
  c := c__law_num
  b := fun _ _ _ _ _ _ us hl => match us, hl with | [_, _], _ => rfl
  kw := fun n ks hm => absurd hm (no_kw (by kernel_rfl))
theorem s__law_bucket : FnScope d__law_bucket.N d__law_bucket.ps (defScope r__law_bucket.st) := ⟨rfl, rfl, rfl, by decide +kernel, rfl, by decide +kernel, by decide +kernel⟩
theorem c__law_bucket : chkSs d__law_bucket.N KW (defScope r__law_bucket.st) d__law_bucket.body (defBody r__law_bucket.st) = true := by decide +kernel
theorem o__law_bucket : r__law_bucket.Ok KW where
  S := s__law_bucket
  c := c__law_bucket
  b := fun _ _ _ _ _ _ us hl => match us, hl with | [_, _, _], _ => rfl
  kw := fun n ks hm => absurd hm (no_kw (by kernel_rfl))
theorem s__law_tree : FnScope d__law_tree.N d__law_tree.ps (defScope r__law_tree.st) := ⟨rfl, rfl, rfl, by decide +kernel, rfl, by decide +kernel, by decide +kernel⟩
theorem c__law_tree : chkSs d__law_tree.N KW (defScope r__law_tree.st) d__law_tree.body (defBody r__law_tree.st) = true := by decide +kernel
theorem o__law_tree : r__law_tree.Ok KW where
  S := s__law_tree
  c := c__law_tree
  b := fun _ _ _ _ _ _ us hl => match us, hl with | [_, _, _], _ => rfl
  kw := fun n ks hm => absurd hm (no_kw (by kernel_rfl))
theorem s__law_same : FnScope d__law_same.N d__law_same.ps (defScope r__law_same.st) := ⟨rfl, rfl, rfl, by decide +kernel, rfl, by decide +kernel, by decide +kernel⟩
theorem c__law_same : chkSs d__law_same.N KW (defScope r__law_same.st) d__law_same.body (defBody r__law_same.st) = true := by decide +kernel
theorem o__law_same : r__law_same.Ok KW where
  S := s__law_same
  c := c__law_same
  b := fun _ _ _ _ _ _ us hl => match us, hl with | [_, _], _ => rfl
  kw := fun n ks hm => absurd hm (no_kw (by kernel_rfl))
theorem s__law_thing : FnScope d__law_thing.N d__law_thing.ps (defScope r__law_thing.st) := ⟨rfl, rfl, rfl, by decide +kernel, rfl, by decide +kernel, by decide +kernel⟩
theorem c__law_thing : chkSs d__law_thing.N KW (defScope r__law_thing.st) d__law_thing.body (defBody r__law_thing.st) = true := by decide +kernel
theorem o__law_thing : r__law_thing.Ok KW where
  S := s__law_thing
  c := c__law_thing
  b := fun _ _ _ _ _ _ us hl => match us, hl with | [_], _ => rfl
  kw := fun n ks hm => absurd hm (no_kw (by kernel_rfl))
theorem s__law_is_number : FnScope d__law_is_number.N d__law_is_number.ps (defScope r__law_is_number.st) := ⟨rfl, rfl, rfl, by decide +kernel, rfl, by decide +kernel, by decide +kernel⟩
theorem c__law_is_number : chkSs d__law_is_number.N KW (defScope r__law_is_number.st) d__law_is_number.body (defBody r__law_is_number.st) = true := by decide +kernel
theorem o__law_is_number : r__law_is_number.Ok KW where
  S := s__law_is_number
  c := c__law_is_number
  b := fun _ _ _ _ _ _ us hl => match us, hl with | [_, _], _ => rfl
  kw := fun n ks hm => absurd hm (no_kw (by kernel_rfl))
theorem s__law_is_cup : FnScope d__law_is_cup.N d__law_is_cup.ps (defScope r__law_is_cup.st) := ⟨rfl, rfl, rfl, by decide +kernel, rfl, by decide +kernel, by decide +kernel⟩
theorem c__law_is_cup : chkSs d__law_is_cup.N KW (defScope r__law_is_cup.st) d__law_is_cup.body (defBody r__law_is_cup.st) = true := by decide +kernel
theorem o__law_is_cup : r__law_is_cup.Ok KW where
  S := s__law_is_cup
  c := c__law_is_cup
  b := fun _ _ _ _ _ _ us hl => match us, hl with | [_], _ => rfl
  kw := fun n ks hm => absurd hm (no_kw (by kernel_rfl))
theorem s__law_is_name : FnScope d__law_is_name.N d__law_is_name.ps (defScope r__law_is_name.st) := ⟨rfl, rfl, rfl, by decide +kernel, rfl, by decide +kernel, by decide +kernel⟩
theorem c__law_is_name : chkSs d__law_is_name.N KW (defScope r__law_is_name.st) d__law_is_name.body (defBody r__law_is_name.st) = true := by decide +kernel
theorem o__law_is_name : r__law_is_name.Ok KW where
  S := s__law_is_name
  c := c__law_is_name
  b := fun _ _ _ _ _ _ us hl => match us, hl with | [_], _ => rfl
  kw := fun n ks hm => absurd hm (no_kw (by kernel_rfl))
theorem s__law_is_plan : FnScope d__law_is_plan.N d__law_is_plan.ps (defScope r__law_is_plan.st) := ⟨rfl, rfl, rfl, by decide +kernel, rfl, by decide +kernel, by decide +kernel⟩
theorem c__law_is_plan : chkSs d__law_is_plan.N KW (defScope r__law_is_plan.st) d__law_is_plan.body (defBody r__law_is_plan.st) = true := by decide +kernel
theorem o__law_is_plan : r__law_is_plan.Ok KW where
  S := s__law_is_plan
  c := c__law_is_plan
  b := fun _ _ _ _ _ _ us hl => match us, hl with | [_], _ => rfl
  kw := fun n ks hm => absurd hm (no_kw (by kernel_rfl))
theorem s__law_bent_cup : FnScope d__law_bent_cup.N d__law_bent_cup.ps (defScope r__law_bent_cup.st) := ⟨rfl, rfl, rfl, by decide +kernel, rfl, by decide +kernel, by decide +kernel⟩
theorem c__law_bent_cup : chkSs d__law_bent_cup.N KW (defScope r__law_bent_cup.st) d__law_bent_cup.body (defBody r__law_bent_cup.st) = true := by decide +kernel
theorem o__law_bent_cup : r__law_bent_cup.Ok KW where
  S := s__law_bent_cup
  c := c__law_bent_cup
  b := fun _ _ _ _ _ _ us hl => match us, hl with | [_, _], _ => rfl
  kw := fun n ks hm => absurd hm (no_kw (by kernel_rfl))
theorem s__law_bent_plan : FnScope d__law_bent_plan.N d__law_bent_plan.ps (defScope r__law_bent_plan.st) := ⟨rfl, rfl, rfl, by decide +kernel, rfl, by decide +kernel, by decide +kernel⟩
theorem c__law_bent_plan : chkSs d__law_bent_plan.N KW (defScope r__law_bent_plan.st) d__law_bent_plan.body (defBody r__law_bent_plan.st) = true := by decide +kernel
theorem o__law_bent_plan : r__law_bent_plan.Ok KW where
  S := s__law_bent_plan
  c := c__law_bent_plan
  b := fun _ _ _ _ _ _ us hl => match us, hl with | [_, _], _ => rfl
  kw := fun n ks hm => absurd hm (no_kw (by kernel_rfl))
theorem s__law_right : FnScope d__law_right.N d__law_right.ps (defScope r__law_right.st) := ⟨rfl, rfl, rfl, by decide +kernel, rfl, by decide +kernel, by decide +kernel⟩
theorem c__law_right : chkSs d__law_right.N KW (defScope r__law_right.st) d__law_right.body (defBody r__law_right.st) = true := by decide +kernel
theorem o__law_right : r__law_right.Ok KW where
  S := s__law_right
  c := c__law_right
  b := fun _ _ _ _ _ _ us hl => match us, hl with | [_], _ => rfl
  kw := fun n ks hm => absurd hm (no_kw (by kernel_rfl))
theorem s_law : FnScope d_law.N d_law.ps (defScope r_law.st) := ⟨rfl, rfl, rfl, by decide +kernel, rfl, by decide +kernel, by decide +kernel⟩
theorem c_law : chkSs d_law.N KW (defScope r_law.st) d_law.body (defBody r_law.st) = true := by decide +kernel
theorem o_law : r_law.Ok KW where
  S := s_law
  c := c_law
  b := fun _ _ _ _ _ _ us hl => match us, hl with | [_], _ => rfl
  kw := fun n ks hm => absurd hm (no_kw (by kernel_rfl))
theorem all_ok : ∀ r ∈ rows, r.Ok KW := by
  intro r hr
  simp only [rows, List.mem_cons, List.not_mem_nil, or_false] at hr
  rcases hr with rfl | rfl | rfl | rfl | rfl | rfl | rfl | rfl | rfl | rfl | rfl | rfl | rfl | rfl | rfl | rfl | rfl | rfl | rfl | rfl | rfl | rfl | rfl | rfl | rfl | rfl | rfl
  · exact o_is_number
  · exact o_is_up_to
  · exact o_is_name
  · exact o_are_refills
  · exact o_is_bucket_by
  · exact o_is_node
  · exact o_is_parent
  · exact o_is_tree_by
  · exact o_is_tree
  · exact o_is_bucket
  · exact o__law_pool
  · exact o__law_below
  · exact o__law_one
  · exact o__law_name
  · exact o__law_num
  · exact o__law_bucket
  · exact o__law_tree
  · exact o__law_same
  · exact o__law_thing
  · exact o__law_is_number
  · exact o__law_is_cup
  · exact o__law_is_name
  · exact o__law_is_plan
  · exact o__law_bent_cup
  · exact o__law_bent_plan
  · exact o__law_right
  · exact o_law
theorem all_fs : ∀ x ∈ KW.fs, ∃ F, T x = some F := fs_ok (by decide +kernel)
abbrev R : PySem.W.OpenRow := PySem.W.OpenLaw.row PySem.Challenge.rw_lentlimits_k02_trees_and_buckets_of_anyt
abbrev qv : Program := PySem.W.view R.prog [37]
abbrev hk : PySem.W.Hook := He.hookX 4 (fasOf rows cs) (rows.map DRow.dd) [] [] (impB KW.imp)
def loose : List Str := [("LETTERS" : Str), ("MOST_LETTERS" : Str), ("is_number" : Str), ("is_up_to" : Str), ("is_name" : Str), ("MOST" : Str), ("MOST_PERIOD" : Str), ("are_refills" : Str), ("is_bucket_by" : Str), ("MOST_NODES" : Str), ("is_node" : Str), ("is_parent" : Str), ("is_tree_by" : Str), ("is_tree" : Str), ("is_bucket" : Str), ("_law_pool" : Str), ("_law_below" : Str), ("_law_one" : Str), ("_law_name" : Str), ("_law_num" : Str), ("_law_bucket" : Str), ("_law_tree" : Str), ("_law_same" : Str), ("_law_thing" : Str), ("_law_is_number" : Str), ("_law_is_cup" : Str), ("_law_is_name" : Str), ("_law_is_plan" : Str), ("_law_bent_cup" : Str), ("_law_bent_plan" : Str), ("_law_right" : Str)]
def ob (s : PySem.W.SharedT) : He.AlX := He.obsX 4 (fasOf rows cs) (rows.map DRow.dd) [] [] (impB KW.imp) (HandSHeadRun.getT s)
theorem ob_eq (s : PySem.W.SharedT) : ob s = hk.obs s.abs := He.obsX_eq (HandSHeadRun.getT_eq s)
noncomputable abbrev S0 (w : World) (os : OsState) : Option PySem.W.SharedT := HandSHeadRun.endF (HandSHeadRun.stepQ (HandSHeadRun.denQ HandSHeadRun.tabQ) R.prog w) 40000 R.prog w os
theorem run1 (w : World) (os : OsState) : (S0 w os).map (fun s => HandSHeadRun.looksF R.prog (PySem.W.boot_heap w.params) s.abs) = some true := by
  kernel_rfl
theorem run2 (w : World) (os : OsState) : (S0 w os).map (fun s => HandSHeadRun.seenQ qv loose (importedModules R.prog.main.body) (fun s => PySem.W.xlAt qv [] s && PySem.W.recOk R.toRowW.records s) s.abs) = some (PySem.W.openGood qv loose) := by
  kernel_rfl
theorem run3 (w : World) (os : OsState) : (S0 w os).map (fun s => ob s) = some (hk.val w) := by
  kernel_rfl
theorem run (w : World) : HandSHeadRun.RunEq R qv hk ob 40000 loose w := fun os => map3 (run1 w os) (run2 w os) (run3 w os)
end Z
section
open PySem PySem.W PySem.Calls PyProof.Rows Ab
theorem Z.end_of (law_true : ∀ ns : List Int, ns.length ≤ 63 → ∃ st', callF Z.T Z.G 200 "law" [.ref 0] [.lst true (ns.map D.int)] = .ok (.bl true) st') : PySem.Challenge.rw_lentlimits_k02_trees_and_buckets_of_anyt.Holds := by
  w_on; o_law
  refine HandSHeadRun.head_any (r := OpenLaw.row PySem.Challenge.rw_lentlimits_k02_trees_and_buckets_of_anyt) (q := view (OpenLaw.row PySem.Challenge.rw_lentlimits_k02_trees_and_buckets_of_anyt).prog [37]) (H := Z.hk) (ob := Z.ob) (M := 40000) (loose := Z.loose) (d := HandSHeadRun.topDef (OpenLaw.row PySem.Challenge.rw_lentlimits_k02_trees_and_buckets_of_anyt).prog 37) (kwd := []) Z.ob_eq
    (by kernel_rfl) (fun s => by kernel_rfl) Z.run (by kernel_rfl) (by kernel_rfl) (by kernel_rfl) (by rfl) (by first | assumption | decide +kernel) (by decide +kernel) ⟨rfl, rfl, rfl, rfl, rfl, by decide +kernel⟩ ?hw ?hc
  case hw => w_witness2
  case hc =>
    exact Ab.law_of (l := PySem.Challenge.rw_lentlimits_k02_trees_and_buckets_of_anyt) (rows := Z.rows) (cs := Z.cs) (KW := Z.KW) (x := "script") (n := 63) (k := 199) (N := 4) Z.r_law rfl (by decide) (by kernel_rfl) ⟨rfl, by decide, by decide⟩ (by kernel_rfl) (by simp [Z.rows]) (by kernel_rfl) Z.t_law Z.all_ok Z.all_fs (by kernel_rfl) law_true
end

set_option maxHeartbeats 4000000
set_option Elab.async false
set_option linter.all false
set_option autoImplicit false
set_option maxRecDepth 100000
namespace Z
open Ab PySem
local macro_rules
  | `(tactic| and_intros) => `(tactic| repeat' (first
    | with_reducible refine w_ssnil ?_
    | with_reducible refine w_sscons ?_
    | with_reducible refine w_var (by with_unfolding_all rfl) ?_
    | with_reducible refine w_int ?_
    | with_reducible refine w_glob (by first | exact g_LETTERS | exact g_MOST_LETTERS | exact g_MOST | exact g_MOST_PERIOD | exact g_MOST_NODES) ?_
    | with_reducible refine w_asg ?_
    | with_reducible refine w_nm ?_
    | with_reducible refine w_sub ?_
    | with_reducible refine w_bin ?_
    | with_reducible refine w_cmp ?_
    | with_reducible refine w_call ?_
    | with_reducible refine w_escons ?_
    | with_reducible refine w_esnil ?_
    | with_reducible refine w_blt ?_
    | with_reducible refine w_ret ?_
    | with_reducible refine w_sife ?_
    | with_reducible refine w_expr ?_
    | with_reducible refine w_par2 ?_
    | with_reducible refine w_par3 ?_
    | with_reducible refine w_for ?_
    | with_reducible refine w_while ?_
    | with_reducible refine w_retN ?_
    | with_reducible refine w_pass ?_
    | with_reducible refine w_str ?_
    | with_reducible refine w_bl ?_
    | with_reducible refine w_non ?_
    | with_reducible refine w_neg ?_
    | with_reducible refine w_chain ?_
    | with_reducible refine w_and ?_
    | with_reducible refine w_or ?_
    | with_reducible refine w_not ?_
    | with_reducible refine w_ife ?_
    | with_reducible refine w_tup ?_
    | with_reducible refine w_lst ?_
    | with_reducible refine w_dnew ?_
    | with_reducible refine w_slc ?_
    | with_reducible refine w_pnone ?_
    | with_reducible refine w_psome ?_
    | with_reducible refine w_cnone ?_
    | with_reducible refine w_csome ?_
    | with_reducible refine w_evT ?_
    | with_reducible refine w_isi ?_
    | with_reducible refine w_meth ?_
    | with_reducible refine w_lc ?_
    | with_reducible refine w_lcF ?_
    | with_reducible refine w_iseq ?_
    | with_reducible refine w_irng1 ?_
    | with_reducible refine w_irng2 ?_
    | with_reducible refine w_ienum ?_
    | with_reducible refine w_izip ?_
    | with_reducible refine w_tp ?_
    | with_reducible refine w_itm ?_
    | with_reducible refine w_tsnil ?_
    | with_reducible refine w_tscons ?_
    | with_reducible refine w_sb ?_
    | with_reducible refine o_add ?_
    | with_reducible refine o_sub ?_
    | with_reducible refine o_mul (by omega) ?_
    | with_reducible refine o_div (by omega) ?_
    | with_reducible refine o_mod (by omega) ?_
    | with_reducible refine o_pow (by decide) ?_
    | with_reducible refine o_divmod (by omega) ?_
    | with_reducible refine o_lt ?_
    | with_reducible refine o_le ?_
    | with_reducible refine o_gt ?_
    | with_reducible refine o_ge ?_
    | with_reducible refine o_eqI ?_
    | with_reducible refine o_neI ?_
    | with_reducible refine o_eqS ?_
    | with_reducible refine o_neS ?_
    | with_reducible refine o_eqB ?_
    | with_reducible refine o_neB ?_
    | with_reducible refine o_isN ?_
    | with_reducible refine o_isI ?_
    | with_reducible refine o_isB ?_
    | with_reducible refine o_isS ?_
    | with_reducible refine o_isT ?_
    | with_reducible refine o_inN ?_
    | with_reducible refine o_inI ?_
    | with_reducible refine o_inB ?_
    | with_reducible refine o_inS ?_
    | with_reducible refine o_inT ?_
    | with_reducible refine o_isiN true (by decide) ?_
    | with_reducible refine o_isiN false (by decide) ?_
    | with_reducible refine o_isiI true (by decide) ?_
    | with_reducible refine o_isiI false (by decide) ?_
    | with_reducible refine o_isiB true (by decide) ?_
    | with_reducible refine o_isiB false (by decide) ?_
    | with_reducible refine o_isiS true (by decide) ?_
    | with_reducible refine o_isiS false (by decide) ?_
    | with_reducible refine o_isiT true (by decide) ?_
    | with_reducible refine o_isiT false (by decide) ?_
    | with_reducible refine o_isiR (by assumption) true (by decide) ?_
    | with_reducible refine o_isiR (by assumption) false (by decide) ?_
    | with_reducible refine o_asB ?_
    | with_reducible refine o_sub0 ?_
    | with_reducible refine o_sub1 ?_
    | with_reducible refine o_sub2 ?_
    | with_reducible refine o_sub3 ?_
    | with_reducible refine o_sub4 ?_
    | with_reducible refine o_subr0 (by assumption) ?_
    | with_reducible refine o_subr1 (by assumption) ?_
    | with_reducible refine o_subr2 (by assumption) ?_
    | with_reducible refine o_set0 (by assumption) (fun _ _ _ _ => ?_)
    | with_reducible refine o_set1 (by assumption) (fun _ _ _ _ => ?_)
    | with_reducible refine o_set2 (by assumption) (fun _ _ _ _ => ?_)
    | with_reducible refine o_alloc (fun _ _ _ _ => ?_)
    | with_reducible refine o_lenT ?_
    | with_reducible refine o_lenR (by assumption) ?_
    | with_reducible refine o_tupR (by assumption) ?_
    | with_reducible refine o_tupT ?_
    | with_reducible refine o_intI ?_
    | with_reducible refine o_abs ?_
    | with_reducible refine o_min ?_
    | with_reducible refine o_max ?_
    | with_reducible refine o_slcT ?_
    | with_reducible refine o_slcR (by assumption) ?_
    | with_reducible refine o_sqT ?_
    | with_reducible refine o_sqR (by assumption) ?_
    | with_reducible refine o_rng (by omega) ?_
    | with_reducible refine o_enT ?_
    | with_reducible refine o_enR (by assumption) ?_
    | with_reducible refine o_zpT ?_
    | with_reducible refine b_dec ⟨fun _ => ?_, fun _ => ?_⟩
    | with_reducible refine b_ndec ⟨fun _ => ?_, fun _ => ?_⟩
    | with_reducible refine b_true ?_
    | with_reducible refine b_false ?_
    | with_reducible refine b_ntrue ?_
    | with_reducible refine b_nfalse ?_
    | with_reducible refine x_int ?_
    | with_reducible refine x_lst (by assumption) ?_
    ))
local macro_rules
  | `(tactic| nofun) => `(tactic| repeat' (first
    | assumption
    | with_reducible exact Kp.refl _ _
    | with_reducible exact Ext.refl _
    | with_reducible refine Kp.trans ?_ (by assumption)
    | with_reducible refine Kp.trans ?_ (Ext.kp (by assumption))
    | with_reducible refine Ext.trans ?_ (by assumption)))
local macro_rules
  | `(tactic| ac_rfl) => `(tactic| repeat' (first
    | with_reducible refine p_sscons ?_
    | with_reducible refine p_ssnil ?_
    | with_reducible refine p_var (by with_unfolding_all rfl) ?_
    | with_reducible refine p_int ?_
    | with_reducible refine p_str ?_
    | with_reducible refine p_bl ?_
    | with_reducible refine p_non ?_
    | with_reducible refine p_globI (by first | exact g_LETTERS | exact g_MOST_LETTERS | exact g_MOST | exact g_MOST_PERIOD | exact g_MOST_NODES) ?_
    | with_reducible refine p_globS (by first | exact g_LETTERS | exact g_MOST_LETTERS | exact g_MOST | exact g_MOST_PERIOD | exact g_MOST_NODES) ?_
    | with_reducible refine p_bin ?_
    | with_reducible refine p_neg ?_
    | with_reducible refine p_cmp ?_
    | with_reducible refine p_chain ?_
    | with_reducible refine p_and ?_
    | with_reducible refine p_or ?_
    | with_reducible refine p_not ?_
    | with_reducible refine p_ife ?_
    | with_reducible refine p_tup ?_
    | with_reducible refine p_lst ?_
    | with_reducible refine p_dnew ?_
    | with_reducible refine p_dlt ?_
    | with_reducible refine x_dlt rfl ?_
    | with_reducible refine p_sub ?_
    | with_reducible refine p_slc ?_
    | with_reducible refine p_call (by with_unfolding_all rfl) ?_
    | with_reducible refine p_callk (by with_unfolding_all rfl) (by first | exact t_is_number | exact t_is_up_to | exact t_is_name | exact t_are_refills | exact t_is_bucket_by | exact t_is_node | exact t_is_parent | exact t_is_tree_by | exact t_is_tree | exact t_is_bucket | exact t__law_pool | exact t__law_below | exact t__law_one | exact t__law_name | exact t__law_num | exact t__law_bucket | exact t__law_tree | exact t__law_same | exact t__law_thing | exact t__law_is_number | exact t__law_is_cup | exact t__law_is_name | exact t__law_is_plan | exact t__law_bent_cup | exact t__law_bent_plan | exact t__law_right | exact t_law) ?_
    | with_reducible refine p_blt ?_
    | with_reducible refine p_isi ?_
    | with_reducible refine p_op1 ?_
    | with_reducible refine p_op2 ?_
    | with_reducible refine p_meth ?_
    | with_reducible refine p_lc ?_
    | with_reducible refine p_lcP ?_
    | with_reducible refine p_cnone ?_
    | with_reducible refine p_csome ?_
    | with_reducible refine p_pnone ?_
    | with_reducible refine p_psome ?_
    | with_reducible refine p_esnil ?_
    | with_reducible refine p_escons ?_
    | with_reducible refine p_iseq ?_
    | with_reducible refine p_irng1 ?_
    | with_reducible refine p_irng2 ?_
    | with_reducible refine p_irngd ?_
    | with_reducible refine p_ienum ?_
    | with_reducible refine p_izip ?_
    | with_reducible refine p_nm ?_
    | with_reducible refine p_tp ?_
    | with_reducible refine p_itm ?_
    | with_reducible refine p_tsnil ?_
    | with_reducible refine p_tscons ?_
    | with_reducible refine q_asgC (by with_unfolding_all rfl) (by with_unfolding_all rfl) ?_
    | with_reducible refine q_asgI (by with_unfolding_all rfl) ?_
    | with_reducible refine q_asg0 (by with_unfolding_all rfl) (by with_unfolding_all rfl) (by intro _; with_unfolding_all rfl) ?_
    | with_reducible refine q_asgF (by with_unfolding_all rfl) (by intro _; with_unfolding_all rfl) ?_
    | with_reducible refine q_asgS (by with_unfolding_all rfl) (by with_unfolding_all rfl) ?_
    | with_reducible refine q_asgA (by with_unfolding_all rfl) (by intro _; with_unfolding_all rfl) ?_
    | with_reducible refine q_asgO (by with_unfolding_all rfl) rfl ?_
    | with_reducible refine p_asgB ?_
    | with_reducible refine q_asgP (by with_unfolding_all rfl) (by with_unfolding_all rfl) (by with_unfolding_all rfl) ?_
    | with_reducible refine p_asgPA (by with_unfolding_all rfl) (by with_unfolding_all rfl) ?_
    | with_reducible refine q_asgT (by with_unfolding_all rfl) ?_
    | with_reducible refine p_asgTB ?_
    | with_reducible refine q_set0 (by with_unfolding_all rfl) (by with_unfolding_all rfl) ?_
    | with_reducible refine p_setB (by with_unfolding_all rfl) ?_
    | with_reducible refine q_app0 (by with_unfolding_all rfl) (by with_unfolding_all rfl) ?_ (by first | assumption | omega | (simp only [List.length_map, List.length_append, List.length_cons, List.length_nil, List.length_range, List.length_replicate, List.length_flatten, rangeP_len, enumP_len, sizeLine] at *; omega))
    | with_reducible refine q_appB (by with_unfolding_all rfl) ?_ (by first | assumption | omega | (simp only [List.length_map, List.length_append, List.length_cons, List.length_nil, List.length_range, List.length_replicate, List.length_flatten, rangeP_len, enumP_len, sizeLine] at *; omega))
    | with_reducible refine p_expr ?_
    | with_reducible refine p_retV (by with_unfolding_all rfl) ?_
    | with_reducible refine q_retC (by with_unfolding_all rfl) ?_
    | with_reducible refine q_retI ?_
    | with_reducible refine q_retA (by intro _; with_unfolding_all rfl) ?_
    | with_reducible refine p_retN ?_
    | with_reducible refine p_sife ?_
    | with_reducible refine p_pass ?_
    | with_reducible refine q_par (by with_unfolding_all rfl) ?_
    | with_reducible refine p_parA ?_
    | with_reducible refine p_asnil ?_
    | with_reducible refine p_ascons ?_
    | with_reducible refine x_len (by with_unfolding_all rfl) ?_
    | with_reducible refine x_len2 (by with_unfolding_all rfl) (by first | with_unfolding_all rfl | (simp [plainPr, PV.flat1, PV.flat, PV.flats, flats_map, flats_app, flats_range]; done)) ?_
    | with_reducible refine q_for (by with_unfolding_all rfl) ?_
    | with_reducible refine q_forO (by with_unfolding_all rfl) ?_
    | with_reducible refine p_forB ?_
    | with_reducible refine p_bkP ?_
    | with_reducible refine p_tsP ?_
    | with_reducible refine p_blP ?_
    | with_reducible refine p_while ?_
    | with_reducible refine p_aife ?_
    | with_reducible refine p_acall (by with_unfolding_all rfl) ?_
    | with_reducible refine p_agen (by with_unfolding_all rfl) ?_
    | with_reducible refine p_size (by with_unfolding_all rfl) ?_
    | with_reducible refine x_asB ?_
    | with_reducible refine x_asI ?_
    | with_reducible refine x_asL ?_
    | with_reducible refine x_asT ?_
    | with_reducible refine x_ifT (by with_unfolding_all rfl) ?_
    | with_reducible refine x_ifF (by with_unfolding_all rfl) ?_
    | with_reducible refine x_ifP (by first | assumption | with_reducible rfl | omega) ?_
    | with_reducible refine x_ifQ (by first | assumption | omega) ?_
    | with_reducible refine x_nifP (by first | assumption | with_reducible rfl | omega) ?_
    | with_reducible refine x_nifQ (by first | assumption | omega) ?_
    | with_reducible refine x_if (fun _ => ?_) (fun _ => ?_)
    | with_reducible refine x_nif (fun _ => ?_) (fun _ => ?_)
    | with_reducible refine x_mul (by omega) ?_
    | with_reducible refine x_div (by omega) ?_
    | with_reducible refine x_mod (by omega) ?_
    | with_reducible refine x_pow (by decide) ?_
    | with_reducible refine x_divmod (by omega) ?_
    | with_reducible refine x_rng ?_ (by first | assumption | omega | (simp only [List.length_map, List.length_append, List.length_cons, List.length_nil, List.length_range, List.length_replicate, List.length_flatten, rangeP_len, enumP_len, sizeLine] at *; omega))
    | with_reducible refine x_rngd ?_ (by first | assumption | omega | (simp only [List.length_map, List.length_append, List.length_cons, List.length_nil, List.length_range, List.length_replicate, List.length_flatten, rangeP_len, enumP_len, sizeLine] at *; omega))
    | with_reducible refine x_addT ?_ (by first | assumption | omega | (simp only [List.length_map, List.length_append, List.length_cons, List.length_nil, List.length_range, List.length_replicate, List.length_flatten, rangeP_len, enumP_len, sizeLine] at *; omega))
    | with_reducible refine x_addL ?_ (by first | assumption | omega | (simp only [List.length_map, List.length_append, List.length_cons, List.length_nil, List.length_range, List.length_replicate, List.length_flatten, rangeP_len, enumP_len, sizeLine] at *; omega))
    | with_reducible refine x_addS ?_ (by first | assumption | omega | (simp only [List.length_map, List.length_append, List.length_cons, List.length_nil, List.length_range, List.length_replicate, List.length_flatten, rangeP_len, enumP_len, sizeLine] at *; omega))
    | with_reducible refine x_lcm ?_ (by first | assumption | omega | (simp only [List.length_map, List.length_append, List.length_cons, List.length_nil, List.length_range, List.length_replicate, List.length_flatten, rangeP_len, enumP_len, sizeLine] at *; omega))
    | with_reducible refine x_rep ?_ (by first | assumption | omega | (simp only [List.length_map, List.length_append, List.length_cons, List.length_nil, List.length_range, List.length_replicate, List.length_flatten, rangeP_len, enumP_len, sizeLine] at *; omega))
    | with_reducible refine x_repT ?_ (by first | assumption | omega | (simp only [List.length_map, List.length_append, List.length_cons, List.length_nil, List.length_range, List.length_replicate, List.length_flatten, rangeP_len, enumP_len, sizeLine] at *; omega))
    | with_reducible refine x_slS ?_ (by first | assumption | omega | (simp only [List.length_map, List.length_append, List.length_cons, List.length_nil, List.length_range, List.length_replicate, List.length_flatten, rangeP_len, enumP_len, sizeLine] at *; omega))
    | with_reducible refine x_lenS ?_ (by first | assumption | omega | (simp only [List.length_map, List.length_append, List.length_cons, List.length_nil, List.length_range, List.length_replicate, List.length_flatten, rangeP_len, enumP_len, sizeLine] at *; omega))
    | with_reducible refine x_inSL ?_
    | with_reducible refine x_inST ?_
    | with_reducible refine x_niSL ?_
    | with_reducible refine x_niST ?_
    | with_reducible refine x_inIL ?_
    | with_reducible refine x_inIT ?_
    | with_reducible refine x_niIL ?_
    | with_reducible refine x_niIT ?_
    | with_reducible refine x_all ?_
    | with_reducible refine x_any ?_
    | with_reducible refine x_sumL ?_
    | with_reducible refine x_sumT ?_
    | with_reducible refine x_some (by first | exact pk_is_bucket_0 | exact pk_is_tree_0) ?_
    | with_reducible refine x_some (by with_unfolding_all rfl) ?_
    | with_reducible refine x_flat (by first | with_unfolding_all rfl | (simp [PV.flat, PV.flats, flats_map, flats_app, flats_range]; done)) ?_
    | with_reducible refine x_flat1 (by first | with_unfolding_all rfl | (simp [PV.flat1, PV.flat, PV.flats, flats_map, flats_app, flats_range]; done)) (by with_unfolding_all rfl) ?_
    | with_reducible refine x_flat3 (by first | with_unfolding_all rfl | (simp [PV.flat, PV.flats, flats_map, flats_app, flats_range]; done)) (by first | with_unfolding_all rfl | (simp [PV.flat, PV.flats, flats_map, flats_app, flats_range]; done)) ?_
    ))
/-! the pool -/
theorem below {k l : Nat} {st : Sto} {many : Int} (h : Pok l st) (hm : 0 < many ∧ many < 1073741824) : (callF T G (k + 1) "_law_below" [.ref l, .int many] st).wp fun d st' => ∃ r : Int, d = .int r ∧ 0 ≤ r ∧ r < many ∧ Kp l st st' ∧ Pok l st' := by
  obtain ⟨x, y, z, e⟩ := h
  refine w__law_below ?_
  unfold b__law_below
  and_intros
  · exact ⟨Int.emod_nonneg _ (by omega), Int.emod_lt_of_pos _ hm.1, by nofun, _, _, _, by assumption⟩
  · exact ⟨Int.emod_nonneg _ (by omega), Int.emod_lt_of_pos _ hm.1, by nofun, _, _, _, by assumption⟩
theorem told_all : ToldOk T G S := by
  intro f w e k ps Q l0 A st ds h ok r
  unfold S at e
  split at e
  · rename_i hf
    subst hf
    cases e
    obtain ⟨m, rfl, hk, hm, hQ⟩ := h
    obtain ⟨d1, r1, rfl, h1, d2, r2, rfl, h2, h3⟩ := r
    cases h1
    cases h2
    cases h3
    obtain ⟨k, rfl⟩ : ∃ k', k = k' + 1 := ⟨k - 1, by omega⟩
    have := below (k := k) ok.pok hm
    rw [callF_def] at this
    revert this
    generalize callN T G (k + 1) "_law_below" [.ref l0, .int m] st = w
    intro this
    cases w with
    | ok d st' =>
      obtain ⟨r, rfl, h0, h1, k1, p1⟩ := this
      have := k1.len p1
      exact ⟨.int r, hQ r h0 h1, rfl, k1, p1, ok.na, fun l q => ok.fut l (by omega)⟩
    | ex x st' => exact this.elim
    | bad => exact this.elim
  · cases e
section
variable {k : Nat} {E : PX → Prop} {Q : PV → List PV → Bool → Prop}
theorem draw {m : Int} (hm : 0 < m ∧ m < 1073741824) (h : ∀ r : Int, 0 ≤ r → r < m → Q (.int r) [] false) : pCall T G IO S (k + 1) "_law_below" [.pool, .int m] E Q := ptold z__law_below (by kernel_rfl) ⟨m, rfl, by omega, hm, h⟩
theorem one {ps : List PV} (h0 : 0 < ps.length ∧ ps.length < 1073741824) (h : ∀ p ∈ ps, Q p [] false) : pCall T G IO S (k + 2) "_law_one" [.pool, .tup ps] E Q := by
  refine v__law_one ?_
  unfold b__law_one
  ac_rfl
  refine draw (by omega) fun r r0 r1 => ?_
  have e : ps[r.toNat]? = some (ps[r.toNat]'(by omega)) := List.getElem?_eq_getElem (by omega)
  refine x_subT (atI_of r0 e) ?_
  exact h _ (List.mem_of_getElem? e)
end
section
variable {k : Nat} {E : PX → Prop} {Q : PV → List PV → Bool → Prop}
theorem num {high : Int} (h0 : 1 ≤ high ∧ high ≤ 999) (h : ∀ r : Int, 0 ≤ r → r ≤ high → Q (.int r) [] false) : pCall T G IO S (k + 3) "_law_num" [.pool, .int high] E Q := by
  refine v__law_num ?_
  unfold b__law_num
  ac_rfl
  all_goals
    refine draw (by omega) fun a a0 a1 => ?_
    ac_rfl
    refine draw (by omega) fun b b0 b1 => ?_
    ac_rfl
    refine one (by simp) fun p hp => ?_
    simp only [List.mem_cons, List.not_mem_nil, or_false] at hp
    rcases hp with rfl | rfl | rfl | rfl | rfl | rfl <;> exact h _ (by omega) (by omega)
end
/-! the bucket -/
structure Cup where
  b : Int
  rs : List Int
  f : Int
def Cup.p (c : Cup) : PV := .tup [.int c.b, .tup (c.rs.map PV.int), .int c.f]
structure Cup.Ok (c : Cup) : Prop where
  b : 0 ≤ c.b ∧ c.b ≤ 99
  f : 0 ≤ c.f ∧ c.f ≤ 99
  n : 1 ≤ c.rs.length ∧ c.rs.length ≤ 4
  r : ∀ x ∈ c.rs, 0 ≤ x ∧ x ≤ 99
section
variable {k : Nat} {E : PX → Prop} {Q : PV → List PV → Bool → Prop}
theorem bucket {high size : Int} (h0 : 1 ≤ high ∧ high ≤ 99) (h1 : 1 ≤ size ∧ size ≤ 4) (h : ∀ c : Cup, c.Ok → c.rs.length = size.toNat → c.b ≤ high → c.f ≤ high → (∀ x ∈ c.rs, x ≤ high) → Q c.p [] false) : pCall T G IO S (k + 4) "_law_bucket" [.pool, .int high, .int size] E Q := by
  refine v__law_bucket ?_
  unfold b__law_bucket
  ac_rfl
  refine lpS PV.int (fun _ r => 0 ≤ r ∧ r ≤ high) (by rw [rangeP_len]; simp only [sizeLine]; omega) (fun i p e K hK => ?_) (fun rs hl hp => ?_)
  · obtain ⟨_, rfl⟩ := rangeP_at e
    ac_rfl
    refine num (by omega) fun r r0 r1 => ?_
    ac_rfl
    exact hK r ⟨r0, r1⟩
  · rw [rangeP_len] at hl
    ac_rfl
    refine num (by omega) fun b b0 b1 => ?_
    ac_rfl
    refine num (by omega) fun f f0 f1 => ?_
    ac_rfl
    have hx : ∀ x ∈ rs, 0 ≤ x ∧ x ≤ high := fun x hx => by
      obtain ⟨i, hi, e⟩ := List.mem_iff_getElem.mp hx
      exact hp i x (by rw [List.getElem?_eq_getElem hi, e])
    exact h ⟨b, rs, f⟩ ⟨⟨b0, show b ≤ 99 by omega⟩, ⟨f0, show f ≤ 99 by omega⟩, ⟨by simp only []; omega, by simp only []; omega⟩, fun x q => ⟨(hx x q).1, by have := (hx x q).2; omega⟩⟩ (by simp only []; omega) b1 f1 fun x q => (hx x q).2
end

/-! names -/
def NameOk (x : Str) : Prop := (1 ≤ x.length ∧ x.length ≤ 8) ∧ ∀ c ∈ x.cps.toList, 97 ≤ c ∧ c ≤ 122
def Abc : Str := "abcdefghijklmnopqrstuvwxyz"
def let8 (k : Nat) : Str := repS ⟨#[97 + k]⟩ 8
theorem abc_at : ∀ k : Fin 26, L2.atI Abc.cps.toList (k.val : Int) = some (97 + k.val) := by decide +kernel
theorem abc_in : ∀ k : Fin 26, subStr ⟨#[97 + k.val]⟩ Abc = true := by decide +kernel
theorem let8_ok : ∀ k : Fin 26, (decide (1 ≤ (let8 k.val).length ∧ (let8 k.val).length ≤ 8) && (let8 k.val).cps.toList.all (fun c => decide (97 ≤ c ∧ c ≤ 122))) = true := by decide +kernel
theorem let8_nodup : ((List.range 26).map let8).Nodup := by decide +kernel
theorem x_letter {K : PV → Prop} {i : Int} (h0 : 0 ≤ i ∧ i < 26) (h : K (.str ⟨#[97 + i.toNat]⟩)) : ∃ r, subP (.str "abcdefghijklmnopqrstuvwxyz") (.int i) = some r ∧ K r := by
  refine ⟨_, ?_, h⟩
  have e := abc_at ⟨i.toNat, by omega⟩
  have : ((i.toNat : Nat) : Int) = i := by omega
  simp only [this] at e
  show (if (Abc : Str).length ≤ sizeLine then (L2.atI Abc.cps.toList i).map fun c => PV.str ⟨#[c]⟩ else none) = _
  rw [if_pos (by decide +kernel), e]
  rfl
theorem free_name {used : List Str} (h : used.length ≤ 25) : ∃ k, k < 26 ∧ let8 k ∉ used := by
  by_cases q : ∃ k, k < 26 ∧ let8 k ∉ used
  · exact q
  · exfalso
    have := pigeon (ys := used) let8_nodup (fun x hx => by
      obtain ⟨k, hk, rfl⟩ := List.mem_map.mp hx
      by_cases z : let8 k ∈ used
      · exact z
      · exact absurd ⟨k, List.mem_range.mp hk, z⟩ q)
    simp at this
    omega
section
variable {k : Nat} {E : PX → Prop} {Q : PV → List PV → Bool → Prop}
theorem name {used : List Str} (hu : used.length ≤ 25) (h : ∀ x, NameOk x → x ∉ used → Q (.str x) [] false) : pCall T G IO S (k + 3) "_law_name" [.pool, .lst (used.map PV.str)] E Q := by
  refine v__law_name ?_
  unfold b__law_name
  ac_rfl
  refine pFor_inv (fun i env => ∃ s3 s4 s5 : Sl, env = [.fz .pool, .fz (.lst (used.map PV.str)), .fz (.str "abcdefghijklmnopqrstuvwxyz"), s3, s4, s5, .no]) ⟨_, _, _, rfl⟩ ?_ ?_
  · rintro i p _ K hp ⟨s3, s4, s5, rfl⟩ hK
    ac_rfl
    refine one (by simp) fun p hp => ?_
    have hn : ∃ n : Int, p = .int n ∧ 1 ≤ n ∧ n ≤ 8 := by
      simp only [List.mem_cons, List.not_mem_nil, or_false] at hp
      rcases hp with rfl | rfl | rfl | rfl | rfl | rfl <;> exact ⟨_, rfl, by omega, by omega⟩
    obtain ⟨n, rfl, n1, n8⟩ := hn
    ac_rfl
    refine pFor_inv (fun i env => ∃ (x : Str) (s3 s5 : Sl), env = [.fz .pool, .fz (.lst (used.map PV.str)), .fz (.str "abcdefghijklmnopqrstuvwxyz"), s3, .fz (.str x), s5, .no] ∧ x.length = i ∧ i ≤ n.toNat ∧ ∀ c ∈ x.cps.toList, 97 ≤ c ∧ c ≤ 122) ⟨_, _, _, rfl, rfl, Nat.zero_le _, fun c hc => nomatch hc⟩ ?_ ?_
    · rintro j q _ K' hq ⟨x, s3, s5, rfl, hx, hj, hc⟩ hK'
      obtain ⟨hlt, rfl⟩ := rangeP_at hq
      ac_rfl
      refine draw (by omega) fun r r0 r1 => ?_
      refine x_letter ⟨r0, r1⟩ ?_
      have hl : (⟨#[97 + r.toNat]⟩ : Str).length = 1 := rfl
      refine x_addS ?_ (by rw [hl, hx]; simp only [sizeLine]; omega)
      ac_rfl
      have ex : (x ++ ⟨#[97 + r.toNat]⟩ : Str).cps = x.cps ++ #[97 + r.toNat] := rfl
      refine hK' _ ⟨_, _, _, rfl, ?_, by omega, fun c hc' => ?_⟩
      · show (x ++ ⟨#[97 + r.toNat]⟩ : Str).cps.size = _
        rw [ex, Array.size_append]
        have : x.cps.size = j := hx
        simp [this]
      · rw [ex, Array.toList_append, List.mem_append] at hc'
        rcases hc' with hc' | hc'
        · exact hc c hc'
        · have : c = 97 + r.toNat := by simpa using hc'
          omega
    · rintro _ ⟨x, s3, s5, rfl, hx, hj, hc⟩
      ac_rfl
      · exact hK _ ⟨_, _, _, rfl⟩
      · rw [rangeP_len] at hx hj
        exact h x ⟨⟨by omega, by omega⟩, hc⟩ (by assumption)
  · rintro _ ⟨s3, s4, s5, rfl⟩
    ac_rfl
    refine lpC (List.range 26) (fun n => PV.int (0 + (n : Int))) (fun n => !decide (let8 n ∈ used)) (fun n => .str (let8 n)) (by decide) ?_ ?_
    · intro n hn K h1 h2
      have hn := List.mem_range.mp hn
      have e8 : repS ⟨#[97 + ((0 : Int) + (n : Int)).toNat]⟩ (Int.toNat 8) = let8 n := by
        have : ((0 : Int) + (n : Int)).toNat = n := by omega
        rw [this]
        rfl
      ac_rfl
      refine x_letter (by omega) ?_
      ac_rfl
      · rename_i z
        rw [e8] at z
        exact h2 (by simp [z])
      · rename_i z
        rw [e8] at z
        refine x_letter (by omega) ?_
        ac_rfl
        rw [e8]
        exact h1 (by simp [z])
    · ac_rfl
      obtain ⟨n, hn, hnu⟩ := free_name hu
      have hmem : n ∈ (List.range 26).filter fun n => !decide (let8 n ∈ used) := by
        rw [List.mem_filter]
        exact ⟨List.mem_range.mpr hn, by simp [hnu]⟩
      cases hf : (List.range 26).filter fun n => !decide (let8 n ∈ used) with
      | nil => rw [hf] at hmem; cases hmem
      | cons m ms =>
        refine x_subL (atI_of (by omega) rfl) ?_
        have hm : m ∈ (List.range 26).filter fun n => !decide (let8 n ∈ used) := by rw [hf]; exact List.mem_cons_self
        rw [List.mem_filter] at hm
        have h8 := let8_ok ⟨m, List.mem_range.mp hm.1⟩
        rw [Bool.and_eq_true] at h8
        refine h _ ⟨of_decide_eq_true h8.1, fun c hc => ?_⟩ (by simpa using hm.2)
        exact of_decide_eq_true (List.all_eq_true.mp h8.2 c hc)
end

/-! trees -/
structure Nd where
  nm : Str
  up : Option Str
  b : Int
  rs : List Int
  f : Int
def upP : Option Str → PV
  | none => .non
  | some x => .str x
@[simp] theorem upP_flat (u : Option Str) : (upP u).flat = true := by cases u <;> rfl
def Nd.p (n : Nd) : PV := .tup [.str n.nm, upP n.up, .int n.b, .tup (n.rs.map PV.int), .int n.f]
@[simp] theorem ints_flat (xs : List Int) : PV.flats (xs.map PV.int) = true := by rw [flats_map]; simp [PV.flat]
@[simp] theorem Nd_flat (n : Nd) : n.p.flat = true := by simp [Nd.p, PV.flat, PV.flats]
def Nd.cup (n : Nd) : Cup := ⟨n.b, n.rs, n.f⟩
def trP (t : List Nd) : PV := .tup (t.map Nd.p)
def nms (t : List Nd) : List Str := t.map (·.nm)
structure TrOk (t : List Nd) : Prop where
  n : t.length ≤ 6
  nd : (nms t).Nodup
  nm : ∀ n ∈ t, NameOk n.nm
  cup : ∀ n ∈ t, n.cup.Ok
  per : ∃ s : Nat, ∀ n ∈ t, n.rs.length = s
  up : ∀ (i : Nat) (n : Nd), t[i]? = some n → if i = 0 then n.up = none else ∃ (j : Nat) (m : Nd), j < i ∧ t[j]? = some m ∧ n.up = some m.nm
section
variable {k : Nat} {E : PX → Prop} {Q : PV → List PV → Bool → Prop}
theorem oneL {ps : List PV} (h0 : 0 < ps.length ∧ ps.length < 1073741824) (h : ∀ p ∈ ps, Q p [] false) : pCall T G IO S (k + 2) "_law_one" [.pool, .lst ps] E Q := by
  refine v__law_one ?_
  unfold b__law_one
  ac_rfl
  refine draw (by omega) fun r r0 r1 => ?_
  have e : ps[r.toNat]? = some (ps[r.toNat]'(by omega)) := List.getElem?_eq_getElem (by omega)
  refine x_subL (atI_of r0 e) ?_
  exact h _ (List.mem_of_getElem? e)
theorem tree {most high : Int} (hm : 1 ≤ most ∧ most ≤ 6) (hh : 1 ≤ high ∧ high ≤ 99) (h : ∀ t : List Nd, TrOk t → 1 ≤ t.length → (∀ n ∈ t, n.b ≤ high ∧ n.f ≤ high ∧ ∀ x ∈ n.rs, x ≤ high) → Q (trP t) [] false) : pCall T G IO S (k + 5) "_law_tree" [.pool, .int most, .int high] E Q := by
  refine v__law_tree ?_
  unfold b__law_tree
  ac_rfl
  refine draw (by omega) fun s s0 s1 => ?_
  ac_rfl
  refine draw (by omega) fun w w0 w1 => ?_
  ac_rfl
  refine draw (by omega) fun r r0 r1 => ?_
  ac_rfl
  refine pFor_inv (fun i env => ∃ (t : List Nd) (s7 s8 s9 : Sl), env = [.fz .pool, .fz (.int most), .fz (.int high), .fz (.int (1 + s)), .fz (.int w), .ow none (.lst (t.map Nd.p)), .ow none (.lst ((nms t).map PV.str)), s7, s8, s9] ∧ TrOk t ∧ t.length = i ∧ i ≤ (1 + r).toNat ∧ (∀ n ∈ t, n.b ≤ high ∧ n.f ≤ high ∧ ∀ x ∈ n.rs, x ≤ high) ∧ (∀ n ∈ t, n.rs.length = (1 + s).toNat)) ?_ ?_ ?_
  · exact ⟨[], _, _, _, rfl, ⟨by simp, by simp [nms], by simp, by simp, ⟨0, by simp⟩, by simp⟩, rfl, Nat.zero_le _, by simp, by simp⟩
  · rintro i p _ K hp ⟨t, s7, s8, s9, rfl, ok, hl, hi, hb, hs⟩ hK
    obtain ⟨hlt, rfl⟩ := rangeP_at hp
    have hln : (nms t).length = t.length := by simp [nms]
    have h6 := ok.n
    refine p_bkP ?_
    refine p_nm ?_
    refine p_sscons ?_
    refine q_asg0 (by with_unfolding_all rfl) (by with_unfolding_all rfl) (by intro _; with_unfolding_all rfl) ?_
    refine p_non ?_
    refine p_cut (fun env => ∃ u : Option Str, env = [.fz .pool, .fz (.int most), .fz (.int high), .fz (.int (1 + s)), .fz (.int w), .ow none (.lst (t.map Nd.p)), .ow none (.lst ((nms t).map PV.str)), .fz (.int (0 + (i : Int))), .fz (upP u), s9] ∧ if i = 0 then u = none else ∃ (j : Nat) (m : Nd), j < i ∧ t[j]? = some m ∧ u = some m.nm) ?_ ?_
    · intro N' hN
      have pick : ∀ x, x ∈ nms t → 0 < i → N' [.fz .pool, .fz (.int most), .fz (.int high), .fz (.int (1 + s)), .fz (.int w), .ow none (.lst (t.map Nd.p)), .ow none (.lst ((nms t).map PV.str)), .fz (.int (0 + (i : Int))), .fz (.str x), s9] := by
        intro x hx h0
        refine hN _ ⟨some x, rfl, ?_⟩
        rw [if_neg (by omega)]
        obtain ⟨m, hm, rfl⟩ := List.mem_map.mp hx
        obtain ⟨j, hj, e⟩ := List.mem_iff_getElem.mp hm
        exact ⟨j, m, by omega, by rw [List.getElem?_eq_getElem hj, e], rfl⟩
      ac_rfl
      · have e : (nms t)[0]? = some ((nms t)[0]'(by omega)) := List.getElem?_eq_getElem (by omega)
        refine x_subL (atI_of (by omega) (by rw [List.getElem?_map]; show Option.map _ (nms t)[0]? = _; rw [e]; rfl)) ?_
        ac_rfl
        exact pick _ (List.getElem_mem _) (by omega)
      · obtain ⟨x, hx, e⟩ := last_at PV.str (xs := nms t) (by omega)
        refine x_subL e ?_
        ac_rfl
        exact pick _ hx (by omega)
      · refine oneL (by rw [List.length_map]; omega) fun p hp => ?_
        obtain ⟨x, hx, rfl⟩ := List.mem_map.mp hp
        ac_rfl
        exact pick x hx (by omega)
      · refine hN _ ⟨none, rfl, ?_⟩
        rw [if_pos (by omega)]
    · rintro _ ⟨u, rfl, hu⟩
      ac_rfl
      refine bucket hh (by omega) fun c cok hc cb cf cr => ?_
      ac_rfl
      refine name (by omega) fun x xok xn => ?_
      ac_rfl
      refine x_subL atI_last ?_
      ac_rfl
      refine hK _ ⟨t ++ [⟨x, u, c.b, c.rs, c.f⟩], .fz (.int (0 + (i : Int))), .fz (upP u), .fz c.p, ?_, ⟨by simp; omega, ?_, ?_, ?_, ⟨(1 + s).toNat, ?_⟩, ?_⟩, by simp [hl], by omega, ?_, ?_⟩
      · have e1 : nms (t ++ [(⟨x, u, c.b, c.rs, c.f⟩ : Nd)]) = nms t ++ [x] := by simp [nms]
        rw [e1, List.map_append, List.map_append]
        rfl
      · have e1 : nms (t ++ [(⟨x, u, c.b, c.rs, c.f⟩ : Nd)]) = nms t ++ [x] := by simp [nms]
        rw [e1, List.nodup_append]
        exact ⟨ok.nd, by simp, fun a ha b hb => by
          have : b = x := by simpa using hb
          subst this
          intro z
          subst z
          exact xn ha⟩
      · intro n hn
        rcases List.mem_append.mp hn with hn | hn
        · exact ok.nm n hn
        · cases List.mem_singleton.mp hn
          exact xok
      · intro n hn
        rcases List.mem_append.mp hn with hn | hn
        · exact ok.cup n hn
        · cases List.mem_singleton.mp hn
          exact cok
      · intro n hn
        rcases List.mem_append.mp hn with hn | hn
        · exact hs n hn
        · cases List.mem_singleton.mp hn
          exact hc
      · intro m n e
        by_cases q : m < t.length
        · rw [List.getElem?_append_left q] at e
          have := ok.up m n e
          split
          · rename_i z
            rw [if_pos z] at this
            exact this
          · rename_i z
            rw [if_neg z] at this
            obtain ⟨j, n', h1, h2, h3⟩ := this
            exact ⟨j, n', h1, by rw [List.getElem?_append_left (by omega)]; exact h2, h3⟩
        · have hlt' := (List.getElem?_eq_some_iff.mp e).1
          simp at hlt'
          have hm : m = t.length := by omega
          subst hm
          rw [List.getElem?_append_right (Nat.le_refl _)] at e
          simp at e
          subst e
          rw [hl]
          split
          · rename_i z
            rw [if_pos z] at hu
            exact hu
          · rename_i z
            rw [if_neg z] at hu
            obtain ⟨j, n', h1, h2, h3⟩ := hu
            exact ⟨j, n', h1, by rw [List.getElem?_append_left (by omega)]; exact h2, h3⟩
      · intro n hn
        rcases List.mem_append.mp hn with hn | hn
        · exact hb n hn
        · cases List.mem_singleton.mp hn
          exact ⟨cb, cf, cr⟩
      · intro n hn
        rcases List.mem_append.mp hn with hn | hn
        · exact hs n hn
        · cases List.mem_singleton.mp hn
          exact hc
  · rintro _ ⟨t, s7, s8, s9, rfl, ok, hl, hi, hb, hs⟩
    rw [rangeP_len] at hl
    ac_rfl
    exact h t ok (by omega) hb
end

/-! things of any kind: what numbers, refills, buckets, names, nodes, trees are -/
mutual
def gd : PV → Bool
  | .pool => false
  | .fn _ => false
  | .itm _ => false
  | .str x => decide (x.length ≤ 4000)
  | .tup ps => gds ps
  | .lst ps => gds ps
  | _ => true
def gds : List PV → Bool
  | [] => true
  | p :: ps => gd p && gds ps
end
theorem gds_all : ∀ ps : List PV, gds ps = true ↔ ∀ p ∈ ps, gd p = true
  | [] => by simp [gds]
  | p :: ps => by simp [gds, gds_all ps]
theorem gd_tup {ps : List PV} : gd (.tup ps) = true ↔ ∀ p ∈ ps, gd p = true := by
  rw [← gds_all]
  unfold gd
  exact Iff.rfl
def natB : PV → Bool
  | .int i => decide (0 ≤ i)
  | _ => false
def numB (m : Int) : PV → Bool
  | .int i => decide (0 ≤ i) && decide (i ≤ m)
  | _ => false
def refB (m : Int) : PV → Bool
  | .tup ps => (decide (1 ≤ ps.length) && decide (ps.length ≤ 4)) && ps.all (numB m)
  | _ => false
def cupB : PV → Bool
  | .tup [b, rs, f] => numB 99 b && (refB 99 rs && numB 99 f)
  | _ => false
def nameB : PV → Bool
  | .str x => (decide (1 ≤ x.length) && decide (x.length ≤ 8)) && x.cps.toList.all (fun c => subStr ⟨#[c]⟩ "abcdefghijklmnopqrstuvwxyz")
  | _ => false
def nodeB : PV → Bool
  | .tup [n, _, b, r, f] => nameB n && cupB (.tup [b, r, f])
  | _ => false
theorem cls_int {p : PV} (hp : gd p = true) : (∃ i, p = .int i) ∨ (isiP .int p = some true ∧ isiP .bool p = some true ∧ natB p = false ∧ ∀ m, numB m p = false) ∨ (isiP .int p = some false ∧ natB p = false ∧ ∀ m, numB m p = false) := by
  cases p with
  | int i => exact .inl ⟨i, rfl⟩
  | bl b => exact .inr (.inl ⟨rfl, rfl, rfl, fun _ => rfl⟩)
  | pool => cases hp
  | fn x => cases hp
  | itm x => cases hp
  | _ => exact .inr (.inr ⟨rfl, rfl, fun _ => rfl⟩)
theorem cls_tup {p : PV} (hp : gd p = true) : (∃ ps, p = .tup ps) ∨ (isiP .tuple p = some false ∧ (∀ m, refB m p = false) ∧ cupB p = false ∧ nodeB p = false) := by
  cases p with
  | tup ps => exact .inl ⟨ps, rfl⟩
  | pool => cases hp
  | fn x => cases hp
  | itm x => cases hp
  | _ => exact .inr ⟨rfl, fun _ => rfl, rfl, rfl⟩
theorem cls_str {p : PV} (hp : gd p = true) : (∃ x, p = .str x ∧ x.length ≤ 4000) ∨ (isiP .str p = some false ∧ nameB p = false) := by
  cases p with
  | str x => exact .inl ⟨x, rfl, by simpa [gd] using hp⟩
  | pool => cases hp
  | fn x => cases hp
  | itm x => cases hp
  | _ => exact .inr ⟨rfl, rfl⟩
theorem x_opt {α : Type} {x : Option α} {r : α} {K : α → Prop} (e : x = some r) (h : K r) : ∃ r, x = some r ∧ K r := ⟨r, e, h⟩
theorem lpE {f : PV → (Option PV → Prop) → Prop} {QQ : List PV → Prop} (xs : List PV) (h : PV → PV) (hn : xs.length ≤ sizeLine) (step : ∀ x ∈ xs, ∀ K : Option PV → Prop, K (some (h x)) → f x K) (fin : QQ (xs.map h)) : pLc f xs [] QQ := by
  have := lpF (f := f) (QQ := QQ) xs id h hn step fin
  rw [List.map_id] at this
  exact this
section
variable {k : Nat} {E : PX → Prop} {Q : PV → List PV → Bool → Prop}
theorem num_any {p : PV} (hp : gd p = true) (h : Q (.bl (natB p)) [] false) : pCall T G IO S (k + 1) "is_number" [p] E Q := by
  refine v_is_number ?_
  unfold b_is_number
  rcases cls_int hp with ⟨i, rfl⟩ | ⟨e1, e2, e3, _⟩ | ⟨e1, e3, _⟩
  · ac_rfl
    exact h
  · rw [e3] at h
    ac_rfl
    refine x_opt e1 ?_
    ac_rfl
    refine x_opt e2 ?_
    ac_rfl
    exact h
  · rw [e3] at h
    ac_rfl
    refine x_opt e1 ?_
    ac_rfl
    exact h
theorem upto_any {p : PV} {m : Int} (hp : gd p = true) (h : Q (.bl (numB m p)) [] false) : pCall T G IO S (k + 2) "is_up_to" [p, .int m] E Q := by
  refine v_is_up_to ?_
  unfold b_is_up_to
  ac_rfl
  refine num_any hp ?_
  rcases cls_int hp with ⟨i, rfl⟩ | ⟨e1, e2, e3, e4⟩ | ⟨e1, e3, e4⟩
  · ac_rfl
    refine x_ifB (c := decide (0 ≤ i)) (fun c => ?_) (fun c => ?_)
    · ac_rfl
      have : numB m (.int i) = decide (i ≤ m) := by
        show (decide (0 ≤ i) && decide (i ≤ m)) = _
        rw [c, Bool.true_and]
      rw [this] at h
      exact h
    · have : numB m (.int i) = false := by
        show (decide (0 ≤ i) && decide (i ≤ m)) = _
        rw [c, Bool.false_and]
      rw [this] at h
      exact h
  · rw [e3]
    rw [e4] at h
    ac_rfl
    exact h
  · rw [e3]
    rw [e4] at h
    ac_rfl
    exact h
theorem refills_any {p : PV} {m : Int} (hp : gd p = true) (h : Q (.bl (refB m p)) [] false) : pCall T G IO S (k + 3) "are_refills" [p, .int m] E Q := by
  refine v_are_refills ?_
  unfold b_are_refills
  rcases cls_tup hp with ⟨ps, rfl⟩ | ⟨e1, e2, e3, e4⟩
  · have hps := gd_tup.mp hp
    by_cases c1 : 1 ≤ ps.length
    · by_cases c2 : ps.length ≤ 4
      · ac_rfl
        refine lpE ps (fun p => .bl (numB m p)) (by simp only [sizeLine]; omega) (fun p hp K hK => ?_) ?_
        · ac_rfl
          refine upto_any (hps p hp) ?_
          exact hK
        · ac_rfl
          have : refB m (.tup ps) = ps.all (numB m) := by
            show ((decide (1 ≤ ps.length) && decide (ps.length ≤ 4)) && ps.all (numB m)) = _
            rw [decide_eq_true c1, decide_eq_true c2]
            rfl
          rw [this] at h
          exact h
      · have : refB m (.tup ps) = false := by
          show ((decide (1 ≤ ps.length) && decide (ps.length ≤ 4)) && ps.all (numB m)) = _
          rw [decide_eq_false c2, Bool.and_false, Bool.false_and]
        rw [this] at h
        ac_rfl
        exact h
    · have : refB m (.tup ps) = false := by
        show ((decide (1 ≤ ps.length) && decide (ps.length ≤ 4)) && ps.all (numB m)) = _
        rw [decide_eq_false c1, Bool.false_and, Bool.false_and]
      rw [this] at h
      ac_rfl
      exact h
  · rw [e2] at h
    ac_rfl
    refine x_opt e1 ?_
    ac_rfl
    exact h
theorem cup_any {p : PV} (hp : gd p = true) (h : Q (.bl (cupB p)) [] false) : pCall T G IO S (k + 4) "is_bucket_by" [p] E Q := by
  refine v_is_bucket_by ?_
  unfold b_is_bucket_by
  rcases cls_tup hp with ⟨ps, rfl⟩ | ⟨e1, e2, e3, e4⟩
  · have hps := gd_tup.mp hp
    by_cases c : ps.length = 3
    · match ps, c with
      | [b, rs, f], _ =>
        ac_rfl
        refine upto_any (hps b (by simp)) ?_
        rw [show cupB (.tup [b, rs, f]) = (numB 99 b && (refB 99 rs && numB 99 f)) from rfl] at h
        ac_rfl
        refine x_ifB (fun c => ?_) (fun c => ?_)
        · rw [c, Bool.true_and] at h
          ac_rfl
          refine refills_any (hps rs (by simp)) ?_
          ac_rfl
          refine x_ifB (fun c => ?_) (fun c => ?_)
          · rw [c, Bool.true_and] at h
            ac_rfl
            refine upto_any (hps f (by simp)) ?_
            exact h
          · rw [c, Bool.false_and] at h
            exact h
        · rw [c, Bool.false_and] at h
          exact h
    · have : cupB (.tup ps) = false := by
        unfold cupB
        split
        · rename_i e
          cases e
          exact absurd rfl c
        · rfl
      rw [this] at h
      ac_rfl
      exact h
  · rw [e3] at h
    ac_rfl
    refine x_opt e1 ?_
    ac_rfl
    exact h
end

/-! buckets and trees with one thing otherwise -/
def tl : PV → Bool
  | .tup ps => decide (ps.length ≤ 100)
  | .lst ps => decide (ps.length ≤ 100)
  | _ => false
theorem gds_app : ∀ (xs ys : List PV), gds (xs ++ ys) = (gds xs && gds ys)
  | [], _ => by simp [gds]
  | x :: xs, ys => by simp [gds, gds_app xs ys, Bool.and_assoc]
theorem gds_mem {xs : List PV} : gds xs = true ↔ ∀ p ∈ xs, gd p = true := gds_all xs
@[simp] theorem gds_ints (rs : List Int) : gds (rs.map PV.int) = true := gds_mem.mpr fun p hp => by
  obtain ⟨x, _, rfl⟩ := List.mem_map.mp hp
  rfl
theorem gds_cut {xs : List PV} (h : gds xs = true) (lo hi : Option Int) : gds (cut xs lo hi) = true := gds_mem.mpr fun p hp => gds_mem.mp h p (List.mem_of_mem_drop (List.mem_of_mem_take hp))
theorem gds_rev {xs : List PV} (h : gds xs = true) : gds xs.reverse = true := gds_mem.mpr fun p hp => gds_mem.mp h p (List.mem_reverse.mp hp)
@[simp] theorem flats_cut2 {xs : List PV} {lo hi : Option Int} (h : PV.flats xs = true) : PV.flats (cut xs lo hi) = true := by
  have key : ∀ xs : List PV, PV.flats xs = true ↔ ∀ p ∈ xs, p.flat = true := by
    intro xs
    induction xs with
    | nil => simp [PV.flats]
    | cons x xs ih => simp [PV.flats, ih]
  rw [key] at h ⊢
  exact fun p hp => h p (List.mem_of_mem_drop (List.mem_of_mem_take hp))
theorem gds_rep (k : Nat) : gds (List.replicate k [PV.int 1]).flatten = true := gds_mem.mpr fun p hp => by
  obtain ⟨l, hl, hp⟩ := List.mem_flatten.mp hp
  rw [List.eq_of_mem_replicate hl] at hp
  cases List.mem_singleton.mp hp
  rfl
@[simp] theorem gds_cut_ints (rs : List Int) (lo hi : Option Int) : gds (cut (rs.map PV.int) lo hi) = true := gds_cut (gds_ints rs) lo hi
theorem gds_rep1 (k : Nat) : gds (List.replicate k (PV.int 1)) = true := gds_mem.mpr fun p hp => by
  rw [List.eq_of_mem_replicate hp]
  rfl
theorem cut_len {α : Type} (xs : List α) (lo hi : Option Int) : (cut xs lo hi).length ≤ xs.length := by
  unfold cut
  rw [List.length_take, List.length_drop]
  omega
theorem cut_le {xs : List PV} {lo hi : Option Int} (h : xs.length ≤ 100) : (cut xs lo hi).length ≤ 100 := Nat.le_trans (cut_len _ _ _) h
theorem gd_str {x : Str} (h : x.length ≤ 4000) : gd (.str x) = true := decide_eq_true h
def good (xs : List PV) : Bool := xs.all fun p => gd p && tl p
theorem good_iff {xs : List PV} : good xs = true ↔ ∀ p ∈ xs, gd p = true ∧ tl p = true := by simp [good]
theorem good_app (xs ys : List PV) : good (xs ++ ys) = (good xs && good ys) := by simp [good]
theorem good_cons (x : PV) (xs : List PV) : good (x :: xs) = ((gd x && tl x) && good xs) := by simp [good]
theorem good_nil : good [] = true := rfl
theorem gds_cut2 {xs : List PV} {lo hi : Option Int} (h : gds xs = true) : gds (cut xs lo hi) = true := gds_cut h lo hi
theorem gds_rev2 {xs : List PV} (h : gds xs = true) : gds xs.reverse = true := gds_rev h
section
variable {k : Nat} {E : PX → Prop} {Q : PV → List PV → Bool → Prop}
theorem bent_cup {c : Cup} (ok : c.Ok) (h : ∀ xs : List PV, (∀ p ∈ xs, gd p = true ∧ tl p = true) → xs.length ≤ 60 → Q (.lst xs) [] true) : pCall T G IO S (k + 4) "_law_bent_cup" [.pool, c.p] E Q := by
  have n1 := ok.n
  have hl : ((c.rs.map PV.int).length : Int) = c.rs.length := by rw [List.length_map]
  obtain ⟨r0, hr0⟩ : ∃ r, c.rs[0]? = some r := ⟨_, List.getElem?_eq_getElem (by omega)⟩
  refine v__law_bent_cup ?_
  unfold b__law_bent_cup Cup.p
  ac_rfl
  refine draw (by omega) fun r r0 r1 => ?_
  ac_rfl
  have hrep : ∀ n : Nat, (List.replicate n [PV.int 1]).flatten.length = n := fun n => by simp
  refine x_addT ?_ (by rw [hrep, hl]; simp only [sizeLine]; omega)
  ac_rfl
  refine x_subT (atI_of (by omega) (by rw [List.getElem?_map]; show Option.map PV.int c.rs[0]? = _; rw [hr0]; rfl)) ?_
  ac_rfl
  refine pFor_inv (fun i env => ∃ (xs : List PV) (s4 : Sl), env = [.fz .pool, .fz c.p, .fz (.int r), .ow none (.lst xs), s4] ∧ (∀ p ∈ xs, gd p = true ∧ tl p = true) ∧ xs.length = 10 + 3 * i ∧ i ≤ 10) ?_ ?_ ?_
  · refine ⟨_, _, rfl, ?_, rfl, by omega⟩
    refine good_iff.mp ?_
    simp [good_app, good_cons, good_nil, gd, gds, tl, gds_app, gds_ints, gds_rep, gds_rep1, gds_cut2, cut_le]
  · rintro i p _ K hi ⟨xs, s4, rfl, hx, hn, hi10⟩ hK
    have hp : gd p = true := by
      have := List.mem_of_getElem? hi
      simp only [List.mem_cons, List.not_mem_nil, or_false] at this
      rcases this with rfl | rfl | rfl | rfl | rfl | rfl | rfl | rfl | rfl | rfl <;> rfl
    have hi9 : i < 10 := (List.getElem?_eq_some_iff.mp hi).1
    have hl2 : (cut (List.map PV.int c.rs) none (some r)).length ≤ 4 := Nat.le_trans (cut_len _ _ _) (by rw [List.length_map]; exact n1.2)
    have hl3 : (cut (List.map PV.int c.rs) (some (r + 1)) none).length ≤ 4 := Nat.le_trans (cut_len _ _ _) (by rw [List.length_map]; exact n1.2)
    have hz : sizeLine = 16777216 := rfl
    ac_rfl
    refine hK _ ⟨_, _, rfl, ?_, by simp only [List.length_append, List.length_cons, List.length_nil]; omega, by omega⟩
    refine good_iff.mp ?_
    rw [good_app, good_iff.mpr hx]
    simp [good_cons, good_nil, gd, gds, tl, gds_app, gds_ints, gds_cut2, hp, cut_le]
  · rintro _ ⟨xs, s4, rfl, hx, hn, hi⟩
    ac_rfl
    exact h xs hx (by omega)
end
section
variable {k : Nat} {E : PX → Prop} {Q : PV → List PV → Bool → Prop}
theorem upP_gd {u : Option Str} (h : ∀ x, u = some x → x.length ≤ 8) : gd (upP u) = true := by
  cases u with
  | none => rfl
  | some x => exact decide_eq_true (show x.length ≤ 4000 by have := h x rfl; omega)
theorem nd_gd {n : Nd} (h1 : n.nm.length ≤ 8) (h : ∀ x, n.up = some x → x.length ≤ 8) : gd n.p = true := by
  unfold Nd.p
  rw [gd_tup]
  intro p hp
  simp only [List.mem_cons, List.not_mem_nil, or_false] at hp
  rcases hp with rfl | rfl | rfl | rfl | rfl
  · exact decide_eq_true (show n.nm.length ≤ 4000 by omega)
  · exact upP_gd h
  · rfl
  · unfold gd
    exact gds_ints _
  · rfl
theorem tr_gd {t : List Nd} (ok : TrOk t) : ∀ n ∈ t, gd n.p = true := fun n hn => by
  refine nd_gd (ok.nm n hn).1.2 fun x hx => ?_
  obtain ⟨i, hi, e⟩ := List.mem_iff_getElem.mp hn
  have := ok.up i n (by rw [List.getElem?_eq_getElem hi, e])
  split at this
  · rw [this] at hx
    cases hx
  · obtain ⟨j, m, _, h2, h3⟩ := this
    rw [h3] at hx
    cases hx
    exact (ok.nm m (List.mem_of_getElem? h2)).1.2
def pl (s : Sl) : Prop := s = .no ∨ ∃ q, s = .fz q
theorem gd_snoc {xs : List PV} {p : PV} (h : ∀ q ∈ xs, gd q = true) (hp : gd p = true) : ∀ q ∈ xs ++ [p], gd q = true := fun q hq => by
  rcases List.mem_append.mp hq with hq | hq
  · exact h q hq
  · cases List.mem_singleton.mp hq
    exact hp
theorem str_app (x y : Str) : (x ++ y).length = x.length + y.length := by
  show (x.cps ++ y.cps).size = _
  rw [Array.size_append]
  rfl
theorem bent_plan {t : List Nd} (ok : TrOk t) (h1 : 1 ≤ t.length) (h : ∀ xs : List PV, (∀ p ∈ xs, gd p = true) → xs.length ≤ 1000 → Q (.lst xs) [] true) : pCall T G IO S (k + 5) "_law_bent_plan" [.pool, trP t] E Q := by
  have n6 := ok.n
  have hl : ((t.map Nd.p).length : Int) = t.length := by rw [List.length_map]
  have hz : sizeLine = 16777216 := rfl
  refine v__law_bent_plan ?_
  unfold b__law_bent_plan trP
  ac_rfl
  refine draw (by omega) fun r r0 r1 => ?_
  obtain ⟨n, hn⟩ : ∃ n, t[r.toNat]? = some n := ⟨_, List.getElem?_eq_getElem (by omega)⟩
  have hnm := List.mem_of_getElem? hn
  ac_rfl
  refine x_subT (atI_of r0 (by rw [List.getElem?_map, hn]; rfl)) ?_
  ac_rfl
  refine lpF t Nd.p (fun n => .str n.nm) (by omega) (fun n hn K hK => ?_) ?_
  · unfold Nd.p
    ac_rfl
    exact hK
  have hc : ∀ (lo hi : Option Int), (cut (t.map Nd.p) lo hi).length ≤ 6 := fun lo hi => Nat.le_trans (cut_len _ _ _) (by rw [List.length_map]; exact n6)
  have hc1 := hc none (some r)
  have hc2 := hc (some (r + 1)) none
  have hga := tr_gd ok
  have hgt : gds (t.map Nd.p) = true := gds_mem.mpr fun p hp => by
    obtain ⟨m, hm, rfl⟩ := List.mem_map.mp hp
    exact hga m hm
  obtain ⟨n0, hn0⟩ : ∃ n, t[0]? = some n := ⟨_, List.getElem?_eq_getElem (by omega)⟩
  have hn0m := List.mem_of_getElem? hn0
  have ln0 := (ok.nm n0 hn0m).1
  have lnn := (ok.nm n hnm).1
  have hgu : gd (upP n.up) = true := by
    have := gd_tup.mp (hga n hnm) (upP n.up) (by simp)
    exact this
  have hgnm : n.nm.length ≤ 4000 := by omega
  have hnp : n.p = .tup [.str n.nm, upP n.up, .int n.b, .tup (n.rs.map PV.int), .int n.f] := rfl
  have e00 : ((nms t).map PV.str)[0]? = some (.str n0.nm) := by unfold nms; rw [List.getElem?_map, List.getElem?_map, hn0]; rfl
  have enm : (t.map fun n => PV.str n.nm) = (nms t).map PV.str := by unfold nms; rw [List.map_map]; rfl
  rw [enm]
  ac_rfl
  refine pFor_inv (fun i env => ∃ (w : List Nd) (ys : List PV) (s8 : Sl), pl s8 ∧ env = [.fz .pool, .fz (.tup (t.map Nd.p)), .fz (.int r), .fz n.p, .ow none (.lst ((nms t).map PV.str)), .no, .ow none (.lst ys), .fz (.tup (w.map Nd.p)), s8, .no, .no, .no, .no, .no] ∧ (∀ p ∈ ys, gd p = true) ∧ ys.length ≤ 8 + i ∧ i ≤ 7 ∧ (∀ m ∈ w, gd m.p = true) ∧ w.length = t.length + i) ?_ ?_ ?_
  · refine ⟨t, _, _, .inl rfl, rfl, ?_, by simp, by omega, hga, rfl⟩
    refine gds_mem.mp ?_
    have g1 := gds_cut hgt none (some r)
    have g2 := gds_cut hgt (some (r + 1)) none
    have g3 := gds_cut hgt (some 1) none
    have g4 := gds_rev hgt
    have g5 := hga n hnm
    simp [gd, gds, gds_app, hgt, g1, g2, g3, g4, g5]
  · rintro i p _ K hi ⟨w, ys, s8, h8, rfl, hy, hyl, hi7, hw, hwl⟩ hK
    obtain ⟨hlt, rfl⟩ := rangeP_at hi
    have ewm : (w.map fun n => PV.str n.nm) = (nms w).map PV.str := by unfold nms; rw [List.map_map]; rfl
    have hwl2 : (w.map Nd.p).length = t.length + i := by rw [List.length_map]; exact hwl
    refine p_bkP ?_
    refine p_nm ?_
    refine p_sscons ?_
    refine p_asgB ?_
    ac_rfl
    refine lpF w Nd.p (fun n => .str n.nm) (by omega) (fun n hn K hK => ?_) ?_
    · unfold Nd.p
      ac_rfl
      exact hK
    rw [ewm]
    ac_rfl
    refine name (used := nms w) (by unfold nms; rw [List.length_map]; omega) fun x xok xn => ?_
    ac_rfl
    refine x_subL (atI_of (by omega) e00) ?_
    ac_rfl
    refine x_subT (atI_of (by omega) (by rw [List.getElem?_map]; show Option.map Nd.p t[0]? = _; rw [hn0]; rfl)) ?_
    have e5 : w.map Nd.p ++ [.tup ([.str x, .str n0.nm] ++ [.int n0.b, .tup (n0.rs.map PV.int), .int n0.f])] = (w ++ [(⟨x, some n0.nm, n0.b, n0.rs, n0.f⟩ : Nd)]).map Nd.p := by
      rw [List.map_append]
      rfl
    have hnew : gd (Nd.p ⟨x, some n0.nm, n0.b, n0.rs, n0.f⟩) = true := nd_gd xok.1.2 fun y hy => by
      cases hy
      exact ln0.2
    have hw' : ∀ m ∈ w ++ [(⟨x, some n0.nm, n0.b, n0.rs, n0.f⟩ : Nd)], gd m.p = true := fun m hm => by
      rcases List.mem_append.mp hm with hm | hm
      · exact hw m hm
      · cases List.mem_singleton.mp hm
        exact hnew
    have hgw : gd (.tup ((w ++ [(⟨x, some n0.nm, n0.b, n0.rs, n0.f⟩ : Nd)]).map Nd.p)) = true := gd_tup.mpr fun p hp => by
      obtain ⟨m, hm, rfl⟩ := List.mem_map.mp hp
      exact hw' m hm
    ac_rfl
    · refine hK _ ⟨w ++ [(⟨x, some n0.nm, n0.b, n0.rs, n0.f⟩ : Nd)], ys ++ [.tup ((w ++ [(⟨x, some n0.nm, n0.b, n0.rs, n0.f⟩ : Nd)]).map Nd.p)], _, .inr ⟨_, rfl⟩, by rw [← e5]; rfl, fun p hp => ?_, by simp; omega, by omega, hw', by simp [hwl]; omega⟩
      rcases List.mem_append.mp hp with hp | hp
      · exact hy p hp
      · cases List.mem_singleton.mp hp
        exact hgw
    · exact hK _ ⟨w ++ [(⟨x, some n0.nm, n0.b, n0.rs, n0.f⟩ : Nd)], ys, _, .inr ⟨_, rfl⟩, by rw [← e5]; rfl, hy, by omega, by omega, hw', by simp [hwl]; omega⟩
  · rintro _ ⟨w, ys, s8, h8, rfl, hy, hyl, hi7, hw, hwl⟩
    clear hw hwl
    ac_rfl
    refine name (used := nms t) (by unfold nms; rw [List.length_map]; omega) fun x xok xn => ?_
    have hx := xok.1
    have hz8 : (repS (Str.ofString "z") (Int.toNat 8)).length = 8 := by decide +kernel
    have hz7 : (repS (Str.ofString "z") (Int.toNat 7)).length = 7 := by decide +kernel
    have hnl : (Str.ofString "\n").length = 1 := by decide +kernel
    have hcs : (L2.cutS x none (some 1)).length ≤ x.length := L2.cutS_length x none (some 1)
    rw [hnp]
    ac_rfl
    refine x_subL (atI_of (by omega) e00) ?_
    ac_rfl
    refine pFor_inv (fun i env => ∃ (zs : List PV) (s11 : Sl), pl s11 ∧ env = [.fz .pool, .fz (.tup (t.map Nd.p)), .fz (.int r), .fz n.p, .ow none (.lst ((nms t).map PV.str)), .no, .ow none (.lst ys), .fz (.tup (w.map Nd.p)), s8, .fz (.str x), .ow none (.lst zs), s11, .no, .no] ∧ (∀ p ∈ zs, gd p = true) ∧ zs.length = 6 + i) ?_ ?_ ?_
    · refine ⟨_, _, .inl rfl, rfl, ?_, rfl⟩
      refine gds_mem.mp ?_
      simp [gd, gds, gds_app, gds_ints, gds_cut2, hgu, hgnm]
    · rintro i p _ K hi ⟨zs, s11, h11, rfl, hzs, hzl⟩ hK
      have hp : gd p = true := by
        have := List.mem_of_getElem? hi
        simp only [List.mem_cons, List.not_mem_nil, or_false] at this
        rcases this with rfl | rfl | rfl | rfl | rfl | rfl | rfl | rfl | rfl | rfl | rfl | rfl | rfl | rfl <;> first | rfl | exact gd_str (by rw [str_app]; omega) | exact gd_str (by omega) | (simp [gd, gds]; omega)
      have hi14 : i < 14 := (List.getElem?_eq_some_iff.mp hi).1
      rw [hnp]
      ac_rfl
      refine hK _ ⟨_, _, .inr ⟨_, rfl⟩, rfl, gd_snoc hzs ?_, by rw [List.length_append, hzl]; rfl⟩
      simp [gd, gds, gds_app, gds_ints, gds_cut2, hgu, hgnm, hp]
    · rintro _ ⟨zs, s11, h11, rfl, hzs, hzl⟩
      have hzl' : zs.length = 20 := hzl
      have hzs' := hzs
      have hx8 : ∀ y ∈ nms t, y.length ≤ 8 := fun y hy => by
        obtain ⟨m, hm, rfl⟩ := List.mem_map.mp hy
        exact (ok.nm m hm).1.2
      obtain ⟨xl, hxl, el⟩ := last_at PV.str (xs := nms t) (by unfold nms; rw [List.length_map]; omega)
      have hxl8 := hx8 xl hxl
      rw [hnp]
      refine p_sscons ?_
      refine p_forD [4] ?_
      ac_rfl
      refine x_subL (atI_of (by omega) e00) ?_
      ac_rfl
      refine x_subL el ?_
      ac_rfl
      refine x_subL (atI_of (by omega) e00) ?_
      ac_rfl
      refine x_subL (atI_of (by omega) e00) ?_
      ac_rfl
      clear hzs hzl
      refine pFor_inv (fun i env => ∃ (zs : List PV) (s11 : Sl), pl s11 ∧ env = [.fz .pool, .fz (.tup (t.map Nd.p)), .fz (.int r), .fz n.p, .fz (.lst ((nms t).map PV.str)), .no, .ow none (.lst ys), .fz (.tup (w.map Nd.p)), s8, .fz (.str x), .ow none (.lst zs), s11, .no, .no] ∧ (∀ p ∈ zs, gd p = true) ∧ zs.length = 20 + i) ?_ ?_ ?_
      · exact ⟨_, s11, h11, by rcases h8 with rfl | ⟨_, rfl⟩ <;> rcases h11 with rfl | ⟨_, rfl⟩ <;> rfl, hzs', hzl'⟩
      · rintro i p _ K hi ⟨zs, s11, h11, rfl, hzs, hzl⟩ hK
        have hp : gd p = true := by
          have := List.mem_of_getElem? hi
          simp only [List.mem_cons, List.not_mem_nil, or_false] at this
          rcases this with rfl | rfl | rfl | rfl | rfl | rfl | rfl | rfl | rfl | rfl <;> first | rfl | exact gd_str (by omega) | (simp [gd, gds]; omega)
        have hi10 : i < 10 := (List.getElem?_eq_some_iff.mp hi).1
        rw [hnp]
        ac_rfl
        refine hK _ ⟨_, _, .inr ⟨_, rfl⟩, rfl, gd_snoc hzs ?_, by rw [List.length_append, hzl]; rfl⟩
        simp [gd, gds, gds_app, gds_ints, gds_cut2, hgu, hgnm, hp]
      · rintro _ ⟨zs, s11, h11, rfl, hzs, hzl⟩
        have hzl : zs.length = 30 := hzl
        rw [hnp]
        ac_rfl
        have hcu : ∀ (lo hi : Option Int), (cut [PV.str n.nm, upP n.up, .int n.b, .tup (n.rs.map PV.int), .int n.f] lo hi).length ≤ 5 := fun lo hi => cut_len _ _ _
        have hrn : (n.rs.map PV.int).length ≤ 4 := by
          rw [List.length_map]
          exact (ok.cup n hnm).n.2
        refine bent_cup (c := n.cup) (ok.cup n hnm) fun cs hcs hcl => ?_
        ac_rfl
        refine pFor_inv (fun i env => ∃ (zs : List PV) (s12 : Sl), env = [.fz .pool, .fz (.tup (t.map Nd.p)), .fz (.int r), .fz n.p, .fz (.lst ((nms t).map PV.str)), .no, .ow none (.lst ys), .fz (.tup (w.map Nd.p)), s8, .fz (.str x), .ow none (.lst zs), s11, s12, .no] ∧ (∀ p ∈ zs, gd p = true) ∧ zs.length = 30 + i) ?_ ?_ ?_
        · exact ⟨_, _, rfl, hzs, hzl⟩
        · rintro i p _ K hi ⟨zs, s12, rfl, hzs, hzl⟩ hK
          have hp := hcs p (List.mem_of_getElem? hi)
          have hq2 := hcu none (some 2)
          have hi60 : i < 60 := by have := (List.getElem?_eq_some_iff.mp hi).1; omega
          rw [hnp]
          cases p with
          | tup ps =>
            have hgp := hp.1
            have hpl : ps.length ≤ 100 := of_decide_eq_true hp.2
            ac_rfl
            refine hK _ ⟨_, _, rfl, gd_snoc hzs ?_, by rw [List.length_append, hzl]; rfl⟩
            have := gds_mem.mpr (gd_tup.mp hgp)
            simp [gd, gds, gds_app, gds_ints, gds_cut2, hgu, hgnm, this]
          | lst ps =>
            have hpl : ps.length ≤ 100 := of_decide_eq_true hp.2
            have hgp : ∀ p ∈ ps, gd p = true := gds_mem.mp hp.1
            ac_rfl
            refine hK _ ⟨_, _, rfl, gd_snoc hzs ?_, by rw [List.length_append, hzl]; rfl⟩
            have := gds_mem.mpr hgp
            simp [gd, gds, gds_app, gds_ints, gds_cut2, hgu, hgnm, this]
          | _ => cases hp.2
        · rintro _ ⟨zs, s12, rfl, hzs, hzl⟩
          have hq3 := hcu none (some 3)
          rw [hnp]
          ac_rfl
          rw [show ∀ (a b : PV), zs ++ [a] ++ [b] = zs ++ [a, b] by intro a b; simp]
          have hz2 : ∀ p ∈ zs ++ [PV.tup (cut [PV.str n.nm, upP n.up, .int n.b, .tup (n.rs.map PV.int), .int n.f] none (some 3) ++ [.tup (n.rs.map PV.int ++ [.int 1]), .int n.f]), PV.tup (cut [PV.str n.nm, upP n.up, .int n.b, .tup (n.rs.map PV.int), .int n.f] none (some 3) ++ [.tup (cut (n.rs.map PV.int) (some 1) none), .int n.f])], gd p = true := by
            refine gds_mem.mp ?_
            rw [gds_app, gds_mem.mpr hzs]
            simp [gd, gds, gds_app, gds_ints, gds_cut2, hgu, hgnm]
          refine lpE _ (fun p => .tup (cut (t.map Nd.p) none (some r) ++ [p] ++ cut (t.map Nd.p) (some (r + 1)) none)) (by simp only [List.length_append, List.length_cons, List.length_nil]; omega) (fun p hp K hK => ?_) ?_
          · ac_rfl
            exact hK
          · ac_rfl
            refine h _ (fun p hp => ?_) (by simp only [List.length_append, List.length_map, List.length_cons, List.length_nil]; omega)
            rcases List.mem_append.mp hp with hp | hp
            · exact hy p hp
            · obtain ⟨q, hq, rfl⟩ := List.mem_map.mp hp
              have g0 := hz2 q hq
              have g1 := gds_cut hgt none (some r)
              have g2 := gds_cut hgt (some (r + 1)) none
              simp [gd, gds, gds_app, g0, g1, g2]
end

/-! names, nodes, trees of anything -/
section
variable {k : Nat} {E : PX → Prop} {Q : PV → List PV → Bool → Prop}
theorem name_any {p : PV} (hp : gd p = true) (h : Q (.bl (nameB p)) [] false) : pCall T G IO S (k + 1) "is_name" [p] E Q := by
  refine v_is_name ?_
  unfold b_is_name
  rcases cls_str hp with ⟨x, rfl, hx⟩ | ⟨e1, e2⟩
  · by_cases c1 : 1 ≤ x.length
    · by_cases c2 : x.length ≤ 8
      · ac_rfl
        refine lpF x.cps.toList (fun c => PV.str ⟨#[c]⟩) (fun c => .bl (subStr ⟨#[c]⟩ "abcdefghijklmnopqrstuvwxyz")) (by have : x.cps.toList.length = x.length := rfl; simp only [sizeLine]; omega) (fun c hc K hK => ?_) ?_
        · ac_rfl
          exact hK
        · ac_rfl
          have : nameB (.str x) = x.cps.toList.all (fun c => subStr ⟨#[c]⟩ "abcdefghijklmnopqrstuvwxyz") := by
            show ((decide (1 ≤ x.length) && decide (x.length ≤ 8)) && _) = _
            rw [decide_eq_true c1, decide_eq_true c2]
            rfl
          rw [this] at h
          exact h
      · have : nameB (.str x) = false := by
          show ((decide (1 ≤ x.length) && decide (x.length ≤ 8)) && _) = _
          rw [decide_eq_false c2, Bool.and_false, Bool.false_and]
        rw [this] at h
        ac_rfl
        exact h
    · have : nameB (.str x) = false := by
        show ((decide (1 ≤ x.length) && decide (x.length ≤ 8)) && _) = _
        rw [decide_eq_false c1, Bool.false_and, Bool.false_and]
      rw [this] at h
      ac_rfl
      exact h
  · rw [e2] at h
    ac_rfl
    refine x_opt e1 ?_
    ac_rfl
    exact h
theorem node_any {p : PV} (hp : gd p = true) (h : Q (.bl (nodeB p)) [] false) : pCall T G IO S (k + 5) "is_node" [p] E Q := by
  refine v_is_node ?_
  unfold b_is_node
  rcases cls_tup hp with ⟨ps, rfl⟩ | ⟨e1, e2, e3, e4⟩
  · have hps := gd_tup.mp hp
    by_cases c : ps.length = 5
    · match ps, c with
      | [n, u, b, r, f], _ =>
        rw [show nodeB (.tup [n, u, b, r, f]) = (nameB n && cupB (.tup [b, r, f])) from rfl] at h
        ac_rfl
        refine name_any (hps n (by simp)) ?_
        ac_rfl
        refine x_ifB (fun c => ?_) (fun c => ?_)
        · rw [c, Bool.true_and] at h
          ac_rfl
          refine cup_any (p := .tup [b, r, f]) (gd_tup.mpr fun p hp => hps p ?_) ?_
          · rcases List.mem_cons.mp hp with rfl | hp
            · simp
            · rcases List.mem_cons.mp hp with rfl | hp
              · simp
              · cases List.mem_singleton.mp hp
                simp
          · exact h
        · rw [c, Bool.false_and] at h
          exact h
    · have : nodeB (.tup ps) = false := by
        unfold nodeB
        split
        · rename_i e
          cases e
          exact absurd rfl c
        · rfl
      rw [this] at h
      ac_rfl
      exact h
  · rw [e4] at h
    ac_rfl
    refine x_opt e1 ?_
    ac_rfl
    exact h
end
def parB (names : List Str) (p : PV) : Bool := match names with
  | [] => (match p with
    | .non => true
    | _ => false)
  | _ => (match p with
    | .str x => decide (x ∈ names)
    | _ => false)
def nmP : PV → Str
  | .tup (.str x :: _) => x
  | _ => ""
def upPv : PV → PV
  | .tup (_ :: u :: _) => u
  | _ => .non
def lenP : PV → Nat
  | .tup [_, _, _, .tup rs, _] => rs.length
  | _ => 0
def restB (L : Nat) : List Str → List PV → Bool
  | _, [] => true
  | names, p :: ps => (!decide (nmP p ∈ names) && (parB names (upPv p) && decide (lenP p = L))) && restB L (names ++ [nmP p]) ps
def goB (L : Nat) : List Str → List PV → Bool
  | _, [] => true
  | names, p :: ps => (nodeB p && (!decide (nmP p ∈ names) && (parB names (upPv p) && decide (lenP p = L)))) && goB L (names ++ [nmP p]) ps
theorem head0 {α : Type} {xs : List α} {x d : α} (h : xs[0]? = some x) : xs.headD d = x := by
  cases xs with
  | nil => cases h
  | cons a r => cases h; rfl
theorem rest_step {L : Nat} {names : List Str} {p : PV} {ps : List PV} : restB L names (p :: ps) = ((!decide (nmP p ∈ names) && (parB names (upPv p) && decide (lenP p = L))) && restB L (names ++ [nmP p]) ps) := rfl
theorem go_step {L : Nat} {names : List Str} {p : PV} {ps : List PV} : goB L names (p :: ps) = ((nodeB p && (!decide (nmP p ∈ names) && (parB names (upPv p) && decide (lenP p = L)))) && goB L (names ++ [nmP p]) ps) := rfl
theorem go_rest (L : Nat) : ∀ (ps : List PV) (names : List Str), goB L names ps = (ps.all nodeB && restB L names ps)
  | [], _ => rfl
  | p :: ps, names => by
    unfold goB restB
    rw [go_rest L ps, List.all_cons]
    cases nodeB p <;> cases (!decide (nmP p ∈ names) && (parB names (upPv p) && decide (lenP p = L))) <;> cases ps.all nodeB <;> cases restB L (names ++ [nmP p]) ps <;> rfl
def planB : PV → Bool
  | .tup ps => (decide (1 ≤ ps.length) && decide (ps.length ≤ 6)) && (ps.all nodeB && restB (lenP (ps.headD .non)) [] ps)
  | _ => false
theorem plan_go {ps : List PV} : planB (.tup ps) = ((decide (1 ≤ ps.length) && decide (ps.length ≤ 6)) && goB (lenP (ps.headD .non)) [] ps) := by
  rw [go_rest]
  rfl
/-- a node's parts -/
theorem node_parts {p : PV} (h : nodeB p = true) : ∃ x u b rs f, p = .tup [.str x, u, b, .tup rs, f] ∧ x.length ≤ 8 ∧ 1 ≤ rs.length ∧ rs.length ≤ 4 ∧ nmP p = x ∧ upPv p = u ∧ lenP p = rs.length := by
  unfold nodeB at h
  split at h
  · rename_i n u b r f
    rw [Bool.and_eq_true] at h
    obtain ⟨h1, h2⟩ := h
    unfold nameB at h1
    split at h1
    · rename_i x
      simp only [cupB, Bool.and_eq_true] at h2
      obtain ⟨_, h3, _⟩ := h2
      unfold refB at h3
      split at h3
      · rename_i rs
        simp only [Bool.and_eq_true, decide_eq_true_eq] at h1 h3
        exact ⟨x, u, b, rs, f, rfl, h1.1.2, h3.1.1, h3.1.2, rfl, rfl, rfl⟩
      · cases h3
    · cases h1
  · cases h
theorem cls_non {p : PV} (hp : gd p = true) : p = .non ∨ (cmpP .Is p .non = some false ∧ cmpP .IsNot p .non = some true ∧ p ≠ .non) := by
  cases p with
  | non => exact .inl rfl
  | pool => cases hp
  | fn x => cases hp
  | itm x => cases hp
  | _ => exact .inr ⟨rfl, rfl, fun z => nomatch z⟩
theorem parB_nil {p : PV} (h : p ≠ .non) : parB [] p = false := by
  unfold parB
  dsimp only
  split
  · exact absurd rfl h
  · rfl
theorem parB_cons {y : Str} {ys : List Str} {p : PV} : parB (y :: ys) p = (match p with
    | .str x => decide (x ∈ y :: ys)
    | _ => false) := rfl
theorem parB_no {y : Str} {ys : List Str} {p : PV} (h : isiP .str p = some false) : parB (y :: ys) p = false := by
  rw [parB_cons]
  cases p <;> first | rfl | (cases h)
section
variable {k : Nat} {E : PX → Prop} {Q : PV → List PV → Bool → Prop}
theorem parent_any {p : PV} {names : List Str} (hp : gd p = true) (h : Q (.bl (parB names p)) [] false) : pCall T G IO S (k + 1) "is_parent" [p, .lst (names.map PV.str)] E Q := by
  refine v_is_parent ?_
  unfold b_is_parent
  ac_rfl
  refine x_eqNil (fun _ => rfl) ?_
  cases names with
  | nil =>
    ac_rfl
    rcases cls_non hp with rfl | ⟨e1, _, e3⟩
    · ac_rfl
      exact h
    · rw [parB_nil e3] at h
      refine x_opt e1 ?_
      exact h
  | cons y ys =>
    ac_rfl
    rcases cls_str hp with ⟨x, rfl, hx⟩ | ⟨e1, e2⟩
    · ac_rfl
      exact h
    · rw [parB_no e1] at h
      refine x_opt e1 ?_
      ac_rfl
      exact h
end
section
variable {k : Nat} {E : PX → Prop} {Q : PV → List PV → Bool → Prop}
theorem plan_any {p : PV} (hp : gd p = true) (h : Q (.bl (planB p)) [] false) : pCall T G IO S (k + 6) "is_tree_by" [p] E Q := by
  refine v_is_tree_by ?_
  unfold b_is_tree_by
  rcases cls_tup hp with ⟨ps, rfl⟩ | ⟨e1, e2, e3, e4⟩
  · have hps := gd_tup.mp hp
    have sz : (decide (1 ≤ ps.length) && decide (ps.length ≤ 6)) = false → planB (.tup ps) = false := fun z => by rw [plan_go, z, Bool.false_and]
    by_cases c1 : 1 ≤ ps.length
    · by_cases c2 : ps.length ≤ 6
      · have c3 : planB (.tup ps) = (ps.all nodeB && restB (lenP (ps.headD .non)) [] ps) := by
          show ((decide (1 ≤ ps.length) && decide (ps.length ≤ 6)) && _) = _
          rw [decide_eq_true c1, decide_eq_true c2]
          rfl
        ac_rfl
        refine lpE ps (fun p => .bl (nodeB p)) (by simp only [sizeLine]; omega) (fun p hp K hK => ?_) ?_
        · ac_rfl
          refine node_any (hps p hp) ?_
          exact hK
        ac_rfl
        refine x_ifN (fun c => ?_) (fun c => ?_)
        · rw [c, Bool.true_and] at c3
          rw [c3] at h
          have hn := List.all_eq_true.mp c
          ac_rfl
          refine pFor_inv (fun i env => ∃ (names : List Str) (s1 s3 s4 s5 s6 : Sl), env = [.fz (.tup ps), s1, .ow none (.lst (names.map PV.str)), s3, s4, s5, s6] ∧ names.length = i ∧ i ≤ ps.length ∧ restB (lenP (ps.headD .non)) [] ps = restB (lenP (ps.headD .non)) names (ps.drop i)) ?_ ?_ ?_
          · exact ⟨[], _, _, _, _, _, rfl, rfl, Nat.zero_le _, by rw [List.drop_zero]⟩
          · rintro i p _ K hi ⟨names, s1, s3, s4, s5, s6, rfl, hl, hle, he⟩ hK
            have hpm := List.mem_of_getElem? hi
            have hlt := (List.getElem?_eq_some_iff.mp hi).1
            obtain ⟨x, u, b, rs, f, rfl, hx, r1, r4, n1, n2, n3⟩ := node_parts (hn p hpm)
            have hgu : gd u = true := gd_tup.mp (hps _ hpm) u (by simp)
            have hd : ps.drop i = .tup [.str x, u, b, .tup rs, f] :: ps.drop (i + 1) := by
              rw [List.drop_eq_getElem_cons hlt]
              have := (List.getElem?_eq_some_iff.mp hi).2
              rw [this]
            rw [hd, rest_step, n1, n2, n3] at he
            obtain ⟨p0, hp0⟩ : ∃ p0, ps[0]? = some p0 := ⟨_, List.getElem?_eq_getElem (by omega)⟩
            have hh : ps.headD .non = p0 := head0 hp0
            obtain ⟨x', u', b', rs', f', rfl, hx', r1', r4', n1', n2', n3'⟩ := node_parts (hn p0 (List.mem_of_getElem? hp0))
            rw [hh, n3'] at he h
            rw [hh] at hK
            ac_rfl
            · rename_i c
              rw [decide_eq_true c] at he
              rw [show restB rs'.length [] ps = false by rw [he]; rfl] at h
              exact h
            · rename_i c
              rw [decide_eq_false c] at he
              refine parent_any hgu ?_
              ac_rfl
              refine x_ifN (fun cp => ?_) (fun cp => ?_)
              · rw [cp] at he
                ac_rfl
                refine x_subT (atI_of (by omega) hp0) ?_
                ac_rfl
                · rename_i c8
                  rw [decide_eq_true (show rs.length = rs'.length by omega)] at he
                  refine hK _ ⟨names ++ [x], _, _, _, _, _, by rw [List.map_append]; rfl, by simp [hl], by omega, ?_⟩
                  rw [n3', he]
                  simp
                · rename_i c8
                  rw [decide_eq_false (show ¬ rs.length = rs'.length by omega)] at he
                  rw [show restB rs'.length [] ps = false by rw [he, Bool.and_false, Bool.and_false, Bool.false_and]] at h
                  exact h
              · rw [cp] at he
                rw [show restB rs'.length [] ps = false by rw [he]; rfl] at h
                ac_rfl
                exact h
          · rintro _ ⟨names, s1, s3, s4, s5, s6, rfl, hl, hle, he⟩
            rw [List.drop_length] at he
            rw [he] at h
            ac_rfl
            exact h
        · rw [c, Bool.false_and] at c3
          rw [c3] at h
          ac_rfl
          exact h
      · rw [sz (by rw [decide_eq_false c2, Bool.and_false])] at h
        ac_rfl
        exact h
    · rw [sz (by rw [decide_eq_false c1, Bool.false_and])] at h
      ac_rfl
      exact h
  · rw [show planB p = false by
      cases p <;> first | rfl | (cases e1)] at h
    ac_rfl
    refine x_opt e1 ?_
    ac_rfl
    exact h
end

/-! the law's own looks at anything -/
section
variable {k : Nat} {E : PX → Prop} {Q : PV → List PV → Bool → Prop}
theorem lnum_any {p : PV} {m : Int} (hp : gd p = true) (h : Q (.bl (numB m p)) [] false) : pCall T G IO S (k + 1) "_law_is_number" [p, .int m] E Q := by
  refine v__law_is_number ?_
  unfold b__law_is_number
  rcases cls_int hp with ⟨i, rfl⟩ | ⟨e1, e2, e3, e4⟩ | ⟨e1, e3, e4⟩
  · rw [show numB m (.int i) = (decide (0 ≤ i) && decide (i ≤ m)) from rfl] at h
    ac_rfl
    · rename_i c
      rw [decide_eq_true c, Bool.true_and] at h
      exact h
    · rename_i c
      rw [decide_eq_false c, Bool.false_and] at h
      exact h
  · rw [e4] at h
    ac_rfl
    refine x_opt e1 ?_
    ac_rfl
    refine x_opt e2 ?_
    ac_rfl
    exact h
  · rw [e4] at h
    ac_rfl
    refine x_opt e1 ?_
    ac_rfl
    exact h
theorem cls_rs {p : PV} (hp : gd p = true) : (∃ rs, p = .tup rs) ∨ (isiP .tuple p = some false ∧ refB 99 p = false) := by
  rcases cls_tup hp with ⟨rs, rfl⟩ | ⟨e1, e2, _⟩
  · exact .inl ⟨rs, rfl⟩
  · exact .inr ⟨e1, e2 99⟩
theorem lcup_any {p : PV} (hp : gd p = true) (h : Q (.bl (cupB p)) [] false) : pCall T G IO S (k + 2) "_law_is_cup" [p] E Q := by
  refine v__law_is_cup ?_
  unfold b__law_is_cup
  rcases cls_tup hp with ⟨ps, rfl⟩ | ⟨e1, e2, e3, e4⟩
  · have hps := gd_tup.mp hp
    by_cases c : ps.length = 3
    · match ps, c with
      | [b, rs, f], _ =>
        have hg := hps rs (by simp)
        rw [show cupB (.tup [b, rs, f]) = (numB 99 b && (refB 99 rs && numB 99 f)) from rfl] at h
        rcases cls_rs hg with ⟨rs, rfl⟩ | ⟨e1, e2⟩
        · have hrs := gd_tup.mp hg
          rw [show refB 99 (.tup rs) = ((decide (1 ≤ rs.length) && decide (rs.length ≤ 4)) && rs.all (numB 99)) from rfl] at h
          ac_rfl
          refine lnum_any (hps b (by simp)) ?_
          ac_rfl
          refine x_ifN (fun c => ?_) (fun c => ?_)
          · rw [c, Bool.true_and] at h
            ac_rfl
            refine lnum_any (hps f (by simp)) ?_
            ac_rfl
            refine x_ifN (fun c => ?_) (fun c => ?_)
            · rw [c, Bool.and_true] at h
              by_cases c1 : 1 ≤ rs.length
              · by_cases c2 : rs.length ≤ 4
                · rw [decide_eq_true c1, decide_eq_true c2, Bool.true_and, Bool.true_and] at h
                  ac_rfl
                  refine lpE rs (fun p => .bl (numB 99 p)) (by simp only [sizeLine]; omega) (fun p hp K hK => ?_) ?_
                  · ac_rfl
                    refine lnum_any (hrs p hp) ?_
                    exact hK
                  · ac_rfl
                    exact h
                · rw [decide_eq_false c2, Bool.and_false, Bool.false_and] at h
                  ac_rfl
                  exact h
              · rw [decide_eq_false c1, Bool.false_and, Bool.false_and] at h
                ac_rfl
                exact h
            · rw [c, Bool.and_false] at h
              ac_rfl
              exact h
          · rw [c, Bool.false_and] at h
            ac_rfl
            exact h
        · rw [e2, Bool.false_and, Bool.and_false] at h
          ac_rfl
          refine x_opt e1 ?_
          ac_rfl
          exact h
    · have : cupB (.tup ps) = false := by
        unfold cupB
        split
        · rename_i e
          cases e
          exact absurd rfl c
        · rfl
      rw [this] at h
      ac_rfl
      exact h
  · rw [e3] at h
    ac_rfl
    refine x_opt e1 ?_
    ac_rfl
    exact h
theorem lname_any {p : PV} (hp : gd p = true) (h : Q (.bl (nameB p)) [] false) : pCall T G IO S (k + 1) "_law_is_name" [p] E Q := by
  refine v__law_is_name ?_
  unfold b__law_is_name
  rcases cls_str hp with ⟨x, rfl, hx⟩ | ⟨e1, e2⟩
  · rw [show nameB (.str x) = ((decide (1 ≤ x.length) && decide (x.length ≤ 8)) && x.cps.toList.all (fun c => subStr ⟨#[c]⟩ "abcdefghijklmnopqrstuvwxyz")) from rfl] at h
    by_cases c1 : 1 ≤ x.length
    · by_cases c2 : x.length ≤ 8
      · rw [decide_eq_true c1, decide_eq_true c2, Bool.true_and, Bool.true_and] at h
        ac_rfl
        refine lpF x.cps.toList (fun c => PV.str ⟨#[c]⟩) (fun c => .bl (subStr ⟨#[c]⟩ "abcdefghijklmnopqrstuvwxyz")) (by have : x.cps.toList.length = x.length := rfl; simp only [sizeLine]; omega) (fun c hc K hK => ?_) ?_
        · ac_rfl
          exact hK
        · ac_rfl
          exact h
      · rw [decide_eq_false c2, Bool.and_false, Bool.false_and] at h
        ac_rfl
        exact h
    · rw [decide_eq_false c1, Bool.false_and, Bool.false_and] at h
      ac_rfl
      exact h
  · rw [e2] at h
    ac_rfl
    refine x_opt e1 ?_
    ac_rfl
    exact h
end

section
variable {k : Nat} {E : PX → Prop} {Q : PV → List PV → Bool → Prop}
theorem lplan_any {p : PV} (hp : gd p = true) (h : Q (.bl (planB p)) [] false) : pCall T G IO S (k + 3) "_law_is_plan" [p] E Q := by
  refine v__law_is_plan ?_
  unfold b__law_is_plan
  rcases cls_tup hp with ⟨ps, rfl⟩ | ⟨e1, e2, e3, e4⟩
  · have hps := gd_tup.mp hp
    rw [plan_go] at h
    by_cases c1 : 1 ≤ ps.length
    · by_cases c2 : ps.length ≤ 6
      · rw [decide_eq_true c1, decide_eq_true c2, Bool.true_and, Bool.true_and] at h
        obtain ⟨p0, hp0⟩ : ∃ p0, ps[0]? = some p0 := ⟨_, List.getElem?_eq_getElem (by omega)⟩
        have hh : ps.headD .non = p0 := head0 hp0
        rw [hh] at h
        ac_rfl
        refine pFor_inv (fun i env => ∃ (names : List Str) (s2 : Sl), env = [.fz (.tup ps), .ow none (.lst (names.map PV.str)), s2] ∧ names.length = i ∧ i ≤ ps.length ∧ (∀ (j : Nat) (p : PV), j < i → ps[j]? = some p → nodeB p = true) ∧ goB (lenP p0) [] ps = goB (lenP p0) names (ps.drop i)) ?_ ?_ ?_
        · exact ⟨[], _, rfl, rfl, Nat.zero_le _, fun j p hj => by omega, by rw [List.drop_zero]⟩
        · rintro i p _ K hi ⟨names, s2, rfl, hl, hle, hn, he⟩ hK
          have hpm := List.mem_of_getElem? hi
          have hlt := (List.getElem?_eq_some_iff.mp hi).1
          have hgp := hps p hpm
          have hd : ps.drop i = p :: ps.drop (i + 1) := by
            rw [List.drop_eq_getElem_cons hlt]
            have := (List.getElem?_eq_some_iff.mp hi).2
            rw [this]
          rw [hd, go_step] at he
          by_cases cn : nodeB p = true
          · have hn0 : nodeB p0 = true := by
              by_cases z : i = 0
              · subst z
                rw [hi] at hp0
                cases hp0
                exact cn
              · exact hn 0 p0 (by omega) hp0
            obtain ⟨x', u', b', rs', f', rfl, hx', r1', r4', n1', n2', n3'⟩ := node_parts hn0
            obtain ⟨x, u, b, rs, f, rfl, hx, r1, r4, n1, n2, n3⟩ := node_parts cn
            rw [n1, n2, n3, n3', cn, Bool.true_and] at he
            rw [n3'] at h hK
            have hg5 := gd_tup.mp hgp
            have hgu : gd u = true := hg5 u (by simp)
            have cq : nameB (.str x) = true ∧ cupB (.tup [b, .tup rs, f]) = true := by
              have : (nameB (.str x) && cupB (.tup [b, .tup rs, f])) = true := cn
              rw [Bool.and_eq_true] at this
              exact this
            have hgc : gd (.tup [b, .tup rs, f]) = true := gd_tup.mpr fun p hp => hg5 p (by
              rcases List.mem_cons.mp hp with rfl | hp
              · simp
              · rcases List.mem_cons.mp hp with rfl | hp
                · simp
                · cases List.mem_singleton.mp hp
                  simp)
            ac_rfl
            refine lname_any (hg5 _ (by simp)) ?_
            rw [cq.1]
            ac_rfl
            refine lcup_any (p := .tup [b, .tup rs, f]) hgc ?_
            rw [cq.2]
            ac_rfl
            · rename_i c
              rw [decide_eq_true c] at he
              rw [show goB rs'.length [] ps = false by rw [he]; rfl] at h
              exact h
            rename_i c
            rw [decide_eq_false c] at he
            refine x_subT (atI_of (by omega) hp0) ?_
            ac_rfl
            · rename_i c8
              rw [decide_eq_true (show rs.length = rs'.length by omega), Bool.and_true] at he
              refine x_eqNil (fun _ => rfl) ?_
              have hnn : ∀ (j : Nat) (q : PV), j < i + 1 → ps[j]? = some q → nodeB q = true := fun j q hj hq => by
                by_cases z : j = i
                · subst z
                  rw [hi] at hq
                  cases hq
                  exact cn
                · exact hn j q (by omega) hq
              have step : parB names u = true → K [.fz (.tup ps), .ow none (.lst (names.map PV.str ++ [.str x])), .fz (.tup [.str x, u, b, .tup rs, f])] := fun z => by
                rw [z] at he
                exact hK _ ⟨names ++ [x], _, by rw [List.map_append]; rfl, by simp [hl], by omega, hnn, by rw [he]; simp⟩
              have stop : parB names u = false → Q (.bl false) [] false := fun z => by
                rw [z, Bool.and_false, Bool.false_and] at he
                rw [he] at h
                exact h
              cases names with
              | nil =>
                ac_rfl
                rcases cls_non hgu with rfl | ⟨e1, e2, e3⟩
                · ac_rfl
                  exact step rfl
                · refine x_opt e2 ?_
                  ac_rfl
                  exact stop (parB_nil e3)
              | cons y ys =>
                ac_rfl
                refine x_neNil (g := PV.str) (xs := y :: ys) (fun _ => rfl) ?_
                ac_rfl
                rcases cls_str hgu with ⟨w, rfl, hw⟩ | ⟨e1, e2⟩
                · refine x_opt rfl ?_
                  ac_rfl
                  · rename_i c
                    exact step (by rw [parB_cons]; exact decide_eq_true c)
                  · rename_i c
                    exact stop (by rw [parB_cons]; exact decide_eq_false c)
                · refine x_opt e1 ?_
                  ac_rfl
                  exact stop (parB_no e1)
            · rename_i c8
              rw [decide_eq_false (show ¬ rs.length = rs'.length by omega), Bool.and_false, Bool.and_false, Bool.false_and] at he
              rw [he] at h
              exact h
          · have cn : nodeB p = false := by simpa using cn
            rw [cn, Bool.false_and, Bool.false_and] at he
            rw [he] at h
            rcases cls_tup hgp with ⟨qs, rfl⟩ | ⟨e1, _⟩
            · by_cases c5 : qs.length = 5
              · match qs, c5 with
                | [n, u, b, r, f], _ =>
                  have hg5 := gd_tup.mp hgp
                  have cn : (nameB n && cupB (.tup [b, r, f])) = false := cn
                  ac_rfl
                  refine lname_any (hg5 n (by simp)) ?_
                  ac_rfl
                  refine x_ifN (fun c => ?_) (fun c => ?_)
                  · rw [c, Bool.true_and] at cn
                    ac_rfl
                    refine lcup_any (p := .tup [b, r, f]) (gd_tup.mpr fun p hp => hg5 p (by
                      rcases List.mem_cons.mp hp with rfl | hp
                      · simp
                      · rcases List.mem_cons.mp hp with rfl | hp
                        · simp
                        · cases List.mem_singleton.mp hp
                          simp)) ?_
                    rw [cn]
                    ac_rfl
                    exact h
                  · ac_rfl
                    exact h
              · ac_rfl
                exact h
            · ac_rfl
              refine x_opt e1 ?_
              ac_rfl
              exact h
        · rintro _ ⟨names, s2, rfl, hl, hle, hn, he⟩
          rw [List.drop_length] at he
          rw [he] at h
          ac_rfl
          exact h
      · rw [decide_eq_false c2, Bool.and_false, Bool.false_and] at h
        ac_rfl
        exact h
    · rw [decide_eq_false c1, Bool.false_and, Bool.false_and] at h
      ac_rfl
      exact h
  · rw [show planB p = false by
      cases p <;> first | rfl | (cases e1)] at h
    ac_rfl
    refine x_opt e1 ?_
    ac_rfl
    exact h
end

section
variable {k : Nat} {E : PX → Prop} {Q : PV → List PV → Bool → Prop}
theorem same_bool {b : Bool} (h : Q (.bl true) [] false) : pCall T G IO S (k + 1) "_law_same" [.bl b, .bl b] E Q := by
  refine v__law_same ?_
  unfold b__law_same
  ac_rfl
  rw [show decide (b = b) = true by simp]
  exact h
theorem is_tree_any {p : PV} (hp : gd p = true) (h : Q (.bl (planB p)) [] false) : pCall T G IO S (k + 7) "is_tree" [p] E Q := by
  refine v_is_tree ?_
  unfold b_is_tree
  ac_rfl
  refine plan_any hp ?_
  exact h
theorem is_cup_any {p : PV} (hp : gd p = true) (h : Q (.bl (cupB p)) [] false) : pCall T G IO S (k + 5) "is_bucket" [p] E Q := by
  refine v_is_bucket ?_
  unfold b_is_bucket
  ac_rfl
  refine cup_any hp ?_
  exact h
theorem thing (h : ∀ p, gd p = true → Q p [] false) : pCall T G IO S (k + 3) "_law_thing" [.pool] E Q := by
  refine v__law_thing ?_
  unfold b__law_thing
  ac_rfl
  refine one (by simp) fun p hp => ?_
  refine h p ?_
  simp only [List.mem_cons, List.not_mem_nil, or_false] at hp
  rcases hp with rfl | rfl | rfl | rfl | rfl | rfl | rfl | rfl | rfl | rfl | rfl | rfl | rfl | rfl | rfl | rfl | rfl | rfl | rfl | rfl | rfl | rfl | rfl <;> rfl
theorem right_ok (h : Q (.bl true) [] false) : pCall T G IO S (k + 20) "_law_right" [.pool] E Q := by
  refine v__law_right ?_
  unfold b__law_right
  ac_rfl
  refine pFor_inv (fun i env => ∃ (s1 s2 s3 s4 s5 s6 s7 : Sl), env = [.fz .pool, s1, s2, s3, s4, s5, s6, s7]) ?_ ?_ ?_
  · exact ⟨_, _, _, _, _, _, _, rfl⟩
  · rintro i p _ K hi ⟨s1, s2, s3, s4, s5, s6, s7, rfl⟩ hK
    obtain ⟨hlt, rfl⟩ := rangeP_at hi
    ac_rfl
    refine one (by simp) fun p hp => ?_
    have hh : ∃ m : Int, p = .int m ∧ 1 ≤ m ∧ m ≤ 99 := by
      simp only [List.mem_cons, List.not_mem_nil, or_false] at hp
      rcases hp with rfl | rfl | rfl <;> exact ⟨_, rfl, by omega, by omega⟩
    obtain ⟨m, rfl, m1, m2⟩ := hh
    ac_rfl
    refine tree (by omega) ⟨m1, m2⟩ fun t ok h1 _ => ?_
    ac_rfl
    refine draw (by omega) fun sz z0 z1 => ?_
    ac_rfl
    refine bucket (by omega) (by omega) fun c cok _ _ _ _ => ?_
    ac_rfl
    refine bent_plan ok h1 fun xs hxs hxl => ?_
    ac_rfl
    refine pFor_inv (fun i env => ∃ (s1 s4 s5 s6 s7 : Sl), env = [.fz .pool, s1, .fz (trP t), .fz c.p, s4, s5, s6, s7]) ?_ ?_ ?_
    · exact ⟨_, _, _, _, _, rfl⟩
    · rintro i p _ K hi ⟨s1, s4, s5, s6, s7, rfl⟩ hK
      obtain ⟨x, hx, rfl⟩ := enumP_at hi
      have hg := hxs x (List.mem_of_getElem? hx)
      ac_rfl
      all_goals
        refine is_tree_any hg ?_
        ac_rfl
        refine lplan_any hg ?_
        ac_rfl
        refine same_bool ?_
        ac_rfl
        exact hK _ ⟨_, _, _, _, _, rfl⟩
    · rintro _ ⟨s1, s4, s5, s6, s7, rfl⟩
      ac_rfl
      refine bent_cup cok fun ys hys hyl => ?_
      obtain ⟨n0, hn0⟩ : ∃ n, t[0]? = some n := ⟨_, List.getElem?_eq_getElem (by omega)⟩
      have hg0 := tr_gd ok n0 (List.mem_of_getElem? hn0)
      have e0 : (t.map Nd.p)[(0 : Int).toNat]? = some n0.p := by
        rw [List.getElem?_map]
        show Option.map Nd.p t[0]? = _
        rw [hn0]
        rfl
      have hgt : gd (trP t) = true := gd_tup.mpr fun p hp => by
        obtain ⟨n, hn, rfl⟩ := List.mem_map.mp hp
        exact tr_gd ok n hn
      unfold trP at hgt ⊢
      ac_rfl
      refine x_subT (atI_of (by omega) e0) ?_
      ac_rfl
      refine x_subT (atI_of (by omega) e0) ?_
      have hnp : n0.p = .tup [.str n0.nm, upP n0.up, .int n0.b, .tup (n0.rs.map PV.int), .int n0.f] := rfl
      rw [hnp] at hg0 ⊢
      have hgc : gds (cut [.str n0.nm, upP n0.up, .int n0.b, .tup (n0.rs.map PV.int), .int n0.f] (some 2) none) = true := gds_cut (gds_mem.mpr (gd_tup.mp hg0)) _ _
      ac_rfl
      refine pFor_inv (fun i env => ∃ (s1 s2 s3 s4 s5 s6 s7 : Sl), env = [.fz .pool, s1, s2, s3, s4, s5, s6, s7]) ?_ ?_ ?_
      · exact ⟨_, _, _, _, _, _, _, rfl⟩
      · rintro i p _ K hi ⟨s1, s2, s3, s4, s5, s6, s7, rfl⟩ hK
        obtain ⟨x, hx, rfl⟩ := enumP_at hi
        have hg : gd x = true := by
          rcases List.mem_append.mp (List.mem_of_getElem? hx) with hx | hx
          · exact (hys x hx).1
          · simp only [List.mem_cons, List.not_mem_nil, or_false] at hx
            rcases hx with rfl | rfl | rfl
            · exact hgt
            · exact hg0
            · exact hgc
        ac_rfl
        all_goals
          refine is_cup_any hg ?_
          ac_rfl
          refine lcup_any hg ?_
          ac_rfl
          refine same_bool ?_
          ac_rfl
          exact hK _ ⟨_, _, _, _, _, _, _, rfl⟩
      · rintro _ ⟨s1, s2, s3, s4, s5, s6, s7, rfl⟩
        ac_rfl
        refine thing fun x hg => ?_
        ac_rfl
        refine is_tree_any hg ?_
        ac_rfl
        refine lplan_any hg ?_
        ac_rfl
        refine same_bool ?_
        ac_rfl
        refine is_cup_any hg ?_
        ac_rfl
        refine lcup_any hg ?_
        ac_rfl
        refine same_bool ?_
        ac_rfl
        refine pFor_inv (fun i env => ∃ (s1 s2 s3 s4 s5 s6 s7 : Sl), env = [.fz .pool, s1, s2, s3, s4, s5, s6, s7]) ?_ ?_ ?_
        · exact ⟨_, _, _, _, _, _, _, rfl⟩
        · rintro i p _ K hi ⟨s1, s2, s3, s4, s5, s6, s7, rfl⟩ hK
          have hp : p = .int 1 ∨ p = .bl true := by
            have := List.mem_of_getElem? hi
            simp only [List.mem_cons, List.not_mem_nil, or_false] at this
            rcases this with rfl | rfl | rfl | rfl <;> simp
          rcases hp with rfl | rfl
          all_goals
            ac_rfl
            refine is_cup_any rfl ?_
            ac_rfl
            refine lcup_any rfl ?_
            ac_rfl
            refine same_bool ?_
            ac_rfl
            refine is_tree_any rfl ?_
            ac_rfl
            refine lplan_any rfl ?_
            ac_rfl
            refine same_bool ?_
            ac_rfl
            exact hK _ ⟨_, _, _, _, _, _, _, rfl⟩
        · rintro _ ⟨s1, s2, s3, s4, s5, s6, s7, rfl⟩
          ac_rfl
          exact hK _ ⟨_, _, _, _, _, _, _, rfl⟩
  · rintro _ ⟨s1, s2, s3, s4, s5, s6, s7, rfl⟩
    ac_rfl
    exact h
end

theorem pool_ok {k : Nat} {st : Sto} {ns : List Int} (h : st[0]? = some (.lst true (ns.map D.int))) {lap : Int} (h0 : 0 ≤ lap ∧ lap ≤ 9) : (callF T G (k + 1) "_law_pool" [.ref 0, .int lap] st).wp fun d st' => ∃ l, d = .ref l ∧ l ≠ 0 ∧ Pok l st' ∧ Ext st st' := by
  have hl := get_lt h
  refine w__law_pool ?_
  unfold b__law_pool
  refine ss_cut (fun env st1 => ∃ cell : Int, env = [some (.ref 0), some (.int lap), some (.int cell), none, none] ∧ st1 = st) ?_ ?_
  · and_intros
    · rename_i hlt
      rw [List.length_map] at hlt
      refine o_subR h (atI_of h0.1 (by rw [List.getElem?_map, List.getElem?_eq_getElem (show lap.toNat < ns.length by omega)]; rfl)) ?_
      and_intros
      exact ⟨_, rfl, rfl⟩
    · exact ⟨_, rfl, rfl⟩
  · rintro _ _ ⟨cell, rfl, rfl⟩
    and_intros
    rename_i st1 X1 l1 e1
    refine for_wp (fun i env st2 => ∃ (z : Int) (o : Option D), env = [some (.ref 0), some (.int lap), some (.int cell), some (.int z), o] ∧ st2 = st1) ⟨_, _, rfl, rfl⟩ (fun i env st2 h => by obtain ⟨_, _, _, rfl⟩ := h; exact still_one e1) ?_ ?_
    · rintro i d _ st2 hd ⟨z, o, rfl, rfl⟩
      have hd := hd
      rw [cut_map] at hd
      obtain ⟨x, hx, rfl⟩ := map_at hd
      and_intros
      exact ⟨_, _, rfl, rfl⟩
    · rintro _ st2 ⟨z, o, rfl, rfl⟩
      and_intros
      all_goals
        refine ⟨_, rfl, ?_, ⟨_, _, _, by assumption⟩, by nofun⟩
        omega
theorem law_true : ∀ ns : List Int, ns.length ≤ 63 → ∃ st', callF T G 200 "law" [.ref 0] [.lst true (ns.map D.int)] = .ok (.bl true) st' := by
  intro ns hns
  have h : (callF T G (190 + 10) "law" [.ref 0] [.lst true (ns.map D.int)]).wp fun d st' => d = .bl true := by
    refine w_law ?_
    unfold b_law
    have e0 : ([.lst true (ns.map D.int)] : Sto)[0]? = some (.lst true (ns.map D.int)) := rfl
    and_intros
    refine lc_true (S := fun st => st[0]? = some (.lst true (ns.map D.int))) (by rw [rangeL_len]; simp only [sizeLine, List.length_map]; split <;> split <;> omega) e0 (fun _ _ => still_nil) ?_ ?_
    · rintro i d st hd e
      obtain ⟨hlt, rfl⟩ := rangeL_at hd
      rw [Int.zero_add]
      have hi : i < 2 := by
        rw [List.length_map] at hlt
        revert hlt
        split <;> split <;> omega
      and_intros
      refine (pool_ok e (by omega)).mono ?_
      rintro _ st1 ⟨l, rfl, hl, P1, X1⟩
      and_intros
      refine (pure_call (S := S) (IO := IO) told_all (by kernel_rfl) (right_ok (Q := fun r _ _ => r = .bl true) rfl) P1 (ps := [.pool]) ⟨_, _, rfl, rfl, rfl⟩).mono ?_
      rintro _ st2 ⟨q, rfl, hq, K2, _⟩
      cases hq
      exact ⟨rfl, K2 _ _ (fun q => hl q.symm) (X1 _ _ e)⟩
    · intro n st e
      and_intros
      refine o_all (by assumption) ?_
      rw [all_rep]
  obtain ⟨d, st', e, hd⟩ := h.eq
  subst hd
  exact ⟨st', e⟩

end Z
set_option maxHeartbeats 0
set_option autoImplicit true
theorem PySem.Challenge.cw_lentlimits_k02_trees_and_buckets_of_anyt_holds : PySem.Challenge.rw_lentlimits_k02_trees_and_buckets_of_anyt.Holds :=
  Z.end_of Z.law_true
