import PyProof.Rows.All
import Wide.All
import OpenK.AllK
import Wide.FinOn
import PyProof.EqAt
import PyProof.EqKinds
import PyProof.TupleCall
import HandS.ForMost
import HandS.Exc
import HandS.Deep
import HandS.Zip
import HandS.TupAny
import HandS.TupMul
import HandS.Style
import HandS.Wide
import HandS.IsInst
import HandS.Defaults
import HandS.HeadHook2
import HandS.HeadEnd
import HandS.Head2
import HandS.WordsExc
import KE.DataEq
import KE.KIndexOf
import HandS.ExcOwn
import HandS.CallSlots
import HandS.Head0
import HandS.Head1
import HandS.HeadHook1
import HandS.HeadWalk
import HandS.ExcInit
import HandS.ExcField
import PyProof.ReprRoads
import PyProof.ReprLen
import PySem.Challenge.RW_cellpictures_k02_ways_and_maps_refused
set_option Elab.async false
set_option linter.all false
set_option maxRecDepth 100000
set_option maxHeartbeats 2000000
/-! DL0: rules of the hand layer once more, for tuples that are known to be plain. -/
namespace DLx
open PySem PyProof.Rows HT
section
variable {prog : Program} {w : World} {A : Around} {E : Value → Shared → Prop} {s : Shared}
theorem adjust_rev (n : Nat) : Builtin.Slice.sliceAdjust none none (-1) (n : Int) = ((n : Int) - 1, -1) := rfl
theorem places_rev (n : Nat) : Builtin.Slice.slicePlaces ((n : Int) - 1) (-1) (-1) = n := by
  unfold Builtin.Slice.slicePlaces
  rw [if_neg (by decide)]
  by_cases h : n = 0
  · subst h; rfl
  · rw [if_pos (by omega)]
    have e1 : (- -1 : Int) = 1 := rfl
    rw [e1, Int.ediv_one]
    omega
theorem sliceApplied_rev {sl : Addr} {vl vu vs : Value} {n : Nat} {Q : Int × Int × Nat → Shared → Prop} (hs : s.heap.IsSliceOf sl vl vu vs) (pl : IsPart vl none) (pu : IsPart vu none) (ps : IsPart vs (some (-1)))
    (h : Q ((n : Int) - 1, -1, n) s) : wpAny (model prog w) A (Builtin.Slice.sliceApplied (.ref sl) (pure (n : Int))) Q E s := by
  obtain ⟨os, hos, hcs, hds⟩ := id hs
  unfold Builtin.Slice.sliceApplied Builtin.Slice.sliceFields
  refine wpAny_bind (wpAny_bind (wpAny_field hos hds (x := vl) rfl (wpAny_bind (wpAny_field hos hds (x := vu) rfl (wpAny_bind (wpAny_field hos hds (x := vs) rfl (wpAny_pure ?_)))))))
  refine wpAny_bind (slicePart_ ps ?_)
  show wpAny _ _ (if ((-1 : Int) == 0) = true then _ else _) _ _ s
  rw [if_neg (by decide)]
  refine wpAny_bind (slicePart_ pl (wpAny_bind (slicePart_ pu (wpAny_bind (wpAny_pure ?_)))))
  show wpAny _ _ (match Builtin.Slice.sliceAdjust none none (-1) (n : Int) with | (lo, hi) => pure (lo, (-1 : Int), Builtin.Slice.slicePlaces lo hi (-1))) _ _ s
  rw [adjust_rev n]
  show wpAny _ _ (pure ((n : Int) - 1, (-1 : Int), Builtin.Slice.slicePlaces ((n : Int) - 1) (-1) (-1))) _ _ s
  rw [places_rev]
  exact wpAny_pure h
theorem filterMap_some {α β : Type} (f : α → Option β) (g : α → β) : ∀ l : List α, (∀ x ∈ l, f x = some (g x)) → l.filterMap f = l.map g
  | [], _ => rfl
  | x :: l, h => by
    rw [List.filterMap_cons, h x List.mem_cons_self, List.map_cons, filterMap_some f g l fun y hy => h y (List.mem_cons_of_mem _ hy)]
theorem pick_rev (xs : Array Value) : ((List.range xs.size).filterMap fun (m : Nat) => xs[((xs.size : Int) - 1 + (m : Int) * (-1)).toNat]?).toArray = xs.toList.reverse.toArray := by
  congr 1
  apply List.ext_getElem?
  intro i
  have e : (List.range xs.size).filterMap (fun (m : Nat) => xs[((xs.size : Int) - 1 + (m : Int) * (-1)).toNat]?) = (List.range xs.size).map fun m => xs.toList.getD (xs.size - 1 - m) default := by
    apply filterMap_some
    intro m hm
    have hm := List.mem_range.mp hm
    have e1 : ((xs.size : Int) - 1 + (m : Int) * (-1)).toNat = xs.size - 1 - m := by omega
    rw [e1]
    have lt : xs.size - 1 - m < xs.size := by omega
    rw [Array.getElem?_eq_getElem lt]
    simp [List.getD, lt]
  rw [e]
  by_cases h : i < xs.size
  · rw [List.getElem?_map, List.getElem?_range h, List.getElem?_reverse (by simpa using h)]
    simp [List.getD]
    have lt : xs.size - 1 - i < xs.size := by omega
    rw [Array.getElem?_eq_getElem lt]
    rfl
  · rw [List.getElem?_eq_none (by simpa using h), List.getElem?_eq_none (by simpa using h)]
theorem getItem_tuple_rev {t sl : Addr} {items : Array Value} {vl vu vs : Value} {Q : Value → Shared → Prop} (ht : IsTup s.heap t items) (hs : s.heap.IsSliceOf sl vl vu vs) (pl : IsPart vl none) (pu : IsPart vu none) (ps : IsPart vs (some (-1)))
    (h : Q (.ref s.heap.objs.size) { s with heap := s.heap.push { cls := .type "tuple", data := .seq items.toList.reverse.toArray } })
    (hsz : items.size ≤ sizeLine) : wpAny (model prog w) A (getItem (.ref t) (.ref sl)) Q E s := by
  have htake : sizeOk (.seq items.toList.reverse.toArray) := by
    show items.toList.reverse.toArray.size ≤ sizeLine
    rw [List.size_toArray, List.length_reverse, Array.length_toList]
    exact hsz
  obtain ⟨os, hos, hcs, hds⟩ := id hs
  have hTs : s.TypeIs (.ref sl) "slice" := ⟨os, hos, hcs⟩
  unfold getItem
  try with_reducible refine wpAny_holding ?_
  first | refine wpAny_bind (wpAny_pure ?_) | skip
  refine wpAny_bind (wpAny_sequenceKey ht.typeIs (by decide) ?_)
  refine wpAny_bind (wpAny_callSpecial?_slot (name := Str.ofString "__getitem__") ht.typeIs PyProof.Rows.slot_tuple_getitem
    (wpAny_call_entry PyProof.Rows.slot_tuple_getitem ht.typeIs entry_tuple_getitem ?_ (args_tuple_getitem _ _)))
  show wpAny _ _ (Builtin.Tuple.tupleItemsOf (.ref t) >>= _) _ _ s
  refine wpAny_bind (tupleItemsOf_ ht ?_)
  refine wpAny_bind (wpAny_typeOf hTs ?_)
  rw [if_pos (by decide)]
  refine wpAny_bind (sliceApplied_rev hs pl pu ps ?_)
  have hno : ¬ (((items.size : Int) - 1 == 0 && (-1 : Int) == 1 && items.size == items.size) = true) := by
    intro q
    rw [Bool.and_eq_true, Bool.and_eq_true] at q
    exact absurd q.1.2 (by decide)
  show wpAny _ _ (if ((items.size : Int) - 1 == 0 && (-1 : Int) == 1 && items.size == items.size) = true then _ else _) _ _ s
  rw [if_neg hno, pick_rev]
  first
    | exact wpAny_bind (m := Builtin.Tuple.tupleExact _) (wpAny_newObj_type (wpAny_pure ⟨_, rfl, wpAny_pure h⟩) htake)
    | exact wpAny_bind (m := Builtin.Tuple.tupleExact _) (wpAny_newObj_type (wpAny_bind (wpAny_pure (wpAny_pure ⟨_, rfl, wpAny_pure h⟩))) htake)
    | exact wpAny_bind (wpAny_bind (m := Builtin.Tuple.tupleExact _) (wpAny_newObj_type (wpAny_pure (wpAny_pure ⟨_, rfl, wpAny_pure h⟩)) htake))
    | exact wpAny_bind (wpAny_bind (m := Builtin.Tuple.tupleExact _) (wpAny_newObj_type (wpAny_pure ⟨_, rfl, wpAny_pure h⟩) htake))
end
end DLx
namespace L2
open PySem PySem.Spec PyProof.Rows
/-- a plain tuple's object -/
def TupO (o : Obj) : Prop := o.cls = .type "tuple" ∧ o.dict = none
section
variable {X : Cx} {e : Expr} {es : List Expr} {te : TE} {t : TA} {pos : Pos}
def tTupX (t : TA) : TE := fun σ H Q => t σ H fun xs H1 => xs.length ≤ sizeLine ∧ ∀ p o, H1 p = none → TupO o → Q (.ref p) (upd H1 p (.frz o (.tup xs)))
theorem pe_tupX {x1 : Nat} (h : PA X es t) : PE X (.Tuple es x1 pos) (tTupX t) := by
  refine ⟨fun pins s σ H Q I hq => ?_⟩
  refine wpAny_Tuple_spliced (thn (h.run pos pins s σ H _ I hq) fun us s1 ⟨xs, H1, I1, r, z, q⟩ => ⟨by rw [← r.length]; exact z, ?_⟩)
  have hf : H1 s1.heap.objs.size = none := I1.hok.fresh (Nat.le_refl _)
  refine ⟨.ref s1.heap.objs.size, upd H1 s1.heap.objs.size (.frz { cls := .type "tuple", data := .seq us.toArray } (.tup xs)), I1.laid (t' := s1.toks) (fun b u e => Heap.get?_push_of_some _ e) (Nat.le_refl _) ?_, rfl, q _ _ hf ⟨rfl, rfl⟩⟩
  exact ⟨Heap.get?_push_size _ rfl, z, us, r, ⟨_, Heap.get?_push_size _ rfl, rfl, _, rfl⟩⟩
theorem call_tuple_ofX : CallR X (.type "tuple") (fun xs H Q => ∃ p ys, xs = [.ref p] ∧ ((SqL X.K H p ys ∧ ∀ l o, H l = none → TupO o → Q (.ref l) (upd H l (.frz o (.tup ys)))) ∨ (SqT X.K H p ys ∧ Q (.ref p) H))) := by
  intro pins s σ H xs us Q I r h
  obtain ⟨p, ys, rfl, h⟩ := h
  obtain ⟨u, rfl, rx⟩ := vals1 r
  cases rx
  rcases h with ⟨hq, q⟩ | ⟨hq, q⟩
  · obtain ⟨its, r', pl, hz⟩ := I.list hq
    have hlen := r'.length
    refine call_tuple_list pl.isList (fun h' kp => ?_) (by simp only [List.size_toArray] <;> omega)
    have I1 : Inv X pins σ H { s with heap := h' } := I.kept (t' := s.toks) kp
    have I2 : Inv X pins σ (upd H h'.objs.size (.frz { cls := .type "tuple", data := .seq its.toArray } (.tup ys))) { s with heap := h'.push { cls := .type "tuple", data := .seq its.toArray } } :=
      I1.laid (t' := s.toks) (fun b o e => Heap.get?_push_of_some _ e) (Nat.le_refl _) (show ObjOk X.prog X.w _ _ _ (.frz _ (.tup ys)) from ⟨Heap.get?_push_size _ rfl, hz, its, r', IsTup.new _ _⟩)
    exact ⟨.ref h'.objs.size, _, I2, rfl, q _ _ (I1.hok.fresh (Nat.le_refl _)) ⟨rfl, rfl⟩⟩
  · obtain ⟨its, r', pl, hz⟩ := I.tuple hq
    exact call_tuple_same pl ⟨.ref p, H, I, rfl, q⟩
/-- t + u -/
def rCatX (K : PySem.W.Frag) : R2 := fun x y H Q => ∃ a b xs ys, x = .ref a ∧ y = .ref b ∧ SqT K H a xs ∧ SqT K H b ys ∧ xs.length + ys.length ≤ sizeLine ∧
  (xs = [] → Q (.ref b) H) ∧ (xs ≠ [] → ys = [] → Q (.ref a) H) ∧ (xs ≠ [] → ys ≠ [] → ∀ p o, H p = none → TupO o → Q (.ref p) (upd H p (.frz o (.tup (xs ++ ys)))))
theorem op_catX : OpR X (binaryOp .Add) (rCatX X.K) := by
  intro pins s σ H x y v u Q I rx ry h
  obtain ⟨a, b, xs, ys, rfl, rfl, ha, hb, hz, q0, q1, q2⟩ := h
  cases rx
  cases ry
  obtain ⟨its, r1, p1, _⟩ := I.tuple ha
  obtain ⟨its2, r2, p2, _⟩ := I.tuple hb
  by_cases hx : xs = []
  · subst hx
    cases r1
    exact cat_tup0 p1 p2 ⟨.ref b, H, I, rfl, q0 rfl⟩
  · refine HT.cat_tup p1 p2 (fun z => hx (r1.nil_iff.mp z)) (fun z => ⟨.ref a, H, I, rfl, q1 hx (r2.nil_iff.mp z)⟩) (fun z => ?_) (by rw [← r1.length, ← r2.length]; exact hz)
    refine ⟨.ref s.heap.objs.size, _, I.laid (t' := s.toks) (o := .frz { cls := .type "tuple", data := .seq (its ++ its2).toArray } (.tup (xs ++ ys))) (fun b ob q => Heap.get?_push_of_some _ q) (Nat.le_refl _) ?_, rfl, q2 hx (fun w => z (r2.nil_iff.mpr w)) _ _ (I.hok.fresh (Nat.le_refl _)) ⟨rfl, rfl⟩⟩
    exact ⟨Heap.get?_push_size _ rfl, by rw [List.length_append]; exact hz, _, r1.append r2, IsTup.new _ _⟩
/-- t[lo:hi]: the whole of it is t itself -/
def rSlX (K : PySem.W.Frag) : V → Option Int → Option Int → Hp → VK → Prop := fun x lo hi H Q => ∃ a xs, x = .ref a ∧ SqT K H a xs ∧
  (HT.sIx xs.length 0 lo = 0 ∧ HT.sIx xs.length xs.length hi = xs.length → Q (.ref a) H) ∧ (¬ (HT.sIx xs.length 0 lo = 0 ∧ HT.sIx xs.length xs.length hi = xs.length) → ∀ p o, H p = none → TupO o → Q (.ref p) (upd H p (.frz o (.tup (cutV xs lo hi)))))
theorem sl_tupX : SlR X (rSlX X.K) := by
  intro pins s σ H x v vl vu lo hi sl Q I rx hs pl pu h
  obtain ⟨a, xs, rfl, hx, q1, q2⟩ := h
  cases rx
  obtain ⟨its, r, ht, hz⟩ := I.tuple hx
  have hlen : its.toArray.size = xs.length := by rw [List.size_toArray]; exact r.length.symm
  refine ⟨"tuple", _, PyProof.Rows.slot_tuple_getitem.lookup, ht.typeIs, ?_⟩
  by_cases hw : HT.sIx xs.length 0 lo = 0 ∧ HT.sIx xs.length xs.length hi = xs.length
  · exact getItem_tuple_whole ht hs pl pu (by rw [hlen]; exact hw) ⟨.ref a, H, I, rfl, q1 hw⟩
  · refine HT.getItem_tuple_cut ht hs pl pu (by rw [hlen]; exact hw) ?_ (by rw [hlen]; exact hz)
    rw [hlen]
    refine ⟨.ref s.heap.objs.size, _, I.laid (t' := s.toks) (o := .frz { cls := .type "tuple", data := .seq ((its.toArray.toList.drop (HT.sIx xs.length 0 lo)).take (HT.sIx xs.length xs.length hi - HT.sIx xs.length 0 lo)).toArray } (.tup (cutV xs lo hi))) (fun b ob q => Heap.get?_push_of_some _ q) (Nat.le_refl _) ?_, rfl, q2 hw _ _ (I.hok.fresh (Nat.le_refl _)) ⟨rfl, rfl⟩⟩
    exact ⟨Heap.get?_push_size _ rfl, Nat.le_trans (cutV_length xs lo hi) hz, _, (r.drop (HT.sIx xs.length 0 lo)).take (HT.sIx xs.length xs.length hi - HT.sIx xs.length 0 lo), IsTup.new _ _⟩
/-- t * k -/
def rRepX (K : PySem.W.Frag) : R2 := fun x y H Q => ∃ l k xs, x = .ref l ∧ y = .int k ∧ SqT K H l xs ∧ xs ≠ [] ∧ 2 ≤ k ∧ k ≤ 1000 ∧ xs.length ≤ 1000 ∧ ∀ p o, H p = none → TupO o → Q (.ref p) (upd H p (.frz o (.tup (List.replicate k.toNat xs).flatten)))
theorem op_repX : OpR X (binaryOp .Mult) (rRepX X.K) := by
  intro pins s σ H x y v u Q I rx ry h
  obtain ⟨l, k, xs, rfl, rfl, hT, hne, h1, h2, hz, q⟩ := h
  cases rx
  obtain ⟨t, rfl⟩ := ry
  obtain ⟨its, r, ⟨⟨cls, dd, data, sl⟩, ho, hc, n, hd⟩, hs⟩ := I.tuple hT
  simp only at hc hd
  subst hc hd
  have hle : its.length = xs.length := r.length.symm
  have hn : its ≠ [] := fun e => hne (by
    rw [e] at hle
    exact List.eq_nil_of_length_eq_zero hle.symm)
  have hi : its.toArray.isEmpty = false := by
    cases its with
    | nil => exact absurd rfl hn
    | cons a b => rfl
  have hsz0 : its.toArray.size = xs.length := by rw [List.size_toArray, hle]
  have hm : ((its.toArray.size : Nat) : Int) * k ≤ 1000000 := by
    rw [hsz0]
    have a1 : ((xs.length : Nat) : Int) * k ≤ 1000 * k := Int.mul_le_mul_of_nonneg_right (by omega) (by omega)
    omega
  have flen : (List.replicate k.toNat its).flatten.length ≤ sizeLine := by
    rw [PyProof.Rows.lm_len_rep_flat, hle, sizeLine_eq]
    have a1 : k.toNat * xs.length ≤ 1000 * 1000 := Nat.mul_le_mul (by omega) hz
    omega
  have c0 : (decide (k < -(2 ^ 63)) || decide (k ≥ 2 ^ 63)) = false := by
    rw [decide_eq_false (by omega), decide_eq_false (by omega)] <;> rfl
  have c1 : (its.toArray.isEmpty || k == 1) = false := by
    rw [hi, Bool.false_or]
    exact beq_eq_false_iff_ne.mpr (by omega)
  have c2 : (decide (k ≤ 0) || its.toArray.isEmpty) = false := by
    rw [hi, Bool.or_false]
    exact decide_eq_false (by omega)
  have c4 : Builtin.Tuple.tupleTooMany (((its.toArray.size : Nat) : Int) * k) = false := by
    unfold Builtin.Tuple.tupleTooMany
    rw [sizeLine_eq]
    exact decide_eq_false (by omega)
  refine wpAny_binaryOp_repeat_ref (T := "tuple") (U := "int") (by decide) ⟨_, ho, rfl⟩ (fun s' => typeIs_int s' k t) noFill_tuple_mul F.fills_int_mul F.slot_int_rmul repeat_tuple F.slot_int_index.lookup
    (call_meets F.slot_int_rmul (typeIs_int s k t) F.entry_int_rmul (F.args_int_rmul_2 _ _) (int_rmul_tuple k t l its.toArray n dd sl)
      ⟨ho, rfl, ⟨_, ho, rfl⟩, call_meets F.slot_tuple_mul ⟨_, ho, rfl⟩ F.entry_tuple_mul (F.args_tuple_mul_2 _ _) (tuple_mulW l its.toArray n dd sl k t c0 c1 c2 (by omega) c4 (by rw [size_rep, List.size_toArray]; exact flen)) ⟨ho, ?_⟩⟩)
  rw [size_rep]
  refine ⟨.ref s.heap.objs.size, _, I.laid (t' := s.toks) (o := .frz { cls := .type "tuple", data := .seq (List.replicate k.toNat its).flatten.toArray } (.tup (List.replicate k.toNat xs).flatten)) (fun b ob q => Heap.get?_push_of_some _ q) (Nat.le_refl _) ?_, rfl, q _ _ (I.hok.fresh (Nat.le_refl _)) ⟨rfl, rfl⟩⟩
  exact ⟨Heap.get?_push_size _ rfl, by rw [PyProof.Rows.lm_len_rep_flat, sizeLine_eq]; have a1 : k.toNat * xs.length ≤ 1000 * 1000 := Nat.mul_le_mul (by omega) hz; omega, _, r.rep k.toNat, IsTup.new _ _⟩
/-! ### t.m(..) of a plain tuple -/
def tyX (K : PySem.W.Frag) (T : String) (x : V) (H : Hp) : Prop := tyV K T x H ∨ (T = "tuple" ∧ ∃ p o xs, x = .ref p ∧ H p = some (.frz o (.tup xs)) ∧ TupO o)
theorem tyX_is {pins : List (Addr × Obj)} {σ : L2.St} {H : Hp} {s : Shared} {T : String} {x : V} {v : Value} (I : Inv X pins σ H s) (r : RelV x v) (ty : tyX X.K T x H) :
    s.TypeIs v T ∧ ∀ a, v = .ref a → ∃ ob, s.heap.get? a = some ob ∧ ob.dict = none := by
  rcases ty with ty | ⟨rfl, p, o, xs, rfl, hp, hc, hd⟩
  · exact tyV_is I r ty
  · cases r
    obtain ⟨e, _⟩ := I.hok p _ hp
    refine ⟨⟨o, e, hc⟩, fun a q => ?_⟩
    cases q
    exact ⟨o, e, hd⟩
def tBMX (K : PySem.W.Frag) (T : String) (r : V → List V → Hp → VK → Prop) (to : TE) (t : TA) : TE := fun σ H Q => to σ H fun x H1 => tyX K T x H1 ∧ t σ H1 fun xs H2 => r x xs H2 Q
variable {o : Expr} {to : TE} {name : Str} {apos cpos : Pos} {T id : String} {r : V → List V → Hp → VK → Prop}
theorem pe_bmX (pa : PlainAttrs T) (slot : Slot T name id) (hty : typeOf (.builtin id) = pure (.type "method_descriptor")) (hm : MtR X id r) (ho : PE X o to) (ha : PA X (e :: es) t)
    (hbase : attributeBase o name X.env (eval o X.env) = eval o X.env := by rfl)
    (hfew : ((backTo cpos (starEach (e :: es) X.env)).all (fun x => !x.1) && (backToKw cpos (keywordEach [] X.env)).all (fun x => x.1.isSome)
      && decide ((e :: es).length + ([] : List Keyword).length + (if ([] : List Keyword).isEmpty then 0 else 1) < 30)) = true := by rfl)
    (hline : (apos.endLine == cpos.line) = true := by rfl) (hs : starEach (e :: es) X.env = (false, eval e X.env) :: starEach es X.env := by rfl) (hplain : (backTo cpos (starEach es X.env)).any (·.1) = false := by rfl) :
    PE X (.Call (.Attribute o name apos) (e :: es) [] cpos) (tBMX X.K T r to t) := by
  refine ⟨fun pins s σ H Q I h => ?_⟩
  refine wpAny_Call_method_late hbase hfew hline rfl (thn (ho.run pins s σ H _ I h) fun v s1 ⟨x, H1, I1, r1, ty, q1⟩ => ?_)
  obtain ⟨h1, h2⟩ := tyX_is I1 r1 ty
  refine ⟨T, id, pa, slot, hty, h1, h2, ?_⟩
  have hA := ha.run cpos pins s1 σ H1 _ I1 q1
  rw [hs] at hA ⊢
  refine Calls.callWith_builtin (by show (false || (backTo cpos (starEach es X.env)).any (·.1)) = false; rw [hplain] <;> rfl) (Calls.evalArgs_plain ?_)
  exact thn hA fun us s2 ⟨vs, H2, I2, r2, q2⟩ => hm pins s2 σ H2 x vs v us Q I2 r1 r2 q2
/-- t.index(i) of ints -/
def rTIx (K : PySem.W.Frag) : V → List V → Hp → VK → Prop := fun x vs H Q => ∃ (p : Addr) (ns : List Int) (k : Int), x = .ref p ∧ vs = [.int k] ∧ SqT K H p (ns.map V.int) ∧ k ∈ ns ∧ Q (.int (ns.idxOf k : Nat)) H
theorem mt_tindex : MtR X "tuple.index" (rTIx X.K) := by
  intro pins s σ H x xs v us Q I rx rxs h
  obtain ⟨p, ns, k, rfl, rfl, hT, hk, q⟩ := h
  cases rx
  obtain ⟨u, rfl, t, rfl⟩ : ∃ u, us = [u] ∧ ∃ t, u = Value.int k t := by
    obtain ⟨u, e, r⟩ := vals1 rxs
    exact ⟨u, e, r⟩
  obtain ⟨its, r, ht, hz⟩ := I.tuple hT
  exact SeqAt.tuple_index_ints (show s.heap.IsTuple p its.toArray from ht) r.ints hk ⟨.int _, H, I.tok _, ⟨_, rfl⟩, q⟩
/-- l.index(i) of ints -/
def rLIx (K : PySem.W.Frag) : V → List V → Hp → VK → Prop := fun x vs H Q => ∃ (p : Addr) (ns : List Int) (k : Int), x = .ref p ∧ vs = [.int k] ∧ SqL K H p (ns.map V.int) ∧ k ∈ ns ∧ Q (.int (ns.idxOf k : Nat)) H
theorem mt_lindex : MtR X "list.index" (rLIx X.K) := by
  intro pins s σ H x xs v us Q I rx rxs h
  obtain ⟨p, ns, k, rfl, rfl, hT, hk, q⟩ := h
  cases rx
  obtain ⟨u, rfl, t, rfl⟩ : ∃ u, us = [u] ∧ ∃ t, u = Value.int k t := by
    obtain ⟨u, e, r⟩ := vals1 rxs
    exact ⟨u, e, r⟩
  obtain ⟨its, r, ht, hz⟩ := I.list hT
  exact SeqAt.list_index_ints ht.isList r.ints (by rw [List.length_map] at hz; exact hz) hk ⟨.int _, H, I.tok _, ⟨_, rfl⟩, q⟩
end
/-! ### x[::-1] of a list or a tuple -/
def tRevA (K : PySem.W.Frag) (te : TE) : TE := fun σ H Q => te σ H fun x H1 => ∃ a xs, x = .ref a ∧ ((SqL K H1 a xs ∧ ∀ p, H1 p = none → Q (.ref p) (upd H1 p (.lst xs.reverse))) ∨ (SqT K H1 a xs ∧ ∀ p o, H1 p = none → TupO o → Q (.ref p) (upd H1 p (.frz o (.tup xs.reverse)))))
theorem pe_revA {X : Cx} {e : Expr} {te : TE} {k : Nat} {p1 p2 p3 pos : Pos} (he : PE X e te) : PE X (.Subscript e (.Slice none none (some (.UnaryOp .USub (.Constant (.int 1) k p1) p2)) p3) pos) (tRevA X.K te) := by
  refine ⟨fun pins s σ H Q I h => ?_⟩
  refine Subscript_ (thn (he.run pins s σ H _ I h) fun v s1 ⟨x, H1, I1, r1, q1⟩ => ?_)
  obtain ⟨a, xs, ex, q⟩ := q1
  subst ex
  cases r1
  have hst : PO X (some (.UnaryOp .USub (.Constant (.int 1) k p1) p2)) (tPart (tUn (rU fun i => .int (-i)) (tC (.int 1)))) := po_some (pe_un un_neg pe_int)
  refine wpAny_Slice (thn (po_none.run pins s1 σ H1 (fun o H2 => o = none ∧ H2 = H1) I1 ⟨rfl, rfl⟩) fun vl s2 ⟨l, H2, I2, pl, el, e2⟩ => ?_)
  subst el e2
  refine thn (po_none.run pins s2 σ H2 (fun o H3 => o = none ∧ H3 = H2) I2 ⟨rfl, rfl⟩) fun vu s3 ⟨u, H3, I3, pu, eu, e3⟩ => ?_
  subst eu e3
  refine thn (hst.run pins s3 σ H3 (fun o H4 => o = some (-1) ∧ H4 = H3) I3 ⟨1, rfl, -1, rfl, rfl, rfl⟩) fun vs s4 ⟨o, H4, I4, ps, eo, e4⟩ => ?_
  subst eo e4
  have I5 : Inv X pins σ H4 { s4 with heap := s4.heap.push { cls := .type "slice", data := .fields #[vl, vu, vs] } } := I4.kept (t' := s4.toks) fun b ob q => Heap.get?_push_of_some _ q
  show wpAny (model X.prog X.w) X.A (subscriptTail e (.Slice none none (some (.UnaryOp .USub (.Constant (.int 1) k p1) p2)) p3) (.ref a) (.ref s4.heap.objs.size)) (EP X pins σ Q) X.xe { s4 with heap := s4.heap.push { cls := .type "slice", data := .fields #[vl, vu, vs] } }
  rcases q with ⟨hx, q⟩ | ⟨hx, q⟩
  · obtain ⟨its, r, ht, hz⟩ := I5.list hx
    have hlen := r.length
    refine tail_any (ops := [.ref a, .ref s4.heap.objs.size]) ht.isList.typeIs (PySem.slot_list_getitem.lookup) ?_ (by with_unfolding_all rfl)
    refine wpAny_getItem_list_slice ht.isList (Heap.IsSliceOf.new _ vl vu vs) pl pu ps (by decide) ?_ (by rw [List.size_toArray]; omega)
    rw [PySem.W.krv_pick]
    refine ⟨.ref _, _, I5.laid (t' := s4.toks) (o := .lst xs.reverse) (fun b ob q => Heap.get?_push_of_some _ q) (Nat.le_refl _) ?_, rfl, q _ (I5.hok.fresh (Nat.le_refl _))⟩
    exact ⟨by rw [List.length_reverse]; exact hz, _, 0, r.reverse, Heap.get?_push_size _ rfl⟩
  · obtain ⟨its, r, ht, hz⟩ := I5.tuple hx
    have hlen := r.length
    refine tail_any (ops := [.ref a, .ref s4.heap.objs.size]) ht.typeIs (PyProof.Rows.slot_tuple_getitem.lookup) ?_ (by with_unfolding_all rfl)
    refine DLx.getItem_tuple_rev ht (Heap.IsSliceOf.new _ vl vu vs) pl pu ps ?_ (by rw [List.size_toArray]; omega)
    refine ⟨.ref _, _, I5.laid (t' := s4.toks) (o := .frz { cls := .type "tuple", data := .seq its.toArray.toList.reverse.toArray } (.tup xs.reverse)) (fun b ob q => Heap.get?_push_of_some _ q) (Nat.le_refl _) ?_, rfl, q _ _ (I5.hok.fresh (Nat.le_refl _)) ⟨rfl, rfl⟩⟩
    exact ⟨Heap.get?_push_size _ rfl, by rw [List.length_reverse]; exact hz, _, r.reverse, ⟨_, Heap.get?_push_size _ rfl, rfl, 0, rfl⟩⟩
end L2

set_option Elab.async false
set_option linter.all false
set_option maxRecDepth 100000
set_option maxHeartbeats 2000000
set_option autoImplicit false
/-! DLa: plain data for the hand layer: what a value stands for, frozen parts of the heap, owned lists, steps. -/
namespace DL
open PySem PySem.Spec L2

/-- plain data -/
inductive D where
  | non | bl (b : Bool) | int (i : Int) | str (x : Str)
  | tup (xs : List D) | lst (xs : List D)
  | dct (kvs : List (D × D))
  | scr (ns : List Int)
  | ins (c : Str) (fs : List (Str × D))
instance : Inhabited D := ⟨.non⟩

def Sub (F H : Hp) : Prop := ∀ a o, F a = some o → H a = some o
theorem Sub.refl (F : Hp) : Sub F F := fun _ _ h => h
theorem Sub.trans {F G H : Hp} (a : Sub F G) (b : Sub G H) : Sub F H := fun x o h => b x o (a x o h)
theorem Sub.sqL {K : PySem.W.Frag} {F H : Hp} (s : Sub F H) {a : Addr} {xs : List V} (h : SqL K F a xs) : SqL K H a xs := by
  rcases h with h | h
  · rcases h with h | ⟨o, h⟩
    · exact .inl (.inl (s _ _ h))
    · exact .inl (.inr ⟨o, s _ _ h⟩)
  · exact .inr h
theorem Sub.sqT {K : PySem.W.Frag} {F H : Hp} (s : Sub F H) {a : Addr} {xs : List V} (h : SqT K F a xs) : SqT K H a xs := by
  rcases h with h | h
  · rcases h with h | ⟨o, h⟩
    · exact .inl (.inl (s _ _ h))
    · exact .inl (.inr ⟨o, s _ _ h⟩)
  · exact .inr h

/-- the class's own name, told by the module -/
abbrev Nm := Str → Option Addr

/-- a plain tuple of xs at a -/
def TupX (K : PySem.W.Frag) (F : Hp) (a : Addr) (xs : List V) : Prop :=
  (∃ o, F a = some (.frz o (.tup xs)) ∧ TupO o) ∨ ∃ (o : Obj) (its : Array Value) (n : Nat), K.lookup a = some o ∧ TupO o ∧ o.data = .seq its n ∧ its.size ≤ sizeLine ∧ Vals xs its.toList
theorem TupX.sq {K : PySem.W.Frag} {F : Hp} {a : Addr} {xs : List V} (h : TupX K F a xs) : SqT K F a xs := by
  rcases h with ⟨o, h, _⟩ | ⟨o, its, n, h, hc, hd, hz, r⟩
  · exact .inl (.inr ⟨o, h⟩)
  · exact .inr ⟨o, its, n, h, hc.1, hd, hz, r⟩
theorem TupX.mono {K : PySem.W.Frag} {F G : Hp} (s : Sub F G) {a : Addr} {xs : List V} (h : TupX K F a xs) : TupX K G a xs := by
  rcases h with ⟨o, h, c⟩ | h
  · exact .inl ⟨o, s _ _ h, c⟩
  · exact .inr h
theorem TupX.ty {K : PySem.W.Frag} {H : Hp} {a : Addr} {xs : List V} (h : TupX K H a xs) : tyX K "tuple" (.ref a) H := by
  rcases h with ⟨o, h, c⟩ | ⟨o, its, n, h, hc, _⟩
  · exact .inr ⟨rfl, a, o, xs, rfl, h, c⟩
  · exact .inl (.inr (.inl ⟨rfl, o, h, hc.1, hc.2⟩))

mutual
/-- v stands for a datum, by the heap F -/
inductive Rp (K : PySem.W.Frag) (cn : Nm) (F : Hp) : V → D → Prop
  | non : Rp K cn F .non .non
  | bl (b : Bool) : Rp K cn F (.bl b) (.bl b)
  | int (i : Int) : Rp K cn F (.int i) (.int i)
  | str (x : Str) : Rp K cn F (.str x) (.str x)
  | tup {a : Addr} {xs : List V} {ds : List D} : TupX K F a xs → RpAll K cn F xs ds → Rp K cn F (.ref a) (.tup ds)
  | scr {a : Addr} {ns : List Int} : SqL K F a (ns.map V.int) → Rp K cn F (.ref a) (.scr ns)
  | lst {a : Addr} {xs : List V} {ds : List D} : F a = some (.lst xs) → RpAll K cn F xs ds → Rp K cn F (.ref a) (.lst ds)
  | dct0 {a : Addr} : F a = some (.dK []) → Rp K cn F (.ref a) (.dct [])
  | ins {a C dx : Addr} {c : Str} {fs : List (Str × V)} {gs : List (Str × D)} : F a = some (.ins C dx fs) → F dx = some (.own a) → cn c = some C → RpF K cn F fs gs → Rp K cn F (.ref a) (.ins c gs)
inductive RpAll (K : PySem.W.Frag) (cn : Nm) (F : Hp) : List V → List D → Prop
  | nil : RpAll K cn F [] []
  | cons {v : V} {vs : List V} {d : D} {ds : List D} : Rp K cn F v d → RpAll K cn F vs ds → RpAll K cn F (v :: vs) (d :: ds)
inductive RpF (K : PySem.W.Frag) (cn : Nm) (F : Hp) : List (Str × V) → List (Str × D) → Prop
  | nil : RpF K cn F [] []
  | cons {f : Str} {v : V} {vs : List (Str × V)} {d : D} {ds : List (Str × D)} : Rp K cn F v d → RpF K cn F vs ds → RpF K cn F ((f, v) :: vs) ((f, d) :: ds)
end

section
variable {K : PySem.W.Frag} {cn : Nm} {F G : Hp}
mutual
theorem Rp.mono (s : Sub F G) : ∀ {v : V} {d : D}, Rp K cn F v d → Rp K cn G v d
  | _, _, .non => .non
  | _, _, .bl b => .bl b
  | _, _, .int i => .int i
  | _, _, .str x => .str x
  | _, _, .tup h r => .tup (h.mono s) (RpAll.mono s r)
  | _, _, .scr h => .scr (s.sqL h)
  | _, _, .lst h r => .lst (s _ _ h) (RpAll.mono s r)
  | _, _, .ins h h2 e r => .ins (s _ _ h) (s _ _ h2) e (RpF.mono s r)
  | _, _, .dct0 h => .dct0 (s _ _ h)
theorem RpAll.mono (s : Sub F G) : ∀ {vs : List V} {ds : List D}, RpAll K cn F vs ds → RpAll K cn G vs ds
  | _, _, .nil => .nil
  | _, _, .cons h r => .cons (Rp.mono s h) (RpAll.mono s r)
theorem RpF.mono (s : Sub F G) : ∀ {vs : List (Str × V)} {ds : List (Str × D)}, RpF K cn F vs ds → RpF K cn G vs ds
  | _, _, .nil => .nil
  | _, _, .cons h r => .cons (Rp.mono s h) (RpF.mono s r)
end
theorem RpAll.len : ∀ {vs : List V} {ds : List D}, RpAll K cn F vs ds → vs.length = ds.length
  | _, _, .nil => rfl
  | _, _, .cons _ r => by rw [List.length_cons, List.length_cons, RpAll.len r]
theorem RpAll.append : ∀ {vs us : List V} {ds es : List D}, RpAll K cn F vs ds → RpAll K cn F us es → RpAll K cn F (vs ++ us) (ds ++ es)
  | _, _, _, _, .nil, s => s
  | _, _, _, _, .cons h r, s => .cons h (RpAll.append r s)
theorem RpAll.get : ∀ {vs : List V} {ds : List D} {i : Nat} {d : D}, RpAll K cn F vs ds → ds[i]? = some d → ∃ v, vs[i]? = some v ∧ Rp K cn F v d
  | _, _, _, _, .nil, e => by simp at e
  | _, _, 0, _, .cons h _, e => by simp at e; subst e; exact ⟨_, rfl, h⟩
  | _, _, i + 1, d, .cons _ r, e => by
    obtain ⟨v, h1, h2⟩ := RpAll.get (i := i) (d := d) r (by simpa using e)
    exact ⟨v, by simpa using h1, h2⟩
theorem RpAll.getV : ∀ {vs : List V} {ds : List D} {i : Nat} {v : V}, RpAll K cn F vs ds → vs[i]? = some v → ∃ d, ds[i]? = some d ∧ Rp K cn F v d
  | _, _, _, _, .nil, e => by simp at e
  | _, _, 0, _, .cons h _, e => by simp at e; subst e; exact ⟨_, rfl, h⟩
  | _, _, i + 1, d, .cons _ r, e => by
    obtain ⟨v, h1, h2⟩ := RpAll.getV (i := i) (v := d) r (by simpa using e)
    exact ⟨v, by simpa using h1, h2⟩
theorem RpAll.set {v : V} {d : D} (h : Rp K cn F v d) : ∀ {vs : List V} {ds : List D} (i : Nat), RpAll K cn F vs ds → RpAll K cn F (vs.set i v) (ds.set i d)
  | _, _, _, .nil => .nil
  | _, _, 0, .cons _ r => .cons h r
  | _, _, i + 1, .cons q r => .cons q (RpAll.set h i r)
theorem RpAll.take : ∀ {vs : List V} {ds : List D} (n : Nat), RpAll K cn F vs ds → RpAll K cn F (vs.take n) (ds.take n)
  | _, _, 0, _ => .nil
  | _, _, _ + 1, .nil => .nil
  | _, _, n + 1, .cons h r => .cons h (RpAll.take n r)
theorem RpAll.drop : ∀ {vs : List V} {ds : List D} (n : Nat), RpAll K cn F vs ds → RpAll K cn F (vs.drop n) (ds.drop n)
  | _, _, 0, r => r
  | _, _, _ + 1, .nil => .nil
  | _, _, n + 1, .cons _ r => RpAll.drop n r
theorem RpAll.reverse : ∀ {vs : List V} {ds : List D}, RpAll K cn F vs ds → RpAll K cn F vs.reverse ds.reverse
  | _, _, .nil => .nil
  | _, _, .cons h r => by
    rw [List.reverse_cons, List.reverse_cons]
    exact RpAll.append (RpAll.reverse r) (.cons h .nil)
end

/-! ### slots -/
/-- what a slot holds: nothing, a datum that stands still, a list of its own (it may be changed), a list that was lent (it may be changed, not given away) -/
inductive Sl where
  | no | d (x : D) | own (xs : List D) | lent (xs : List D)
instance : Inhabited Sl := ⟨.no⟩

/-- p is a list that slot i may change -/
def OwnAt (σ : St) (δ : List Sl) (i : Nat) (p : Addr) : Prop := (∃ xs, δ[i]? = some (.own xs) ∨ δ[i]? = some (.lent xs)) ∧ σ[i]? = some (some (.ref p))
def OwnA (σ : St) (δ : List Sl) (p : Addr) : Prop := ∃ i, OwnAt σ δ i p

structure Sta (K : PySem.W.Frag) (cn : Nm) (σ : St) (δ : List Sl) (F H : Hp) : Prop where
  len : σ.length = δ.length
  sub : Sub F H
  dat : ∀ (i : Nat) (x : D), δ[i]? = some (Sl.d x) → ∃ v, σ[i]? = some (some v) ∧ Rp K cn F v x
  own : ∀ (i : Nat) (xs : List D), (δ[i]? = some (Sl.own xs) ∨ δ[i]? = some (Sl.lent xs)) → ∃ (p : Addr) (vs : List V), σ[i]? = some (some (V.ref p)) ∧ H p = some (.lst vs) ∧ F p = none ∧ RpAll K cn F vs xs ∧ vs.length ≤ sizeLine
  apart : ∀ (i j : Nat) (p : Addr), OwnAt σ δ i p → OwnAt σ δ j p → i = j

structure Stp (σ : St) (δ : List Sl) (F H : Hp) (σ' : St) (δ' : List Sl) (F' H' : Hp) : Prop where
  sub : Sub F F'
  keep : ∀ a o, H a = some o → ¬ OwnA σ δ a → H' a = some o
  there : ∀ a, H a ≠ none → H' a ≠ none
  fresh : ∀ a, F a = none → H a ≠ none → ¬ OwnA σ δ a → F' a = none
  own : ∀ p, OwnA σ' δ' p → OwnA σ δ p ∨ H p = none
  lent : ∀ (i : Nat) (xs : List D), δ[i]? = some (Sl.lent xs) → (∃ xs', δ'[i]? = some (Sl.lent xs')) ∧ σ'[i]? = σ[i]?

theorem Stp.refl {σ : St} {δ : List Sl} {F H : Hp} : Stp σ δ F H σ δ F H :=
  ⟨Sub.refl _, fun _ _ h _ => h, fun _ h => h, fun _ h _ _ => h, fun _ h => .inl h, fun _ xs h => ⟨⟨xs, h⟩, rfl⟩⟩
theorem Stp.trans {σ σ1 σ2 : St} {δ δ1 δ2 : List Sl} {F H F1 H1 F2 H2 : Hp} (a : Stp σ δ F H σ1 δ1 F1 H1) (b : Stp σ1 δ1 F1 H1 σ2 δ2 F2 H2) : Stp σ δ F H σ2 δ2 F2 H2 where
  sub := a.sub.trans b.sub
  keep := fun p o h n => b.keep p o (a.keep p o h n) fun q => (a.own p q).elim n fun z => by rw [h] at z; cases z
  there := fun p h => b.there p (a.there p h)
  fresh := fun p h1 h2 n => b.fresh p (a.fresh p h1 h2 n) (a.there p h2) fun q => (a.own p q).elim n h2
  own := fun p h => (b.own p h).elim (fun q => a.own p q) fun z => .inr (by
    cases e : H p with
    | none => rfl
    | some o => exact absurd z (a.there p (by rw [e]; simp)))
  lent := fun i xs h => by
    obtain ⟨⟨xs1, h1⟩, e1⟩ := a.lent i xs h
    obtain ⟨⟨xs2, h2⟩, e2⟩ := b.lent i xs1 h1
    exact ⟨⟨xs2, h2⟩, e2.trans e1⟩

/-- what comes of a piece: a value, an exception (its class's name, its fields), or nothing that is known -/
inductive Rx (α : Type) where
  | ok (a : α)
  | exc (c : Str) (fs : List (Str × D)) (δ : List Sl)
  | bad
def Rx.bind {α β : Type} (r : Rx α) (f : α → Rx β) : Rx β := match r with
  | .ok a => f a
  | .exc c fs δ => .exc c fs δ
  | .bad => .bad
@[simp] theorem Rx.bind_ok {α β : Type} (a : α) (f : α → Rx β) : (Rx.ok a).bind f = f a := rfl
@[simp] theorem Rx.bind_bad {α β : Type} (f : α → Rx β) : (Rx.bad : Rx α).bind f = .bad := rfl
@[simp] theorem Rx.bind_exc {α β : Type} (c : Str) (fs : List (Str × D)) (δ : List Sl) (f : α → Rx β) : (Rx.exc c fs δ : Rx α).bind f = .exc c fs δ := rfl

/-- how an exception lies -/
def ExR (K : PySem.W.Frag) (cn : Nm) (F H : Hp) (cls : Value) (d : Option Addr) (c : Str) (fs : List (Str × D)) : Prop :=
  ∃ C, cn c = some C ∧ cls = .ref C ∧ ((fs = [] ∧ d = none) ∨ ∃ dd vs, d = some dd ∧ H dd = some (.xd vs) ∧ RpF K cn F vs fs)

/-- what a def lives in -/
structure En where
  K : PySem.W.Frag
  cn : Nm

abbrev DE0 := List Sl → Rx (D × List Sl)
abbrev DO0 := List Sl → Rx (List D × List Sl)
abbrev DT0 := List Sl → Rx (Bool × List Sl)
abbrev DA0 := List Sl → Rx (List D × List Sl)

/-- what an exception's wish is to take -/
def PX (n : En) (W : WX) (σ : St) (δ : List Sl) (F H : Hp) (c : Str) (fs : List (Str × D)) (δ' : List Sl) : Prop :=
  ∀ F' H' cls d, Sta n.K n.cn σ δ' F' H' → Stp σ δ F H σ δ' F' H' → ExR n.K n.cn F' H' cls d c fs → W cls d σ H'

/-- behind an expression that gives a datum -/
def PostE (n : En) (W : WX) (σ : St) (δ : List Sl) (F H : Hp) (r : Rx (D × List Sl)) (Q : VK) : Prop := match r with
  | .ok (x, δ') => ∀ F' H' v, Sta n.K n.cn σ δ' F' H' → Stp σ δ F H σ δ' F' H' → Rp n.K n.cn F' v x → Q v H'
  | .exc c fs δ' => PX n W σ δ F H c fs δ'
  | .bad => False
def PostO (n : En) (W : WX) (σ : St) (δ : List Sl) (F H : Hp) (r : Rx (List D × List Sl)) (Q : VK) : Prop := match r with
  | .ok (xs, δ') => ∀ F' H' p vs, Sta n.K n.cn σ δ' F' H' → Stp σ δ F H σ δ' F' H' → H' p = some (.lst vs) → F' p = none → H p = none → RpAll n.K n.cn F' vs xs → vs.length ≤ sizeLine → ¬ OwnA σ δ' p → Q (.ref p) H'
  | .exc c fs δ' => PX n W σ δ F H c fs δ'
  | .bad => False
def PostT (n : En) (W : WX) (σ : St) (δ : List Sl) (F H : Hp) (r : Rx (Bool × List Sl)) (Q : Bool → Hp → Prop) : Prop := match r with
  | .ok (b, δ') => ∀ F' H', Sta n.K n.cn σ δ' F' H' → Stp σ δ F H σ δ' F' H' → Q b H'
  | .exc c fs δ' => PX n W σ δ F H c fs δ'
  | .bad => False
def PostA (n : En) (W : WX) (σ : St) (δ : List Sl) (F H : Hp) (r : Rx (List D × List Sl)) (Q : List V → Hp → Prop) : Prop := match r with
  | .ok (xs, δ') => ∀ F' H' vs, Sta n.K n.cn σ δ' F' H' → Stp σ δ F H σ δ' F' H' → RpAll n.K n.cn F' vs xs → Q vs H'
  | .exc c fs δ' => PX n W σ δ F H c fs δ'
  | .bad => False
def SemE (n : En) (W : WX) (t : TE) (f : DE0) : Prop := ∀ σ δ F H Q, Sta n.K n.cn σ δ F H → PostE n W σ δ F H (f δ) Q → t σ H Q
def SemO (n : En) (W : WX) (t : TE) (f : DO0) : Prop := ∀ σ δ F H Q, Sta n.K n.cn σ δ F H → PostO n W σ δ F H (f δ) Q → t σ H Q
def SemT (n : En) (W : WX) (t : TT) (f : DT0) : Prop := ∀ σ δ F H Q, Sta n.K n.cn σ δ F H → PostT n W σ δ F H (f δ) Q → t σ H Q
def SemA (n : En) (W : WX) (t : TA) (f : DA0) : Prop := ∀ σ δ F H Q, Sta n.K n.cn σ δ F H → PostA n W σ δ F H (f δ) Q → t σ H Q

inductive Fl where
  | nx | rt (x : D) | ro (xs : List D) | bk | ct
abbrev DS0 := List Sl → Rx (Fl × List Sl)
def PostS (n : En) (W : WX) (σ : St) (δ : List Sl) (F H : Hp) (r : Rx (Fl × List Sl)) (d : Ends) : Prop := match r with
  | .ok (.nx, δ') => ∀ σ' F' H', Sta n.K n.cn σ' δ' F' H' → Stp σ δ F H σ' δ' F' H' → d.nx σ' H'
  | .ok (.bk, δ') => ∀ σ' F' H', Sta n.K n.cn σ' δ' F' H' → Stp σ δ F H σ' δ' F' H' → d.bk σ' H'
  | .ok (.ct, δ') => ∀ σ' F' H', Sta n.K n.cn σ' δ' F' H' → Stp σ δ F H σ' δ' F' H' → d.ct σ' H'
  | .ok (.rt x, δ') => ∀ σ' F' H' v, Sta n.K n.cn σ' δ' F' H' → Stp σ δ F H σ' δ' F' H' → Rp n.K n.cn F' v x → d.rt v H'
  | .ok (.ro xs, δ') => ∀ σ' F' H' p vs, Sta n.K n.cn σ' δ' F' H' → Stp σ δ F H σ' δ' F' H' → H' p = some (.lst vs) → F' p = none → H p = none → RpAll n.K n.cn F' vs xs → vs.length ≤ sizeLine → d.rt (.ref p) H'
  | .exc c fs δ' => ∀ σ' F' H' cls dd, Sta n.K n.cn σ' δ' F' H' → Stp σ δ F H σ' δ' F' H' → ExR n.K n.cn F' H' cls dd c fs → W cls dd σ' H'
  | .bad => False
def SemS (n : En) (W : WX) (t : TS) (f : DS0) : Prop := ∀ σ δ F H d, Sta n.K n.cn σ δ F H → PostS n W σ δ F H (f δ) d → t d σ H

/-- the def's surroundings as X tells them -/
structure XN (X : Cx) (n : En) : Prop where
  k : X.K = n.K

/-- a piece of the text, its reading, its meaning -/
structure DE (X : Cx) (n : En) (W : WX) (e : Expr) (t : TE) (f : DE0) : Prop where
  p : PE X e t
  s : SemE n W t f
structure DO (X : Cx) (n : En) (W : WX) (e : Expr) (t : TE) (f : DO0) : Prop where
  p : PE X e t
  s : SemO n W t f
structure DT (X : Cx) (n : En) (W : WX) (e : Expr) (t : TT) (f : DT0) : Prop where
  p : PT X e t
  s : SemT n W t f
structure DW (X : Cx) (n : En) (W : WX) (e : Expr) (t : TT) (f : DT0) : Prop where
  p : PW X e t
  s : SemT n W t f
structure DA (X : Cx) (n : En) (W : WX) (es : List Expr) (t : TA) (f : DA0) : Prop where
  p : PA X es t
  s : SemA n W t f
structure DS (X : Cx) (n : En) (W : WX) (st : Stmt) (t : TS) (f : DS0) : Prop where
  p : PS X st t
  s : SemS n W t f
structure DSs (X : Cx) (n : En) (W : WX) (st : List Stmt) (t : TS) (f : DS0) : Prop where
  p : PSs X st t
  s : SemS n W t f
end DL

set_option Elab.async false
set_option linter.all false
set_option maxRecDepth 100000
set_option maxHeartbeats 2000000
set_option autoImplicit false
/-! DLb: how meanings are put together. -/
namespace DL
open PySem PySem.Spec L2

theorem PX.pre {n : En} {W : WX} {σ : L2.St} {δ δ1 : List Sl} {F H F1 H1 : Hp} {c : Str} {fs : List (Str × D)} {δ' : List Sl} (st : Stp σ δ F H σ δ1 F1 H1) (h : PX n W σ δ F H c fs δ') : PX n W σ δ1 F1 H1 c fs δ' :=
  fun F' H' cls d a b e => h F' H' cls d a (st.trans b) e

/-- what all ends have in common -/
structure PL {β : Type} (n : En) (W : WX) (σ : L2.St) (P : List Sl → Hp → Hp → Rx β → Prop) : Prop where
  exc : ∀ {δ F H c fs δ'}, P δ F H (.exc c fs δ') → PX n W σ δ F H c fs δ'
  bad : ∀ {δ F H}, ¬ P δ F H .bad
  pre : ∀ {δ δ1 F H F1 H1 r}, Stp σ δ F H σ δ1 F1 H1 → P δ F H r → P δ1 F1 H1 r

section
variable {n : En} {W : WX} {σ : L2.St}
theorem PL.e {Q : VK} : PL n W σ (fun δ F H r => PostE n W σ δ F H r Q) where
  exc := fun h => h
  bad := fun h => h
  pre := fun {δ δ1 F H F1 H1 r} st h => by
    cases r with
    | ok a => exact fun F' H' v a1 b c => h F' H' v a1 (st.trans b) c
    | exc c fs δ' => exact PX.pre st h
    | bad => exact h
theorem Stp.wasNone {σ' : L2.St} {δ δ1 : List Sl} {F H F1 H1 : Hp} (st : Stp σ δ F H σ' δ1 F1 H1) {p : Addr} (h : H1 p = none) : H p = none := by
  cases e : H p with
  | none => rfl
  | some o => exact absurd h (st.there p (by rw [e]; simp))
theorem PL.o {Q : VK} : PL n W σ (fun δ F H r => PostO n W σ δ F H r Q) where
  exc := fun h => h
  bad := fun h => h
  pre := fun {δ δ1 F H F1 H1 r} st h => by
    cases r with
    | ok a => exact fun F' H' p vs a1 b c d e f g i => h F' H' p vs a1 (st.trans b) c d (st.wasNone e) f g i
    | exc c fs δ' => exact PX.pre st h
    | bad => exact h
theorem PL.t {Q : Bool → Hp → Prop} : PL n W σ (fun δ F H r => PostT n W σ δ F H r Q) where
  exc := fun h => h
  bad := fun h => h
  pre := fun {δ δ1 F H F1 H1 r} st h => by
    cases r with
    | ok a => exact fun F' H' a1 b => h F' H' a1 (st.trans b)
    | exc c fs δ' => exact PX.pre st h
    | bad => exact h
theorem PL.a {Q : List V → Hp → Prop} : PL n W σ (fun δ F H r => PostA n W σ δ F H r Q) where
  exc := fun h => h
  bad := fun h => h
  pre := fun {δ δ1 F H F1 H1 r} st h => by
    cases r with
    | ok a => exact fun F' H' v a1 b c => h F' H' v a1 (st.trans b) c
    | exc c fs δ' => exact PX.pre st h
    | bad => exact h
theorem PostS.pre {σ1 : L2.St} {δ δ1 : List Sl} {F H F1 H1 : Hp} {r : Rx (Fl × List Sl)} {d : Ends} (st : Stp σ δ F H σ1 δ1 F1 H1) (h : PostS n W σ δ F H r d) : PostS n W σ1 δ1 F1 H1 r d := by
  cases r with
  | ok a =>
    obtain ⟨fl, δ'⟩ := a
    cases fl with
    | nx => exact fun σ' F' H' a b => h σ' F' H' a (st.trans b)
    | bk => exact fun σ' F' H' a b => h σ' F' H' a (st.trans b)
    | ct => exact fun σ' F' H' a b => h σ' F' H' a (st.trans b)
    | rt x => exact fun σ' F' H' v a b c => h σ' F' H' v a (st.trans b) c
    | ro xs => exact fun σ' F' H' p vs a b c d e f g => h σ' F' H' p vs a (st.trans b) c d (st.wasNone e) f g
  | exc c fs δ' => exact fun σ' F' H' cls dd a b e => h σ' F' H' cls dd a (st.trans b) e
  | bad => exact h
theorem PL.s {d : Ends} : PL n W σ (fun δ F H r => PostS n W σ δ F H r d) where
  exc := fun h => fun F' H' cls dd a b e => h σ F' H' cls dd a b e
  bad := fun h => h
  pre := fun st h => PostS.pre st h

theorem SemE.go {β : Type} {P : List Sl → Hp → Hp → Rx β → Prop} (pl : PL n W σ P) {t : TE} {f : DE0} {g : D × List Sl → Rx β} {δ : List Sl} {F H : Hp} {Q : VK} (sa : SemE n W t f) (hS : Sta n.K n.cn σ δ F H) (h : P δ F H ((f δ).bind g))
    (k : ∀ x δ1 F1 H1 v, Sta n.K n.cn σ δ1 F1 H1 → Stp σ δ F H σ δ1 F1 H1 → Rp n.K n.cn F1 v x → P δ1 F1 H1 (g (x, δ1)) → Q v H1) : t σ H Q := by
  refine sa σ δ F H Q hS ?_
  cases e : f δ with
  | ok a =>
    obtain ⟨x, δ1⟩ := a
    rw [e] at h
    exact fun F1 H1 v a b c => k x δ1 F1 H1 v a b c (pl.pre b h)
  | exc c fs δ' =>
    rw [e] at h
    exact pl.exc h
  | bad =>
    rw [e] at h
    exact pl.bad h
theorem SemO.go {β : Type} {P : List Sl → Hp → Hp → Rx β → Prop} (pl : PL n W σ P) {t : TE} {f : DO0} {g : List D × List Sl → Rx β} {δ : List Sl} {F H : Hp} {Q : VK} (sa : SemO n W t f) (hS : Sta n.K n.cn σ δ F H) (h : P δ F H ((f δ).bind g))
    (k : ∀ xs δ1 F1 H1 p vs, Sta n.K n.cn σ δ1 F1 H1 → Stp σ δ F H σ δ1 F1 H1 → H1 p = some (.lst vs) → F1 p = none → H p = none → RpAll n.K n.cn F1 vs xs → vs.length ≤ sizeLine → ¬ OwnA σ δ1 p → P δ F H (g (xs, δ1)) → Q (.ref p) H1) : t σ H Q := by
  refine sa σ δ F H Q hS ?_
  cases e : f δ with
  | ok a =>
    obtain ⟨xs, δ1⟩ := a
    rw [e] at h
    exact fun F1 H1 p vs a b c d e f g i => k xs δ1 F1 H1 p vs a b c d e f g i h
  | exc c fs δ' =>
    rw [e] at h
    exact pl.exc h
  | bad =>
    rw [e] at h
    exact pl.bad h
theorem SemT.go {β : Type} {P : List Sl → Hp → Hp → Rx β → Prop} (pl : PL n W σ P) {t : TT} {f : DT0} {g : Bool × List Sl → Rx β} {δ : List Sl} {F H : Hp} {Q : Bool → Hp → Prop} (sa : SemT n W t f) (hS : Sta n.K n.cn σ δ F H) (h : P δ F H ((f δ).bind g))
    (k : ∀ b δ1 F1 H1, Sta n.K n.cn σ δ1 F1 H1 → Stp σ δ F H σ δ1 F1 H1 → P δ1 F1 H1 (g (b, δ1)) → Q b H1) : t σ H Q := by
  refine sa σ δ F H Q hS ?_
  cases e : f δ with
  | ok a =>
    obtain ⟨b, δ1⟩ := a
    rw [e] at h
    exact fun F1 H1 a1 b1 => k b δ1 F1 H1 a1 b1 (pl.pre b1 h)
  | exc c fs δ' =>
    rw [e] at h
    exact pl.exc h
  | bad =>
    rw [e] at h
    exact pl.bad h
theorem SemA.go {β : Type} {P : List Sl → Hp → Hp → Rx β → Prop} (pl : PL n W σ P) {t : TA} {f : DA0} {g : List D × List Sl → Rx β} {δ : List Sl} {F H : Hp} {Q : List V → Hp → Prop} (sa : SemA n W t f) (hS : Sta n.K n.cn σ δ F H) (h : P δ F H ((f δ).bind g))
    (k : ∀ xs δ1 F1 H1 vs, Sta n.K n.cn σ δ1 F1 H1 → Stp σ δ F H σ δ1 F1 H1 → RpAll n.K n.cn F1 vs xs → P δ1 F1 H1 (g (xs, δ1)) → Q vs H1) : t σ H Q := by
  refine sa σ δ F H Q hS ?_
  cases e : f δ with
  | ok a =>
    obtain ⟨xs, δ1⟩ := a
    rw [e] at h
    exact fun F1 H1 v a b c => k xs δ1 F1 H1 v a b c (pl.pre b h)
  | exc c fs δ' =>
    rw [e] at h
    exact pl.exc h
  | bad =>
    rw [e] at h
    exact pl.bad h
end

/-! ### the heap grows; a list is moved into the frozen part -/
section
variable {K : PySem.W.Frag} {cn : Nm} {σ : L2.St} {δ : List Sl} {F H : Hp}
theorem Sta.ownFree (S : Sta K cn σ δ F H) {p : Addr} (h : OwnA σ δ p) : F p = none ∧ ∃ vs, H p = some (.lst vs) := by
  obtain ⟨i, ⟨xs, hx⟩, e⟩ := h
  obtain ⟨q, vs, e1, h1, h2, _⟩ := S.own i xs hx
  rw [e] at e1
  cases e1
  exact ⟨h2, vs, h1⟩
theorem upd_none {H : Hp} {p : Addr} {o : HO} (hp : H p = none) : Sub H (upd H p o) := fun a u h => by
  rw [upd_ne (ne_of_none h hp)]; exact h
theorem Sub.upd {F H : Hp} {p : Addr} {o : HO} (s : Sub F H) : Sub (upd F p o) (upd H p o) := fun a u h => by
  by_cases e : a = p
  · subst e; rw [upd_same] at h ⊢; exact h
  · rw [upd_ne e] at h ⊢; exact s a u h
theorem Sub.upd1 {F H : Hp} {p : Addr} {o : HO} (s : Sub F H) (h : H p = some o) : Sub (L2.upd F p o) H := fun a u e => by
  by_cases q : a = p
  · subst q; rw [upd_same] at e; cases e; exact h
  · rw [upd_ne q] at e; exact s a u e
theorem Sub.noneL {F H : Hp} (s : Sub F H) {p : Addr} (h : H p = none) : F p = none := by
  cases e : F p with
  | none => rfl
  | some o => rw [s p o e] at h; cases h
/-- a new object that stands still -/
theorem Sta.new (S : Sta K cn σ δ F H) {p : Addr} (o : HO) (hp : H p = none) : Sta K cn σ δ (upd F p o) (upd H p o) where
  len := S.len
  sub := S.sub.upd
  dat := fun i x h => by
    obtain ⟨v, e, r⟩ := S.dat i x h
    exact ⟨v, e, r.mono (upd_none (S.sub.noneL hp))⟩
  own := fun i xs h => by
    obtain ⟨q, vs, e, h1, h2, r, z⟩ := S.own i xs h
    have ne : q ≠ p := ne_of_none h1 hp
    exact ⟨q, vs, e, by rw [upd_ne ne]; exact h1, by rw [upd_ne ne]; exact h2, r.mono (upd_none (S.sub.noneL hp)), z⟩
  apart := S.apart
theorem Stp.new (S : Sta K cn σ δ F H) {p : Addr} (o : HO) (hp : H p = none) : Stp σ δ F H σ δ (upd F p o) (upd H p o) where
  sub := upd_none (S.sub.noneL hp)
  keep := fun a u h _ => upd_none hp a u h
  there := fun a h => by
    by_cases e : a = p
    · subst e; exact absurd hp h
    · rw [upd_ne e]; exact h
  fresh := fun a h1 h2 _ => by
    by_cases e : a = p
    · subst e; exact absurd hp h2
    · rw [upd_ne e]; exact h1
  own := fun q h => .inl h
  lent := fun i xs h => ⟨⟨xs, h⟩, rfl⟩
/-- a new object that is tracked, not frozen -/
theorem Sta.newH (S : Sta K cn σ δ F H) {p : Addr} (o : HO) (hp : H p = none) : Sta K cn σ δ F (upd H p o) where
  len := S.len
  sub := S.sub.trans (upd_none hp)
  dat := S.dat
  own := fun i xs h => by
    obtain ⟨q, vs, e, h1, h2, r, z⟩ := S.own i xs h
    exact ⟨q, vs, e, upd_none hp _ _ h1, h2, r, z⟩
  apart := S.apart
theorem Stp.newH (S : Sta K cn σ δ F H) {p : Addr} (o : HO) (hp : H p = none) : Stp σ δ F H σ δ F (upd H p o) where
  sub := Sub.refl _
  keep := fun a u h _ => upd_none hp a u h
  there := fun a h => by
    by_cases e : a = p
    · subst e; exact absurd hp h
    · rw [upd_ne e]; exact h
  fresh := fun a h1 _ _ => h1
  own := fun q h => .inl h
  lent := fun i xs h => ⟨⟨xs, h⟩, rfl⟩
/-- a tracked object, nobody's, is frozen -/
theorem Sta.frz (S : Sta K cn σ δ F H) {p : Addr} {o : HO} (hp : H p = some o) (hF : F p = none) (hn : ¬ OwnA σ δ p) : Sta K cn σ δ (upd F p o) H where
  len := S.len
  sub := S.sub.upd1 hp
  dat := fun i x h => by
    obtain ⟨v, e, r⟩ := S.dat i x h
    exact ⟨v, e, r.mono (upd_none hF)⟩
  own := fun i xs h => by
    obtain ⟨q, vs, e, h1, h2, r, z⟩ := S.own i xs h
    have ne : q ≠ p := fun w => hn (w ▸ ⟨i, ⟨xs, h⟩, e⟩)
    exact ⟨q, vs, e, h1, by rw [upd_ne ne]; exact h2, r.mono (upd_none hF), z⟩
  apart := S.apart
theorem Stp.frz {σ0 : L2.St} {δ0 : List Sl} {F0 H0 : Hp} (st : Stp σ0 δ0 F0 H0 σ δ F H) {p : Addr} {o : HO} (hF : F p = none) (h0 : H0 p = none) : Stp σ0 δ0 F0 H0 σ δ (upd F p o) H where
  sub := st.sub.trans (upd_none hF)
  keep := st.keep
  there := st.there
  fresh := fun a h1 h2 n => by
    by_cases e : a = p
    · subst e; exact absurd h0 h2
    · rw [upd_ne e]; exact st.fresh a h1 h2 n
  own := st.own
  lent := st.lent
theorem OwnAt.set_d {i j : Nat} {x : D} {p : Addr} (h : OwnAt σ (δ.set i (.d x)) j p) : OwnAt σ δ j p ∧ j ≠ i := by
  obtain ⟨⟨xs, hx⟩, e⟩ := h
  by_cases q : j = i
  · subst q
    exfalso
    rw [List.getElem?_set] at hx
    split at hx
    · rcases hx with hx | hx <;> split at hx <;> cases hx
    · simp_all
  · rw [List.getElem?_set_ne (Ne.symm q)] at hx
    exact ⟨⟨⟨xs, hx⟩, e⟩, q⟩
/-- the list of a slot of its own stands still from now on -/
theorem Sta.move (S : Sta K cn σ δ F H) {i : Nat} {xs : List D} (hi : δ[i]? = some (Sl.own xs)) :
    ∃ p F', σ[i]? = some (some (V.ref p)) ∧ Rp K cn F' (.ref p) (.lst xs) ∧ Sta K cn σ (δ.set i (.d (.lst xs))) F' H ∧ Stp σ δ F H σ (δ.set i (.d (.lst xs))) F' H := by
  obtain ⟨p, vs, e, h1, h2, r, z⟩ := S.own i xs (.inl hi)
  have own : OwnAt σ δ i p := ⟨⟨xs, .inl hi⟩, e⟩
  have hrp : Rp K cn (upd F p (.lst vs)) (.ref p) (.lst xs) := .lst upd_same (r.mono (upd_none h2))
  have hlt : i < δ.length := (List.getElem?_eq_some_iff.mp hi).1
  refine ⟨p, upd F p (.lst vs), e, hrp, ⟨?_, S.sub.upd1 h1, fun j x h => ?_, fun j ys h => ?_, fun j k q a b => S.apart j k q a.set_d.1 b.set_d.1⟩, ⟨upd_none h2, fun a o h _ => h, fun a h => h, fun a h _ hn => ?_, fun q h => ?_, fun j ys h => ?_⟩⟩
  · rw [List.length_set]; exact S.len
  · by_cases q : j = i
    · subst q
      rw [List.getElem?_set_self hlt] at h
      cases h
      exact ⟨_, e, hrp⟩
    · rw [List.getElem?_set_ne (Ne.symm q)] at h
      obtain ⟨v, e', r'⟩ := S.dat j x h
      exact ⟨v, e', r'.mono (upd_none h2)⟩
  · by_cases q : j = i
    · subst q
      rw [List.getElem?_set_self hlt] at h
      rcases h with h | h <;> cases h
    · rw [List.getElem?_set_ne (Ne.symm q)] at h
      obtain ⟨q', vs', e', h1', h2', r', z'⟩ := S.own j ys h
      have ne : q' ≠ p := fun w => q (S.apart j i p (w ▸ ⟨⟨ys, h⟩, e'⟩) own)
      exact ⟨q', vs', e', h1', by rw [upd_ne ne]; exact h2', r'.mono (upd_none h2), z'⟩
  · have ne : a ≠ p := fun w => hn (w ▸ ⟨i, own⟩)
    rw [upd_ne ne]; exact h
  · obtain ⟨j, hj⟩ := h
    exact .inl ⟨j, hj.set_d.1⟩
  · have ne : j ≠ i := fun w => by subst w; rw [hi] at h; cases h
    rw [List.getElem?_set_ne (Ne.symm ne)]
    exact ⟨⟨ys, h⟩, rfl⟩
end
end DL

set_option Elab.async false
set_option linter.all false
set_option maxRecDepth 100000
set_option maxHeartbeats 2000000
set_option autoImplicit false
/-! DLc: expressions. -/
namespace DL
open PySem PySem.Spec L2

/-! ### names, constants -/
def dVar (i : Nat) : DE0 := fun δ => match δ[i]? with
  | some (.d x) => .ok (x, δ)
  | some (.own xs) => .ok (.lst xs, δ.set i (.d (.lst xs)))
  | _ => .bad
def dC (x : D) : DE0 := fun δ => .ok (x, δ)
section
variable {X : Cx} {n : En} {W : WX}
theorem semE_var {i : Nat} : SemE n W (tVar i) (dVar i) := by
  intro σ δ F H Q S h
  unfold dVar at h
  cases e : δ[i]? with
  | none => rw [e] at h; exact h.elim
  | some s =>
    rw [e] at h
    cases s with
    | d x =>
      obtain ⟨v, hv, r⟩ := S.dat i x e
      exact ⟨v, hv, h F H v S Stp.refl r⟩
    | own xs =>
      obtain ⟨p, F', hv, r, S', st⟩ := S.move e
      exact ⟨_, hv, h F' H _ S' st r⟩
    | no => exact h.elim
    | lent xs => exact h.elim
theorem de_var (i : Nat) {x : Str} {pos : Pos} (hN : X.N[i]? = some x := by rfl) (hv : Vis X.env.scope x := by first | exact Or.inl rfl | exact Or.inr (Or.inl rfl) | exact Or.inr (Or.inr rfl)) (hd : (x == ("__debug__" : Str)) = false := by decide)
    (hcd : (x == ("__classdict__" : Str)) = false := by decide) : DE X n W (.Name x pos) (tVar i) (dVar i) := ⟨pv i hN hv hd hcd, semE_var⟩
theorem semE_c {v : V} {x : D} (r : ∀ F, Rp n.K n.cn F v x) : SemE n W (tC v) (dC x) := fun σ δ F H Q S h => h F H v S Stp.refl (r F)
theorem de_int {i : Int} {j : Nat} {pos : Pos} : DE X n W (.Constant (.int i) j pos) (tC (.int i)) (dC (.int i)) := ⟨pe_int, semE_c fun _ => .int i⟩
theorem de_str {x : Str} {j : Nat} {pos : Pos} : DE X n W (.Constant (.str x) j pos) (tC (.str x)) (dC (.str x)) := ⟨pe_str, semE_c fun _ => .str x⟩
theorem de_bl {b : Bool} {j : Nat} {pos : Pos} : DE X n W (.Constant (.bool b) j pos) (tC (.bl b)) (dC (.bl b)) := ⟨pe_bl, semE_c fun _ => .bl b⟩
theorem de_non {j : Nat} {pos : Pos} : DE X n W (.Constant .none j pos) (tC .non) (dC .non) := ⟨pe_non, semE_c fun _ => .non⟩
/-- a constant of the module -/
structure Cst (K : PySem.W.Frag) (cn : Nm) (mg : Str → Option Value) (x : Str) (d : D) : Prop where
  ex : ∃ v u, mg x = some u ∧ RelV v u ∧ ∀ F, Rp K cn F v d
theorem de_cst {x : Str} {d : D} {pos : Pos} (c : Cst n.K n.cn X.mg x d) (hg : Gl X x := by rfl) (hd : (x == ("__debug__" : Str)) = false := by decide) :
    ∃ v, DE X n W (.Name x pos) (tC v) (dC d) := by
  obtain ⟨v, u, h1, h2, h3⟩ := c.ex
  exact ⟨v, pe_glob hg h1 h2 hd, semE_c h3⟩

/-! ### operators on two values -/
def dOp (op : D → D → Option D) (fa fb : DE0) : DE0 := fun δ => (fa δ).bind fun a => (fb a.2).bind fun b => match op a.1 b.1 with
  | some z => .ok (z, b.2)
  | none => .bad
/-- a rule on values does what op tells of data -/
def OpOk (n : En) (r : R2) (op : D → D → Option D) : Prop := ∀ {σ : L2.St} {δ : List Sl} {F H : Hp} {vx vy : V} {x y z : D} (Q : VK), Sta n.K n.cn σ δ F H → Rp n.K n.cn F vx x → Rp n.K n.cn F vy y → op x y = some z →
  (∀ F' H' v, Sta n.K n.cn σ δ F' H' → Stp σ δ F H σ δ F' H' → Rp n.K n.cn F' v z → Q v H') → r vx vy H Q
theorem semE_op {r : R2} {op : D → D → Option D} {ta tb : TE} {fa fb : DE0} (h : OpOk n r op) (sa : SemE n W ta fa) (sb : SemE n W tb fb) : SemE n W (tOp r ta tb) (dOp op fa fb) := by
  intro σ δ F H Q S hP
  refine sa.go (g := fun a => (fb a.2).bind fun b => match op a.1 b.1 with
    | some z => .ok (z, b.2)
    | none => .bad) PL.e S hP fun x δ1 F1 H1 v S1 st1 r1 h1 => ?_
  refine sb.go (g := fun b => match op x b.1 with
    | some z => .ok (z, b.2)
    | none => .bad) PL.e S1 h1 fun y δ2 F2 H2 u S2 st2 r2 h2 => ?_
  cases e : op x y with
  | none => simp only [e] at h2; exact h2.elim
  | some z =>
    simp only [e] at h2
    exact h Q S2 (r1.mono st2.sub) r2 e fun F' H' w a b c => h2 F' H' w a b c
/-- ints to a value -/
def pI (g : Int → Int → Option D) : D → D → Option D
  | .int i, .int j => g i j
  | _, _ => none
theorem opOk_I {C : Int → Int → Prop} {g : Int → Int → V} {g' : Int → Int → Option D} (h : ∀ i j z, g' i j = some z → C i j ∧ ∀ F, Rp n.K n.cn F (g i j) z) : OpOk n (rI C g) (pI g') := by
  intro σ δ F H vx vy x y z Q S rx ry e k
  cases rx <;> cases ry <;> first | (cases e; done) | skip
  rename_i i j
  obtain ⟨c, r⟩ := h i j z e
  exact ⟨i, j, rfl, rfl, c, k F H _ S Stp.refl (r F)⟩
theorem opOk_I0 {g : Int → Int → V} {g' : Int → Int → Option D} (h : ∀ i j z, g' i j = some z → ∀ F, Rp n.K n.cn F (g i j) z) : OpOk n (rI0 g) (pI g') := by
  intro σ δ F H vx vy x y z Q S rx ry e k
  cases rx <;> cases ry <;> first | (cases e; done) | skip
  rename_i i j
  exact ⟨i, j, rfl, rfl, k F H _ S Stp.refl (h i j z e F)⟩
def pSub : D → D → Option D := pI fun i j => some (.int (i - j))
/-- one factor below 2 ^ 64 -/
def pMul : D → D → Option D := pI fun i j => if i.natAbs < 18446744073709551616 ∨ j.natAbs < 18446744073709551616 then some (.int (i * j)) else none
def pMod : D → D → Option D := pI fun i j => if 0 < j then some (.int (i % j)) else none
def pDiv : D → D → Option D := pI fun i j => if 0 < j ∧ j.natAbs < 1073741824 then some (.int (i / j)) else none
def pPow : D → D → Option D := pI fun i j => if 0 ≤ j ∧ j.natAbs ≤ 1000 ∧ i.natAbs < 18446744073709551616 then some (.int (i ^ j.toNat)) else none
variable {a b : Expr} {ta tb : TE} {fa fb : DE0} {pos : Pos}
theorem de_sub (ha : DE X n W a ta fa) (hb : DE X n W b tb fb) : DE X n W (.BinOp a .Sub b pos) (tOp (rI0 fun i j => .int (i - j)) ta tb) (dOp pSub fa fb) :=
  ⟨pe_op op_sub ha.p hb.p, semE_op (opOk_I0 fun i j z e F => by cases e; exact .int _) ha.s hb.s⟩
theorem big_mul {i j : Int} (c : i.natAbs < 18446744073709551616 ∨ j.natAbs < 18446744073709551616) : CMul i j := by
  rcases c with c | c
  · exact .inl (by constructor <;> omega)
  · exact .inr (by constructor <;> omega)
theorem de_mul (ha : DE X n W a ta fa) (hb : DE X n W b tb fb) : DE X n W (.BinOp a .Mult b pos) (tOp (rI CMul fun i j => .int (i * j)) ta tb) (dOp pMul fa fb) :=
  ⟨pe_op op_mul ha.p hb.p, semE_op (opOk_I fun i j z e => by
    split at e
    · cases e
      rename_i c
      exact ⟨big_mul c, fun F => .int _⟩
    · cases e) ha.s hb.s⟩
theorem de_mod (ha : DE X n W a ta fa) (hb : DE X n W b tb fb) : DE X n W (.BinOp a .Mod b pos) (tOp (rI (fun _ j => 0 < j) fun i j => .int (i % j)) ta tb) (dOp pMod fa fb) :=
  ⟨pe_op op_mod ha.p hb.p, semE_op (opOk_I fun i j z e => by
    split at e
    · cases e
      rename_i c
      exact ⟨c, fun F => .int _⟩
    · cases e) ha.s hb.s⟩
theorem de_div (ha : DE X n W a ta fa) (hb : DE X n W b tb fb) : DE X n W (.BinOp a .FloorDiv b pos) (tOp (rI CDiv fun i j => .int (i / j)) ta tb) (dOp pDiv fa fb) :=
  ⟨pe_op op_fdiv ha.p hb.p, semE_op (opOk_I fun i j z e => by
    split at e
    · cases e
      rename_i c
      exact ⟨⟨c.1, by have := c.2; omega⟩, fun F => .int _⟩
    · cases e) ha.s hb.s⟩
theorem de_pow (ha : DE X n W a ta fa) (hb : DE X n W b tb fb) : DE X n W (.BinOp a .Pow b pos) (tOp (rI CPow fun i j => .int (i ^ j.toNat)) ta tb) (dOp pPow fa fb) :=
  ⟨pe_op op_pow ha.p hb.p, semE_op (opOk_I fun i j z e => by
    split at e
    · cases e
      rename_i c
      exact ⟨⟨c.1, by have := c.2.1; omega, by have := c.2.2; omega⟩, fun F => .int _⟩
    · cases e) ha.s hb.s⟩
/-- + of ints, of tuples -/
def pAdd : D → D → Option D
  | .int i, .int j => some (.int (i + j))
  | .tup xs, .tup ys => if xs.length + ys.length ≤ 10000 then some (.tup (xs ++ ys)) else none
  | .lst xs, .lst ys => if xs.length + ys.length ≤ 1000000 then some (.lst (xs ++ ys)) else none
  | _, _ => none
theorem size10000 {k : Nat} (h : k ≤ 10000) : k ≤ sizeLine := by rw [sizeLine_eq]; omega
theorem size1000000 {k : Nat} (h : k ≤ 1000000) : k ≤ sizeLine := by rw [sizeLine_eq]; omega
theorem opOk_add : OpOk n (fun x y H Q => ((rI0 fun i j => .int (i + j)) x y H Q ∨ rCatX n.K x y H Q) ∨ rCat x y H Q) pAdd := by
  intro σ δ F H vx vy x y z Q S rx ry e k
  cases rx <;> cases ry <;> first | (cases e; done) | skip
  · cases e
    exact .inl (.inl ⟨_, _, rfl, rfl, k F H _ S Stp.refl (.int _)⟩)
  · rename_i a xs ds h1 h2 b ys es h3 h4
    have e' : (if ds.length + es.length ≤ 10000 then some (D.tup (ds ++ es)) else none) = some z := e
    split at e'
    · rename_i c
      cases e'
      refine .inl (.inr ⟨a, b, xs, ys, rfl, rfl, S.sub.sqT h1.sq, S.sub.sqT h3.sq, ?_, fun q => ?_, fun _ q => ?_, fun _ _ p o hp ho => ?_⟩)
      · rw [h2.len, h4.len]; exact size10000 c
      · subst q
        cases h2
        exact k F H _ S Stp.refl (.tup h3 h4)
      · subst q
        cases h4
        have ed : ds ++ [] = ds := List.append_nil _
        exact k F H _ S Stp.refl (ed.symm ▸ .tup h1 h2)
      · have hs := upd_none (o := .frz o (.tup (xs ++ ys))) (S.sub.noneL hp)
        exact k _ _ _ (S.new _ hp) (Stp.new S _ hp) (.tup (.inl ⟨o, upd_same, ho⟩) ((h2.mono hs).append (h4.mono hs)))
    · cases e'
  · rename_i a xs ds h1 h2 b ys es h3 h4
    have e' : (if ds.length + es.length ≤ 1000000 then some (D.lst (ds ++ es)) else none) = some z := e
    split at e'
    · rename_i c
      cases e'
      refine .inr ⟨a, b, xs, ys, rfl, rfl, S.sub _ _ h1, S.sub _ _ h3, ?_, fun p hp => ?_⟩
      · rw [h2.len, h4.len]; exact size1000000 c
      · have hs := upd_none (o := .lst (xs ++ ys)) (S.sub.noneL hp)
        exact k _ _ _ (S.new _ hp) (Stp.new S _ hp) (.lst upd_same ((h2.mono hs).append (h4.mono hs)))
    · cases e'
theorem de_add (hk : X.K = n.K) (ha : DE X n W a ta fa) (hb : DE X n W b tb fb) : DE X n W (.BinOp a .Add b pos) (tOp (fun x y H Q => ((rI0 fun i j => .int (i + j)) x y H Q ∨ rCatX n.K x y H Q) ∨ rCat x y H Q) ta tb) (dOp pAdd fa fb) :=
  ⟨pe_op (OpR.or (OpR.or op_add (hk ▸ op_catX)) op_cat) ha.p hb.p, semE_op opOk_add ha.s hb.s⟩

/-! ### == of plain data -/
mutual
def toP : D → PyData
  | .non => .none
  | .bl b => .bool b
  | .int i => .int i
  | .str x => .str x
  | .tup xs => .tuple (toPs xs)
  | .lst xs => .list (toPs xs)
  | .scr _ => .none
  | .dct _ => .none
  | .ins _ _ => .none
def toPs : List D → List PyData
  | [] => []
  | x :: xs => toP x :: toPs xs
end
mutual
/-- no object, no dict within; how deep at most -/
def pl : Nat → D → Bool
  | _, .non => true
  | _, .bl _ => true
  | _, .int _ => true
  | _, .str _ => true
  | 0, _ => false
  | k + 1, .tup xs => pls k xs
  | k + 1, .lst xs => pls k xs
  | _, _ => false
def pls : Nat → List D → Bool
  | _, [] => true
  | k, x :: xs => pl k x && pls k xs
end

mutual
theorem toP_plain : ∀ d : D, (toP d).plain = true
  | .non => rfl
  | .bl _ => rfl
  | .int _ => rfl
  | .str _ => rfl
  | .tup xs => by rw [toP, PyData.plain]; exact toPs_plain xs
  | .lst xs => by rw [toP, PyData.plain]; exact toPs_plain xs
  | .scr _ => by rw [toP]; rfl
  | .dct _ => by rw [toP]; rfl
  | .ins _ _ => by rw [toP]; rfl
theorem toPs_plain : ∀ ds : List D, PyData.plainAll (toPs ds) = true
  | [] => rfl
  | d :: ds => by rw [toPs, PyData.plainAll, toP_plain d, toPs_plain ds]; rfl
end
mutual
theorem toP_depth : ∀ (d : D) (k : Nat), pl k d = true → (toP d).depth ≤ k
  | .non, k, _ => Nat.zero_le _
  | .bl _, k, _ => Nat.zero_le _
  | .int _, k, _ => Nat.zero_le _
  | .str _, k, _ => Nat.zero_le _
  | .tup xs, 0, h => by simp [pl] at h
  | .tup xs, k + 1, h => by rw [pl] at h; rw [toP, PyData.depth]; have := toPs_depth xs k h; omega
  | .lst xs, 0, h => by simp [pl] at h
  | .lst xs, k + 1, h => by rw [pl] at h; rw [toP, PyData.depth]; have := toPs_depth xs k h; omega
  | .scr _, k, h => by cases k <;> simp [pl] at h
  | .dct _, k, h => by cases k <;> simp [pl] at h
  | .ins _ _, k, h => by cases k <;> simp [pl] at h
theorem toPs_depth : ∀ (ds : List D) (k : Nat), pls k ds = true → PyData.depthAll (toPs ds) ≤ k
  | [], k, _ => Nat.zero_le _
  | d :: ds, k, h => by
    rw [pls, Bool.and_eq_true] at h
    rw [toPs, PyData.depthAll]
    exact Nat.max_le.mpr ⟨toP_depth d k h.1, toPs_depth ds k h.2⟩
end
mutual
theorem Rp.dp {K : PySem.W.Frag} {cn : Nm} {F H : Hp} (s : Sub F H) : ∀ (d : D) (k : Nat) (v : V), pl k d = true → Rp K cn F v d → Dp K H v (toP d)
  | .non, _, _, _, .non => .non
  | .bl _, _, _, _, .bl b => .bl b
  | .int _, _, _, _, .int i => .int i
  | .str _, _, _, _, .str x => .str x
  | .tup xs, 0, _, h, _ => by simp [pl] at h
  | .tup xs, k + 1, _, h, .tup a r => by rw [pl] at h; rw [toP]; exact .tup (s.sqT a.sq) (RpAll.dp s xs k _ h r)
  | .lst xs, 0, _, h, _ => by simp [pl] at h
  | .lst xs, k + 1, _, h, .lst a r => by rw [pl] at h; rw [toP]; exact .lst (SqL.of (s _ _ a)) (RpAll.dp s xs k _ h r)
  | .scr _, k, _, h, _ => by cases k <;> simp [pl] at h
  | .dct _, k, _, h, _ => by cases k <;> simp [pl] at h
  | .ins _ _, k, _, h, _ => by cases k <;> simp [pl] at h
theorem RpAll.dp {K : PySem.W.Frag} {cn : Nm} {F H : Hp} (s : Sub F H) : ∀ (ds : List D) (k : Nat) (vs : List V), pls k ds = true → RpAll K cn F vs ds → DpAll K H vs (toPs ds)
  | [], _, _, _, .nil => by rw [toPs]; exact .nil
  | d :: ds, k, _, h, .cons a r => by
    rw [pls, Bool.and_eq_true] at h
    rw [toPs]
    exact .cons (Rp.dp s d k _ h.1 a) (RpAll.dp s ds k _ h.2 r)
end
/-- == of data (as Python has it: True is 1) -/
def eqb (x y : D) : Bool := PyData.eqv (toP x) (toP y)
/-- how deep data may be that are compared -/
abbrev deep : Nat := 40
def pEq (x y : D) : Option Bool := if pl deep x && pl deep y then some (eqb x y) else none
def rEqP (K : PySem.W.Frag) (neg : Bool) : R2 := fun x y H Q => ∃ d e : D, Dp K H x (toP d) ∧ Dp K H y (toP e) ∧ pl deep d = true ∧ Q (.bl (if neg then !eqb d e else eqb d e)) H
theorem room_eq {A : Around} (hu : A.units + 100 < cLine) {d : D} {e : PyData} (h : pl deep d = true) : A.units + min (toP d).depth e.depth < cLine := by
  have h1 := toP_depth d deep h
  have h2 : min (toP d).depth e.depth ≤ (toP d).depth := Nat.min_le_left _ _
  show A.units + min (toP d).depth e.depth < cLine
  have h3 : (toP d).depth ≤ 40 := h1
  omega
theorem op_eqP (hu : X.A.units + 100 < cLine) : OpR X (compareOp .Eq) (rEqP X.K false) := by
  intro pins s σ H x y v u Q I rx ry h
  obtain ⟨d, e, hd, he, pd, q⟩ := h
  obtain ⟨as, r1⟩ := Dp.reads I _ x v hd rx
  obtain ⟨bs, r2⟩ := Dp.reads I _ y u he ry
  exact SeqAt.eq_plain r1 r2 (toP_plain d) (toP_plain e) (room_eq hu pd) ⟨.bl _, H, I, rfl, q⟩
theorem op_neP (hu : X.A.units + 100 < cLine) : OpR X (compareOp .NotEq) (rEqP X.K true) := by
  intro pins s σ H x y v u Q I rx ry h
  obtain ⟨d, e, hd, he, pd, q⟩ := h
  obtain ⟨as, r1⟩ := Dp.reads I _ x v hd rx
  obtain ⟨bs, r2⟩ := Dp.reads I _ y u he ry
  exact SeqAt.ne_plain r1 r2 (toP_plain d) (toP_plain e) (room_eq hu pd) ⟨.bl _, H, I, rfl, q⟩
def pEqD (x y : D) : Option D := (pEq x y).map .bl
def pNeD (x y : D) : Option D := (pEq x y).map fun b => .bl (!b)
theorem pEq_some {x y : D} {b : Bool} (h : pEq x y = some b) : pl deep x = true ∧ pl deep y = true ∧ b = eqb x y := by
  unfold pEq at h
  split at h
  · rename_i c
    rw [Bool.and_eq_true] at c
    cases h
    exact ⟨c.1, c.2, rfl⟩
  · cases h
theorem opOk_eq : OpOk n (rEqP n.K false) pEqD := by
  intro σ δ F H vx vy x y z Q S rx ry e k
  obtain ⟨b, hb, rfl⟩ := Option.map_eq_some_iff.mp e
  obtain ⟨h1, h2, rfl⟩ := pEq_some hb
  exact ⟨x, y, rx.dp S.sub _ _ _ h1, ry.dp S.sub _ _ _ h2, h1, k F H _ S Stp.refl (.bl _)⟩
theorem opOk_ne : OpOk n (rEqP n.K true) pNeD := by
  intro σ δ F H vx vy x y z Q S rx ry e k
  obtain ⟨b, hb, rfl⟩ := Option.map_eq_some_iff.mp e
  obtain ⟨h1, h2, rfl⟩ := pEq_some hb
  exact ⟨x, y, rx.dp S.sub _ _ _ h1, ry.dp S.sub _ _ _ h2, h1, k F H _ S Stp.refl (.bl _)⟩
/-- the surroundings: what the def's rules lean on -/
structure Ok (X : Cx) (n : En) : Prop where
  k : X.K = n.K
  u : X.A.units + 180 < cLine
  calm : X.calm = true
  nd : X.N.Nodup
  ps : PassesOwn (model X.prog X.w) X.A X.env X.xe
  g : X.A.guards = some []
theorem Ok.u1 (o : Ok X n) : X.A.units + 100 < cLine := by have := o.u; omega
theorem Ok.eq (o : Ok X n) : OpR X (compareOp .Eq) (rEqP n.K false) := by have h := op_eqP (X := X) o.u1; rw [o.k] at h; exact h
theorem Ok.ne (o : Ok X n) : OpR X (compareOp .NotEq) (rEqP n.K true) := by have h := op_neP (X := X) o.u1; rw [o.k] at h; exact h
theorem de_eq (o : Ok X n) (ha : DE X n W a ta fa) (hb : DE X n W b tb fb) : DE X n W (.Compare a [.Eq] [b] pos) (tOp (rEqP n.K false) ta tb) (dOp pEqD fa fb) :=
  ⟨pe_cmpR o.eq ha.p hb.p (nomark _), semE_op opOk_eq ha.s hb.s⟩
theorem de_ne (o : Ok X n) (ha : DE X n W a ta fa) (hb : DE X n W b tb fb) : DE X n W (.Compare a [.NotEq] [b] pos) (tOp (rEqP n.K true) ta tb) (dOp pNeD fa fb) :=
  ⟨pe_cmpR o.ne ha.p hb.p (nomark _), semE_op opOk_ne ha.s hb.s⟩

/-! ### other comparisons -/
def pLt : D → D → Option D := pI fun i j => some (.bl (decide (i < j)))
def pLe : D → D → Option D := pI fun i j => some (.bl (decide (i ≤ j)))
def pGt : D → D → Option D := pI fun i j => some (.bl (decide (j < i)))
def pGe : D → D → Option D := pI fun i j => some (.bl (decide (j ≤ i)))
theorem opOk_cmp {g : Int → Int → Bool} : OpOk n (rI0 fun i j => .bl (g i j)) (pI fun i j => some (.bl (g i j))) := opOk_I0 fun i j z e F => by cases e; exact .bl _
theorem de_lt (ha : DE X n W a ta fa) (hb : DE X n W b tb fb) : DE X n W (.Compare a [.Lt] [b] pos) (tOp (rI0 fun i j => .bl (decide (i < j))) ta tb) (dOp pLt fa fb) := ⟨pe_cmpR op_lt ha.p hb.p (nomark _), semE_op opOk_cmp ha.s hb.s⟩
theorem de_le (ha : DE X n W a ta fa) (hb : DE X n W b tb fb) : DE X n W (.Compare a [.LtE] [b] pos) (tOp (rI0 fun i j => .bl (decide (i ≤ j))) ta tb) (dOp pLe fa fb) := ⟨pe_cmpR op_le ha.p hb.p (nomark _), semE_op opOk_cmp ha.s hb.s⟩
theorem de_gt (ha : DE X n W a ta fa) (hb : DE X n W b tb fb) : DE X n W (.Compare a [.Gt] [b] pos) (tOp (rI0 fun i j => .bl (decide (j < i))) ta tb) (dOp pGt fa fb) := ⟨pe_cmpR op_gt ha.p hb.p (nomark _), semE_op opOk_cmp ha.s hb.s⟩
theorem de_ge (ha : DE X n W a ta fa) (hb : DE X n W b tb fb) : DE X n W (.Compare a [.GtE] [b] pos) (tOp (rI0 fun i j => .bl (decide (j ≤ i))) ta tb) (dOp pGe fa fb) := ⟨pe_cmpR op_ge ha.p hb.p (nomark _), semE_op opOk_cmp ha.s hb.s⟩
/-- a <= b < c -/
def dChain (op op' : D → D → Option D) (fa fb fc : DE0) : DE0 := fun δ => (fa δ).bind fun a => (fb a.2).bind fun b => match op a.1 b.1 with
  | some (.bl true) => (fc b.2).bind fun c => match op' b.1 c.1 with
    | some z => .ok (z, c.2)
    | none => .bad
  | some (.bl false) => .ok (.bl false, b.2)
  | _ => .bad
theorem semE_chain {r r' : R2} {op op' : D → D → Option D} {tc : TE} {fc : DE0} (h : OpOk n r op) (h' : OpOk n r' op') (sa : SemE n W ta fa) (sb : SemE n W tb fb) (sc : SemE n W tc fc) : SemE n W (tChain r r' ta tb tc) (dChain op op' fa fb fc) := by
  intro σ δ F H Q S hP
  unfold dChain at hP
  refine sa.go PL.e S hP fun x δ1 F1 H1 v S1 st1 r1 h1 => ?_
  refine sb.go PL.e S1 h1 fun y δ2 F2 H2 u S2 st2 r2 h2 => ?_
  cases e : op x y with
  | none => simp only [e] at h2; exact h2.elim
  | some z =>
    simp only [e] at h2
    refine h _ S2 (r1.mono st2.sub) r2 e fun F3 H3 w S3 st3 r3 => ?_
    cases z with
    | bl k =>
      cases r3
      refine ⟨k, rfl, ?_⟩
      cases k with
      | true =>
        rw [if_pos rfl]
        refine sc.go PL.e S3 (PL.e.pre st3 h2) fun c δ4 F4 H4 w4 S4 st4 r4 h4 => ?_
        cases e' : op' y c with
        | none => simp only [e'] at h4; exact h4.elim
        | some z' =>
          simp only [e'] at h4
          exact h' Q S4 ((r2.mono st3.sub).mono st4.sub) r4 e' fun F' H' w a b c => h4 F' H' w a b c
      | false =>
        rw [if_neg Bool.false_ne_true]
        exact h2 F3 H3 _ S3 st3 (.bl false)
    | _ => exact h2.elim
theorem de_chainLeLt {c : Expr} {tc : TE} {fc : DE0} (ha : DE X n W a ta fa) (hb : DE X n W b tb fb) (hc : DE X n W c tc fc) (hm : lastMarks [CmpOp.LtE, CmpOp.Lt] [b, c] = false := by with_unfolding_all rfl) :
    DE X n W (.Compare a [.LtE, .Lt] [b, c] pos) (tChain (rI0 fun i j => .bl (decide (i ≤ j))) (rI0 fun i j => .bl (decide (i < j))) ta tb tc) (dChain pLe pLt fa fb fc) :=
  ⟨pe_chain op_le op_lt ha.p hb.p hc.p hm, semE_chain opOk_cmp opOk_cmp ha.s hb.s hc.s⟩
def pIsN (x : D) : Bool := match x with
  | .non => true
  | _ => false
theorem Rp.isN {K : PySem.W.Frag} {cn : Nm} {F : Hp} {v : V} {x : D} (r : Rp K cn F v x) : decide (v = .non) = pIsN x := by
  cases r <;> rfl
/-- a is None -/
def dIsN (fa : DE0) : DE0 := fun δ => (fa δ).bind fun a => .ok (.bl (pIsN a.1), a.2)
def dNotN (fa : DE0) : DE0 := fun δ => (fa δ).bind fun a => .ok (.bl (!pIsN a.1), a.2)
theorem de_isN {j : Nat} {pos' : Pos} (ha : DE X n W a ta fa) : DE X n W (.Compare a [.Is] [.Constant .none j pos'] pos) (tIsN ta) (dIsN fa) :=
  ⟨pe_cmp (pc_isN ha.p) (nomark _), fun σ δ F H Q S hP => ha.s.go PL.e S hP fun x δ1 F1 H1 v S1 st1 r1 h1 => by
    rw [r1.isN]
    exact h1 F1 H1 _ S1 Stp.refl (.bl _)⟩
theorem de_notN {j : Nat} {pos' : Pos} (ha : DE X n W a ta fa) : DE X n W (.Compare a [.IsNot] [.Constant .none j pos'] pos) (tNotN ta) (dNotN fa) :=
  ⟨pe_cmp (pc_notN ha.p) (nomark _), fun σ δ F H Q S hP => ha.s.go PL.e S hP fun x δ1 F1 H1 v S1 st1 r1 h1 => by
    rw [r1.isN]
    exact h1 F1 H1 _ S1 Stp.refl (.bl _)⟩
end
end DL

set_option Elab.async false
set_option linter.all false
set_option maxRecDepth 100000
set_option maxHeartbeats 2000000
set_option autoImplicit false
/-! DLd: truth, choices, places, lengths, displays. -/
namespace DL
open PySem PySem.Spec L2
section
variable {X : Cx} {n : En} {W : WX} {a b c : Expr} {ta tb tc : TE} {fa fb fc : DE0} {pos : Pos} {rest : List Expr} {tA tB : TT} {gA gB : DT0}
/-! ### a constant of the module -/
def tGl (n : En) (d : D) : TE := fun _ H Q => ∀ v, (∀ F, Rp n.K n.cn F v d) → Q v H
theorem de_glob {x : Str} {d : D} (c : Cst n.K n.cn X.mg x d) (hg : Gl X x := by rfl) (hd : (x == ("__debug__" : Str)) = false := by decide) : DE X n W (.Name x pos) (tGl n d) (dC d) := by
  obtain ⟨v, u, h1, h2, h3⟩ := c.ex
  exact ⟨⟨fun pins s σ H Q I h => (pe_glob hg h1 h2 hd).run pins s σ H Q I (h v h3)⟩, fun σ δ F H Q S h v r => h F H v S Stp.refl (r F)⟩
/-! ### and, or, not as values -/
def dAnd (fa fb : DE0) : DE0 := fun δ => (fa δ).bind fun a => match a.1 with
  | .bl true => fb a.2
  | .bl false => .ok (.bl false, a.2)
  | _ => .bad
def dOr (fa fb : DE0) : DE0 := fun δ => (fa δ).bind fun a => match a.1 with
  | .bl true => .ok (.bl true, a.2)
  | .bl false => fb a.2
  | _ => .bad
def dNot (fa : DE0) : DE0 := fun δ => (fa δ).bind fun a => match a.1 with
  | .bl b => .ok (.bl (!b), a.2)
  | _ => .bad
theorem de_one {op : BoolOp} {t : TE} {f : DE0} (h : DE X n W a t f) : DE X n W (.BoolOp op [a] pos) t f := ⟨pe_one h.p, h.s⟩
theorem semE_and (sa : SemE n W ta fa) (sb : SemE n W tb fb) : SemE n W (tAndV ta tb) (dAnd fa fb) := by
  intro σ δ F H Q S hP
  refine sa.go PL.e S hP fun x δ1 F1 H1 v S1 st1 r1 h1 => ?_
  cases r1 <;> first | (exact h1.elim; done) | skip
  rename_i k
  refine ⟨k, rfl, ?_⟩
  cases k with
  | true => rw [if_pos rfl]; exact sb _ _ _ _ _ S1 h1
  | false => rw [if_neg Bool.false_ne_true]; exact h1 F1 H1 _ S1 Stp.refl (.bl false)
theorem semE_or (sa : SemE n W ta fa) (sb : SemE n W tb fb) : SemE n W (tOrV ta tb) (dOr fa fb) := by
  intro σ δ F H Q S hP
  refine sa.go PL.e S hP fun x δ1 F1 H1 v S1 st1 r1 h1 => ?_
  cases r1 <;> first | (exact h1.elim; done) | skip
  rename_i k
  refine ⟨k, rfl, ?_⟩
  cases k with
  | true => rw [if_pos rfl]; exact h1 F1 H1 _ S1 Stp.refl (.bl true)
  | false => rw [if_neg Bool.false_ne_true]; exact sb _ _ _ _ _ S1 h1
theorem de_and (ha : DE X n W a ta fa) (hb : DE X n W (.BoolOp .And (b :: rest) pos) tb fb) : DE X n W (.BoolOp .And (a :: b :: rest) pos) (tAndV ta tb) (dAnd fa fb) := ⟨pe_and ha.p hb.p, semE_and ha.s hb.s⟩
theorem de_or (ha : DE X n W a ta fa) (hb : DE X n W (.BoolOp .Or (b :: rest) pos) tb fb) : DE X n W (.BoolOp .Or (a :: b :: rest) pos) (tOrV ta tb) (dOr fa fb) := ⟨pe_or ha.p hb.p, semE_or ha.s hb.s⟩
theorem de_not (ha : DE X n W a ta fa) : DE X n W (.UnaryOp .Not a pos) (tNotV ta) (dNot fa) := ⟨pe_not ha.p, fun σ δ F H Q S hP => ha.s.go PL.e S hP fun x δ1 F1 H1 v S1 st1 r1 h1 => by
  cases r1 <;> first | (exact h1.elim; done) | skip
  rename_i k
  exact ⟨k, rfl, h1 F1 H1 _ S1 Stp.refl (.bl _)⟩⟩
/-! ### tests -/
def dTest (fa : DE0) : DT0 := fun δ => (fa δ).bind fun a => match a.1 with
  | .bl b => .ok (b, a.2)
  | _ => .bad
theorem semT_val (sa : SemE n W ta fa) : SemT n W (L2.tB ta) (dTest fa) := fun σ δ F H Q S hP => sa.go PL.t S hP fun x δ1 F1 H1 v S1 st1 r1 h1 => by
  cases r1 <;> first | (exact h1.elim; done) | skip
  rename_i k
  exact ⟨k, rfl, h1 F1 H1 S1 Stp.refl⟩
theorem dt_val (ha : DE X n W a ta fa) (he : ∀ whole, isTrue a X.env whole = (do let v ← whole; standAt a.pos; holding [v] (truthy v)) := by intro _; rfl) : DT X n W a (L2.tB ta) (dTest fa) := ⟨pt_val ha.p he, semT_val ha.s⟩
def dtNot (g : DT0) : DT0 := fun δ => (g δ).bind fun a => .ok (!a.1, a.2)
theorem dt_not (h : DT X n W a tA gA) : DT X n W (.UnaryOp .Not a pos) (tNot tA) (dtNot gA) := ⟨pt_not h.p, fun σ δ F H Q S hP => h.s.go PL.t S hP fun b δ1 F1 H1 S1 st1 h1 => h1 F1 H1 S1 Stp.refl⟩
def dtAnd (g g' : DT0) : DT0 := fun δ => (g δ).bind fun a => match a.1 with
  | true => g' a.2
  | false => .ok (false, a.2)
def dtOr (g g' : DT0) : DT0 := fun δ => (g δ).bind fun a => match a.1 with
  | true => .ok (true, a.2)
  | false => g' a.2
theorem dw_and1 (h : DT X n W a tA gA) : DW X n W (.BoolOp .And [a] pos) tA gA := ⟨pw_and1 h.p, h.s⟩
theorem dw_or1 (h : DT X n W a tA gA) : DW X n W (.BoolOp .Or [a] pos) tA gA := ⟨pw_or1 h.p, h.s⟩
theorem dw_and (ha : DT X n W a tA gA) (hb : DW X n W (.BoolOp .And (b :: rest) pos) tB gB) : DW X n W (.BoolOp .And (a :: b :: rest) pos) (tAnd tA tB) (dtAnd gA gB) :=
  ⟨pw_and ha.p hb.p, fun σ δ F H Q S hP => ha.s.go PL.t S hP fun k δ1 F1 H1 S1 st1 h1 => by
    cases k with
    | true => exact (if_pos rfl : (if true = true then _ else _) = _) ▸ (hb.s _ _ _ _ _ S1 h1)
    | false => exact (if_neg Bool.false_ne_true : (if false = true then _ else _) = _) ▸ (h1 F1 H1 S1 Stp.refl)⟩
theorem dw_or (ha : DT X n W a tA gA) (hb : DW X n W (.BoolOp .Or (b :: rest) pos) tB gB) : DW X n W (.BoolOp .Or (a :: b :: rest) pos) (tOr tA tB) (dtOr gA gB) :=
  ⟨pw_or ha.p hb.p, fun σ δ F H Q S hP => ha.s.go PL.t S hP fun k δ1 F1 H1 S1 st1 h1 => by
    cases k with
    | true => exact (if_pos rfl : (if true = true then _ else _) = _) ▸ (h1 F1 H1 S1 Stp.refl)
    | false => exact (if_neg Bool.false_ne_true : (if false = true then _ else _) = _) ▸ (hb.s _ _ _ _ _ S1 h1)⟩
theorem DW.dt (h : DW X n W a tA gA) : DT X n W a tA gA := ⟨h.p.pt, h.s⟩
def dIf (g : DT0) (fa fb : DE0) : DE0 := fun δ => (g δ).bind fun c => match c.1 with
  | true => fa c.2
  | false => fb c.2
theorem de_if {t : Expr} (ht : DT X n W t tA gA) (ha : DE X n W a ta fa) (hb : DE X n W b tb fb) : DE X n W (.IfExp t a b pos) (tIf tA ta tb) (dIf gA fa fb) :=
  ⟨pe_ifExp ht.p ha.p hb.p, fun σ δ F H Q S hP => ht.s.go PL.e S hP fun k δ1 F1 H1 S1 st1 h1 => by
    cases k with
    | true => exact (if_pos rfl : (if true = true then _ else _) = _) ▸ (ha.s _ _ _ _ _ S1 h1)
    | false => exact (if_neg Bool.false_ne_true : (if false = true then _ else _) = _) ▸ (hb.s _ _ _ _ _ S1 h1)⟩
/-! ### in, not in -/
def pInB (x y : D) : Option Bool := match y with
  | .tup ys => if pl deep x && pls deep ys then some (ys.any fun y => eqb y x) else none
  | .lst ys => if pl deep x && pls deep ys then some (ys.any fun y => eqb y x) else none
  | _ => none
def pIn (x y : D) : Option D := (pInB x y).map .bl
def pNotIn (x y : D) : Option D := (pInB x y).map fun b => .bl (!b)
def rInP (K : PySem.W.Frag) (neg : Bool) : R2 := fun x y H Q => ∃ (d : D) (ys : List D), Dp K H x (toP d) ∧ (Dp K H y (.tuple (toPs ys)) ∨ Dp K H y (.list (toPs ys))) ∧ pl deep d = true ∧ Q (.bl (if neg then !(ys.any fun y => eqb y d) else ys.any fun y => eqb y d)) H
theorem toPs_any (p : PyData → Bool) : ∀ ys : List D, ((toPs ys).any p) = ys.any fun y => p (toP y)
  | [] => rfl
  | y :: ys => by rw [toPs, List.any_cons, List.any_cons, toPs_any p ys]
theorem room_in {A : Around} (hu : A.units + 100 < cLine) {d : D} {k : Nat} (h : pl deep d = true) : A.units + 1 + min k (toP d).depth < cLine := by
  have h1 : (toP d).depth ≤ 40 := toP_depth d deep h
  have h2 : min k (toP d).depth ≤ (toP d).depth := Nat.min_le_right _ _
  omega
theorem op_inP (hu : X.A.units + 100 < cLine) : OpR X (compareOp .In) (rInP X.K false) := by
  intro pins s σ H x y v u Q I rx ry h
  obtain ⟨d, ys, hd, he, pd, q⟩ := h
  obtain ⟨as, r1⟩ := Dp.reads I _ x v hd rx
  have q' : Q (.bl ((toPs ys).any fun y => PyData.eqv y (toP d))) H := by rw [toPs_any]; exact q
  rcases he with he | he
  · obtain ⟨bs, r2⟩ := Dp.reads I _ y u he ry
    exact SeqAt.in_tuple_data r2 r1 (toPs_plain ys) (toP_plain d) (room_in hu pd) ⟨.bl _, H, I, rfl, q'⟩
  · obtain ⟨bs, r2⟩ := Dp.reads I _ y u he ry
    exact SeqAt.in_list_data r2 r1 (toPs_plain ys) (toP_plain d) (room_in hu pd) ⟨.bl _, H, I, rfl, q'⟩
theorem op_notInP (hu : X.A.units + 100 < cLine) : OpR X (compareOp .NotIn) (rInP X.K true) := by
  intro pins s σ H x y v u Q I rx ry h
  obtain ⟨d, ys, hd, he, pd, q⟩ := h
  obtain ⟨as, r1⟩ := Dp.reads I _ x v hd rx
  have q' : Q (.bl (!(toPs ys).any fun y => PyData.eqv y (toP d))) H := by rw [toPs_any]; exact q
  rcases he with he | he
  · obtain ⟨bs, r2⟩ := Dp.reads I _ y u he ry
    exact SeqAt.notIn_tuple_data r2 r1 (toPs_plain ys) (toP_plain d) (room_in hu pd) ⟨.bl _, H, I, rfl, q'⟩
  · obtain ⟨bs, r2⟩ := Dp.reads I _ y u he ry
    exact SeqAt.notIn_list_data r2 r1 (toPs_plain ys) (toP_plain d) (room_in hu pd) ⟨.bl _, H, I, rfl, q'⟩
theorem pIn_dp {F H : Hp} {vx vy : V} {x y : D} {r : Bool} (sub : Sub F H) (rx : Rp n.K n.cn F vx x) (ry : Rp n.K n.cn F vy y) (h : pInB x y = some r) :
    ∃ ys, pl deep x = true ∧ Dp n.K H vx (toP x) ∧ (Dp n.K H vy (.tuple (toPs ys)) ∨ Dp n.K H vy (.list (toPs ys))) ∧ r = ys.any fun y => eqb y x := by
  cases ry <;> first | (cases h; done) | skip
  · rename_i a1 vs ys h1 h2
    have h' : (if (pl deep x && pls deep ys) = true then some (ys.any fun y => eqb y x) else none) = some r := h
    split at h'
    · rename_i q
      rw [Bool.and_eq_true] at q
      cases h'
      exact ⟨ys, q.1, rx.dp sub _ _ _ q.1, .inl (.tup (sub.sqT h1.sq) (h2.dp sub _ _ _ q.2)), rfl⟩
    · cases h'
  · rename_i a1 vs ys h1 h2
    have h' : (if (pl deep x && pls deep ys) = true then some (ys.any fun y => eqb y x) else none) = some r := h
    split at h'
    · rename_i q
      rw [Bool.and_eq_true] at q
      cases h'
      exact ⟨ys, q.1, rx.dp sub _ _ _ q.1, .inr (.lst (SqL.of (sub _ _ h1)) (h2.dp sub _ _ _ q.2)), rfl⟩
    · cases h'
theorem opOk_in : OpOk n (rInP n.K false) pIn := by
  intro σ δ F H vx vy x y z Q S rx ry e k
  obtain ⟨b, hb, rfl⟩ := Option.map_eq_some_iff.mp e
  obtain ⟨ys, h1, h2, h3, rfl⟩ := pIn_dp S.sub rx ry hb
  exact ⟨x, ys, h2, h3, h1, k F H _ S Stp.refl (.bl _)⟩
theorem opOk_notIn : OpOk n (rInP n.K true) pNotIn := by
  intro σ δ F H vx vy x y z Q S rx ry e k
  obtain ⟨b, hb, rfl⟩ := Option.map_eq_some_iff.mp e
  obtain ⟨ys, h1, h2, h3, rfl⟩ := pIn_dp S.sub rx ry hb
  exact ⟨x, ys, h2, h3, h1, k F H _ S Stp.refl (.bl _)⟩
theorem de_in (o : Ok X n) (ha : DE X n W a ta fa) (hb : DE X n W b tb fb) (hm : behindInMarks .In b = false := by rfl) : DE X n W (.Compare a [.In] [b] pos) (tOp (rInP n.K false) ta tb) (dOp pIn fa fb) :=
  ⟨pe_cmpR (by have h := op_inP (X := X) o.u1; rw [o.k] at h; exact h) ha.p hb.p hm, semE_op opOk_in ha.s hb.s⟩
theorem de_notIn (o : Ok X n) (ha : DE X n W a ta fa) (hb : DE X n W b tb fb) (hm : behindInMarks .NotIn b = false := by rfl) : DE X n W (.Compare a [.NotIn] [b] pos) (tOp (rInP n.K true) ta tb) (dOp pNotIn fa fb) :=
  ⟨pe_cmpR (by have h := op_notInP (X := X) o.u1; rw [o.k] at h; exact h) ha.p hb.p hm, semE_op opOk_notIn ha.s hb.s⟩
/-! ### places -/
def pIx : D → D → Option D
  | .tup xs, .int i => atI xs i
  | .lst xs, .int i => atI xs i
  | .scr ns, .int i => (atI ns i).map .int
  | _, _ => none
theorem RpAll.atI {F : Hp} {vs : List V} {ds : List D} {i : Int} {d : D} (r : RpAll n.K n.cn F vs ds) (h : L2.atI ds i = some d) : ∃ v, L2.atI vs i = some v ∧ Rp n.K n.cn F v d := by
  unfold L2.atI at h ⊢
  rw [r.len]
  cases e : ixN ds.length i with
  | none => rw [e] at h; cases h
  | some j =>
    rw [e] at h
    exact r.get h
theorem atI_map {α β : Type} (f : α → β) (xs : List α) (i : Int) : L2.atI (xs.map f) i = (L2.atI xs i).map f := by
  unfold L2.atI
  rw [List.length_map]
  cases ixN xs.length i with
  | none => rfl
  | some j => exact List.getElem?_map
theorem opOk_ix : OpOk n (rIx n.K) pIx := by
  intro σ δ F H vx vy x y z Q S rx ry e k
  cases rx <;> first | (cases e; done) | skip
  · rename_i a1 vs ds h1 h2
    cases ry <;> first | (cases e; done) | skip
    rename_i i
    obtain ⟨v, e1, r1⟩ := h2.atI (show L2.atI ds i = some z from e)
    exact .inr (.inl ⟨a1, vs, i, v, rfl, rfl, S.sub.sqT h1.sq, e1, k F H _ S Stp.refl r1⟩)
  · rename_i a1 ns h1
    cases ry <;> first | (cases e; done) | skip
    rename_i i
    have e' : (L2.atI ns i).map D.int = some z := e
    obtain ⟨j, e1, rfl⟩ := Option.map_eq_some_iff.mp e'
    exact .inl ⟨a1, ns.map V.int, i, .int j, rfl, rfl, S.sub.sqL h1, by rw [atI_map, e1]; rfl, k F H _ S Stp.refl (.int j)⟩
  · rename_i a1 vs ds h1 h2
    cases ry <;> first | (cases e; done) | skip
    rename_i i
    obtain ⟨v, e1, r1⟩ := h2.atI (show L2.atI ds i = some z from e)
    exact .inl ⟨a1, vs, i, v, rfl, rfl, SqL.of (S.sub _ _ h1), e1, k F H _ S Stp.refl r1⟩
theorem de_ix (hk : X.K = n.K) (ha : DE X n W a ta fa) (hb : DE X n W b tb fb) (hs : PlainIx b := by exact fun _ _ => rfl) : DE X n W (.Subscript a b pos) (tOp (rIx n.K) ta tb) (dOp pIx fa fb) :=
  ⟨pe_ix (hk ▸ ix_seq) ha.p hb.p hs, semE_op opOk_ix ha.s hb.s⟩
/-- x[i], x a name: its list may be its own -/
def dIxN (i : Nat) (fb : DE0) : DE0 := fun δ => match δ[i]? with
  | some (.d x) => (fb δ).bind fun b => match pIx x b.1 with
    | some z => .ok (z, b.2)
    | none => .bad
  | some (.own _) | some (.lent _) => (fb δ).bind fun b => match b.2[i]?, b.1 with
    | some (.own xs), .int k => (match L2.atI xs k with
      | some z => .ok (z, b.2)
      | none => .bad)
    | some (.lent xs), .int k => (match L2.atI xs k with
      | some z => .ok (z, b.2)
      | none => .bad)
    | _, _ => .bad
  | _ => .bad
theorem semE_ixN {i : Nat} (sb : SemE n W tb fb) : SemE n W (tOp (rIx n.K) (tVar i) tb) (dIxN i fb) := by
  intro σ δ F H Q S hP
  unfold dIxN at hP
  have key : ∀ (xs : List D), (δ[i]? = some (Sl.own xs) ∨ δ[i]? = some (Sl.lent xs)) → PostE n W σ δ F H ((fb δ).bind fun b => match b.2[i]?, b.1 with
    | some (.own xs), .int k => (match L2.atI xs k with
      | some z => Rx.ok (z, b.2)
      | none => .bad)
    | some (.lent xs), .int k => (match L2.atI xs k with
      | some z => .ok (z, b.2)
      | none => .bad)
    | _, _ => .bad) Q → tOp (rIx n.K) (tVar i) tb σ H Q := by
    intro xs hxs hP
    obtain ⟨p, vs, e0, _⟩ := S.own i xs hxs
    refine ⟨_, e0, ?_⟩
    refine sb.go PL.e S hP fun y δ2 F2 H2 u S2 st2 r2 h2 => ?_
    have fin : ∀ (ys : List D) (k : Int) , (δ2[i]? = some (Sl.own ys) ∨ δ2[i]? = some (Sl.lent ys)) → y = .int k → PostE n W σ δ2 F2 H2 (match L2.atI ys k with
      | some z => Rx.ok (z, δ2)
      | none => .bad) Q → rIx n.K (.ref p) u H2 Q := by
      intro ys k hys ey h3
      subst ey
      obtain ⟨p', vs', e1, h1, _, r1, _⟩ := S2.own i ys hys
      rw [e0] at e1
      cases e1
      cases r2
      cases ez : L2.atI ys k with
      | none => rw [ez] at h3; exact h3.elim
      | some z =>
        rw [ez] at h3
        obtain ⟨v, e2, r3⟩ := r1.atI ez
        exact .inl ⟨p, vs', k, v, rfl, rfl, SqL.of h1, e2, h3 F2 H2 v S2 Stp.refl r3⟩
    cases e : δ2[i]? with
    | none => simp only [e] at h2; exact h2.elim
    | some sl =>
      simp only [e] at h2
      cases sl with
      | own ys =>
        cases y with
        | int k => exact fin ys k (.inl e) rfl h2
        | _ => exact h2.elim
      | lent ys =>
        cases y with
        | int k => exact fin ys k (.inr e) rfl h2
        | _ => exact h2.elim
      | _ => exact h2.elim
  cases e : δ[i]? with
  | none => rw [e] at hP; exact hP.elim
  | some sl =>
    rw [e] at hP
    cases sl with
    | no => exact hP.elim
    | own xs => exact key xs (.inl e) hP
    | lent xs => exact key xs (.inr e) hP
    | d x =>
      obtain ⟨v, hv, r⟩ := S.dat i x e
      refine ⟨v, hv, ?_⟩
      refine sb.go (g := fun b => match pIx x b.1 with
        | some z => .ok (z, b.2)
        | none => .bad) PL.e S hP fun y δ2 F2 H2 u S2 st2 r2 h2 => ?_
      cases e' : pIx x y with
      | none => simp only [e'] at h2; exact h2.elim
      | some z =>
        simp only [e'] at h2
        exact opOk_ix Q S2 (r.mono st2.sub) r2 e' fun F' H' w a b c => h2 F' H' w a b c
theorem de_ixN (i : Nat) {x : Str} {p : Pos} (hk : X.K = n.K) (hb : DE X n W b tb fb) (hN : X.N[i]? = some x := by rfl) (hv : Vis X.env.scope x := by first | exact Or.inl rfl | exact Or.inr (Or.inl rfl) | exact Or.inr (Or.inr rfl)) (hd : (x == ("__debug__" : Str)) = false := by decide)
    (hcd : (x == ("__classdict__" : Str)) = false := by decide) (hs : PlainIx b := by exact fun _ _ => rfl) : DE X n W (.Subscript (.Name x p) b pos) (tOp (rIx n.K) (tVar i) tb) (dIxN i fb) :=
  ⟨pe_ix (hk ▸ ix_seq) (pv i hN hv hd hcd) hb.p hs, semE_ixN hb.s⟩
end
end DL

set_option Elab.async false
set_option linter.all false
set_option maxRecDepth 100000
set_option maxHeartbeats 2000000
set_option autoImplicit false
/-! DLe: arguments, displays, calls of built-ins, lists of one's own. -/
namespace DL
open PySem PySem.Spec L2
section
variable {X : Cx} {n : En} {W : WX} {a b c e : Expr} {es : List Expr} {t ta tb tc : TE} {fa fb fc : DE0} {pos : Pos} {tr : TA} {fr : DA0}
def daNil : DA0 := fun δ => .ok ([], δ)
def daCons (fa : DE0) (fr : DA0) : DA0 := fun δ => (fa δ).bind fun a => (fr a.2).bind fun r => .ok (a.1 :: r.1, r.2)
theorem da_nil : DA X n W [] tNil daNil := ⟨pa_nil, fun σ δ F H Q S h => h F H [] S Stp.refl .nil⟩
theorem semA_cons (sa : SemE n W ta fa) (sr : SemA n W tr fr) : SemA n W (tCons ta tr) (daCons fa fr) := fun σ δ F H Q S hP =>
  sa.go PL.a S hP fun x δ1 F1 H1 v S1 st1 r1 h1 => sr.go PL.a S1 h1 fun xs δ2 F2 H2 vs S2 st2 r2 h2 => h2 F2 H2 (v :: vs) S2 Stp.refl (.cons (r1.mono st2.sub) r2)
theorem da_cons (ha : DE X n W e ta fa) (hr : DA X n W es tr fr) (hs : starEach (e :: es) X.env = (false, eval e X.env) :: starEach es X.env := by rfl) : DA X n W (e :: es) (tCons ta tr) (daCons fa fr) :=
  ⟨pa_cons ha.p hr.p hs, semA_cons ha.s hr.s⟩
/-! ### displays -/
def dTup (fs : DA0) : DE0 := fun δ => (fs δ).bind fun a => if a.1.length ≤ 10000 then .ok (.tup a.1, a.2) else .bad
theorem de_tup {k : Nat} (h : DA X n W es tr fr) : DE X n W (.Tuple es k pos) (tTupX tr) (dTup fr) := ⟨pe_tupX h.p, fun σ δ F H Q S hP => h.s.go PL.e S hP fun xs δ1 F1 H1 vs S1 st1 r1 h1 => by
  simp only at h1
  split at h1
  · rename_i c
    refine ⟨by rw [r1.len]; exact size10000 c, fun p o hp ho => ?_⟩
    exact h1 _ _ _ (S1.new _ hp) (Stp.new S1 _ hp) (.tup (.inl ⟨o, upd_same, ho⟩) (r1.mono (upd_none (S1.sub.noneL hp))))
  · exact h1.elim⟩
def dLst (fs : DA0) : DO0 := fun δ => (fs δ).bind fun a => if a.1.length ≤ 10000 then .ok (a.1, a.2) else .bad
theorem noOwn {σ : L2.St} {δ : List Sl} {F H : Hp} {p : Addr} {K : PySem.W.Frag} {cn : Nm} (S : Sta K cn σ δ F H) (hp : H p = none) : ¬ OwnA σ δ p := fun q => by
  obtain ⟨_, vs, e⟩ := S.ownFree q
  rw [hp] at e; cases e
theorem do_lst (h : DA X n W es tr fr) : DO X n W (.List es pos) (tLst tr) (dLst fr) := ⟨pe_lst h.p, fun σ δ F H Q S hP => h.s.go PL.o S hP fun xs δ1 F1 H1 vs S1 st1 r1 h1 => by
  simp only at h1
  split at h1
  · rename_i c
    refine ⟨by rw [r1.len]; exact size10000 c, fun p hp => ?_⟩
    exact h1 _ _ _ vs (S1.newH _ hp) (Stp.newH S1 _ hp) upd_same (S1.sub.noneL hp) hp r1 (by rw [r1.len]; exact size10000 c) (noOwn S1 hp)
  · exact h1.elim⟩
/-- a new list stands still from the start -/
def dFrz (fo : DO0) : DE0 := fun δ => (fo δ).bind fun a => .ok (.lst a.1, a.2)
theorem semE_frz {fo : DO0} (s : SemO n W t fo) : SemE n W t (dFrz fo) := fun σ δ F H Q S hP => s.go PL.e S hP fun xs δ1 F1 H1 p vs S1 st1 h1 h2 h3 r1 z no k =>
  k (upd F1 p (.lst vs)) H1 _ (S1.frz h1 h2 no) (st1.frz h2 h3) (.lst upd_same (r1.mono (upd_none h2)))
theorem DO.de {fo : DO0} (h : DO X n W e t fo) : DE X n W e t (dFrz fo) := ⟨h.p, semE_frz h.s⟩

/-! ### calls of built-ins -/
def dCall (op : List D → Option D) (fs : DA0) : DE0 := fun δ => (fs δ).bind fun a => match op a.1 with
  | some z => .ok (z, a.2)
  | none => .bad
def CallOk (n : En) (r : List V → Hp → VK → Prop) (op : List D → Option D) : Prop := ∀ {σ : L2.St} {δ : List Sl} {F H : Hp} {vs : List V} {xs : List D} {z : D} (Q : VK), Sta n.K n.cn σ δ F H → RpAll n.K n.cn F vs xs → op xs = some z →
  (∀ F' H' v, Sta n.K n.cn σ δ F' H' → Stp σ δ F H σ δ F' H' → Rp n.K n.cn F' v z → Q v H') → r vs H Q
theorem semE_call {r : List V → Hp → VK → Prop} {op : List D → Option D} (h : CallOk n r op) (sa : SemA n W tr fr) : SemE n W (tCB r tr) (dCall op fr) := fun σ δ F H Q S hP =>
  sa.go PL.e S hP fun xs δ1 F1 H1 vs S1 st1 r1 h1 => by
    cases e : op xs with
    | none => simp only [e] at h1; exact h1.elim
    | some z =>
      simp only [e] at h1
      exact h Q S1 r1 e fun F' H' w a b c => h1 F' H' w a b c
def pLen1 : D → Option Int
  | .tup xs => some xs.length
  | .lst xs => some xs.length
  | .scr ns => some ns.length
  | .str x => if x.length ≤ 100000 then some x.length else none
  | _ => none
def on1 (f : D → Option D) : List D → Option D
  | [x] => f x
  | _ => none
def on2 (f : D → D → Option D) : List D → Option D
  | [x, y] => f x y
  | _ => none
def pLen : List D → Option D := on1 fun x => (pLen1 x).map .int
theorem on1_some {f : D → Option D} {xs : List D} {z : D} (h : on1 f xs = some z) : ∃ x, xs = [x] ∧ f x = some z := by
  match xs, h with
  | [x], h => exact ⟨x, rfl, h⟩
theorem on2_some {f : D → D → Option D} {xs : List D} {z : D} (h : on2 f xs = some z) : ∃ x y, xs = [x, y] ∧ f x y = some z := by
  match xs, h with
  | [x, y], h => exact ⟨x, y, rfl, h⟩
theorem RpAll.one {F : Hp} {vs : List V} {x : D} (r : RpAll n.K n.cn F vs [x]) : ∃ v, vs = [v] ∧ Rp n.K n.cn F v x := by
  cases r with
  | cons h r => cases r; exact ⟨_, rfl, h⟩
theorem RpAll.two {F : Hp} {vs : List V} {x y : D} (r : RpAll n.K n.cn F vs [x, y]) : ∃ v u, vs = [v, u] ∧ Rp n.K n.cn F v x ∧ Rp n.K n.cn F u y := by
  cases r with
  | cons h r => cases r with
    | cons h2 r => cases r; exact ⟨_, _, rfl, h, h2⟩
def rLen (K : PySem.W.Frag) : List V → Hp → VK → Prop := fun xs H Q => ∃ x n, xs = [x] ∧ LenV K x H n ∧ Q (.int n) H
theorem callOk_len : CallOk n (rLen n.K) pLen := by
  intro σ δ F H vs xs z Q S r e k
  obtain ⟨x, rfl, e1⟩ := on1_some e
  obtain ⟨v, rfl, r1⟩ := r.one
  obtain ⟨m, e2, rfl⟩ := Option.map_eq_some_iff.mp e1
  cases r1 <;> first | (cases e2; done) | skip
  · rename_i x
    have e2' : (if x.length ≤ 100000 then some (x.length : Int) else none) = some m := e2
    split at e2'
    · rename_i c
      cases e2'
      refine ⟨_, x.length, rfl, ⟨by rw [sizeLine_eq]; omega, rfl⟩, k F H _ S Stp.refl (.int _)⟩
    · cases e2'
  · rename_i a1 us ds h1 h2
    cases e2
    refine ⟨_, us.length, rfl, .inr ⟨us, S.sub.sqT h1.sq, rfl⟩, ?_⟩
    rw [h2.len]
    exact k F H _ S Stp.refl (.int _)
  · rename_i a1 ns h1
    cases e2
    refine ⟨_, ns.length, rfl, .inl ⟨_, S.sub.sqL h1, by rw [List.length_map]⟩, k F H _ S Stp.refl (.int _)⟩
  · rename_i a1 us ds h1 h2
    cases e2
    refine ⟨_, us.length, rfl, .inl ⟨us, SqL.of (S.sub _ _ h1), rfl⟩, ?_⟩
    rw [h2.len]
    exact k F H _ S Stp.refl (.int _)
theorem de_callB {x : Str} {p : Pos} {id : String} {r : List V → Hp → VK → Prop} {op : List D → Option D} (hc : CallR X (.builtin id) r) (ok : CallOk n r op) (hm : X.mg x = none) (hv : bootBuiltins x = some (.builtin id)) (ha : DA X n W (e :: es) tr fr) (hg : Gl X x := by rfl) (hn : x ≠ "__name__" := by decide) (hdb : (x == ("__debug__" : Str)) = false := by decide)
    (he : starEach (e :: es) X.env = (false, eval e X.env) :: starEach es X.env := by rfl) (hpl : (backTo pos (starEach es X.env)).any (·.1) = false := by rfl) : DE X n W (.Call (.Name x p) (e :: es) [] pos) (tCB r tr) (dCall op fr) :=
  ⟨pe_callB hc hg hm hv ha.p hn hdb he hpl, semE_call ok ha.s⟩
theorem de_callTy {x : Str} {p : Pos} {id : String} {r : List V → Hp → VK → Prop} {op : List D → Option D} (hc : CallR X (.type id) r) (ok : CallOk n r op) (hm : X.mg x = none) (hv : bootBuiltins x = some (.type id)) (ha : DA X n W (e :: es) tr fr) (hg : Gl X x := by rfl) (hn : x ≠ "__name__" := by decide) (hdb : (x == ("__debug__" : Str)) = false := by decide)
    (he : starEach (e :: es) X.env = (false, eval e X.env) :: starEach es X.env := by rfl) (hpl : (backTo pos (starEach es X.env)).any (·.1) = false := by rfl) : DE X n W (.Call (.Name x p) (e :: es) [] pos) (tCB r tr) (dCall op fr) :=
  ⟨pe_callTy hc hg hm hv ha.p hn hdb he hpl, semE_call ok ha.s⟩
theorem cr_len (hk : X.K = n.K) : CallR X (.builtin "len") (rLen n.K) := hk ▸ call_len
/-- int(x) of an int -/
def pInt : List D → Option D := on1 fun x => match x with
  | .int i => some (.int i)
  | .bl b => some (.int (if b then 1 else 0))
  | _ => none
def rInt : List V → Hp → VK → Prop := fun xs H Q => (∃ i, xs = [.int i] ∧ Q (.int i) H) ∨ ∃ k, xs = [.bl k] ∧ Q (.int (if k then 1 else 0)) H
theorem cr_int : CallR X (.type "int") rInt := call_int1
theorem callOk_int : CallOk n rInt pInt := by
  intro σ δ F H vs xs z Q S r e k
  obtain ⟨x, rfl, e1⟩ := on1_some e
  obtain ⟨v, rfl, r1⟩ := r.one
  cases r1 <;> first | (cases e1; done) | skip
  · cases e1
    exact .inr ⟨_, rfl, k F H _ S Stp.refl (.int _)⟩
  · cases e1
    exact .inl ⟨_, rfl, k F H _ S Stp.refl (.int _)⟩
def pMax2 : List D → Option D := on2 fun x y => match x, y with
  | .int i, .int j => some (.int (if j > i then j else i))
  | _, _ => none
def pMin2 : List D → Option D := on2 fun x y => match x, y with
  | .int i, .int j => some (.int (if j < i then j else i))
  | _, _ => none
def rMax2 : List V → Hp → VK → Prop := fun xs H Q => ∃ i j, xs = [.int i, .int j] ∧ Q (.int (if j > i then j else i)) H
def rMin2 : List V → Hp → VK → Prop := fun xs H Q => ∃ i j, xs = [.int i, .int j] ∧ Q (.int (if j < i then j else i)) H
theorem cr_max2 (o : Ok X n) : CallR X (.builtin "max") rMax2 := call_max2 o.calm
theorem cr_min2 (o : Ok X n) : CallR X (.builtin "min") rMin2 := call_min2 o.calm
theorem callOk_max2 : CallOk n rMax2 pMax2 := by
  intro σ δ F H vs xs z Q S r e k
  obtain ⟨x, y, rfl, e1⟩ := on2_some e
  obtain ⟨v, u, rfl, r1, r2⟩ := r.two
  cases r1 <;> cases r2 <;> first | (cases e1; done) | skip
  cases e1
  exact ⟨_, _, rfl, k F H _ S Stp.refl (.int _)⟩
theorem callOk_min2 : CallOk n rMin2 pMin2 := by
  intro σ δ F H vs xs z Q S r e k
  obtain ⟨x, y, rfl, e1⟩ := on2_some e
  obtain ⟨v, u, rfl, r1, r2⟩ := r.two
  cases r1 <;> cases r2 <;> first | (cases e1; done) | skip
  cases e1
  exact ⟨_, _, rfl, k F H _ S Stp.refl (.int _)⟩
/-- all(xs), any(xs) of truth values -/
def bls : List D → Option (List Bool)
  | [] => some []
  | .bl b :: r => (bls r).map (b :: ·)
  | _ => none
def pAll : List D → Option D := on1 fun x => match x with
  | .lst xs => (bls xs).map fun bs => .bl (bs.all id)
  | _ => none
def pAny : List D → Option D := on1 fun x => match x with
  | .lst xs => (bls xs).map fun bs => .bl (bs.any id)
  | _ => none
theorem RpAll.bls {F : Hp} : ∀ {vs : List V} {xs : List D} {bs : List Bool}, RpAll n.K n.cn F vs xs → DL.bls xs = some bs → vs = bs.map V.bl
  | _, _, bs, .nil, e => by
    cases (show some ([] : List Bool) = some bs from e)
    rfl
  | _, _, bs, .cons h r, e => by
    cases h <;> first | (cases e; done) | skip
    rename_i b
    obtain ⟨cs, e1, rfl⟩ := Option.map_eq_some_iff.mp (show (DL.bls _).map (b :: ·) = some bs from e)
    rw [RpAll.bls r e1]
    rfl
theorem cr_all' (o : Ok X n) : CallR X (.builtin "all") (rAll n.K) := o.k ▸ cr_all o.calm
theorem cr_any' (o : Ok X n) : CallR X (.builtin "any") (rAny n.K) := o.k ▸ cr_any o.calm
theorem callOk_all : CallOk n (rAll n.K) pAll := by
  intro σ δ F H vs xs z Q S r e k
  obtain ⟨x, rfl, e1⟩ := on1_some e
  obtain ⟨v, rfl, r1⟩ := r.one
  cases r1 <;> first | (cases e1; done) | skip
  rename_i a1 us ds h1 h2
  obtain ⟨bs, e2, rfl⟩ := Option.map_eq_some_iff.mp (show (DL.bls ds).map (fun bs => D.bl (bs.all id)) = some z from e1)
  exact ⟨a1, bs, rfl, SqL.of (by rw [← h2.bls e2]; exact S.sub _ _ h1), k F H _ S Stp.refl (.bl _)⟩
theorem callOk_any : CallOk n (rAny n.K) pAny := by
  intro σ δ F H vs xs z Q S r e k
  obtain ⟨x, rfl, e1⟩ := on1_some e
  obtain ⟨v, rfl, r1⟩ := r.one
  cases r1 <;> first | (cases e1; done) | skip
  rename_i a1 us ds h1 h2
  obtain ⟨bs, e2, rfl⟩ := Option.map_eq_some_iff.mp (show (DL.bls ds).map (fun bs => D.bl (bs.any id)) = some z from e1)
  exact ⟨a1, bs, rfl, SqL.of (by rw [← h2.bls e2]; exact S.sub _ _ h1), k F H _ S Stp.refl (.bl _)⟩
/-- tuple(x) of a list or tuple -/
def pTuple : List D → Option D := on1 fun x => match x with
  | .lst xs => some (.tup xs)
  | .tup xs => some (.tup xs)
  | _ => none
def rTuple (K : PySem.W.Frag) : List V → Hp → VK → Prop := fun xs H Q => ∃ p ys, xs = [.ref p] ∧ ((SqL K H p ys ∧ ∀ l o, H l = none → TupO o → Q (.ref l) (upd H l (.frz o (.tup ys)))) ∨ (SqT K H p ys ∧ Q (.ref p) H))
theorem cr_tuple (hk : X.K = n.K) : CallR X (.type "tuple") (rTuple n.K) := hk ▸ call_tuple_ofX
theorem callOk_tuple : CallOk n (rTuple n.K) pTuple := by
  intro σ δ F H vs xs z Q S r e k
  obtain ⟨x, rfl, e1⟩ := on1_some e
  obtain ⟨v, rfl, r1⟩ := r.one
  cases r1 <;> first | (cases e1; done) | skip
  · rename_i a1 us ds h1 h2
    cases e1
    exact ⟨a1, us, rfl, .inr ⟨S.sub.sqT h1.sq, k F H _ S Stp.refl (.tup h1 h2)⟩⟩
  · rename_i a1 us ds h1 h2
    cases e1
    refine ⟨a1, us, rfl, .inl ⟨SqL.of (S.sub _ _ h1), fun p o hp ho => ?_⟩⟩
    exact k _ _ _ (S.new _ hp) (Stp.new S _ hp) (.tup (.inl ⟨o, upd_same, ho⟩) (h2.mono (upd_none (S.sub.noneL hp))))
/-- a built-in that reads a list held by a name: the list stays the name's own -/
def dPeek (op : D → Option D) (i : Nat) : DE0 := fun δ => match δ[i]? with
  | some (.d x) => (match op x with
    | some z => .ok (z, δ)
    | none => .bad)
  | some (.own xs) | some (.lent xs) => (match op (.lst xs) with
    | some z => .ok (z, δ)
    | none => .bad)
  | _ => .bad
/-- the rule reads a list as it stands -/
def PeekOk (n : En) (r : List V → Hp → VK → Prop) (op : D → Option D) : Prop := ∀ {σ : L2.St} {δ : List Sl} {F H : Hp} {p : Addr} {vs : List V} {xs : List D} {z : D} (Q : VK), Sta n.K n.cn σ δ F H → H p = some (.lst vs) → RpAll n.K n.cn F vs xs → op (.lst xs) = some z →
  (∀ F' H' v, Sta n.K n.cn σ δ F' H' → Stp σ δ F H σ δ F' H' → Rp n.K n.cn F' v z → Q v H') → r [.ref p] H Q
theorem semE_peek {r : List V → Hp → VK → Prop} {op : D → Option D} {i : Nat} (h : CallOk n r (on1 op)) (h' : PeekOk n r op) : SemE n W (tCB r (tCons (tVar i) tNil)) (dPeek op i) := by
  intro σ δ F H Q S hP
  unfold dPeek at hP
  have key : ∀ xs, (δ[i]? = some (Sl.own xs) ∨ δ[i]? = some (Sl.lent xs)) → PostE n W σ δ F H (match op (.lst xs) with
    | some z => .ok (z, δ)
    | none => .bad) Q → tCB r (tCons (tVar i) tNil) σ H Q := by
    intro xs hx hP
    obtain ⟨p, vs, e0, h1, _, r1, _⟩ := S.own i xs hx
    refine ⟨_, e0, ?_⟩
    cases e : op (.lst xs) with
    | none => rw [e] at hP; exact hP.elim
    | some z =>
      rw [e] at hP
      exact h' Q S h1 r1 e fun F' H' v a b c => hP F' H' v a b c
  cases e : δ[i]? with
  | none => rw [e] at hP; exact hP.elim
  | some sl =>
    rw [e] at hP
    cases sl with
    | no => exact hP.elim
    | own xs => exact key xs (.inl e) hP
    | lent xs => exact key xs (.inr e) hP
    | d x =>
      obtain ⟨v, hv, rx⟩ := S.dat i x e
      refine ⟨v, hv, ?_⟩
      cases e' : op x with
      | none => simp only [e'] at hP; exact hP.elim
      | some z =>
        simp only [e'] at hP
        exact h Q S (.cons rx .nil) (show on1 op [x] = some z from e') fun F' H' w a b c => hP F' H' w a b c
theorem peekOk_len : PeekOk n (rLen n.K) (fun x => (pLen1 x).map .int) := by
  intro σ δ F H p vs xs z Q S h1 h2 e k
  cases (show some (D.int xs.length) = some z from e)
  refine ⟨_, vs.length, rfl, .inl ⟨vs, SqL.of h1, rfl⟩, ?_⟩
  rw [h2.len]
  exact k F H _ S Stp.refl (.int _)
def pTuple1 : D → Option D := fun x => match x with
  | .lst xs => some (.tup xs)
  | .tup xs => some (.tup xs)
  | _ => none
theorem peekOk_tuple : PeekOk n (rTuple n.K) pTuple1 := by
  intro σ δ F H p vs xs z Q S h1 h2 e k
  cases (show some (D.tup xs) = some z from e)
  refine ⟨p, vs, rfl, .inl ⟨SqL.of h1, fun q o hq ho => ?_⟩⟩
  exact k _ _ _ (S.new _ hq) (Stp.new S _ hq) (.tup (.inl ⟨o, upd_same, ho⟩) (h2.mono (upd_none (S.sub.noneL hq))))
theorem de_peekB {i : Nat} {x y : Str} {p p' : Pos} {id : String} {r : List V → Hp → VK → Prop} {op : D → Option D} (hc : CallR X (.builtin id) r) (ok : CallOk n r (on1 op)) (ok' : PeekOk n r op) (hm : X.mg x = none) (hv : bootBuiltins x = some (.builtin id)) (hN : X.N[i]? = some y := by rfl) (hvis : Vis X.env.scope y := by first | exact Or.inl rfl | exact Or.inr (Or.inl rfl) | exact Or.inr (Or.inr rfl)) (hd : (y == ("__debug__" : Str)) = false := by decide)
    (hcd : (y == ("__classdict__" : Str)) = false := by decide) (hg : Gl X x := by rfl) (hn : x ≠ "__name__" := by decide) (hdb : (x == ("__debug__" : Str)) = false := by decide)
    (he : starEach [.Name y p'] X.env = (false, eval (.Name y p') X.env) :: starEach [] X.env := by rfl) (hpl : (backTo pos (starEach [] X.env)).any (·.1) = false := by rfl) : DE X n W (.Call (.Name x p) [.Name y p'] [] pos) (tCB r (tCons (tVar i) tNil)) (dPeek op i) :=
  ⟨pe_callB hc hg hm hv (pa_cons (pv i hN hvis hd hcd) pa_nil he) hn hdb he hpl, semE_peek ok ok'⟩
theorem de_peekTy {i : Nat} {x y : Str} {p p' : Pos} {id : String} {r : List V → Hp → VK → Prop} {op : D → Option D} (hc : CallR X (.type id) r) (ok : CallOk n r (on1 op)) (ok' : PeekOk n r op) (hm : X.mg x = none) (hv : bootBuiltins x = some (.type id)) (hN : X.N[i]? = some y := by rfl) (hvis : Vis X.env.scope y := by first | exact Or.inl rfl | exact Or.inr (Or.inl rfl) | exact Or.inr (Or.inr rfl)) (hd : (y == ("__debug__" : Str)) = false := by decide)
    (hcd : (y == ("__classdict__" : Str)) = false := by decide) (hg : Gl X x := by rfl) (hn : x ≠ "__name__" := by decide) (hdb : (x == ("__debug__" : Str)) = false := by decide)
    (he : starEach [.Name y p'] X.env = (false, eval (.Name y p') X.env) :: starEach [] X.env := by rfl) (hpl : (backTo pos (starEach [] X.env)).any (·.1) = false := by rfl) : DE X n W (.Call (.Name x p) [.Name y p'] [] pos) (tCB r (tCons (tVar i) tNil)) (dPeek op i) :=
  ⟨pe_callTy hc hg hm hv (pa_cons (pv i hN hvis hd hcd) pa_nil he) hn hdb he hpl, semE_peek ok ok'⟩
end
end DL

set_option Elab.async false
set_option linter.all false
set_option maxRecDepth 100000
set_option maxHeartbeats 2000000
set_option autoImplicit false
/-! DLfa: promises of defs that are called where no repr is under way (str of data asks for it). -/
namespace DL
open PySem PySem.Spec L2 PyProof.Rows
/-- room for k calls, and no repr under way -/
structure RoomG (k : Nat) (A : Around) : Prop where
  room : Room k A
  g : A.guards = some []
theorem RoomG.mono {j k : Nat} {A : Around} (r : RoomG k A) (h : j ≤ k) : RoomG j A := ⟨r.room.mono h, r.g⟩
structure FnG (P : Program) (w : World) (K : PySem.W.Frag) (mg : Str → Option Value) (base : Heap) (CX : CXT) (k : Nat) (f : Addr) (fd : FuncData) (ps : List Str) (sp : Sp) : Prop where
  len : ∀ vs H Q E, sp vs H Q E → vs.length = ps.length
  run : ∀ (A : Around) (outer : List Env) (s : Shared) (H : Hp) (args : Args) (us : List Value) (vs : List V) (Q : VK) (E : XK), RoomG k A → Env0 P w K mg base A outer s H → BindsTo s fd args (ps.zip us) → Vals vs us → sp vs H Q E →
    codeAny (model P w) A (.call (.ref f) args) (CR CX outer P w H s Q E) s
section
variable {P : Program} {w : World} {K : PySem.W.Frag} {mg : Str → Option Value} {base : Heap} {x qual : Str} {params : Arguments} {body : List Stmt} {scope : Scope} {dvs : List V} {kws : List (Str × V)} {f : Addr} {fd : FuncData}
theorem FnG.of {CX : CXT} {k : Nat} {ps : List Str} {sp : Sp} (F : FnOk P w K mg base CX k f fd ps sp) : FnG P w K mg base CX k f fd ps sp := ⟨F.len, fun A outer s H args us vs Q E hr => F.run A outer s H args us vs Q E hr.room⟩
theorem FunD.okG {CX : CXT} {N ps : List Str} {k : Nat} {sp : Sp} (F : FunD K x qual params body scope dvs kws f fd) (S : FnScope N ps scope) (len : ∀ vs H Q E, sp vs H Q E → vs.length = ps.length)
    (hbody : ∀ (cdv : Value) (A : Around) (outer : List Env) (s : Shared) (H : Hp) (vs : List V) (Q : VK) (E : XK), RoomG k (A.deeper (envOfC qual scope s.heap.objs.size f cdv)) → sp vs H Q E →
      ∃ t, PSs (cxOf CX P w K mg base N qual scope f cdv A outer s H E) body t ∧ t { nx := fun _ H' => Q .non H', rt := Q } (L2.start N vs) H) : FnG P w K mg base CX (k + 1) f fd ps sp := by
  obtain ⟨oc, od, dV, kV, doc, pm, an, cdv, ct, osl, rfl, lk, hcd, _, _⟩ := F.ex
  constructor
  · exact len
  intro A outer s H args us vs Q E hr e0 hb r wish
  have inK : K.In s.heap := e0.mod.kin.keeps fun b o e => (e0.bs b o e).1
  have free : s.heap.NoLimit := e0.mod.nolimit.keeps fun b o e => (e0.bs b o e).1
  have kinds : ∀ y ∈ ps.zip us, scope.names.lookup y.1 = some .local ∨ (scope.names.lookup y.1 = some .cell ∧ ((cellsFrom (s.heap.objs.size + 1) scope.names []).lookup y.1).isSome = true) := by
    intro y hy
    obtain ⟨nm, v⟩ := y
    exact (S.par nm (List.of_mem_zip hy).1).imp id fun q => ⟨q, PySem.W.cellsFrom_some _ _ _ (.inl q)⟩
  apply codeAny_call_function hr.room.depth (inK _ _ lk) rfl S.co S.gen rfl (PySem.W.codeRec_of inK hcd) (hb _ _ _ _ ?_)
  apply wpAny_newFunctionEnv_cells S.kind kinds
  intro env he s1 z
  subst he
  refine ⟨free.keeps z.toInCall.keep, codeAny_func ?_⟩
  obtain ⟨t, ht, hq⟩ := hbody cdv A outer s H vs Q E ⟨hr.room.deeper _, hr.g⟩ wish
  have I1 : Inv (cxOf CX P w K mg base N qual scope f cdv A outer s H E) [] (L2.start N vs) H s1 := inv_start S hr.room.hd e0 (len _ _ _ _ wish) r z
  refine wpAny_mono (ht.run [] s1 (L2.start N vs) H _ I1 hq) (fun fl s' out => ?_) fun _ _ out => out
  cases fl with
  | next => obtain ⟨σ', H', J, q⟩ := out; exact ⟨.non, H', J.os, J.bare, J.base, J.hok, rfl, q⟩
  | ret u => obtain ⟨v, σ', H', J, rv, q⟩ := out; exact ⟨v, H', J.os, J.bare, J.base, J.hok, rv, q⟩
  | brk => obtain ⟨_, _, _, q⟩ := out; exact q.elim
  | cont => obtain ⟨_, _, _, q⟩ := out; exact q.elim
end
end DL

set_option Elab.async false
set_option linter.all false
set_option maxRecDepth 100000
set_option maxHeartbeats 2000000
set_option autoImplicit false
/-! DLf: what defs promise, calls, a def by its body. -/
namespace DL
open PySem PySem.Spec L2

def Sl.get? : Sl → Option (List D)
  | .own xs => some xs
  | .lent xs => some xs
  | _ => none
def Sl.put : Sl → List D → Sl
  | .own _, ys => .own ys
  | .lent _, ys => .lent ys
  | s, _ => s
theorem Sl.get_some {s : Sl} {xs : List D} (h : s.get? = some xs) : s = .own xs ∨ s = .lent xs := by
  cases s <;> first | (cases h; done) | skip
  · cases h; exact .inl rfl
  · cases h; exact .inr rfl
theorem Sl.put_get {s : Sl} {xs ys : List D} (h : s.get? = some xs) : (s.put ys).get? = some ys := by
  rcases Sl.get_some h with rfl | rfl <;> rfl

section
variable {K : PySem.W.Frag} {cn : Nm} {σ : L2.St} {δ : List Sl} {F H F' H' : Hp}
theorem ownAt_iff {i : Nat} {p : Addr} : OwnAt σ δ i p ↔ (∃ s xs, δ[i]? = some s ∧ s.get? = some xs) ∧ σ[i]? = some (some (V.ref p)) := by
  constructor
  · rintro ⟨⟨xs, h | h⟩, e⟩
    · exact ⟨⟨_, xs, h, rfl⟩, e⟩
    · exact ⟨⟨_, xs, h, rfl⟩, e⟩
  · rintro ⟨⟨s, xs, h, g⟩, e⟩
    rcases Sl.get_some g with rfl | rfl
    · exact ⟨⟨xs, .inl h⟩, e⟩
    · exact ⟨⟨xs, .inr h⟩, e⟩
theorem ownAt_put {i j : Nat} {p : Addr} {s : Sl} {xs ys : List D} (hi : δ[i]? = some s) (hg : s.get? = some xs) : OwnAt σ (δ.set i (s.put ys)) j p ↔ OwnAt σ δ j p := by
  have hlt : i < δ.length := (List.getElem?_eq_some_iff.mp hi).1
  rw [ownAt_iff, ownAt_iff]
  by_cases q : j = i
  · subst q
    rw [List.getElem?_set_self hlt]
    constructor
    · rintro ⟨_, e⟩; exact ⟨⟨s, xs, hi, hg⟩, e⟩
    · rintro ⟨_, e⟩; exact ⟨⟨_, ys, rfl, Sl.put_get hg⟩, e⟩
  · rw [List.getElem?_set_ne (Ne.symm q)]
/-- the list of a name is changed (and what else a call does) -/
theorem Sta.put (S : Sta K cn σ δ F H) {i : Nat} {s : Sl} {xs ys : List D} {p : Addr} {us : List V} (hi : δ[i]? = some s) (hg : s.get? = some xs) (e : σ[i]? = some (some (V.ref p))) (sub' : Sub F' H') (sb : Sub F F')
    (keep : ∀ a o, H a = some o → a ≠ p → H' a = some o) (fresh : ∀ a, F a = none → H a ≠ none → a ≠ p → F' a = none) (h1 : H' p = some (.lst us)) (h2 : F' p = none) (r : RpAll K cn F' us ys) (z : us.length ≤ sizeLine) :
    Sta K cn σ (δ.set i (s.put ys)) F' H' ∧ Stp σ δ F H σ (δ.set i (s.put ys)) F' H' := by
  have hlt : i < δ.length := (List.getElem?_eq_some_iff.mp hi).1
  have own : OwnAt σ δ i p := ownAt_iff.mpr ⟨⟨s, xs, hi, hg⟩, e⟩
  have there : ∀ a, H a ≠ none → H' a ≠ none := fun a ha => by
    by_cases q : a = p
    · subst q; rw [h1]; simp
    · cases w : H a with
      | none => exact absurd w ha
      | some o => rw [keep a o w q]; simp
  refine ⟨⟨?_, sub', fun j x h => ?_, fun j zs h => ?_, fun j k q a b => S.apart j k q ((ownAt_put hi hg).mp a) ((ownAt_put hi hg).mp b)⟩, ⟨sb, fun a o h n => keep a o h fun w => n (w ▸ ⟨i, own⟩), there, fun a h h' n => fresh a h h' fun w => n (w ▸ ⟨i, own⟩), fun q h => ?_, fun j zs h => ?_⟩⟩
  · rw [List.length_set]; exact S.len
  · by_cases q : j = i
    · subst q
      rw [List.getElem?_set_self hlt] at h
      rcases Sl.get_some hg with rfl | rfl <;> cases h
    · rw [List.getElem?_set_ne (Ne.symm q)] at h
      obtain ⟨v, e', r'⟩ := S.dat j x h
      exact ⟨v, e', r'.mono sb⟩
  · by_cases q : j = i
    · subst q
      rw [List.getElem?_set_self hlt] at h
      have : zs = ys := by rcases Sl.get_some hg with rfl | rfl <;> rcases h with h | h <;> cases h <;> rfl
      subst this
      exact ⟨p, us, e, h1, h2, r, z⟩
    · rw [List.getElem?_set_ne (Ne.symm q)] at h
      obtain ⟨q', vs', e', h1', h2', r', z'⟩ := S.own j zs h
      have ne : q' ≠ p := fun w => q (S.apart j i p (w ▸ ⟨⟨zs, h⟩, e'⟩) own)
      exact ⟨q', vs', e', keep _ _ h1' ne, fresh _ h2' (by rw [h1']; simp) ne, r'.mono sb, z'⟩
  · obtain ⟨j, hj⟩ := h
    exact .inl ⟨j, (ownAt_put hi hg).mp hj⟩
  · by_cases q : j = i
    · subst q
      rw [hi] at h
      cases h
      rw [List.getElem?_set_self hlt]
      exact ⟨⟨ys, rfl⟩, rfl⟩
    · rw [List.getElem?_set_ne (Ne.symm q)]
      exact ⟨⟨zs, h⟩, rfl⟩
theorem Sta.at (S : Sta K cn σ δ F H) {i : Nat} {s : Sl} {xs : List D} (hi : δ[i]? = some s) (hg : s.get? = some xs) : ∃ p vs, σ[i]? = some (some (V.ref p)) ∧ H p = some (.lst vs) ∧ F p = none ∧ RpAll K cn F vs xs ∧ vs.length ≤ sizeLine := by
  rcases Sl.get_some hg with rfl | rfl
  · exact S.own i xs (.inl hi)
  · exact S.own i xs (.inr hi)
end

/-! ### promises -/
inductive Rv where
  | d (x : D) | own (xs : List D)
/-- what a call does to the heap -/
structure Ev (F H F' H' : Hp) : Prop where
  sub : Sub F F'
  keep : Sub H H'
  fresh : ∀ a, F a = none → H a ≠ none → F' a = none
def PostP (n : En) (F H : Hp) (r : Rx Rv) (Q : VK) (E : XK) : Prop := match r with
  | .ok (.d x) => ∀ F' H' v, Sub F' H' → Ev F H F' H' → Rp n.K n.cn F' v x → Q v H'
  | .ok (.own xs) => ∀ F' H' p vs, Sub F' H' → Ev F H F' H' → H' p = some (.lst vs) → F' p = none → H p = none → RpAll n.K n.cn F' vs xs → vs.length ≤ sizeLine → Q (.ref p) H'
  | .exc c fs _ => ∀ F' H' cls d, Sub F' H' → Ev F H F' H' → ExR n.K n.cn F' H' cls d c fs → E cls d H'
  | .bad => False
/-- a def of data -/
def spP (n : En) (f : List D → Rx Rv) : Sp := fun vs H Q E => ∃ F ds, Sub F H ∧ RpAll n.K n.cn F vs ds ∧ PostP n F H (f ds) Q E
structure EvM (p : Addr) (F H F' H' : Hp) : Prop where
  sub : Sub F F'
  keep : ∀ a o, H a = some o → a ≠ p → H' a = some o
  fresh : ∀ a, F a = none → H a ≠ none → F' a = none
def PostM (n : En) (p : Addr) (F H : Hp) (r : Rx (Rv × List D)) (Q : VK) : Prop := match r with
  | .ok (.d x, ps) => ∀ F' H' v us, Sub F' H' → EvM p F H F' H' → H' p = some (.lst us) → RpAll n.K n.cn F' us ps → us.length ≤ sizeLine → Rp n.K n.cn F' v x → Q v H'
  | .ok (.own xs, ps) => ∀ F' H' q vs us, Sub F' H' → EvM p F H F' H' → H' p = some (.lst us) → RpAll n.K n.cn F' us ps → us.length ≤ sizeLine → H' q = some (.lst vs) → F' q = none → H q = none → RpAll n.K n.cn F' vs xs → vs.length ≤ sizeLine → Q (.ref q) H'
  | _ => False
/-- a def whose first argument is a list that it may change -/
def spM (n : En) (f : List D → List D → Rx (Rv × List D)) : Sp := fun vs H Q _ => ∃ F p us ps ds vs', vs = .ref p :: vs' ∧ Sub F H ∧ H p = some (.lst us) ∧ F p = none ∧ RpAll n.K n.cn F us ps ∧ us.length ≤ sizeLine ∧ RpAll n.K n.cn F vs' ds ∧ PostM n p F H (f ps ds) Q

section
variable {n : En} {W : WX} {σ : L2.St} {δ : List Sl} {F H F' H' : Hp}
theorem Sta.ev {K : PySem.W.Frag} {cn : Nm} (S : Sta K cn σ δ F H) (sub' : Sub F' H') (v : Ev F H F' H') : Sta K cn σ δ F' H' ∧ Stp σ δ F H σ δ F' H' :=
  ⟨⟨S.len, sub', fun i x h => let ⟨u, e, r⟩ := S.dat i x h; ⟨u, e, r.mono v.sub⟩, fun i xs h => let ⟨p, vs, e, h1, h2, r, z⟩ := S.own i xs h; ⟨p, vs, e, v.keep _ _ h1, v.fresh _ h2 (by rw [h1]; simp), r.mono v.sub, z⟩, S.apart⟩,
   ⟨v.sub, fun a o h _ => v.keep a o h, fun a h => by
      cases e : H a with
      | none => exact absurd e h
      | some o => rw [v.keep a o e]; simp, fun a h1 h2 _ => v.fresh a h1 h2, fun p h => .inl h, fun i xs h => ⟨⟨xs, h⟩, rfl⟩⟩⟩
/-! ### calls -/
def dCallF (f : List D → Rx Rv) (fr : DA0) : DE0 := fun δ => (fr δ).bind fun a => match f a.1 with
  | .ok (.d x) => .ok (x, a.2)
  | .ok (.own xs) => .ok (.lst xs, a.2)
  | .exc c fs _ => .exc c fs a.2
  | .bad => .bad
def dCallFO (f : List D → Rx Rv) (fr : DA0) : DO0 := fun δ => (fr δ).bind fun a => match f a.1 with
  | .ok (.own xs) => .ok (xs, a.2)
  | .exc c fs _ => .exc c fs a.2
  | _ => .bad
/-- what a call by values asks of the promise -/
theorem spP_use {f : List D → Rx Rv} {vs : List V} {ds : List D} {Q : VK} (S : Sta n.K n.cn σ δ F H) (r : RpAll n.K n.cn F vs ds)
    (h : PostE n W σ δ F H (match f ds with
      | .ok (.d x) => .ok (x, δ)
      | .ok (.own xs) => .ok (.lst xs, δ)
      | .exc c fs _ => .exc c fs δ
      | .bad => .bad) Q) : spP n f vs H Q (WE W σ) := by
  refine ⟨F, ds, S.sub, r, ?_⟩
  cases e : f ds with
  | bad => rw [e] at h; exact h
  | exc c fs δ' =>
    rw [e] at h
    exact fun F' H' cls d sub v x => h F' H' cls d (S.ev sub v).1 (S.ev sub v).2 x
  | ok rv =>
    cases rv with
    | d x =>
      rw [e] at h
      exact fun F' H' v sub ev rx => h F' H' v (S.ev sub ev).1 (S.ev sub ev).2 rx
    | own xs =>
      rw [e] at h
      intro F' H' p vs' sub ev h1 h2 h3 rx z
      obtain ⟨S', st⟩ := S.ev sub ev
      have no : ¬ OwnA σ δ p := noOwn S h3
      exact h (upd F' p (.lst vs')) H' _ (S'.frz h1 h2 no) (st.frz h2 h3) (.lst upd_same (rx.mono (upd_none h2)))
theorem spP_useO {f : List D → Rx Rv} {vs : List V} {ds : List D} {Q : VK} (S : Sta n.K n.cn σ δ F H) (r : RpAll n.K n.cn F vs ds)
    (h : PostO n W σ δ F H (match f ds with
      | .ok (.own xs) => .ok (xs, δ)
      | .exc c fs _ => .exc c fs δ
      | _ => .bad) Q) : spP n f vs H Q (WE W σ) := by
  refine ⟨F, ds, S.sub, r, ?_⟩
  cases e : f ds with
  | bad => rw [e] at h; exact h
  | exc c fs δ' =>
    rw [e] at h
    exact fun F' H' cls d sub v x => h F' H' cls d (S.ev sub v).1 (S.ev sub v).2 x
  | ok rv =>
    cases rv with
    | d x => rw [e] at h; exact h.elim
    | own xs =>
      rw [e] at h
      intro F' H' p vs' sub ev h1 h2 h3 rx z
      obtain ⟨S', st⟩ := S.ev sub ev
      exact h F' H' p vs' S' st h1 h2 h3 rx z (noOwn S h3)
/-- a def that is called by its name, so many values written, the defaults behind -/
structure Cal (P : Program) (w : World) (K : PySem.W.Frag) (mg : Str → Option Value) (base : Heap) (k : Nat) (x : Str) (sp : Sp) (n : En) (dds : List D) : Prop where
  ex : ∃ (a : Addr) (fd : FuncData) (ps : List Str) (ds : List Value) (dvs : List V), FnG P w K mg base (L2.CX P w) k a fd ps sp ∧ mg x = some (.ref a) ∧ PySem.W.keepIn K (.ref a) = true ∧ Binds K fd ps ds ∧ Vals dvs ds ∧ (∀ F, RpAll n.K n.cn F dvs dds)
variable {X : Cx} {e : Expr} {es : List Expr} {tr : TA} {fr : DA0} {x : Str} {p pos : Pos}
theorem run_fnG {k : Nat} {sp : Sp} {ps : List Str} {f : Addr} {fd : FuncData} {CX : CXT} {E : L2.St → XK} {σ : L2.St} {ds us : List Value} {dvs vs : List V} {pins : List (Addr × Obj)} {H : Hp} {s : Shared} {Q : VK} (F : FnG X.prog X.w X.K X.mg X.base CX k f fd ps sp) (hr : RoomG k X.A) (hb : Binds X.K fd ps ds) (hd : Vals dvs ds) (hx : PassesAt CX X σ (E σ)) (I : Inv X pins σ H s) (r : Vals vs us) (wish : sp (vs ++ dvs) H Q (E σ)) :
    wpAny (model X.prog X.w) X.A (call (.ref f) us) (EP X pins σ Q) X.xe s := by
  have both := r.append hd
  have len : (us ++ ds).length = ps.length := both.length.symm.trans (F.len _ _ _ _ wish)
  have done := F.run X.A X.stack s H ⟨us, []⟩ (us ++ ds) (vs ++ dvs) Q (E σ) hr I.env0 (hb s us I.kIn len) both wish
  refine wpAny_call (codeAny_mono done fun out s' q => ?_)
  cases out with
  | error e => exact hx pins H s e s' I q
  | ok fl =>
    cases fl with
    | ret u => exact I.after q
    | next => exact q.elim
    | brk => exact q.elim
    | cont => exact q.elim
/-- f(..): the reading, the defaults' values told by data -/
def tCalD (n : En) (sp : Sp) (dds : List D) (W : WX) (t : TA) : TE := fun σ H Q => t σ H fun vs H1 => ∀ dvs : List V, (∀ F, RpAll n.K n.cn F dvs dds) → sp (vs ++ dvs) H1 Q (WE W σ)
theorem pe_cal {k : Nat} {sp : Sp} {dds : List D} (C : Cal X.prog X.w X.K X.mg X.base k x sp n dds) (hr : RoomG k X.A) (tk : Takes X W) (hg : Gl X x) (ha : PA X (e :: es) tr) (hdb : (x == ("__debug__" : Str)) = false)
    (he : starEach (e :: es) X.env = (false, eval e X.env) :: starEach es X.env) (hpl : (backTo pos (starEach es X.env)).any (·.1) = false) : PE X (.Call (.Name x p) (e :: es) [] pos) (tCalD n sp dds W tr) := by
  obtain ⟨a, fd, ps, ds, dvs, G, hm, hk, hb, hd, hD⟩ := C.ex
  refine ⟨fun pins s σ H Q I h => ?_⟩
  refine wpAny_Call_Name_kw (ld_glob I hg hm ?_ hdb)
  refine PySem.W.callWith_K (h₀ := X.base) I.ok.mod.kin hk (thn (ha.run pos pins s σ H _ I h) fun us s1 ⟨vs, H1, I1, r, q⟩ => ⟨I1.kIn, ?_⟩) he hpl
  exact run_fnG (E := fun σ => WE W σ) G hr hb hd (passAt tk σ) I1 r (q dvs hD)
theorem pe_cal0 {k : Nat} {sp : Sp} {dds : List D} (C : Cal X.prog X.w X.K X.mg X.base k x sp n dds) (hr : RoomG k X.A) (tk : Takes X W) (hg : Gl X x) (hdb : (x == ("__debug__" : Str)) = false) : PE X (.Call (.Name x p) [] [] pos) (tCalD n sp dds W tNil) := by
  obtain ⟨a, fd, ps, ds, dvs, G, hm, hk, hb, hd, hD⟩ := C.ex
  refine ⟨fun pins s σ H Q I h => ?_⟩
  refine wpAny_Call_Name_kw (ld_glob I hg hm ?_ hdb)
  exact PySem.W.callWith_K0 I.kIn hk (run_fnG (E := fun σ => WE W σ) (us := []) G hr hb hd (passAt tk σ) I .nil (h dvs hD))
theorem semE_cal {f : List D → Rx Rv} {dds : List D} (sr : SemA n W tr fr) : SemE n W (tCalD n (spP n f) dds W tr) (dCallF (fun xs => f (xs ++ dds)) fr) := fun σ δ F H Q S hP =>
  sr.go PL.e S hP fun xs δ1 F1 H1 vs S1 st1 r1 h1 dvs hD => spP_use S1 (r1.append (hD F1)) h1
theorem semO_cal {f : List D → Rx Rv} {dds : List D} (sr : SemA n W tr fr) : SemO n W (tCalD n (spP n f) dds W tr) (dCallFO (fun xs => f (xs ++ dds)) fr) := fun σ δ F H Q S hP =>
  sr.go PL.o S hP fun xs δ1 F1 H1 vs S1 st1 r1 h1 dvs hD => spP_useO S1 (r1.append (hD F1)) h1
theorem de_cal {f : List D → Rx Rv} {k : Nat} {dds : List D} (C : Cal X.prog X.w X.K X.mg X.base k x (spP n f) n dds) (hr : RoomG k X.A) (tk : Takes X W) (ha : DA X n W (e :: es) tr fr) (hg : Gl X x := by rfl) (hdb : (x == ("__debug__" : Str)) = false := by decide)
    (he : starEach (e :: es) X.env = (false, eval e X.env) :: starEach es X.env := by rfl) (hpl : (backTo pos (starEach es X.env)).any (·.1) = false := by rfl) : DE X n W (.Call (.Name x p) (e :: es) [] pos) (tCalD n (spP n f) dds W tr) (dCallF (fun xs => f (xs ++ dds)) fr) :=
  ⟨pe_cal C hr tk hg ha.p hdb he hpl, semE_cal ha.s⟩
theorem do_cal {f : List D → Rx Rv} {k : Nat} {dds : List D} (C : Cal X.prog X.w X.K X.mg X.base k x (spP n f) n dds) (hr : RoomG k X.A) (tk : Takes X W) (ha : DA X n W (e :: es) tr fr) (hg : Gl X x := by rfl) (hdb : (x == ("__debug__" : Str)) = false := by decide)
    (he : starEach (e :: es) X.env = (false, eval e X.env) :: starEach es X.env := by rfl) (hpl : (backTo pos (starEach es X.env)).any (·.1) = false := by rfl) : DO X n W (.Call (.Name x p) (e :: es) [] pos) (tCalD n (spP n f) dds W tr) (dCallFO (fun xs => f (xs ++ dds)) fr) :=
  ⟨pe_cal C hr tk hg ha.p hdb he hpl, semO_cal ha.s⟩
/-- f(xs, ..): xs a name whose list f may change -/
def dCallM (f : List D → List D → Rx (Rv × List D)) (i : Nat) (fr : DA0) : DE0 := fun δ => match (δ[i]?).bind Sl.get? with
  | some _ => (fr δ).bind fun a => match a.2[i]? with
    | some s => (match s.get? with
      | some ps => (match f ps a.1 with
        | .ok (.d x, qs) => .ok (x, a.2.set i (s.put qs))
        | .ok (.own xs, qs) => .ok (.lst xs, a.2.set i (s.put qs))
        | _ => .bad)
      | none => .bad)
    | none => .bad
  | none => .bad
theorem semE_calM {f : List D → List D → Rx (Rv × List D)} {i : Nat} (sr : SemA n W tr fr) : SemE n W (tCalD n (spM n f) [] W (tCons (tVar i) tr)) (dCallM f i fr) := by
  intro σ δ F H Q S hP
  unfold dCallM at hP
  cases e0 : (δ[i]?).bind Sl.get? with
  | none => rw [e0] at hP; exact hP.elim
  | some xs0 =>
    simp only [e0] at hP
    obtain ⟨s0, hs0, hg0⟩ := Option.bind_eq_some_iff.mp e0
    obtain ⟨p, us0, ep, _⟩ := S.at hs0 hg0
    refine ⟨_, ep, ?_⟩
    refine sr.go PL.e S hP fun ds δ2 F2 H2 vs S2 st2 r2 h2 dvs hD => ?_
    cases hD F2
    rw [List.append_nil]
    cases es : δ2[i]? with
    | none => simp only [es] at h2; exact h2.elim
    | some s =>
      simp only [es] at h2
      cases hg : s.get? with
      | none => simp only [hg] at h2; exact h2.elim
      | some ps =>
        simp only [hg] at h2
        obtain ⟨p', us, ep', h1, hF, ru, z⟩ := S2.at es hg
        rw [ep] at ep'
        cases ep'
        refine ⟨F2, p, us, ps, ds, vs, rfl, S2.sub, h1, hF, ru, z, r2, ?_⟩
        cases ef : f ps ds with
        | bad => simp only [ef] at h2; exact h2.elim
        | exc c fs δ' => simp only [ef] at h2; exact h2.elim
        | ok q =>
          obtain ⟨rv, qs⟩ := q
          cases rv with
          | d x =>
            simp only [ef] at h2
            intro F' H' v us' sub ev g1 g2 g3 g4
            obtain ⟨S', st⟩ := S2.put (ys := qs) es hg ep sub ev.sub ev.keep (fun a a1 a2 _ => ev.fresh a a1 a2) g1 (ev.fresh p hF (by rw [h1]; simp)) g2 g3
            exact h2 F' H' v S' st g4
          | own xs =>
            simp only [ef] at h2
            intro F' H' q vs' us' sub ev g1 g2 g3 g4 g5 g6 g7 g8
            obtain ⟨S', st⟩ := S2.put (ys := qs) es hg ep sub ev.sub ev.keep (fun a a1 a2 _ => ev.fresh a a1 a2) g1 (ev.fresh p hF (by rw [h1]; simp)) g2 g3
            have no : ¬ OwnA σ (δ2.set i (s.put qs)) q := fun w => by
              obtain ⟨j, hj⟩ := w
              exact noOwn S2 g6 ⟨j, (ownAt_put es hg).mp hj⟩
            exact h2 (upd F' q (.lst vs')) H' _ (S'.frz g4 g5 no) (st.frz g5 g6) (.lst upd_same (g7.mono (upd_none g5)))
theorem de_calM (i : Nat) {y : Str} {p' : Pos} {f : List D → List D → Rx (Rv × List D)} {k : Nat} (C : Cal X.prog X.w X.K X.mg X.base k x (spM n f) n []) (hr : RoomG k X.A) (tk : Takes X W) (ha : DA X n W es tr fr) (hN : X.N[i]? = some y := by rfl) (hvis : Vis X.env.scope y := by first | exact Or.inl rfl | exact Or.inr (Or.inl rfl) | exact Or.inr (Or.inr rfl)) (hd : (y == ("__debug__" : Str)) = false := by decide)
    (hcd : (y == ("__classdict__" : Str)) = false := by decide) (hg : Gl X x := by rfl) (hdb : (x == ("__debug__" : Str)) = false := by decide)
    (he : starEach (.Name y p' :: es) X.env = (false, eval (.Name y p') X.env) :: starEach es X.env := by rfl) (hpl : (backTo pos (starEach es X.env)).any (·.1) = false := by rfl) : DE X n W (.Call (.Name x p) (.Name y p' :: es) [] pos) (tCalD n (spM n f) [] W (tCons (tVar i) tr)) (dCallM f i fr) :=
  ⟨pe_cal C hr tk hg (pa_cons (pv i hN hvis hd hcd) ha.p he) hdb he hpl, semE_calM ha.s⟩
end
/-! ### a def by its body -/
def dFn (k m : Nat) (g : DS0) : List D → Rx Rv := fun ds => if ds.length = k then
    match g (ds.map .d ++ List.replicate (m - k) .no) with
    | .ok (.rt x, _) => .ok (.d x)
    | .ok (.ro xs, _) => .ok (.own xs)
    | .ok (.nx, _) => .ok (.d .non)
    | .exc c fs _ => .exc c fs []
    | _ => .bad
  else .bad
def dFin : Fl → Option Sl → Rx (Rv × List D)
  | .rt x, some (Sl.lent qs) => Rx.ok (Rv.d x, qs)
  | .ro xs, some (Sl.lent qs) => Rx.ok (Rv.own xs, qs)
  | .nx, some (Sl.lent qs) => Rx.ok (Rv.d .non, qs)
  | _, _ => Rx.bad
def dFnM (k m : Nat) (g : DS0) : List D → List D → Rx (Rv × List D) := fun ps ds => if ds.length + 1 = k then
    match g (.lent ps :: ds.map .d ++ List.replicate (m - k) .no) with
    | .ok (fl, δ) => dFin fl δ[0]?
    | _ => .bad
  else .bad
section
variable {P : Program} {w : World} {K : PySem.W.Frag} {mg : Str → Option Value} {base : Heap} {n : En} {x qual : Str} {params : Arguments} {body : List Stmt} {scope : Scope} {dvs : List V} {kws : List (Str × V)} {f : Addr} {fd : FuncData}
theorem start_d {F : Hp} {N : List Str} {vs : List V} {ds : List D} {H : Hp} (r : RpAll n.K n.cn F vs ds) (sub : Sub F H) (hl : vs.length ≤ N.length) : Sta n.K n.cn (L2.start N vs) (ds.map .d ++ List.replicate (N.length - ds.length) .no) F H where
  len := by
    unfold L2.start
    rw [List.length_append, List.length_append, List.length_map, List.length_map, List.length_replicate, List.length_replicate, r.len]
  sub := sub
  dat := fun i y h => by
    unfold L2.start
    by_cases q : i < ds.length
    · rw [List.getElem?_append_left (by simpa using q), List.getElem?_map] at h
      obtain ⟨d, hd, e⟩ := Option.map_eq_some_iff.mp h
      cases e
      obtain ⟨v, hv, rv⟩ := r.get hd
      refine ⟨v, ?_, rv⟩
      rw [List.getElem?_append_left (by rw [List.length_map, r.len]; exact q), List.getElem?_map, hv]
      rfl
    · rw [List.getElem?_append_right (by simpa using q), List.getElem?_replicate] at h
      split at h <;> cases h
  own := fun i xs h => by
    exfalso
    by_cases q : i < ds.length
    · rw [List.getElem?_append_left (by simpa using q), List.getElem?_map] at h
      rcases h with h | h <;> (obtain ⟨d, hd, e⟩ := Option.map_eq_some_iff.mp h; cases e)
    · rw [List.getElem?_append_right (by simpa using q), List.getElem?_replicate] at h
      rcases h with h | h <;> split at h <;> cases h
  apart := fun i j p a _ => by
    exfalso
    obtain ⟨⟨xs, h⟩, _⟩ := a
    by_cases q : i < ds.length
    · rw [List.getElem?_append_left (by simpa using q), List.getElem?_map] at h
      rcases h with h | h <;> (obtain ⟨d, hd, e⟩ := Option.map_eq_some_iff.mp h; cases e)
    · rw [List.getElem?_append_right (by simpa using q), List.getElem?_replicate] at h
      rcases h with h | h <;> split at h <;> cases h
theorem start_noOwn {σ : L2.St} {ds : List D} {k : Nat} {p : Addr} : ¬ OwnA σ (ds.map Sl.d ++ List.replicate k .no) p := by
  rintro ⟨i, ⟨xs, h⟩, _⟩
  by_cases q : i < ds.length
  · rw [List.getElem?_append_left (by simpa using q), List.getElem?_map] at h
    rcases h with h | h <;> (obtain ⟨d, hd, e⟩ := Option.map_eq_some_iff.mp h; cases e)
  · rw [List.getElem?_append_right (by simpa using q), List.getElem?_replicate] at h
    rcases h with h | h <;> split at h <;> cases h
theorem Stp.ev {σ σ' : L2.St} {δ δ' : List Sl} {F H F' H' : Hp} (st : Stp σ δ F H σ' δ' F' H') (no : ∀ p, ¬ OwnA σ δ p) : Ev F H F' H' :=
  ⟨st.sub, fun a o h => st.keep a o h (no a), fun a h1 h2 => st.fresh a h1 h2 (no a)⟩
theorem room_u {k : Nat} {A : Around} (r : RoomG k A) : A.units + 180 < cLine := by have := r.room.un; omega
theorem fn_okP {N ps : List Str} {k : Nat} {g : DS0} (hK : n.K = K) (F : FunD K x qual params body scope dvs kws f fd) (S : FnScope N ps scope) (hl : ps.length ≤ N.length)
    (hb : ∀ (cdv : Value) (A : Around) (outer : List Env) (s : Shared) (H : Hp) (E : XK), RoomG k (A.deeper (PyProof.Rows.envOfC qual scope s.heap.objs.size f cdv)) → Ok (cxOf (L2.CX P w) P w K mg base N qual scope f cdv A outer s H E) n →
      Takes (cxOf (L2.CX P w) P w K mg base N qual scope f cdv A outer s H E) (fun c d _ H' => E c d H') →
      ∃ t, DSs (cxOf (L2.CX P w) P w K mg base N qual scope f cdv A outer s H E) n (fun c d _ H' => E c d H') body t g) :
    FnG P w K mg base (L2.CX P w) (k + 1) f fd ps (spP n (dFn ps.length N.length g)) := by
  refine FunD.okG F S (fun vs H Q E h => ?_) fun cdv A outer s H vs Q E hr h => ?_
  · obtain ⟨G, ds, sub, r, h⟩ := h
    rw [r.len]
    unfold dFn at h
    split at h
    · assumption
    · exact h.elim
  · obtain ⟨G, ds, sub, r, h⟩ := h
    obtain ⟨t, D⟩ := hb cdv A outer s H E hr ⟨hK.symm, room_u hr, rfl, S.nd, passes_of rfl, hr.g⟩ (takes_of rfl rfl rfl rfl)
    refine ⟨t, D.p, ?_⟩
    unfold dFn at h
    split at h
    · rename_i hk
      have hlen : vs.length ≤ N.length := by rw [r.len, hk]; exact hl
      have S0 := start_d (N := N) r sub hlen
      have no : ∀ p, ¬ OwnA (L2.start N vs) (ds.map Sl.d ++ List.replicate (N.length - ds.length) .no) p := fun p => start_noOwn
      rw [← hk] at h
      refine D.s _ _ _ _ _ S0 ?_
      cases e : g (ds.map Sl.d ++ List.replicate (N.length - ds.length) .no) with
      | bad => rw [e] at h; exact h.elim
      | exc c fs δ' =>
        rw [e] at h
        exact fun σ' F' H' cls dd a b x => h F' H' cls dd a.sub (b.ev no) x
      | ok q =>
        obtain ⟨fl, δ'⟩ := q
        rw [e] at h
        cases fl with
        | nx => exact fun σ' F' H' a b => h F' H' .non a.sub (b.ev no) .non
        | rt y => exact fun σ' F' H' v a b c => h F' H' v a.sub (b.ev no) c
        | ro ys => exact fun σ' F' H' p vs' a b c d e1 f1 g1 => h F' H' p vs' a.sub (b.ev no) c d e1 f1 g1
        | bk => exact h.elim
        | ct => exact h.elim
    · exact h.elim
theorem start_m {F : Hp} {N : List Str} {p : Addr} {us vs : List V} {ps ds : List D} {H : Hp} (r : RpAll n.K n.cn F vs ds) (ru : RpAll n.K n.cn F us ps) (sub : Sub F H) (h1 : H p = some (.lst us)) (hF : F p = none) (z : us.length ≤ sizeLine) (hl : vs.length + 1 ≤ N.length) :
    Sta n.K n.cn (L2.start N (.ref p :: vs)) (.lent ps :: ds.map .d ++ List.replicate (N.length - (ds.length + 1)) .no) F H := by
  have tl : ∀ (i : Nat) (xs : List D), ¬ ((ds.map Sl.d ++ List.replicate (N.length - (ds.length + 1)) Sl.no)[i]? = some (Sl.own xs) ∨ (ds.map Sl.d ++ List.replicate (N.length - (ds.length + 1)) Sl.no)[i]? = some (Sl.lent xs)) := fun i xs h => by
    by_cases q : i < ds.length
    · rw [List.getElem?_append_left (by simpa using q), List.getElem?_map] at h
      rcases h with h | h <;> (obtain ⟨d, hd, e⟩ := Option.map_eq_some_iff.mp h; cases e)
    · rw [List.getElem?_append_right (by simpa using q), List.getElem?_replicate] at h
      rcases h with h | h <;> split at h <;> cases h
  refine ⟨?_, sub, fun i y h => ?_, fun i xs h => ?_, fun i j q a b => ?_⟩
  · unfold L2.start
    simp only [List.length_append, List.length_map, List.length_replicate, List.length_cons, r.len]
  · cases i with
    | zero => cases h
    | succ i =>
      have h' : (ds.map Sl.d ++ List.replicate (N.length - (ds.length + 1)) Sl.no)[i]? = some (Sl.d y) := by simpa using h
      by_cases q : i < ds.length
      · rw [List.getElem?_append_left (by simpa using q), List.getElem?_map] at h'
        obtain ⟨d, hd, e⟩ := Option.map_eq_some_iff.mp h'
        cases e
        obtain ⟨v, hv, rv⟩ := r.get hd
        refine ⟨v, ?_, rv⟩
        unfold L2.start
        show ((some (V.ref p) :: vs.map some) ++ _)[i + 1]? = _
        rw [List.cons_append, List.getElem?_cons_succ, List.getElem?_append_left (by rw [List.length_map, r.len]; exact q), List.getElem?_map, hv]
        rfl
      · rw [List.getElem?_append_right (by simpa using q), List.getElem?_replicate] at h'
        split at h' <;> cases h'
  · cases i with
    | zero =>
      have : xs = ps := by rcases h with h | h <;> cases h <;> rfl
      subst this
      exact ⟨p, us, rfl, h1, hF, ru, z⟩
    | succ i => exact absurd (by simpa using h) (tl i xs)
  · cases i with
    | zero =>
      cases j with
      | zero => rfl
      | succ j => obtain ⟨⟨xs, h⟩, _⟩ := b; exact absurd (by simpa using h) (tl j xs)
    | succ i => obtain ⟨⟨xs, h⟩, _⟩ := a; exact absurd (by simpa using h) (tl i xs)
theorem start_mOwn {N : List Str} {p : Addr} {vs : List V} {ps ds : List D} {k : Nat} {q : Addr} (h : OwnA (L2.start N (.ref p :: vs)) (.lent ps :: ds.map Sl.d ++ List.replicate k .no) q) : q = p := by
  obtain ⟨i, ⟨xs, h⟩, e⟩ := h
  cases i with
  | zero =>
    have e' : (some (some (V.ref p)) : Option (Option V)) = some (some (V.ref q)) := e
    cases e'
    rfl
  | succ i =>
    exfalso
    have h' : (ds.map Sl.d ++ List.replicate k Sl.no)[i]? = some (Sl.own xs) ∨ (ds.map Sl.d ++ List.replicate k Sl.no)[i]? = some (Sl.lent xs) := by simpa using h
    by_cases q : i < ds.length
    · rw [List.getElem?_append_left (by simpa using q), List.getElem?_map] at h'
      rcases h' with h | h <;> (obtain ⟨d, hd, e⟩ := Option.map_eq_some_iff.mp h; cases e)
    · rw [List.getElem?_append_right (by simpa using q), List.getElem?_replicate] at h'
      rcases h' with h | h <;> split at h <;> cases h
theorem fn_okM {N ps : List Str} {k : Nat} {g : DS0} (hK : n.K = K) (F : FunD K x qual params body scope dvs kws f fd) (S : FnScope N ps scope) (hl : ps.length ≤ N.length)
    (hb : ∀ (cdv : Value) (A : Around) (outer : List Env) (s : Shared) (H : Hp) (E : XK), RoomG k (A.deeper (PyProof.Rows.envOfC qual scope s.heap.objs.size f cdv)) → Ok (cxOf (L2.CX P w) P w K mg base N qual scope f cdv A outer s H E) n →
      Takes (cxOf (L2.CX P w) P w K mg base N qual scope f cdv A outer s H E) (fun c d _ H' => E c d H') →
      ∃ t, DSs (cxOf (L2.CX P w) P w K mg base N qual scope f cdv A outer s H E) n (fun c d _ H' => E c d H') body t g) :
    FnG P w K mg base (L2.CX P w) (k + 1) f fd ps (spM n (dFnM ps.length N.length g)) := by
  refine FunD.okG F S (fun vs H Q E h => ?_) fun cdv A outer s H vs Q E hr h => ?_
  · obtain ⟨G, p, us, qs, ds, vs', rfl, sub, h1, hF, ru, z, r, h⟩ := h
    unfold dFnM at h
    split at h
    · rename_i hk
      rw [List.length_cons, r.len, hk]
    · exact h.elim
  · obtain ⟨G, p, us, qs, ds, vs', rfl, sub, h1, hF, ru, z, r, h⟩ := h
    obtain ⟨t, D⟩ := hb cdv A outer s H E hr ⟨hK.symm, room_u hr, rfl, S.nd, passes_of rfl, hr.g⟩ (takes_of rfl rfl rfl rfl)
    refine ⟨t, D.p, ?_⟩
    unfold dFnM at h
    split at h
    · rename_i hk
      have hlen : vs'.length + 1 ≤ N.length := by rw [r.len, hk]; exact hl
      have S0 := start_m (N := N) r ru sub h1 hF z hlen
      rw [← hk] at h
      refine D.s _ _ _ _ _ S0 ?_
      have fin : ∀ {σ' : L2.St} {δ' : List Sl} {F' H' : Hp}, Sta n.K n.cn σ' δ' F' H' → Stp (L2.start N (.ref p :: vs')) (.lent qs :: ds.map .d ++ List.replicate (N.length - (ds.length + 1)) .no) G H σ' δ' F' H' →
          ∃ qs' us', δ'[0]? = some (Sl.lent qs') ∧ H' p = some (.lst us') ∧ F' p = none ∧ RpAll n.K n.cn F' us' qs' ∧ us'.length ≤ sizeLine ∧ EvM p G H F' H' := by
        intro σ' δ' F' H' S' st
        obtain ⟨⟨qs', e1⟩, e2⟩ := st.lent 0 qs rfl
        obtain ⟨p', us', e3, g1, g2, g3, g4⟩ := S'.own 0 qs' (.inr e1)
        rw [e2] at e3
        have e3' : (some (some (V.ref p)) : Option (Option V)) = some (some (V.ref p')) := e3
        cases e3'
        refine ⟨qs', us', e1, g1, g2, g3, g4, ⟨st.sub, fun a o h ne => st.keep a o h fun w => ne (start_mOwn w), fun a h1 h2 => ?_⟩⟩
        by_cases q : a = p
        · subst q; exact g2
        · exact st.fresh a h1 h2 fun w => q (start_mOwn w)
      cases e : g (.lent qs :: ds.map .d ++ List.replicate (N.length - (ds.length + 1)) .no) with
      | bad => rw [e] at h; exact h.elim
      | exc c fs δ' => rw [e] at h; exact h.elim
      | ok q =>
        obtain ⟨fl, δ'⟩ := q
        rw [e] at h
        cases fl with
        | nx =>
          intro σ' F' H' a b
          obtain ⟨qs', us', e1, g1, g2, g3, g4, g5⟩ := fin a b
          simp only [e1] at h
          exact h F' H' .non us' a.sub g5 g1 g3 g4 .non
        | rt y =>
          intro σ' F' H' v a b c
          obtain ⟨qs', us', e1, g1, g2, g3, g4, g5⟩ := fin a b
          simp only [e1] at h
          exact h F' H' v us' a.sub g5 g1 g3 g4 c
        | ro ys =>
          intro σ' F' H' q ws a b c d e3 f3 i3
          obtain ⟨qs', us', e1, g1, g2, g3, g4, g5⟩ := fin a b
          simp only [e1] at h
          exact h F' H' q ws us' a.sub g5 g1 g3 g4 c d e3 f3 i3
        | bk =>
          have h' : PostM n p G H (dFin .bk δ'[0]?) Q := h
          exfalso
          cases e0 : (δ'[0]? : Option Sl) with
          | none => rw [e0] at h'; exact h'
          | some s => rw [e0] at h'; cases s <;> exact h'
        | ct =>
          have h' : PostM n p G H (dFin .ct δ'[0]?) Q := h
          exfalso
          cases e0 : (δ'[0]? : Option Sl) with
          | none => rw [e0] at h'; exact h'
          | some s => rw [e0] at h'; cases s <;> exact h'
    · exact h.elim
end
end DL

set_option Elab.async false
set_option linter.all false
set_option maxRecDepth 100000
set_option maxHeartbeats 2000000
set_option autoImplicit false
/-! DLg: statements. -/
namespace DL
open PySem PySem.Spec L2
section
variable {K : PySem.W.Frag} {cn : Nm} {σ : L2.St} {δ : List Sl} {F H : Hp}
def Sl.isLent : Sl → Bool
  | .lent _ => true
  | _ => false
theorem OwnAt.ofSet {i j : Nat} {s : Sl} {v : Option V} {p : Addr} (h : OwnAt (σ.set i v) (δ.set i s) j p) (ne : j ≠ i) : OwnAt σ δ j p := by
  obtain ⟨⟨xs, h⟩, e⟩ := h
  rw [List.getElem?_set_ne (Ne.symm ne)] at h e
  exact ⟨⟨xs, h⟩, e⟩
/-- a slot is given a datum -/
theorem Sta.setD (S : Sta K cn σ δ F H) {i : Nat} {s : Sl} {v : V} {x : D} (hi : δ[i]? = some s) (hl : s.isLent = false) (r : Rp K cn F v x) :
    Sta K cn (σ.set i (some v)) (δ.set i (.d x)) F H ∧ Stp σ δ F H (σ.set i (some v)) (δ.set i (.d x)) F H := by
  have hlt : i < δ.length := (List.getElem?_eq_some_iff.mp hi).1
  have hlt' : i < σ.length := by rw [S.len]; exact hlt
  have nown : ∀ p, ¬ OwnAt (σ.set i (some v)) (δ.set i (.d x)) i p := fun p h => by
    obtain ⟨⟨xs, h⟩, _⟩ := h
    rw [List.getElem?_set_self hlt] at h
    rcases h with h | h <;> cases h
  have old : ∀ {j p}, OwnAt (σ.set i (some v)) (δ.set i (.d x)) j p → OwnAt σ δ j p := fun {j p} h => h.ofSet fun e => nown p (e ▸ h)
  refine ⟨⟨?_, S.sub, fun j y h => ?_, fun j xs h => ?_, fun j k p a b => S.apart j k p (old a) (old b)⟩, ⟨Sub.refl _, fun a o h _ => h, fun a h => h, fun a h _ _ => h, fun p ⟨j, h⟩ => .inl ⟨j, old h⟩, fun j xs h => ?_⟩⟩
  · rw [List.length_set, List.length_set]; exact S.len
  · by_cases q : j = i
    · subst q
      rw [List.getElem?_set_self hlt] at h
      cases h
      exact ⟨v, List.getElem?_set_self hlt', r⟩
    · rw [List.getElem?_set_ne (Ne.symm q)] at h ⊢
      exact S.dat j y h
  · by_cases q : j = i
    · subst q
      rw [List.getElem?_set_self hlt] at h
      rcases h with h | h <;> cases h
    · rw [List.getElem?_set_ne (Ne.symm q)] at h ⊢
      exact S.own j xs h
  · have ne : j ≠ i := fun e => by subst e; rw [hi] at h; cases h; cases hl
    rw [List.getElem?_set_ne (Ne.symm ne), List.getElem?_set_ne (Ne.symm ne)]
    exact ⟨⟨xs, h⟩, rfl⟩
/-- a slot is given a new list of its own -/
theorem Sta.setO (S : Sta K cn σ δ F H) {i : Nat} {s : Sl} {p : Addr} {us : List V} {xs : List D} (hi : δ[i]? = some s) (hl : s.isLent = false) (h1 : H p = some (.lst us)) (h2 : F p = none) (r : RpAll K cn F us xs) (z : us.length ≤ sizeLine) (no : ¬ OwnA σ δ p) :
    Sta K cn (σ.set i (some (.ref p))) (δ.set i (.own xs)) F H ∧ ∀ {σ0 δ0 F0 H0}, Stp σ0 δ0 F0 H0 σ δ F H → H0 p = none → Stp σ0 δ0 F0 H0 (σ.set i (some (.ref p))) (δ.set i (.own xs)) F H := by
  have hlt : i < δ.length := (List.getElem?_eq_some_iff.mp hi).1
  have hlt' : i < σ.length := by rw [S.len]; exact hlt
  have atI : ∀ {q}, OwnAt (σ.set i (some (.ref p))) (δ.set i (.own xs)) i q → q = p := fun {q} h => by
    obtain ⟨_, e⟩ := h
    rw [List.getElem?_set_self hlt'] at e
    cases e
    rfl
  refine ⟨⟨?_, S.sub, fun j y h => ?_, fun j ys h => ?_, fun j k q a b => ?_⟩, fun {σ0 δ0 F0 H0} st h0 => ⟨st.sub, st.keep, st.there, st.fresh, fun q ⟨j, h⟩ => ?_, fun j ys h => ?_⟩⟩
  · rw [List.length_set, List.length_set]; exact S.len
  · by_cases q : j = i
    · subst q
      rw [List.getElem?_set_self hlt] at h
      cases h
    · rw [List.getElem?_set_ne (Ne.symm q)] at h ⊢
      exact S.dat j y h
  · by_cases q : j = i
    · subst q
      rw [List.getElem?_set_self hlt] at h
      have : ys = xs := by rcases h with h | h <;> cases h; rfl
      subst this
      exact ⟨p, us, List.getElem?_set_self hlt', h1, h2, r, z⟩
    · rw [List.getElem?_set_ne (Ne.symm q)] at h ⊢
      exact S.own j ys h
  · by_cases qj : j = i
    · by_cases qk : k = i
      · rw [qj, qk]
      · subst qj
        have e := atI a
        subst e
        exact absurd ⟨k, b.ofSet qk⟩ no
    · by_cases qk : k = i
      · subst qk
        have e := atI b
        subst e
        exact absurd ⟨j, a.ofSet qj⟩ no
      · exact S.apart j k q (a.ofSet qj) (b.ofSet qk)
  · by_cases qj : j = i
    · subst qj
      have e := atI h
      subst e
      exact .inr h0
    · exact st.own q ⟨j, h.ofSet qj⟩
  · obtain ⟨⟨ys', h'⟩, e⟩ := st.lent j ys h
    have ne : j ≠ i := fun e => by subst e; rw [hi] at h'; cases h'; cases hl
    rw [List.getElem?_set_ne (Ne.symm ne), List.getElem?_set_ne (Ne.symm ne)]
    exact ⟨⟨ys', h'⟩, e⟩
end
section
variable {X : Cx} {n : En} {W : WX} {a b e : Expr} {es : List Expr} {t ta tb te : TE} {fa fb fe : DE0} {fo : DO0} {pos : Pos} {st : Stmt} {rest : List Stmt} {ts us : TS} {f g : DS0} {tA : TT} {gA : DT0}
/-! ### blocks -/
def dNil : DS0 := fun δ => .ok (.nx, δ)
def dSeq (f g : DS0) : DS0 := fun δ => (f δ).bind fun a => match a.1 with
  | .nx => g a.2
  | fl => .ok (fl, a.2)
theorem SemS.go {P : Rx (Fl × List Sl) → Prop} {σ : L2.St} {δ : List Sl} {F H : Hp} {d : Ends} (s : SemS n W ts f) (S : Sta n.K n.cn σ δ F H) (h : PostS n W σ δ F H (f δ) d) : ts d σ H := s σ δ F H d S h
theorem semS_seq (sf : SemS n W ts f) (sg : SemS n W us g) : SemS n W (tSeq ts us) (dSeq f g) := by
  intro σ δ F H d S hP
  refine sf σ δ F H _ S ?_
  unfold dSeq at hP
  cases e : f δ with
  | bad => rw [e] at hP; exact hP
  | exc c fs δ' => rw [e] at hP; exact hP
  | ok q =>
    obtain ⟨fl, δ1⟩ := q
    rw [e] at hP
    cases fl with
    | nx => exact fun σ1 F1 H1 S1 st1 => sg σ1 δ1 F1 H1 d S1 (PostS.pre st1 hP)
    | rt x => exact hP
    | ro xs => exact hP
    | bk => exact hP
    | ct => exact hP
theorem dss_nil : DSs X n W [] tNext dNil := ⟨pss_nil, fun σ δ F H d S h => h σ F H S Stp.refl⟩
theorem dss_cons (h1 : DS X n W st ts f) (h2 : DSs X n W rest us g) : DSs X n W (st :: rest) (tSeq ts us) (dSeq f g) := ⟨pss_cons h1.p h2.p, semS_seq h1.s h2.s⟩
theorem dss_one (h1 : DS X n W st ts f) : DSs X n W [st] ts f := ⟨pss_one h1.p, h1.s⟩
theorem ds_pass : DS X n W (.Pass pos) tNext dNil := ⟨ps_pass, fun σ δ F H d S h => h σ F H S Stp.refl⟩
def dBreak : DS0 := fun δ => .ok (.bk, δ)
def dCont : DS0 := fun δ => .ok (.ct, δ)
theorem ds_break : DS X n W (.Break pos) tBreak dBreak := ⟨ps_break, fun σ δ F H d S h => h σ F H S Stp.refl⟩
theorem ds_cont : DS X n W (.Continue pos) tCont dCont := ⟨ps_continue, fun σ δ F H d S h => h σ F H S Stp.refl⟩
/-- a statement that the proof never comes to -/
def dNever : DS0 := fun _ => .bad
theorem ds_never : DS X n W st tNever dNever := ⟨ps_never, fun σ δ F H d S h => h⟩
theorem dss_never {sts : List Stmt} : DSs X n W sts tNever dNever := ⟨pss_never, fun σ δ F H d S h => h⟩
def dDrop (fe : DE0) : DS0 := fun δ => (fe δ).bind fun a => .ok (.nx, a.2)
theorem ds_expr (h : DE X n W e te fe) (hs : swapsWith e none pos.line X.env = pure false := by rfl) : DS X n W (.Expr e pos) (tDrop te) (dDrop fe) :=
  ⟨ps_expr h.p hs, fun σ δ F H d S hP => h.s.go PL.s S hP fun x δ1 F1 H1 v S1 st1 r1 h1 => h1 σ F1 H1 S1 Stp.refl⟩
def dRet (fe : DE0) : DS0 := fun δ => (fe δ).bind fun a => .ok (.rt a.1, a.2)
theorem ds_ret (h : DE X n W e te fe) : DS X n W (.Return (some e) pos) (tRet te) (dRet fe) :=
  ⟨ps_ret h.p, fun σ δ F H d S hP => h.s.go PL.s S hP fun x δ1 F1 H1 v S1 st1 r1 h1 => h1 σ F1 H1 v S1 Stp.refl r1⟩
def dRetO (fo : DO0) : DS0 := fun δ => (fo δ).bind fun a => .ok (.ro a.1, a.2)
theorem ds_retO (h : DO X n W e te fo) : DS X n W (.Return (some e) pos) (tRet te) (dRetO fo) :=
  ⟨ps_ret h.p, fun σ δ F H d S hP => h.s.go PL.s S hP fun xs δ1 F1 H1 p vs S1 st1 h1 h2 h3 r1 z no k => k σ F1 H1 p vs S1 st1 h1 h2 h3 r1 z⟩
def dRetN : DS0 := fun δ => .ok (.rt .non, δ)
theorem ds_retN : DS X n W (.Return none pos) tRetN dRetN := ⟨ps_retN, fun σ δ F H d S h => h σ F H .non S Stp.refl .non⟩
def dIfS (c : DT0) (f g : DS0) : DS0 := fun δ => (c δ).bind fun a => match a.1 with
  | true => f a.2
  | false => g a.2
theorem ds_if {ss rs : List Stmt} (hc : DT X n W e tA gA) (ha : DSs X n W ss ts f) (hb : DSs X n W rs us g) : DS X n W (.If e ss rs pos) (tIfS tA ts us) (dIfS gA f g) :=
  ⟨ps_if hc.p ha.p hb.p, fun σ δ F H d S hP => hc.s.go PL.s S hP fun k δ1 F1 H1 S1 st1 h1 => by
    cases k with
    | true => exact (if_pos rfl : (if true = true then _ else _) = _) ▸ (ha.s _ _ _ _ _ S1 h1)
    | false => exact (if_neg Bool.false_ne_true : (if false = true then _ else _) = _) ▸ (hb.s _ _ _ _ _ S1 h1)⟩
/-! ### x = e -/
/-- slot i given a datum -/
def slSet (i : Nat) (s : Sl) (δ : List Sl) : Rx (Fl × List Sl) := match δ[i]? with
  | some o => if o.isLent then .bad else .ok (.nx, δ.set i s)
  | none => .bad
def dSet (i : Nat) (fe : DE0) : DS0 := fun δ => (fe δ).bind fun a => slSet i (.d a.1) a.2
theorem slSet_ok {P : Rx (Fl × List Sl) → Prop} {i : Nat} {s : Sl} {δ : List Sl} (nb : ¬ P .bad) (h : P (slSet i s δ)) : ∃ o, δ[i]? = some o ∧ o.isLent = false ∧ P (.ok (.nx, δ.set i s)) := by
  unfold slSet at h
  cases e : δ[i]? with
  | none => rw [e] at h; exact absurd h nb
  | some o =>
    rw [e] at h
    cases ho : o.isLent with
    | true => simp only [ho, if_true] at h; exact absurd h nb
    | false =>
      simp only [ho, Bool.false_eq_true, if_false] at h
      exact ⟨o, rfl, ho, h⟩
theorem semS_set {i : Nat} (s : SemE n W te fe) : SemS n W (tAsg te (gName i)) (dSet i fe) := fun σ δ F H d S hP => s.go PL.s S hP fun x δ1 F1 H1 v S1 st1 r1 h1 => by
  obtain ⟨o, ho, hl, h2⟩ := slSet_ok (P := fun r => PostS n W σ δ1 F1 H1 r d) (fun h => h) h1
  obtain ⟨S', st'⟩ := S1.setD ho hl r1
  exact h2 _ F1 H1 S' st'
theorem ds_set (i : Nat) {x : Str} {pos' : Pos} (o : Ok X n) (he : DE X n W e te fe) (hi : X.N[i]? = some x := by rfl) (hx : Loc X.env.scope x := by first | exact Or.inl rfl | exact Or.inr rfl) (hs : swapsWith e (some (.Name x pos')) pos.line X.env = pure false := by rfl) (hf : X.fn x = true ∨ X.env.scope.names.lookup x = some .local := by first | exact .inl rfl | exact .inr rfl) :
    DS X n W (.Assign [.Name x pos'] e pos) (tAsg te (gName i)) (dSet i fe) := ⟨ps_set o.nd hi hx he.p hs hf, semS_set he.s⟩
def dSetO (i : Nat) (fo : DO0) : DS0 := fun δ => (fo δ).bind fun a => slSet i (.own a.1) a.2
theorem semS_setO {i : Nat} (s : SemO n W te fo) : SemS n W (tAsg te (gName i)) (dSetO i fo) := fun σ δ F H d S hP => s.go PL.s S hP fun xs δ1 F1 H1 p vs S1 st1 h1 h2 h3 r1 z no k => by
  obtain ⟨o, ho, hl, k2⟩ := slSet_ok (P := fun r => PostS n W σ δ F H r d) (fun h => h) k
  obtain ⟨S', st'⟩ := S1.setO ho hl h1 h2 r1 z no
  exact k2 _ F1 H1 S' (st' st1 h3)
theorem ds_setO (i : Nat) {x : Str} {pos' : Pos} (o : Ok X n) (he : DO X n W e te fo) (hi : X.N[i]? = some x := by rfl) (hx : Loc X.env.scope x := by first | exact Or.inl rfl | exact Or.inr rfl) (hs : swapsWith e (some (.Name x pos')) pos.line X.env = pure false := by rfl) (hf : X.fn x = true ∨ X.env.scope.names.lookup x = some .local := by first | exact .inl rfl | exact .inr rfl) :
    DS X n W (.Assign [.Name x pos'] e pos) (tAsg te (gName i)) (dSetO i fo) := ⟨ps_set o.nd hi hx he.p hs hf, semS_setO he.s⟩
/-! ### changes of a list of one's own -/
/-- the list of slot i, rewritten -/
def slPut (i : Nat) (h : List D → Option (List D)) (δ : List Sl) : Rx (Fl × List Sl) := match δ[i]? with
  | some s => (match s.get? with
    | some xs => (match h xs with
      | some ys => .ok (.nx, δ.set i (s.put ys))
      | none => .bad)
    | none => .bad)
  | none => .bad
theorem slPut_ok {P : Rx (Fl × List Sl) → Prop} {i : Nat} {h : List D → Option (List D)} {δ : List Sl} (nb : ¬ P .bad) (q : P (slPut i h δ)) : ∃ s xs ys, δ[i]? = some s ∧ s.get? = some xs ∧ h xs = some ys ∧ P (.ok (.nx, δ.set i (s.put ys))) := by
  unfold slPut at q
  cases e : δ[i]? with
  | none => rw [e] at q; exact absurd q nb
  | some s =>
    simp only [e] at q
    cases e1 : s.get? with
    | none => simp only [e1] at q; exact absurd q nb
    | some xs =>
      simp only [e1] at q
      cases e2 : h xs with
      | none => simp only [e2] at q; exact absurd q nb
      | some ys =>
        simp only [e2] at q
        exact ⟨s, xs, ys, rfl, e1, e2, q⟩
/-- slot i holds a list of its own (or a lent one) -/
def hasOwn (i : Nat) (δ : List Sl) : Bool := match δ[i]? with
  | some s => s.get?.isSome
  | none => false
theorem hasOwn_at {K : PySem.W.Frag} {cn : Nm} {σ : L2.St} {δ : List Sl} {F H : Hp} {i : Nat} (S : Sta K cn σ δ F H) (h : hasOwn i δ = true) : ∃ p vs, σ[i]? = some (some (V.ref p)) ∧ H p = some (.lst vs) := by
  unfold hasOwn at h
  cases e : δ[i]? with
  | none => rw [e] at h; cases h
  | some s =>
    rw [e] at h
    obtain ⟨xs, hx⟩ := Option.isSome_iff_exists.mp h
    obtain ⟨p, vs, h1, h2, _⟩ := S.at e hx
    exact ⟨p, vs, h1, h2⟩
theorem Sta.wr {K : PySem.W.Frag} {cn : Nm} {σ : L2.St} {δ : List Sl} {F H : Hp} (S : Sta K cn σ δ F H) {i : Nat} {s : Sl} {xs ys : List D} {p : Addr} {us vs : List V} (hi : δ[i]? = some s) (hg : s.get? = some xs) (e : σ[i]? = some (some (V.ref p))) (h1 : H p = some (.lst vs)) (h2 : F p = none)
    (r : RpAll K cn F us ys) (z : us.length ≤ sizeLine) : Sta K cn σ (δ.set i (s.put ys)) F (upd H p (.lst us)) ∧ Stp σ δ F H σ (δ.set i (s.put ys)) F (upd H p (.lst us)) :=
  S.put (F' := F) (H' := upd H p (.lst us)) hi hg e (fun a o h => by
    have ne : a ≠ p := fun q => by subst q; rw [h2] at h; cases h
    rw [upd_ne ne]; exact S.sub a o h) (Sub.refl _) (fun a o h ne => by rw [upd_ne ne]; exact h) (fun a h _ _ => h) upd_same h2 r z
def dApp (i : Nat) (fe : DE0) : DS0 := fun δ => if hasOwn i δ then (fe δ).bind fun a => slPut i (fun xs => if xs.length < 1000000 then some (xs ++ [a.1]) else none) a.2 else .bad
theorem semS_app {i : Nat} (s : SemE n W te fe) : SemS n W (tDrop (tBM n.K "list" rAppend (tVar i) (tCons te tNil))) (dApp i fe) := by
  intro σ δ F H d S hP
  unfold dApp at hP
  split at hP
  · rename_i ho
    obtain ⟨p, vs0, e0, h0⟩ := hasOwn_at S ho
    refine ⟨_, e0, .inl ⟨rfl, _, SqL.of h0⟩, ?_⟩
    refine s.go PL.s S hP fun x δ1 F1 H1 v S1 st1 r1 h1 => ?_
    obtain ⟨sl, xs, ys, a1, a2, a3, k⟩ := slPut_ok (P := fun r => PostS n W σ δ1 F1 H1 r d) (fun h => h) h1
    obtain ⟨p', us, e1, b1, b2, b3, b4⟩ := S1.at a1 a2
    rw [e0] at e1
    cases e1
    split at a3
    · rename_i c
      cases a3
      have z : us.length < sizeLine := by rw [b3.len, sizeLine_eq]; omega
      refine ⟨p, us, v, rfl, rfl, b1, z, ?_⟩
      obtain ⟨S', st'⟩ := S1.wr (us := us ++ [v]) a1 a2 e0 b1 b2 (b3.append (.cons r1 .nil)) (by rw [List.length_append]; exact z)
      exact k σ _ _ S' st'
    · cases a3
  · exact hP.elim
theorem ds_app (i : Nat) {x : Str} {p1 p2 cpos : Pos} (hk : X.K = n.K) (he : DE X n W e te fe) (hN : X.N[i]? = some x := by rfl) (hvis : Vis X.env.scope x := by first | exact Or.inl rfl | exact Or.inr (Or.inl rfl) | exact Or.inr (Or.inr rfl)) (hd : (x == ("__debug__" : Str)) = false := by decide)
    (hcd : (x == ("__classdict__" : Str)) = false := by decide) (hsw : swapsWith (.Call (.Attribute (.Name x p1) "append" p2) [e] [] cpos) none pos.line X.env = pure false := by rfl)
    (hbase : attributeBase (.Name x p1) "append" X.env (eval (.Name x p1) X.env) = eval (.Name x p1) X.env := by rfl)
    (hfew : ((backTo cpos (starEach [e] X.env)).all (fun x => !x.1) && (backToKw cpos (keywordEach [] X.env)).all (fun x => x.1.isSome)
      && decide ([e].length + ([] : List Keyword).length + (if ([] : List Keyword).isEmpty then 0 else 1) < 30)) = true := by rfl)
    (hline : (p2.endLine == cpos.line) = true := by rfl) (hs : starEach [e] X.env = (false, eval e X.env) :: starEach [] X.env := by rfl) (hplain : (backTo cpos (starEach [] X.env)).any (·.1) = false := by rfl) :
    DS X n W (.Expr (.Call (.Attribute (.Name x p1) "append" p2) [e] [] cpos) pos) (tDrop (tBM n.K "list" rAppend (tVar i) (tCons te tNil))) (dApp i fe) :=
  ⟨ps_expr (hk ▸ pe_bm PySem.F.plainAttrs_list PySem.F.slot_list_append PySem.F.type_list_append mt_append (pv i hN hvis hd hcd) (pa_cons he.p pa_nil hs) hbase hfew hline hs hplain) hsw, semS_app he.s⟩
/-- x[k] = e -/
def dSetIx (i : Nat) (fk fe : DE0) : DS0 := fun δ => (fe δ).bind fun a => if hasOwn i a.2 then (fk a.2).bind fun k => slPut i (fun xs => match k.1 with
  | .int j => (ixN xs.length j).map fun m => xs.set m a.1
  | _ => none) k.2 else .bad
theorem semS_setIx {i : Nat} {tk : TE} {fk : DE0} (s : SemE n W te fe) (sk : SemE n W tk fk) : SemS n W (tAsg te (gSub (tVar i) tk rSetL)) (dSetIx i fk fe) := by
  intro σ δ F H d S hP
  refine s.go PL.s S hP fun x δ1 F1 H1 v S1 st1 r1 h1 => ?_
  simp only at h1
  split at h1
  · rename_i ho
    obtain ⟨p, vs0, e0, h0⟩ := hasOwn_at S1 ho
    refine ⟨_, e0, ?_⟩
    refine sk.go PL.s S1 h1 fun y δ2 F2 H2 u S2 st2 r2 h2 => ?_
    obtain ⟨sl, xs, ys, a1, a2, a3, k⟩ := slPut_ok (P := fun r => PostS n W σ δ2 F2 H2 r d) (fun h => h) h2
    obtain ⟨p', us, e1, b1, b2, b3, b4⟩ := S2.at a1 a2
    rw [e0] at e1
    cases e1
    cases r2 <;> first | (cases a3; done) | skip
    rename_i j
    obtain ⟨m, c1, rfl⟩ := Option.map_eq_some_iff.mp (show (ixN xs.length j).map (fun m => xs.set m x) = some ys from a3)
    refine ⟨p, us, j, m, rfl, rfl, b1, by rw [b3.len]; exact c1, ?_⟩
    obtain ⟨S', st'⟩ := S2.wr (us := us.set m v) a1 a2 e0 b1 b2 (RpAll.set (r1.mono st2.sub) m b3) (by rw [List.length_set]; exact b4)
    exact k σ _ _ S' st'
  · exact h1.elim
theorem ds_setIx (i : Nat) {x : Str} {p1 p2 : Pos} {k : Expr} {tk : TE} {fk : DE0} (he : DE X n W e te fe) (hk : DE X n W k tk fk) (hN : X.N[i]? = some x := by rfl) (hvis : Vis X.env.scope x := by first | exact Or.inl rfl | exact Or.inr (Or.inl rfl) | exact Or.inr (Or.inr rfl)) (hd : (x == ("__debug__" : Str)) = false := by decide)
    (hcd : (x == ("__classdict__" : Str)) = false := by decide)
    (ha : ∀ v, assign (.Subscript (.Name x p1) k p2) X.env v = (do
      let ov ← holding [v] (eval (.Name x p1) X.env)
      let iv ← holding [v, ov] (eval k X.env)
      standAt p2
      holding [v, ov, iv] (setItem ov iv v)
      release [v, ov, iv] []) := by intro _; rfl)
    (hs : swapsWithSole [.Subscript (.Name x p1) k p2] e pos.line X.env = pure false := by rfl) (hw : swappedStores [.Subscript (.Name x p1) k p2] e X.env = pure none := by rfl)
    (h1 : (assignEach [.Subscript (.Name x p1) k p2] X.env).map (·.2) = [assign (.Subscript (.Name x p1) k p2) X.env] := by rfl) :
    DS X n W (.Assign [.Subscript (.Name x p1) k p2] e pos) (tAsg te (gSub (tVar i) tk rSetL)) (dSetIx i fk fe) :=
  ⟨ps_asg he.p (pg_sub (pv i hN hvis hd hcd) hk.p set_list ha) hs hw h1, semS_setIx he.s hk.s⟩
end
end DL

set_option Elab.async false
set_option linter.all false
set_option maxRecDepth 100000
set_option maxHeartbeats 2000000
set_option autoImplicit false
/-! DLh: what is walked, targets, for, list comprehensions. -/
namespace DL
open PySem PySem.Spec L2
/-! ### what is walked -/
structure ItD (n : En) (F1 : Hp) (J : It) (xs : List D) : Prop where
  go : ∀ {i : Nat} {F H : Hp} {σ : L2.St} {δ : List Sl}, Sta n.K n.cn σ δ F H → Sub F1 F → i < xs.length → J.go i H
  stop : ∀ {i : Nat} {F H : Hp} {σ : L2.St} {δ : List Sl}, Sta n.K n.cn σ δ F H → Sub F1 F → xs.length ≤ i → J.stop i H
  yld : ∀ {i : Nat} {F H : Hp} {σ : L2.St} {δ : List Sl} {v : V} {H' : Hp}, Sta n.K n.cn σ δ F H → Sub F1 F → J.yld i H v H' → i < xs.length → ∃ x F', xs[i]? = some x ∧ Sta n.K n.cn σ δ F' H' ∧ Stp σ δ F H σ δ F' H' ∧ Rp n.K n.cn F' v x
abbrev DI0 := List Sl → Rx (List D × List Sl)
def PostI (n : En) (W : WX) (σ : L2.St) (δ : List Sl) (F H : Hp) (r : Rx (List D × List Sl)) (R : It → Hp → Prop) : Prop := match r with
  | .ok (xs, δ') => ∀ F' H' J, Sta n.K n.cn σ δ' F' H' → Stp σ δ F H σ δ' F' H' → ItD n F' J xs → R J H'
  | .exc c fs δ' => PX n W σ δ F H c fs δ'
  | .bad => False
def SemI (n : En) (W : WX) (t : TI) (f : DI0) : Prop := ∀ σ δ F H R, Sta n.K n.cn σ δ F H → PostI n W σ δ F H (f δ) R → t σ H R
structure DI (X : Cx) (n : En) (W : WX) (tg iter : Expr) (wi : TI) (fi : DI0) : Prop where
  p : PI X tg iter wi
  s : SemI n W wi fi
section
variable {n : En} {W : WX} {σ : L2.St}
theorem PL.i {R : It → Hp → Prop} : PL n W σ (fun δ F H r => PostI n W σ δ F H r R) where
  exc := fun h => h
  bad := fun h => h
  pre := fun {δ δ1 F H F1 H1 r} st h => by
    cases r with
    | ok a => exact fun F' H' v a1 b c => h F' H' v a1 (st.trans b) c
    | exc c fs δ' => exact PX.pre st h
    | bad => exact h
theorem SemI.go {β : Type} {P : List Sl → Hp → Hp → Rx β → Prop} (pl : PL n W σ P) {t : TI} {f : DI0} {g : List D × List Sl → Rx β} {δ : List Sl} {F H : Hp} {R : It → Hp → Prop} (sa : SemI n W t f) (hS : Sta n.K n.cn σ δ F H) (h : P δ F H ((f δ).bind g))
    (k : ∀ xs δ1 F1 H1 J, Sta n.K n.cn σ δ1 F1 H1 → Stp σ δ F H σ δ1 F1 H1 → ItD n F1 J xs → P δ F H (g (xs, δ1)) → R J H1) : t σ H R := by
  refine sa σ δ F H R hS ?_
  cases e : f δ with
  | ok a =>
    obtain ⟨xs, δ1⟩ := a
    rw [e] at h
    exact fun F1 H1 v a b c => k xs δ1 F1 H1 v a b c h
  | exc c fs δ' =>
    rw [e] at h
    exact pl.exc h
  | bad =>
    rw [e] at h
    exact pl.bad h
theorem itD_list {F : Hp} {a : Addr} {vs : List V} {xs : List D} (h : F a = some (.lst vs)) (r : RpAll n.K n.cn F vs xs) : ItD n F (Itl n.K a) xs where
  go := fun {i F1 H σ δ} S sub lt => by
    obtain ⟨v, hv, _⟩ := r.get (List.getElem?_eq_getElem lt)
    exact ⟨vs, v, SqL.of (S.sub _ _ (sub _ _ h)), hv⟩
  stop := fun {i F1 H σ δ} S sub le => ⟨vs, SqL.of (S.sub _ _ (sub _ _ h)), by rw [r.len]; exact le⟩
  yld := fun {i F1 H σ δ v H'} S sub y lt => by
    obtain ⟨e, y⟩ := y
    subst e
    have hv := y vs (SqL.of (S.sub _ _ (sub _ _ h)))
    obtain ⟨x, hx, rx⟩ := r.getV hv
    exact ⟨x, F1, hx, S, Stp.refl, rx.mono sub⟩
theorem itD_scr {F : Hp} {a : Addr} {ns : List Int} (h : SqL n.K F a (ns.map V.int)) : ItD n F (Itl n.K a) (ns.map D.int) where
  go := fun {i F1 H σ δ} S sub lt => by
    have lt' : i < ns.length := by simpa using lt
    exact ⟨ns.map V.int, .int ns[i], S.sub.sqL (sub.sqL h), by rw [List.getElem?_map, List.getElem?_eq_getElem lt']; rfl⟩
  stop := fun {i F1 H σ δ} S sub le => ⟨ns.map V.int, S.sub.sqL (sub.sqL h), by simpa using le⟩
  yld := fun {i F1 H σ δ v H'} S sub y lt => by
    obtain ⟨e, y⟩ := y
    subst e
    have hv := y _ (S.sub.sqL (sub.sqL h))
    rw [List.getElem?_map] at hv
    obtain ⟨j, hj, rfl⟩ := Option.map_eq_some_iff.mp hv
    exact ⟨.int j, F1, by rw [List.getElem?_map, hj]; rfl, S, Stp.refl, .int j⟩
theorem itD_tup {F : Hp} {a : Addr} {vs : List V} {xs : List D} (h : SqT n.K F a vs) (r : RpAll n.K n.cn F vs xs) : ItD n F (Itt n.K a) xs where
  go := fun {i F1 H σ δ} S sub lt => by
    obtain ⟨v, hv, _⟩ := r.get (List.getElem?_eq_getElem lt)
    exact ⟨vs, v, S.sub.sqT (sub.sqT h), hv⟩
  stop := fun {i F1 H σ δ} S sub le => ⟨vs, S.sub.sqT (sub.sqT h), by rw [r.len]; exact le⟩
  yld := fun {i F1 H σ δ v H'} S sub y lt => by
    obtain ⟨e, y⟩ := y
    subst e
    have hv := y vs (S.sub.sqT (sub.sqT h))
    obtain ⟨x, hx, rx⟩ := r.getV hv
    exact ⟨x, F1, hx, S, Stp.refl, rx.mono sub⟩
def upto (lo : Int) (k : Nat) : List D := (List.range k).map fun i => D.int (lo + (i : Nat))
theorem upto_len (lo : Int) (k : Nat) : (upto lo k).length = k := by unfold upto; rw [List.length_map, List.length_range]
theorem itD_range {F : Hp} {lo : Int} {k : Nat} : ItD n F (Itr lo k) (upto lo k) where
  go := fun {i F1 H σ δ} S sub lt => by rw [upto_len] at lt; exact lt
  stop := fun {i F1 H σ δ} S sub le => by rw [upto_len] at le; exact le
  yld := fun {i F1 H σ δ v H'} S sub y lt => by
    rw [upto_len] at lt
    obtain ⟨e, e2⟩ := y
    subst e e2
    refine ⟨.int (lo + i), F1, ?_, S, Stp.refl, .int _⟩
    unfold upto
    rw [List.getElem?_map, List.getElem?_range lt]
    rfl
end
section
variable {X : Cx} {n : En} {W : WX} {tg e a b : Expr} {te ta tb : TE} {fe fa fb : DE0} {pos : Pos} {tr : TA} {fr : DA0}
/-- a list, a tuple or the script, walked -/
def iSeq (K : PySem.W.Frag) (tl : TE) : TI := fun σ H R => tl σ H fun x H1 => ∃ a, x = .ref a ∧ (((∃ xs, SqL K H1 a xs) ∧ R (Itl K a) H1) ∨ ((∃ xs, SqT K H1 a xs) ∧ R (Itt K a) H1))
theorem pi_seq {tl : TE} (hl : PE X e tl) : PI X tg e (iSeq X.K tl) := by
  refine ⟨fun pins s σ H R I h => ?_⟩
  refine thn (hl.run pins s σ H _ I h) fun v s1 ⟨x, H1, I1, r1, q1⟩ => ?_
  obtain ⟨a, e, q⟩ := q1
  subst e
  cases r1
  rcases q with ⟨⟨xs, hq⟩, q⟩ | ⟨⟨xs, hq⟩, q⟩
  · obtain ⟨its, rv, p, hz⟩ := I1.list hq
    refine wpAny_pyIter_list p.isList ?_
    refine ⟨s1.heap.objs.size, [s1.heap.objs.size], _, _, H1, rfl, I1.kept (t' := s1.toks) fun b o e => Heap.get?_push_of_some _ e, turn_list a _, ⟨_, Heap.get?_push_size _ rfl, rfl, rfl⟩, fun b hb => ?_, q⟩
    have e : b = s1.heap.objs.size := by simpa using hb
    subst e
    exact I1.fpOk (Nat.le_refl _) (I1.hok.fresh (Nat.le_refl _))
  · obtain ⟨its, rv, p, hz⟩ := I1.tuple hq
    refine wpAny_pyIter_tuple (show s1.heap.IsTuple a its.toArray from p) ?_
    refine ⟨s1.heap.objs.size, [s1.heap.objs.size], _, _, H1, rfl, I1.kept (t' := s1.toks) fun b o e => Heap.get?_push_of_some _ e, turn_tuple a _, ⟨_, Heap.get?_push_size _ rfl, rfl, rfl⟩, fun b hb => ?_, q⟩
    have e : b = s1.heap.objs.size := by simpa using hb
    subst e
    exact I1.fpOk (Nat.le_refl _) (I1.hok.fresh (Nat.le_refl _))
def items : D → Option (List D)
  | .lst xs => some xs
  | .tup xs => some xs
  | .scr ns => some (ns.map .int)
  | _ => none
def diSeq (fe : DE0) : DI0 := fun δ => (fe δ).bind fun a => match items a.1 with
  | some xs => .ok (xs, a.2)
  | none => .bad
theorem semI_seq (s : SemE n W te fe) : SemI n W (iSeq n.K te) (diSeq fe) := fun σ δ F H R S hP => s.go PL.i S hP fun x δ1 F1 H1 v S1 st1 r1 h1 => by
  cases r1 <;> first | (exact h1.elim; done) | skip
  · rename_i a vs ds h2 h3
    exact ⟨a, rfl, .inr ⟨⟨vs, S1.sub.sqT h2.sq⟩, h1 F1 H1 _ S1 Stp.refl (itD_tup h2.sq h3)⟩⟩
  · rename_i a ns h2
    exact ⟨a, rfl, .inl ⟨⟨_, S1.sub.sqL h2⟩, h1 F1 H1 _ S1 Stp.refl (itD_scr h2)⟩⟩
  · rename_i a vs ds h2 h3
    exact ⟨a, rfl, .inl ⟨⟨vs, SqL.of (S1.sub _ _ h2)⟩, h1 F1 H1 _ S1 Stp.refl (itD_list h2 h3)⟩⟩
theorem di_seq (hk : X.K = n.K) (h : DE X n W e te fe) : DI X n W tg e (iSeq n.K te) (diSeq fe) := ⟨hk ▸ pi_seq h.p, semI_seq h.s⟩
def dRng1 (fr : DA0) : DI0 := fun δ => (fr δ).bind fun a => match a.1 with
  | [.int j] => if j.natAbs < 4611686018427387904 then .ok (upto 0 j.toNat, a.2) else .bad
  | _ => .bad
theorem semI_rng1 (s : SemA n W tr fr) : SemI n W (iRng1 tr) (dRng1 fr) := fun σ δ F H R S hP => s.go PL.i S hP fun xs δ1 F1 H1 vs S1 st1 r1 h1 => by
  match xs, r1, h1 with
  | [.int j], .cons (.int _) .nil, h1 =>
    simp only at h1
    split at h1
    · rename_i c
      exact ⟨j, rfl, by omega, by omega, h1 F1 H1 _ S1 Stp.refl itD_range⟩
    · exact h1.elim
theorem di_range1 {p : Pos} (hm : X.mg "range" = none) (ha : DA X n W [a] tr fr) (hg : Gl X "range" := by rfl) (hs : starEach [a] X.env = [(false, eval a X.env)] := by rfl) : DI X n W tg (.Call (.Name "range" p) [a] [] pos) (iRng1 tr) (dRng1 fr) := ⟨pi_range1 hg hm ha.p hs, semI_rng1 ha.s⟩
def dRng2 (fr : DA0) : DI0 := fun δ => (fr δ).bind fun a => match a.1 with
  | [.int i, .int j] => if i.natAbs < 4611686018427387904 ∧ j.natAbs < 4611686018427387904 then .ok (upto i (j - i).toNat, a.2) else .bad
  | _ => .bad
theorem semI_rng2 (s : SemA n W tr fr) : SemI n W (iRng2 tr) (dRng2 fr) := fun σ δ F H R S hP => s.go PL.i S hP fun xs δ1 F1 H1 vs S1 st1 r1 h1 => by
  match xs, r1, h1 with
  | [.int i, .int j], .cons (.int _) (.cons (.int _) .nil), h1 =>
    simp only at h1
    split at h1
    · rename_i c
      exact ⟨i, j, rfl, ⟨by omega, by omega, by omega, by omega⟩, h1 F1 H1 _ S1 Stp.refl itD_range⟩
    · exact h1.elim
theorem di_range2 {p : Pos} (hm : X.mg "range" = none) (ha : DA X n W [a, b] tr fr) (hg : Gl X "range" := by rfl) (hs : starEach [a, b] X.env = [(false, eval a X.env), (false, eval b X.env)] := by rfl) (hs2 : starEach [b] X.env = [(false, eval b X.env)] := by rfl) : DI X n W tg (.Call (.Name "range" p) [a, b] [] pos) (iRng2 tr) (dRng2 fr) := ⟨pi_range2 hg hm ha.p hs hs2, semI_rng2 ha.s⟩
end
/-! ### targets -/
abbrev GD := D → List Sl → Option (List Sl)
def SemG (n : En) (ts : List Nat) (g : TG) (gd : GD) : Prop := ∀ {v : V} {x : D} {σ : L2.St} {δ δ' : List Sl} {F H : Hp} {Q : L2.St → Hp → Prop}, Sta n.K n.cn σ δ F H → Rp n.K n.cn F v x → gd x δ = some δ' →
  (∀ σ', Sta n.K n.cn σ' δ' F H → Stp σ δ F H σ' δ' F H → (∀ vs : List Nat, (∀ i ∈ ts, i ∈ vs) → wipe σ' vs = wipe σ vs) → Q σ' H) → g v σ H Q
structure DG (X : Cx) (n : En) (ts : List Nat) (tg : Expr) (g : TG) (gd : GD) : Prop where
  p : PG X tg g
  s : SemG n ts g gd
def gdName (i : Nat) : GD := fun x δ => match δ[i]? with
  | some s => if s.isLent then none else some (δ.set i (.d x))
  | none => none
theorem set_wipe (σ : L2.St) (i : Nat) (v : Option V) : ∀ vs : List Nat, i ∈ vs → wipe (σ.set i v) vs = wipe σ vs
  | [], h => by simp at h
  | w :: vs, h => by
    by_cases e : w = i
    · subst e
      unfold wipe
      by_cases q : w ∈ vs
      · rw [set_wipe σ w v vs q]
      · have comm : ∀ us : List Nat, w ∉ us → wipe (σ.set w v) us = (wipe σ us).set w v := by
          intro us
          induction us with
          | nil => intro _; rfl
          | cons u us ih =>
            intro hn
            have h1 : w ≠ u := fun e => hn (e ▸ List.mem_cons_self)
            have h2 : w ∉ us := fun e => hn (List.mem_cons_of_mem _ e)
            unfold wipe
            rw [ih h2, List.set_comm _ _ (h1)]
        rw [comm vs q, List.set_set]
    · have q : i ∈ vs := by
        rcases List.mem_cons.mp h with h | h
        · exact absurd h.symm e
        · exact h
      unfold wipe
      rw [set_wipe σ i v vs q]
theorem semG_name {n : En} {i : Nat} : SemG n [i] (gName i) (gdName i) := by
  intro v x σ δ δ' F H Q S r e k
  unfold gdName at e
  cases h : δ[i]? with
  | none => rw [h] at e; cases e
  | some s =>
    rw [h] at e
    cases hl : s.isLent with
    | true => simp only [hl, if_true] at e; cases e
    | false =>
      simp only [hl, Bool.false_eq_true, if_false] at e
      cases e
      obtain ⟨S', st⟩ := S.setD h hl r
      exact k _ S' st fun vs hv => set_wipe σ i _ vs (hv i List.mem_cons_self)
theorem dg_name {X : Cx} {n : En} (i : Nat) {x : Str} {pos : Pos} (o : Ok X n) (hi : X.N[i]? = some x := by rfl) (hx : Loc X.env.scope x := by first | exact Or.inl rfl | exact Or.inr rfl) (hf : X.fn x = true ∨ X.env.scope.names.lookup x = some .local := by first | exact .inl rfl | exact .inr rfl) : DG X n [i] (.Name x pos) (gName i) (gdName i) := ⟨pg_name o.nd hi hx hf, semG_name⟩
abbrev GDs := List D → List Sl → Option (List Sl)
def SemGs (n : En) (ts : List Nat) (g : TGs) (gd : GDs) : Prop := ∀ {vs : List V} {xs : List D} {σ : L2.St} {δ δ' : List Sl} {F H : Hp} {Q : L2.St → Hp → Prop}, Sta n.K n.cn σ δ F H → RpAll n.K n.cn F vs xs → gd xs δ = some δ' →
  (∀ σ', Sta n.K n.cn σ' δ' F H → Stp σ δ F H σ' δ' F H → (∀ vs : List Nat, (∀ i ∈ ts, i ∈ vs) → wipe σ' vs = wipe σ vs) → Q σ' H) → g vs σ H Q
structure DGs (X : Cx) (n : En) (ts : List Nat) (tgs : List Expr) (g : TGs) (gd : GDs) : Prop where
  p : PGs X tgs g
  s : SemGs n ts g gd
def gdNil : GDs := fun xs δ => match xs with
  | [] => some δ
  | _ => none
def gdCons (g : GD) (gs : GDs) : GDs := fun xs δ => match xs with
  | x :: r => (g x δ).bind fun δ1 => gs r δ1
  | [] => none
theorem dgs_nil {X : Cx} {n : En} : DGs X n [] [] gNil gdNil := ⟨pgs_nil, fun {vs xs σ δ δ' F H Q} S r e k => by
  cases r with
  | nil => cases e; exact ⟨rfl, k σ S Stp.refl fun _ _ => rfl⟩
  | cons _ _ => cases e⟩
theorem semG_cons {n : En} {t1 t2 : List Nat} {t : TG} {u : TGs} {g : GD} {gs : GDs} (s1 : SemG n t1 t g) (s2 : SemGs n t2 u gs) : SemGs n (t1 ++ t2) (gCons t u) (gdCons g gs) := by
  intro vs xs σ δ δ' F H Q S r e k
  cases r with
  | nil => cases e
  | cons h r =>
    rename_i v vs x xs
    obtain ⟨δ1, e1, e2⟩ := Option.bind_eq_some_iff.mp (show (g x δ).bind (fun δ1 => gs xs δ1) = some δ' from e)
    refine ⟨v, vs, rfl, s1 S h e1 fun σ1 S1 st1 w1 => ?_⟩
    exact s2 S1 r e2 fun σ2 S2 st2 w2 => k σ2 S2 (st1.trans st2) fun us hu => (w2 us fun i hi => hu i (List.mem_append_right _ hi)).trans (w1 us fun i hi => hu i (List.mem_append_left _ hi))
theorem dgs_cons {X : Cx} {n : En} {t1 t2 : List Nat} {e : Expr} {es : List Expr} {t : TG} {u : TGs} {g : GD} {gs : GDs} (h1 : DG X n t1 e t g) (h2 : DGs X n t2 es u gs) (hs : (assignEach (e :: es) X.env).map (·.2) = assign e X.env :: (assignEach es X.env).map (·.2) := by rfl) : DGs X n (t1 ++ t2) (e :: es) (gCons t u) (gdCons g gs) :=
  ⟨pgs_cons h1.p h2.p hs, semG_cons h1.s h2.s⟩
/-- a, b = a tuple -/
def gdTup (m : Nat) (gs : GDs) : GD := fun x δ => match x with
  | .tup xs => if xs.length = m then gs xs δ else none
  | _ => none
theorem dg_tup {X : Cx} {n : En} {ts : List Nat} {es : List Expr} {k m : Nat} {t : TGs} {gs : GDs} {pos : Pos} (o : Ok X n) (h : DGs X n ts es t gs) (hn : (assignEach es X.env).length = m := by rfl) (hst : (assignEach es X.env).findIdx? (·.1) = none := by rfl) : DG X n ts (.Tuple es k pos) (gTup n.K m t) (gdTup m gs) :=
  ⟨o.k ▸ pg_tup o.calm h.p hn hst, fun {v x σ δ δ' F H Q} S r e k => by
    cases r <;> first | (cases e; done) | skip
    rename_i a us xs h1 h2
    have e' : (if xs.length = m then gs xs δ else none) = some δ' := e
    split at e'
    · rename_i c
      exact ⟨a, us, rfl, S.sub.sqT h1.sq, by rw [h2.len]; exact c, h.s S h2 e' k⟩
    · cases e'⟩
/-! ### for -/
def dForL (gd : GD) (fb : DS0) : List D → DS0
  | [], δ => .ok (.nx, δ)
  | x :: xs, δ => match gd x δ with
    | none => .bad
    | some δ1 => (fb δ1).bind fun a => match a.1 with
      | .nx => dForL gd fb xs a.2
      | .ct => dForL gd fb xs a.2
      | .bk => .ok (.nx, a.2)
      | fl => .ok (fl, a.2)
def dFor (fi : DI0) (gd : GD) (fb : DS0) : DS0 := fun δ => (fi δ).bind fun a => dForL gd fb a.1 a.2
theorem semS_for {n : En} {W : WX} {ts : List Nat} {wi : TI} {fi : DI0} {g : TG} {gd : GD} {tb : TS} {fb : DS0} (si : SemI n W wi fi) (sg : SemG n ts g gd) (sb : SemS n W tb fb) : SemS n W (tFor wi g tb) (dFor fi gd fb) := by
  intro σ δ F H d S hP
  refine si.go PL.s S hP fun xs δ1 F1 H1 J S1 st1 hJ h1 => ?_
  refine ⟨fun i m σ' H' => ∃ δ' F', Sta n.K n.cn σ' δ' F' H' ∧ Sub F1 F' ∧ m = xs.length - i ∧ i ≤ xs.length ∧ PostS n W σ' δ' F' H' (dForL gd fb (xs.drop i) δ') d, ⟨xs.length, δ1, F1, S1, Sub.refl _, by omega, Nat.zero_le _, PostS.pre st1 h1⟩, ?_⟩
  rintro i m σ' H' ⟨δ', F', S', sub, hm, hi, hp⟩
  by_cases q : i < xs.length
  · right
    refine ⟨hJ.go S' sub q, fun σ2 H2 => ∃ δ2 F2, Sta n.K n.cn σ2 δ2 F2 H2 ∧ Sub F1 F2 ∧ PostS n W σ2 δ2 F2 H2 (dForL gd fb (xs.drop (i + 1)) δ2) d, fun σ2 H2 ⟨δ2, F2, a, b, c⟩ => ⟨xs.length - (i + 1), by omega, δ2, F2, a, b, rfl, q, c⟩, fun v H2 y => ?_⟩
    obtain ⟨x, F2, hx, S2, st2, r2⟩ := hJ.yld S' sub y q
    rw [List.drop_eq_getElem_cons q] at hp
    have ex : xs[i] = x := by rw [List.getElem?_eq_getElem q] at hx; exact Option.some.inj hx
    rw [ex] at hp
    unfold dForL at hp
    cases eg : gd x δ' with
    | none => rw [eg] at hp; exact hp.elim
    | some δ3 =>
      simp only [eg] at hp
      refine sg S2 r2 eg fun σ3 S3 st3 _ => ?_
      refine sb σ3 δ3 F2 H2 _ S3 ?_
      have hp3 := PostS.pre (st2.trans st3) hp
      have sub3 : Sub F1 F2 := sub.trans st2.sub
      cases e : fb δ3 with
      | bad => rw [e] at hp3; exact hp3
      | exc c fs δ4 => rw [e] at hp3; exact hp3
      | ok w =>
        obtain ⟨fl, δ4⟩ := w
        rw [e] at hp3
        cases fl with
        | nx => exact fun σ4 F4 H4 S4 st4 => ⟨δ4, F4, S4, sub3.trans st4.sub, PostS.pre st4 hp3⟩
        | ct => exact fun σ4 F4 H4 S4 st4 => ⟨δ4, F4, S4, sub3.trans st4.sub, PostS.pre st4 hp3⟩
        | bk => exact hp3
        | rt y => exact hp3
        | ro ys => exact hp3
  · left
    refine ⟨hJ.stop S' sub (by omega), ?_⟩
    rw [List.drop_eq_nil_of_le (by omega)] at hp
    exact hp σ' F' H' S' Stp.refl
theorem ds_for {X : Cx} {n : En} {W : WX} {ts : List Nat} {tg iter : Expr} {body : List Stmt} {wi : TI} {fi : DI0} {g : TG} {gd : GD} {tb : TS} {fb : DS0} {pos : Pos} (o : Ok X n) (hi : DI X n W tg iter wi fi) (hg : DG X n ts tg g gd) (hb : DSs X n W body tb fb)
    (hs : ∀ x, foldedSetIterable iter X.env x = pure x := by intro _; rfl) : DS X n W (.For tg iter body [] pos) (tFor wi g tb) (dFor fi gd fb) := ⟨ps_for o.ps o.calm hi.p hg.p hb.p hs, semS_for hi.s hg.s hb.s⟩
end DL

set_option Elab.async false
set_option linter.all false
set_option maxRecDepth 100000
set_option maxHeartbeats 2000000
set_option autoImplicit false
/-! DLi: list comprehensions. -/
namespace DL
open PySem PySem.Spec L2
/-! ### the slots of a block's own names -/
def dWipe (δ : List Sl) : List Nat → List Sl
  | [] => δ
  | v :: vs => (dWipe δ vs).set v .no
def wipeOk (δ : List Sl) (vs : List Nat) : Bool := vs.all fun i => match δ[i]? with
  | some s => !s.get?.isSome
  | none => true
def dBack (δ δ' : List Sl) : List Nat → List Sl
  | [] => δ'
  | v :: vs => match δ[v]? with
    | some s => (dBack δ δ' vs).set v s
    | none => dBack δ δ' vs
theorem dWipe_len (δ : List Sl) : ∀ vs : List Nat, (dWipe δ vs).length = δ.length
  | [] => rfl
  | v :: vs => by unfold dWipe; rw [List.length_set, dWipe_len δ vs]
theorem dBack_len (δ δ' : List Sl) : ∀ vs : List Nat, (dBack δ δ' vs).length = δ'.length
  | [] => rfl
  | v :: vs => by
    unfold dBack
    cases δ[v]? with
    | none => exact dBack_len δ δ' vs
    | some s => simp only [List.length_set]; exact dBack_len δ δ' vs
theorem dWipe_out {δ : List Sl} {i : Nat} : ∀ {vs : List Nat}, i ∉ vs → (dWipe δ vs)[i]? = δ[i]?
  | [], _ => rfl
  | v :: vs, h => by
    have h1 : v ≠ i := fun e => h (e ▸ List.mem_cons_self)
    unfold dWipe
    rw [List.getElem?_set_ne h1]
    exact dWipe_out fun e => h (List.mem_cons_of_mem _ e)
theorem dWipe_in {δ : List Sl} {i : Nat} {s : Sl} : ∀ {vs : List Nat}, i ∈ vs → (dWipe δ vs)[i]? = some s → s = .no
  | [], h, _ => by simp at h
  | v :: vs, h, e => by
    unfold dWipe at e
    by_cases q : v = i
    · subst q
      rw [List.getElem?_set] at e
      split at e
      · split at e
        · cases e; rfl
        · cases e
      · simp_all
    · rw [List.getElem?_set_ne q] at e
      refine dWipe_in ?_ e
      rcases List.mem_cons.mp h with h | h
      · exact absurd h.symm q
      · exact h
theorem dBack_out {δ δ' : List Sl} {i : Nat} : ∀ {vs : List Nat}, i ∉ vs → (dBack δ δ' vs)[i]? = δ'[i]?
  | [], _ => rfl
  | v :: vs, h => by
    have h1 : v ≠ i := fun e => h (e ▸ List.mem_cons_self)
    have h2 : i ∉ vs := fun e => h (List.mem_cons_of_mem _ e)
    unfold dBack
    cases δ[v]? with
    | none => exact dBack_out h2
    | some s => simp only [List.getElem?_set_ne h1]; exact dBack_out h2
theorem dBack_in {δ δ' : List Sl} {i : Nat} (hl : δ.length = δ'.length) : ∀ {vs : List Nat}, i ∈ vs → (dBack δ δ' vs)[i]? = δ[i]?
  | [], h => by simp at h
  | v :: vs, h => by
    unfold dBack
    by_cases q : v = i
    · subst q
      cases e : δ[v]? with
      | none =>
        simp only
        rw [List.getElem?_eq_none_iff] at e
        rw [List.getElem?_eq_none_iff, dBack_len]
        omega
      | some s =>
        simp only
        rw [List.getElem?_set_self]
        rw [dBack_len, ← hl]
        exact (List.getElem?_eq_some_iff.mp e).1
    · have h2 : i ∈ vs := by
        rcases List.mem_cons.mp h with h | h
        · exact absurd h.symm q
        · exact h
      cases δ[v]? with
      | none => exact dBack_in hl h2
      | some s => simp only [List.getElem?_set_ne q]; exact dBack_in hl h2
section
variable {K : PySem.W.Frag} {cn : Nm} {σ : L2.St} {δ : List Sl} {F H : Hp}
theorem wipeOk_at {vs : List Nat} {i : Nat} {s : Sl} (h : wipeOk δ vs = true) (hi : i ∈ vs) (e : δ[i]? = some s) : s.get? = none := by
  unfold wipeOk at h
  have h1 := List.all_eq_true.mp h i hi
  rw [e] at h1
  cases q : s.get? with
  | none => rfl
  | some xs => simp [q] at h1
theorem ownAt_wipe {vs : List Nat} {j : Nat} {p : Addr} : OwnAt (wipe σ vs) (dWipe δ vs) j p → j ∉ vs ∧ OwnAt σ δ j p := fun ⟨⟨xs, h⟩, e⟩ => by
  by_cases q : j ∈ vs
  · exfalso
    rcases h with h | h <;> cases dWipe_in q h
  · rw [dWipe_out q] at h
    rw [wipe_out q] at e
    exact ⟨q, ⟨xs, h⟩, e⟩
theorem ownAt_unwipe {vs : List Nat} {j : Nat} {p : Addr} (ok : wipeOk δ vs = true) (o : OwnAt σ δ j p) : j ∉ vs ∧ OwnAt (wipe σ vs) (dWipe δ vs) j p := by
  obtain ⟨⟨s, xs, h, g⟩, e⟩ := ownAt_iff.mp o
  have q : j ∉ vs := fun q => by rw [wipeOk_at ok q h] at g; cases g
  refine ⟨q, ownAt_iff.mpr ⟨⟨s, xs, by rw [dWipe_out q]; exact h, g⟩, by rw [wipe_out q]; exact e⟩⟩
theorem Sta.wipe (S : Sta K cn σ δ F H) (vs : List Nat) : Sta K cn (L2.wipe σ vs) (dWipe δ vs) F H where
  len := by rw [wipe_length, dWipe_len]; exact S.len
  sub := S.sub
  dat := fun i x h => by
    by_cases q : i ∈ vs
    · cases dWipe_in q h
    · rw [dWipe_out q] at h
      rw [wipe_out q]
      exact S.dat i x h
  own := fun i xs h => by
    by_cases q : i ∈ vs
    · rcases h with h | h <;> cases dWipe_in q h
    · rw [dWipe_out q] at h
      rw [wipe_out q]
      exact S.own i xs h
  apart := fun i j p a b => S.apart i j p (ownAt_wipe a).2 (ownAt_wipe b).2
theorem Sta.back (S : Sta K cn σ δ F H) {vs : List Nat} (ok : wipeOk δ vs = true) {σ2 : L2.St} {δ2 : List Sl} {F2 H2 : Hp} (S2 : Sta K cn σ2 δ2 F2 H2) (hw : L2.wipe σ2 vs = L2.wipe σ vs) (st : Stp (L2.wipe σ vs) (dWipe δ vs) F H σ2 δ2 F2 H2) :
    Sta K cn σ (dBack δ δ2 vs) F2 H2 ∧ Stp σ δ F H σ (dBack δ δ2 vs) F2 H2 := by
  have hl : σ2.length = σ.length := by rw [← wipe_length σ2 vs, hw, wipe_length]
  have hd : δ.length = δ2.length := by rw [← S.len, ← S2.len, hl]
  have out : ∀ {i : Nat}, i ∉ vs → σ2[i]? = σ[i]? := fun {i} q => by rw [← wipe_out (σ := σ2) q, hw, wipe_out q]
  have own2 : ∀ {j p}, OwnAt σ (dBack δ δ2 vs) j p → OwnAt σ2 δ2 j p := fun {j p} o => by
    obtain ⟨⟨s, xs, h, g⟩, e⟩ := ownAt_iff.mp o
    by_cases q : j ∈ vs
    · rw [dBack_in hd q] at h
      rw [wipeOk_at ok q h] at g
      cases g
    · rw [dBack_out q] at h
      exact ownAt_iff.mpr ⟨⟨s, xs, h, g⟩, by rw [out q]; exact e⟩
  have nown : ∀ {a : Addr}, ¬ OwnA σ δ a → ¬ OwnA (L2.wipe σ vs) (dWipe δ vs) a := fun n ⟨j, o⟩ => n ⟨j, (ownAt_wipe o).2⟩
  refine ⟨⟨?_, S2.sub, fun i x h => ?_, fun i xs h => ?_, fun i j p a b => S2.apart i j p (own2 a) (own2 b)⟩, ⟨st.sub, fun a o h n => st.keep a o h (nown n), st.there, fun a h1 h2 n => st.fresh a h1 h2 (nown n), fun p ⟨j, o⟩ => ?_, fun i xs h => ?_⟩⟩
  · rw [dBack_len, ← hd]; exact S.len
  · by_cases q : i ∈ vs
    · rw [dBack_in hd q] at h
      obtain ⟨v, e, r⟩ := S.dat i x h
      exact ⟨v, e, r.mono st.sub⟩
    · rw [dBack_out q] at h
      rw [← out q]
      exact S2.dat i x h
  · by_cases q : i ∈ vs
    · rw [dBack_in hd q] at h
      exfalso
      rcases h with h | h <;> cases wipeOk_at ok q h
    · rw [dBack_out q] at h
      rw [← out q]
      exact S2.own i xs h
  · rcases st.own p ⟨j, own2 o⟩ with ⟨k, o'⟩ | h
    · exact .inl ⟨k, (ownAt_wipe o').2⟩
    · exact .inr h
  · have q : i ∉ vs := fun q => by cases wipeOk_at ok q h
    obtain ⟨⟨xs', h'⟩, e⟩ := st.lent i xs (by rw [dWipe_out q]; exact h)
    exact ⟨⟨xs', by rw [dBack_out q]; exact h'⟩, rfl⟩
end
/-! ### the comprehension -/
def W0 : WX := fun _ _ _ _ => False
def dLcL (gd : GD) (ft : DT0) (fe : DE0) (vs : List Nat) : List D → List Sl → Rx (List D × List Sl)
  | [], δ => .ok ([], δ)
  | x :: xs, δ => if wipeOk δ vs then match gd x (dWipe δ vs) with
    | none => .bad
    | some δ1 => match ft δ1 with
      | .ok (true, δ2) => (match fe δ2 with
        | .ok (y, δ3) => (match dLcL gd ft fe vs xs (dBack δ δ3 vs) with
          | .ok (ys, δ4) => .ok (y :: ys, δ4)
          | _ => .bad)
        | _ => .bad)
      | .ok (false, δ2) => dLcL gd ft fe vs xs (dBack δ δ2 vs)
      | _ => .bad
    else .bad
def dLc (fi : DI0) (gd : GD) (ft : DT0) (fe : DE0) (vs : List Nat) : DO0 := fun δ => (fi δ).bind fun a => if a.1.length ≤ 1000000 then dLcL gd ft fe vs a.1 a.2 else .bad
def dYes : DT0 := fun δ => .ok (true, δ)
theorem semT_yes {n : En} {W : WX} : SemT n W tYes dYes := fun σ δ F H Q S h => h F H S Stp.refl
/-- a clause's tests -/
structure DTs (X : Cx) (n : En) (W : WX) (ifs : List Expr) (t : TT) (f : DT0) : Prop where
  p : PTs X ifs t
  s : SemT n W t f
theorem dts_nil {X : Cx} {n : En} {W : WX} : DTs X n W [] tYes dYes := ⟨pts_nil, semT_yes⟩
theorem dts_one {X : Cx} {n : En} {W : WX} {c : Expr} {t : TT} {f : DT0} (h : DT X n W c t f) : DTs X n W [c] t f := ⟨pts_one h.p, h.s⟩
theorem semO_lc {n : En} {W : WX} {ts vs : List Nat} {wi : TI} {fi : DI0} {g : TG} {gd : GD} {tt : TT} {ft : DT0} {te : TE} {fe : DE0} (si : SemI n W wi fi) (sg : SemG n ts g gd) (st : SemT n W0 tt ft) (se : SemE n W0 te fe) (hv : ∀ i ∈ ts, i ∈ vs) :
    SemO n W (tLc wi g tt te vs) (dLc fi gd ft fe vs) := by
  intro σ δ F H Q S hP
  refine si.go PL.o S hP fun xs δ1 F1 H1 J S1 st1 hJ h1 => ?_
  have h1 : PostO n W σ δ F H (if xs.length ≤ 1000000 then dLcL gd ft fe vs xs δ1 else .bad) Q := h1
  split at h1
  · rename_i hlen
    intro A hA
    have hH : H A = none := st1.wasNone hA
    -- the list so far: acc (data zs)
    refine ⟨fun i m H' => ∃ δ' F' acc zs, Sta n.K n.cn σ δ' F' H' ∧ Stp σ δ F H σ δ' F' H' ∧ Sub F1 F' ∧ m = xs.length - i ∧ i ≤ xs.length ∧ H' A = some (.lst acc) ∧ F' A = none ∧ RpAll n.K n.cn F' acc zs ∧ acc.length ≤ i ∧ ¬ OwnA σ δ' A ∧
      PostO n W σ δ F H (match dLcL gd ft fe vs (xs.drop i) δ' with
        | .ok (ys, δ4) => .ok (zs ++ ys, δ4)
        | _ => .bad) Q, ?_, ?_⟩
    · refine ⟨xs.length, δ1, F1, [], [], S1.newH _ hA, st1.trans (Stp.newH S1 _ hA), Sub.refl _, by omega, Nat.zero_le _, upd_same, S1.sub.noneL hA, .nil, Nat.zero_le _, noOwn S1 hA, ?_⟩
      show PostO n W σ δ F H (match dLcL gd ft fe vs xs δ1 with
        | .ok (ys, δ4) => .ok ([] ++ ys, δ4)
        | _ => .bad) Q
      cases e : dLcL gd ft fe vs xs δ1 with
      | ok w => obtain ⟨ys, δ4⟩ := w; rw [e] at h1; exact h1
      | bad => rw [e] at h1; exact h1
      | exc c fs δ4 =>
        exfalso
        have no : ∀ (zs : List D) (δ : List Sl) c fs δ4, dLcL gd ft fe vs zs δ ≠ .exc c fs δ4 := by
          intro zs
          induction zs with
          | nil => intro δ c fs δ4 q; cases q
          | cons z zs ih =>
            intro δ c fs δ4 q
            unfold dLcL at q
            split at q
            · split at q
              · cases q
              · split at q
                · split at q
                  · split at q <;> cases q
                  · cases q
                · exact ih _ _ _ _ q
                · cases q
            · cases q
        exact no _ _ _ _ _ e
    · rintro i m H' ⟨δ', F', acc, zs, S', stp, sub, hm, hi, hAc, hFA, rA, hal, nA, hp⟩
      by_cases q : i < xs.length
      · right
        refine ⟨hJ.go S' sub q, fun H2 => ∃ δ2 F2 acc2 zs2, Sta n.K n.cn σ δ2 F2 H2 ∧ Stp σ δ F H σ δ2 F2 H2 ∧ Sub F1 F2 ∧ H2 A = some (.lst acc2) ∧ F2 A = none ∧ RpAll n.K n.cn F2 acc2 zs2 ∧ acc2.length ≤ i + 1 ∧ ¬ OwnA σ δ2 A ∧
          PostO n W σ δ F H (match dLcL gd ft fe vs (xs.drop (i + 1)) δ2 with
            | .ok (ys, δ4) => .ok (zs2 ++ ys, δ4)
            | _ => .bad) Q, ?_, fun v H2 y => ?_⟩
        · rintro H2 ⟨δ2, F2, acc2, zs2, a1, a2, a3, a4, a5, a6, a7, a8, a9⟩
          exact ⟨xs.length - (i + 1), by omega, δ2, F2, acc2, zs2, a1, a2, a3, rfl, q, a4, a5, a6, a7, a8, a9⟩
        · obtain ⟨x, F2, hx, S2, st2, r2⟩ := hJ.yld S' sub y q
          rw [List.drop_eq_getElem_cons q] at hp
          have ex : xs[i] = x := by rw [List.getElem?_eq_getElem q] at hx; exact Option.some.inj hx
          rw [ex] at hp
          unfold dLcL at hp
          cases hok : wipeOk δ' vs with
          | false => simp only [hok, Bool.false_eq_true, if_false] at hp; exact hp.elim
          | true =>
            simp only [hok, if_true] at hp
            cases eg : gd x (dWipe δ' vs) with
            | none => simp only [eg] at hp; exact hp.elim
            | some δ3 =>
              simp only [eg] at hp
              have hA2 : H2 A = some (.lst acc) := st2.keep A _ hAc nA
              have hFA2 : F2 A = none := st2.fresh A hFA (by rw [hAc]; simp) nA
              refine sg (S2.wipe vs) r2 eg fun σ3 S3 st3 hw => ?_
              have hw3 := hw vs hv
              have hww : L2.wipe σ3 vs = L2.wipe σ vs := by
                rw [hw3]
                -- wipe is idempotent
                have idem : ∀ us : List Nat, (∀ i ∈ us, i ∈ vs) → L2.wipe (L2.wipe σ vs) us = L2.wipe σ vs := by
                  intro us
                  induction us with
                  | nil => intro _; rfl
                  | cons u us ih =>
                    intro hu
                    show (L2.wipe (L2.wipe σ vs) us).set u none = _
                    rw [ih fun i hi => hu i (List.mem_cons_of_mem _ hi)]
                    apply List.ext_getElem?
                    intro k
                    by_cases ek : u = k
                    · subst ek
                      by_cases lt : u < (L2.wipe σ vs).length
                      · rw [List.getElem?_set_self lt]
                        have hm := hu u List.mem_cons_self
                        cases e : (L2.wipe σ vs)[u]? with
                        | none => rw [List.getElem?_eq_none_iff] at e; omega
                        | some o =>
                          cases o with
                          | none => rfl
                          | some w => exact absurd hm (wipe_some e).2
                      · rw [List.getElem?_eq_none (by rw [List.length_set]; omega), List.getElem?_eq_none (by omega)]
                    · rw [List.getElem?_set_ne ek]
                exact idem vs fun _ h => h
              refine ⟨hww, ?_⟩
              refine st σ3 δ3 F2 H2 _ S3 ?_
              have nAw : ¬ OwnA (L2.wipe σ vs) (dWipe δ' vs) A := fun ⟨j, o⟩ => nA ⟨j, (ownAt_wipe o).2⟩
              cases et : ft δ3 with
              | bad => simp only [et] at hp; exact hp.elim
              | exc c fs δ4 => simp only [et] at hp; exact hp.elim
              | ok w =>
                obtain ⟨b, δ4⟩ := w
                intro F4 H4 S4 st4
                have st04 := st3.trans st4
                have hA4 : H4 A = some (.lst acc) := st04.keep A _ hA2 nAw
                have hFA4 : F4 A = none := st04.fresh A hFA2 (by rw [hA2]; simp) nAw
                cases b with
                | false =>
                  simp only [et] at hp
                  rw [if_neg Bool.false_ne_true]
                  obtain ⟨S5, st5⟩ := S2.back hok S4 hww st04
                  have stt := (stp.trans st2).trans st5
                  exact ⟨_, F4, acc, zs, S5, stt, (sub.trans st2.sub).trans st5.sub, hA4, hFA4, (rA.mono st2.sub).mono st5.sub, by omega, fun w => (st5.own A w).elim nA (fun h => by rw [hA2] at h; cases h), hp⟩
                | true =>
                  simp only [et] at hp
                  rw [if_pos rfl]
                  refine se σ3 δ4 F4 H4 _ S4 ?_
                  cases ee : fe δ4 with
                  | bad => simp only [ee] at hp; exact hp.elim
                  | exc c fs δ5 => simp only [ee] at hp; exact hp.elim
                  | ok w =>
                    obtain ⟨y, δ5⟩ := w
                    simp only [ee] at hp
                    intro F6 H6 u S6 st6 r6
                    have st06 := st04.trans st6
                    have hA6 : H6 A = some (.lst acc) := st06.keep A _ hA2 nAw
                    have hFA6 : F6 A = none := st06.fresh A hFA2 (by rw [hA2]; simp) nAw
                    obtain ⟨S7, st7⟩ := S2.back hok S6 hww st06
                    have nA7 : ¬ OwnA σ (dBack δ' δ5 vs) A := fun w => (st7.own A w).elim nA (fun h => by rw [hA2] at h; cases h)
                    have stt := (stp.trans st2).trans st7
                    refine ⟨acc, hA6, by rw [sizeLine_eq]; omega, ?_⟩
                    have S8 : Sta n.K n.cn σ (dBack δ' δ5 vs) F6 (upd H6 A (.lst (acc ++ [u]))) := ⟨S7.len, fun a o h => by
                        have ne : a ≠ A := fun e => by subst e; rw [hFA6] at h; cases h
                        rw [upd_ne ne]; exact S7.sub a o h, S7.dat, fun j ys h => by
                        obtain ⟨p, us, e1, h1, h2, h3, h4⟩ := S7.own j ys h
                        have ne : p ≠ A := fun e => nA7 (e ▸ ⟨j, ⟨ys, h⟩, e1⟩)
                        exact ⟨p, us, e1, by rw [upd_ne ne]; exact h1, h2, h3, h4⟩, S7.apart⟩
                    have st8 : Stp σ δ F H σ (dBack δ' δ5 vs) F6 (upd H6 A (.lst (acc ++ [u]))) := ⟨stt.sub, fun a o h nn => by
                        have ne : a ≠ A := fun e => by subst e; rw [hH] at h; cases h
                        rw [upd_ne ne]; exact stt.keep a o h nn, fun a h => by
                        by_cases e : a = A
                        · subst e; rw [upd_same]; simp
                        · rw [upd_ne e]; exact stt.there a h, stt.fresh, stt.own, stt.lent⟩
                    refine ⟨_, F6, acc ++ [u], zs ++ [y], S8, st8, (sub.trans st2.sub).trans st7.sub, upd_same, hFA6, ((rA.mono st2.sub).mono st7.sub).append (.cons r6 .nil), by rw [List.length_append]; show acc.length + 1 ≤ i + 1; omega, nA7, ?_⟩
                    cases er : dLcL gd ft fe vs (xs.drop (i + 1)) (dBack δ' δ5 vs) with
                    | bad => simp only [er] at hp; exact hp.elim
                    | exc c fs δ9 => simp only [er] at hp; exact hp.elim
                    | ok w =>
                      obtain ⟨ys, δ9⟩ := w
                      simp only [er] at hp ⊢
                      have ea : zs ++ [y] ++ ys = zs ++ y :: ys := by simp
                      rw [ea]
                      exact hp
      · left
        refine ⟨hJ.stop S' sub (by omega), ?_⟩
        rw [List.drop_eq_nil_of_le (by omega)] at hp
        have hp' : PostO n W σ δ F H (.ok (zs ++ [], δ')) Q := hp
        rw [List.append_nil] at hp'
        exact hp' F' H' A acc S' stp hAc hFA hH rA (by rw [sizeLine_eq]; omega) nA
  · exact h1.elim
section
variable {X : Cx} {n : En} {W : WX}
theorem Ok.blk (o : Ok X n) (s : Shared) (H : Hp) (scope : Scope) (cenv : Env) (fp : List Addr) : Ok (X.blk s H scope cenv fp) n := ⟨o.k, o.u, o.calm, o.nd, PassesOwn.never, o.g⟩
theorem do_lc {elt tg iter : Expr} {ifs : List Expr} {scope : Scope} {pos : Pos} {ts : List Nat} {wi : TI} {fi : DI0} {g : TG} {gd : GD} {tt : TT} {ft : DT0} {te : TE} {fe : DE0} (o : Ok X n) (own : List (Str × Nat)) (hi : DI X n W tg iter wi fi) (ok : BlkOk X.N X.env.scope scope own)
    (hg : ∀ (s : Shared) (H : Hp) (C : Addr) (cl : List (Str × Addr)) (fp : List Addr), DG (X.blk s H scope (compEnvC scope cl C X.env) fp) n ts tg g gd)
    (ht : ∀ (s : Shared) (H : Hp) (C : Addr) (cl : List (Str × Addr)) (fp : List Addr), DTs (X.blk s H scope (compEnvC scope cl C X.env) fp) n W0 ifs tt ft)
    (he : ∀ (s : Shared) (H : Hp) (C : Addr) (cl : List (Str × Addr)) (fp : List Addr), DE (X.blk s H scope (compEnvC scope cl C X.env) fp) n W0 elt te fe)
    (hv : ∀ i ∈ ts, i ∈ own.map (·.2) := by decide) (hs : ∀ x, foldedSetIterable iter X.env x = pure x := by intro _; rfl) :
    DO X n W (.ListComp elt [⟨tg, iter, ifs, 0⟩] scope pos) (tLc wi g tt te (own.map (·.2))) (dLc fi gd ft fe (own.map (·.2))) :=
  ⟨pe_lc o.calm o.nd hi.p ok (fun s H C cl fp => (hg s H C cl fp).p) (fun s H C cl fp => (ht s H C cl fp).p) (fun s H C cl fp => (he s H C cl fp).p) hs,
   semO_lc hi.s (hg X.s_0 (fun _ => none) 0 [] []).s (ht X.s_0 (fun _ => none) 0 [] []).s (he X.s_0 (fun _ => none) 0 [] []).s hv⟩
end
end DL

set_option Elab.async false
set_option linter.all false
set_option maxRecDepth 100000
set_option maxHeartbeats 2000000
set_option autoImplicit false
/-! DLj: slices, further built-ins, pairs stored at once, calls with keywords. -/
namespace DL
open PySem PySem.Spec L2
section
variable {X : Cx} {n : En} {W : WX} {a b c e o : Expr} {es : List Expr} {t ta tb te : TE} {fa fb fe : DE0} {pos : Pos} {tr : TA} {fr : DA0}
/-! ### -x, x[::-1] -/
def dNeg (fa : DE0) : DE0 := fun δ => (fa δ).bind fun a => match a.1 with
  | .int i => .ok (.int (-i), a.2)
  | _ => .bad
theorem de_neg (ha : DE X n W a ta fa) : DE X n W (.UnaryOp .USub a pos) (tUn (rU fun i => .int (-i)) ta) (dNeg fa) := ⟨pe_un un_neg ha.p, fun σ δ F H Q S hP => ha.s.go PL.e S hP fun x δ1 F1 H1 v S1 st1 r1 h1 => by
  cases r1 <;> first | (exact h1.elim; done) | skip
  exact ⟨_, rfl, h1 F1 H1 _ S1 Stp.refl (.int _)⟩⟩
def dRev (fa : DE0) : DE0 := fun δ => (fa δ).bind fun a => match a.1 with
  | .tup xs => .ok (.tup xs.reverse, a.2)
  | .lst xs => .ok (.lst xs.reverse, a.2)
  | _ => .bad
theorem de_rev {k : Nat} {p1 p2 p3 : Pos} (hk : X.K = n.K) (ha : DE X n W a ta fa) : DE X n W (.Subscript a (.Slice none none (some (.UnaryOp .USub (.Constant (.int 1) k p1) p2)) p3) pos) (tRevA n.K ta) (dRev fa) :=
  ⟨hk ▸ pe_revA ha.p, fun σ δ F H Q S hP => ha.s.go PL.e S hP fun x δ1 F1 H1 v S1 st1 r1 h1 => by
    cases r1 <;> first | (exact h1.elim; done) | skip
    · rename_i p us ds h2 h3
      refine ⟨p, us, rfl, .inr ⟨S1.sub.sqT h2.sq, fun q ob hq ho => ?_⟩⟩
      exact h1 _ _ _ (S1.new _ hq) (Stp.new S1 _ hq) (.tup (.inl ⟨ob, upd_same, ho⟩) ((h3.mono (upd_none (S1.sub.noneL hq))).reverse))
    · rename_i p us ds h2 h3
      refine ⟨p, us, rfl, .inl ⟨SqL.of (S1.sub _ _ h2), fun q hq => ?_⟩⟩
      exact h1 _ _ _ (S1.new _ hq) (Stp.new S1 _ hq) (.lst upd_same ((h3.mono (upd_none (S1.sub.noneL hq))).reverse))⟩
/-! ### x[a:b] -/
abbrev DP0 := List Sl → Rx (Option Int × List Sl)
def PostPt (n : En) (W : WX) (σ : L2.St) (δ : List Sl) (F H : Hp) (r : Rx (Option Int × List Sl)) (Q : Option Int → Hp → Prop) : Prop := match r with
  | .ok (x, δ') => ∀ F' H', Sta n.K n.cn σ δ' F' H' → Stp σ δ F H σ δ' F' H' → Q x H'
  | .exc c fs δ' => PX n W σ δ F H c fs δ'
  | .bad => False
structure DPt (X : Cx) (n : En) (W : WX) (e : Option Expr) (t : TO) (f : DP0) : Prop where
  p : PO X e t
  s : ∀ σ δ F H Q, Sta n.K n.cn σ δ F H → PostPt n W σ δ F H (f δ) Q → t σ H Q
theorem PL.pt {σ : L2.St} {Q : Option Int → Hp → Prop} : PL n W σ (fun δ F H r => PostPt n W σ δ F H r Q) where
  exc := fun h => h
  bad := fun h => h
  pre := fun {δ δ1 F H F1 H1 r} st h => by
    cases r with
    | ok a => exact fun F' H' a1 b => h F' H' a1 (st.trans b)
    | exc c fs δ' => exact PX.pre st h
    | bad => exact h
def dpNone : DP0 := fun δ => .ok (none, δ)
def dpSome (fe : DE0) : DP0 := fun δ => (fe δ).bind fun a => match a.1 with
  | .int i => .ok (some i, a.2)
  | _ => .bad
theorem dp_none : DPt X n W none tNoPart dpNone := ⟨po_none, fun σ δ F H Q S h => h F H S Stp.refl⟩
theorem dp_some (h : DE X n W e te fe) : DPt X n W (some e) (tPart te) (dpSome fe) := ⟨po_some h.p, fun σ δ F H Q S hP => h.s.go PL.pt S hP fun x δ1 F1 H1 v S1 st1 r1 h1 => by
  cases r1 <;> first | (exact h1.elim; done) | skip
  exact ⟨_, rfl, h1 F1 H1 S1 Stp.refl⟩⟩
theorem DPt.go {β : Type} {P : List Sl → Hp → Hp → Rx β → Prop} {σ : L2.St} {oe : Option Expr} (pl : PL n W σ P) {t : TO} {f : DP0} {g : Option Int × List Sl → Rx β} {δ : List Sl} {F H : Hp} {Q : Option Int → Hp → Prop} (sa : DPt X n W oe t f) (hS : Sta n.K n.cn σ δ F H) (h : P δ F H ((f δ).bind g))
    (k : ∀ x δ1 F1 H1, Sta n.K n.cn σ δ1 F1 H1 → Stp σ δ F H σ δ1 F1 H1 → P δ1 F1 H1 (g (x, δ1)) → Q x H1) : t σ H Q := by
  refine sa.s σ δ F H Q hS ?_
  cases e : f δ with
  | ok a =>
    obtain ⟨x, δ1⟩ := a
    rw [e] at h
    exact fun F1 H1 a b => k x δ1 F1 H1 a b (pl.pre b h)
  | exc c fs δ' =>
    rw [e] at h
    exact pl.exc h
  | bad =>
    rw [e] at h
    exact pl.bad h
/-- the items of xs[lo:hi] -/
def cutD (xs : List D) (lo hi : Option Int) : List D := (xs.drop (HT.sIx xs.length 0 lo)).take (HT.sIx xs.length xs.length hi - HT.sIx xs.length 0 lo)
theorem RpAll.cut {F : Hp} {vs : List V} {ds : List D} (r : RpAll n.K n.cn F vs ds) (lo hi : Option Int) : RpAll n.K n.cn F (cutV vs lo hi) (cutD ds lo hi) := by
  unfold cutV cutD
  rw [r.len]
  exact (r.drop _).take _
def pCut (x : D) (lo hi : Option Int) : Option D := match x with
  | .tup xs => some (.tup (cutD xs lo hi))
  | .lst xs => some (.lst (cutD xs lo hi))
  | _ => none
def dCut (fa : DE0) (fl fh : DP0) : DE0 := fun δ => (fa δ).bind fun a => (fl a.2).bind fun l => (fh l.2).bind fun h => match pCut a.1 l.1 h.1 with
  | some z => .ok (z, h.2)
  | none => .bad
def rCutA (K : PySem.W.Frag) : V → Option Int → Option Int → Hp → VK → Prop := fun x lo hi H Q => rSlL K x lo hi H Q ∨ rSlX K x lo hi H Q
theorem de_cut {lo hi : Option Expr} {tl th : TO} {fl fh : DP0} {p2 : Pos} (hk : X.K = n.K) (ha : DE X n W a ta fa) (hl : DPt X n W lo tl fl) (hh : DPt X n W hi th fh) : DE X n W (.Subscript a (.Slice lo hi none p2) pos) (tSl (rCutA n.K) ta tl th) (dCut fa fl fh) :=
  ⟨pe_slice (hk ▸ SlR.or sl_list sl_tupX) ha.p hl.p hh.p, fun σ δ F H Q S hP => ha.s.go PL.e S hP fun x δ1 F1 H1 v S1 st1 r1 h1 => hl.go PL.e S1 h1 fun l δ2 F2 H2 S2 st2 h2 => hh.go PL.e S2 h2 fun u δ3 F3 H3 S3 st3 h3 => by
    have r3 := (r1.mono st2.sub).mono st3.sub
    cases r3 <;> first | (exact h3.elim; done) | skip
    · rename_i p us ds g1 g2
      refine .inr ⟨p, us, rfl, S3.sub.sqT g1.sq, fun q => ?_, fun _ q ob hq ho => ?_⟩
      · have e1 : cutD ds l u = ds := by
          unfold cutD
          rw [← g2.len, q.1, q.2]
          simp [g2.len]
        exact h3 F3 H3 _ S3 Stp.refl (.tup g1 (e1.symm ▸ g2))
      · exact h3 _ _ _ (S3.new _ hq) (Stp.new S3 _ hq) (.tup (.inl ⟨ob, upd_same, ho⟩) ((g2.mono (upd_none (S3.sub.noneL hq))).cut l u))
    · rename_i p us ds g1 g2
      refine .inl ⟨p, us, rfl, SqL.of (S3.sub _ _ g1), fun q hq => ?_⟩
      exact h3 _ _ _ (S3.new _ hq) (Stp.new S3 _ hq) (.lst upd_same ((g2.mono (upd_none (S3.sub.noneL hq))).cut l u))⟩
/-! ### x.index(i) of ints -/
def dints : List D → Option (List Int)
  | [] => some []
  | .int i :: r => (dints r).map (i :: ·)
  | _ => none
theorem RpAll.dints {F : Hp} : ∀ {vs : List V} {xs : List D} {ns : List Int}, RpAll n.K n.cn F vs xs → DL.dints xs = some ns → vs = ns.map V.int
  | _, _, ns, .nil, e => by
    cases (show some ([] : List Int) = some ns from e)
    rfl
  | _, _, ns, .cons h r, e => by
    cases h <;> first | (cases e; done) | skip
    rename_i b
    obtain ⟨cs, e1, rfl⟩ := Option.map_eq_some_iff.mp (show (DL.dints _).map (b :: ·) = some ns from e)
    rw [RpAll.dints r e1]
    rfl
def pTIx : D → D → Option D
  | .tup xs, .int k => (dints xs).bind fun ns => if k ∈ ns then some (.int (ns.idxOf k : Nat)) else none
  | _, _ => none
def pLIx : D → D → Option D
  | .lst xs, .int k => (dints xs).bind fun ns => if k ∈ ns then some (.int (ns.idxOf k : Nat)) else none
  | _, _ => none
/-- o.m(e): the receiver's kind is looked at first -/
def dMt (ok : D → Bool) (op : D → D → Option D) (fa fb : DE0) : DE0 := fun δ => (fa δ).bind fun a => match ok a.1 with
  | true => (fb a.2).bind fun b => (match op a.1 b.1 with
    | some z => .ok (z, b.2)
    | none => .bad)
  | false => .bad
def isTup : D → Bool
  | .tup _ => true
  | _ => false
def isLst : D → Bool
  | .lst _ => true
  | _ => false
def MtOk (n : En) (r : V → List V → Hp → VK → Prop) (op : D → D → Option D) : Prop := ∀ {σ : L2.St} {δ : List Sl} {F H : Hp} {vx vy : V} {x y z : D} (Q : VK), Sta n.K n.cn σ δ F H → Rp n.K n.cn F vx x → Rp n.K n.cn F vy y → op x y = some z →
  (∀ F' H' v, Sta n.K n.cn σ δ F' H' → Stp σ δ F H σ δ F' H' → Rp n.K n.cn F' v z → Q v H') → r vx [vy] H Q
theorem semE_mt {T : String} {ok : D → Bool} {r : V → List V → Hp → VK → Prop} {op : D → D → Option D} (hty : ∀ {F H : Hp} {v : V} {x : D}, Sub F H → Rp n.K n.cn F v x → ok x = true → tyX n.K T v H) (h : MtOk n r op) (sa : SemE n W ta fa) (sb : SemE n W tb fb) :
    SemE n W (tBMX n.K T r ta (tCons tb tNil)) (dMt ok op fa fb) := by
  intro σ δ F H Q S hP
  unfold dMt at hP
  refine sa.go PL.e S hP fun x δ1 F1 H1 v S1 st1 r1 h1 => ?_
  simp only at h1
  cases e0 : ok x with
  | false => simp only [e0] at h1; exact h1.elim
  | true =>
    simp only [e0] at h1
    refine ⟨hty S1.sub r1 e0, ?_⟩
    refine sb.go PL.e S1 h1 fun y δ2 F2 H2 u S2 st2 r2 h2 => ?_
    cases e : op x y with
    | none => simp only [e] at h2; exact h2.elim
    | some z =>
      simp only [e] at h2
      exact h Q S2 (r1.mono st2.sub) r2 e fun F' H' w a b c => h2 F' H' w a b c
theorem ty_tup {F H : Hp} {v : V} {x : D} (sub : Sub F H) (r : Rp n.K n.cn F v x) (h : isTup x = true) : tyX n.K "tuple" v H := by
  cases r <;> first | (cases h; done) | skip
  rename_i h1 h2
  exact (h1.mono sub).ty
theorem ty_lst {F H : Hp} {v : V} {x : D} (sub : Sub F H) (r : Rp n.K n.cn F v x) (h : isLst x = true) : tyX n.K "list" v H := by
  cases r <;> first | (cases h; done) | skip
  rename_i h1 h2
  exact .inl (.inl ⟨rfl, _, SqL.of (sub _ _ h1)⟩)
theorem mtOk_tindex : MtOk n (rTIx n.K) pTIx := by
  intro σ δ F H vx vy x y z Q S rx ry e k
  cases rx <;> cases ry <;> first | (cases e; done) | skip
  rename_i p us ds h1 h2 i
  obtain ⟨ns, e1, e2⟩ := Option.bind_eq_some_iff.mp (show (dints ds).bind (fun ns => if i ∈ ns then some (D.int (ns.idxOf i : Nat)) else none) = some z from e)
  split at e2
  · rename_i hm
    cases e2
    have hv := h2.dints e1
    subst hv
    exact ⟨p, ns, i, rfl, rfl, S.sub.sqT h1.sq, hm, k F H _ S Stp.refl (.int _)⟩
  · cases e2
theorem mtOk_lindex : MtOk n (rLIx n.K) pLIx := by
  intro σ δ F H vx vy x y z Q S rx ry e k
  cases rx <;> cases ry <;> first | (cases e; done) | skip
  rename_i p us ds h1 h2 i
  obtain ⟨ns, e1, e2⟩ := Option.bind_eq_some_iff.mp (show (dints ds).bind (fun ns => if i ∈ ns then some (D.int (ns.idxOf i : Nat)) else none) = some z from e)
  split at e2
  · rename_i hm
    cases e2
    have hv := h2.dints e1
    subst hv
    exact ⟨p, ns, i, rfl, rfl, SqL.of (S.sub _ _ h1), hm, k F H _ S Stp.refl (.int _)⟩
  · cases e2
theorem de_mt {T id : String} {name : Str} {ok : D → Bool} {r : V → List V → Hp → VK → Prop} {op : D → D → Option D} {p1 cpos : Pos} (hty : ∀ {F H : Hp} {v : V} {x : D}, Sub F H → Rp n.K n.cn F v x → ok x = true → tyX n.K T v H) (h : MtOk n r op) (pa : PlainAttrs T) (slot : Slot T name id) (ht : typeOf (.builtin id) = pure (.type "method_descriptor")) (hm : MtR X id r) (hk : X.K = n.K) (ha : DE X n W a ta fa) (hb : DE X n W b tb fb)
    (hbase : attributeBase a name X.env (eval a X.env) = eval a X.env := by rfl)
    (hfew : ((backTo cpos (starEach [b] X.env)).all (fun x => !x.1) && (backToKw cpos (keywordEach [] X.env)).all (fun x => x.1.isSome)
      && decide ([b].length + ([] : List Keyword).length + (if ([] : List Keyword).isEmpty then 0 else 1) < 30)) = true := by rfl)
    (hline : (p1.endLine == cpos.line) = true := by rfl) (hs : starEach [b] X.env = (false, eval b X.env) :: starEach [] X.env := by rfl) (hplain : (backTo cpos (starEach [] X.env)).any (·.1) = false := by rfl) :
    DE X n W (.Call (.Attribute a name p1) [b] [] cpos) (tBMX n.K T r ta (tCons tb tNil)) (dMt ok op fa fb) :=
  ⟨hk ▸ pe_bmX pa slot ht hm ha.p (pa_cons hb.p pa_nil hs) hbase hfew hline hs hplain, semE_mt hty h ha.s hb.s⟩
theorem mt_tindex' (hk : X.K = n.K) : MtR X "tuple.index" (rTIx n.K) := hk ▸ mt_tindex
theorem mt_lindex' (hk : X.K = n.K) : MtR X "list.index" (rLIx n.K) := hk ▸ mt_lindex
/-! ### a, b = e1, e2 -/
def dPar (i j : Nat) (fr : DA0) : DS0 := fun δ => (fr δ).bind fun a => match a.1 with
  | [x, y] => (match slSet i (.d x) a.2 with
    | .ok (_, δ1) => slSet j (.d y) δ1
    | _ => .bad)
  | _ => .bad
theorem semS_par {i j : Nat} (s : SemA n W tr fr) : SemS n W (tPar i j tr) (dPar i j fr) := fun σ δ F H d S hP => s.go PL.s S hP fun xs δ1 F1 H1 vs S1 st1 r1 h1 => by
  match xs, r1, h1 with
  | [x, y], .cons rx (.cons ry .nil), h1 =>
    refine ⟨_, _, rfl, ?_⟩
    simp only at h1
    cases e : slSet i (.d x) δ1 with
    | bad => rw [e] at h1; exact h1.elim
    | exc c fs δ' => rw [e] at h1; exact h1.elim
    | ok w =>
      obtain ⟨fl, δ2⟩ := w
      rw [e] at h1
      obtain ⟨o1, ho1, hl1, h2⟩ := slSet_ok (P := fun r => r = .ok (fl, δ2)) (fun h => by cases h) e
      cases h2
      obtain ⟨S2, st2⟩ := S1.setD ho1 hl1 rx
      obtain ⟨o2, ho2, hl2, h3⟩ := slSet_ok (P := fun r => PostS n W σ δ1 F1 H1 r d) (fun h => h) h1
      obtain ⟨S3, st3⟩ := S2.setD ho2 hl2 ry
      exact h3 _ F1 H1 S3 (st2.trans st3)
theorem ds_par (i j : Nat) {x y : Str} {px py pt pt2 : Pos} {kt k2 : Nat} (o : Ok X n) (ha : DA X n W [a, b] tr fr) (hij : i ≠ j := by decide) (hi : X.N[i]? = some x := by rfl) (hj : X.N[j]? = some y := by rfl)
    (hx : X.env.scope.names.lookup x = some .local := by rfl) (hy : X.env.scope.names.lookup y = some .local := by rfl)
    (hw : swappedStores [.Tuple [.Name x px, .Name y py] kt pt] (.Tuple [a, b] k2 pt2) X.env = pure (some [x, y]) := by rfl)
    (hs : swapsWithSole [.Tuple [.Name x px, .Name y py] kt pt] (.Tuple [a, b] k2 pt2) pos.line X.env = pure false := by rfl) :
    DS X n W (.Assign [.Tuple [.Name x px, .Name y py] kt pt] (.Tuple [a, b] k2 pt2) pos) (tPar i j tr) (dPar i j fr) := ⟨ps_par o.calm o.nd hi hj hij hx hy ha.p hw hs, semS_par ha.s⟩
/-- targets = e in general -/
def dAsg (fe : DE0) (gd : GD) : DS0 := fun δ => (fe δ).bind fun a => match gd a.1 a.2 with
  | some δ' => .ok (.nx, δ')
  | none => .bad
theorem semS_asg {ts : List Nat} {g : TG} {gd : GD} (s : SemE n W te fe) (sg : SemG n ts g gd) : SemS n W (tAsg te g) (dAsg fe gd) := fun σ δ F H d S hP => s.go PL.s S hP fun x δ1 F1 H1 v S1 st1 r1 h1 => by
  simp only at h1
  cases e : gd x δ1 with
  | none => rw [e] at h1; exact h1.elim
  | some δ2 =>
    rw [e] at h1
    exact sg S1 r1 e fun σ2 S2 st2 _ => h1 σ2 F1 H1 S2 st2
theorem ds_asg {ts : List Nat} {tg : Expr} {g : TG} {gd : GD} (he : DE X n W e te fe) (hg : DG X n ts tg g gd) (hs : swapsWithSole [tg] e pos.line X.env = pure false := by rfl) (hw : swappedStores [tg] e X.env = pure none := by rfl)
    (h1 : (assignEach [tg] X.env).map (·.2) = [assign tg X.env] := by rfl) : DS X n W (.Assign [tg] e pos) (tAsg te g) (dAsg fe gd) := ⟨ps_asg he.p hg.p hs hw h1, semS_asg he.s hg.s⟩
/-- y = [..], y a local, on one line -/
theorem ds_setLc (i : Nat) {y : Str} {py : Pos} {elt tg iter : Expr} {ifs : List Expr} {scope : Scope} {spos : Pos} {ts : List Nat} {wi : TI} {fi : DI0} {g : TG} {gd : GD} {tt : TT} {ft : DT0} (o : Ok X n) (own : List (Str × Nat)) (hi : DI X n W tg iter wi fi) (ok : BlkOk X.N X.env.scope scope own)
    (hg : ∀ (s : Shared) (H : Hp) (C : Addr) (cl : List (Str × Addr)) (fp : List Addr), DG (X.blk s H scope (compEnvC scope cl C X.env) fp) n ts tg g gd)
    (ht : ∀ (s : Shared) (H : Hp) (C : Addr) (cl : List (Str × Addr)) (fp : List Addr), DTs (X.blk s H scope (compEnvC scope cl C X.env) fp) n W0 ifs tt ft)
    (he : ∀ (s : Shared) (H : Hp) (C : Addr) (cl : List (Str × Addr)) (fp : List Addr), DE (X.blk s H scope (compEnvC scope cl C X.env) fp) n W0 elt te fe)
    (hy : X.N[i]? = some y := by rfl) (hyl : X.env.scope.names.lookup y = some .local := by rfl) (hsw : swapsWith (.ListComp elt [⟨tg, iter, ifs, 0⟩] scope pos) (some (.Name y py)) spos.line X.env = pure true := by exact sw_true rfl rfl rfl (by decide +kernel))
    (hv : ∀ i ∈ ts, i ∈ own.map (·.2) := by decide) (hs : ∀ x, foldedSetIterable iter X.env x = pure x := by intro _; rfl) :
    DS X n W (.Assign [.Name y py] (.ListComp elt [⟨tg, iter, ifs, 0⟩] scope pos) spos) (tAsg (tLc wi g tt te (own.map (·.2))) (gName i)) (dSetO i (dLc fi gd ft fe (own.map (·.2)))) :=
  ⟨ps_setLc o.calm o.nd hy hyl hsw hi.p ok (fun s H C cl fp => (hg s H C cl fp).p) (fun s H C cl fp => (ht s H C cl fp).p) (fun s H C cl fp => (he s H C cl fp).p) hs,
   semS_setO (semO_lc hi.s (hg X.s_0 (fun _ => none) 0 [] []).s (ht X.s_0 (fun _ => none) 0 [] []).s (he X.s_0 (fun _ => none) 0 [] []).s hv)⟩
end
/-! ### calls with keywords -/
inductive Src where
  | p (i : Nat) | k (i : Nat) | m (i : Nat)
def pick {α : Type} (z : α) (srcs : List Src) (us ms ws : List α) : List α := srcs.map fun s => match s with
  | .p i => us.getD i z
  | .k i => ws.getD i z
  | .m i => ms.getD i z
theorem getD_rel {α β : Type} {R : α → β → Prop} {xs : List α} {ys : List β} {z : α} {z' : β} (h : Paired R xs ys) (hz : R z z') (i : Nat) : R (xs.getD i z) (ys.getD i z') := by
  induction h generalizing i with
  | nil => simpa [List.getD] using hz
  | cons h r ih =>
    cases i with
    | zero => simpa [List.getD] using h
    | succ i => simpa [List.getD] using ih i
theorem pick_vals {vs ms zs : List V} {us mv ws : List Value} (h1 : Vals vs us) (h2 : Vals ms mv) (h3 : Vals zs ws) : ∀ srcs : List Src, Vals (pick .non srcs vs ms zs) (pick .none srcs us mv ws)
  | [] => .nil
  | s :: r => by
    refine .cons ?_ (pick_vals h1 h2 h3 r)
    cases s with
    | p i => exact getD_rel h1 (show RelV .non .none from rfl) i
    | k i => exact getD_rel h3 (show RelV .non .none from rfl) i
    | m i => exact getD_rel h2 (show RelV .non .none from rfl) i
theorem RpAll.getD {n : En} {F : Hp} : ∀ {vs : List V} {ds : List D} (i : Nat), RpAll n.K n.cn F vs ds → Rp n.K n.cn F (vs.getD i .non) (ds.getD i .non)
  | _, _, i, .nil => by simp only [List.getD, List.getElem?_nil, Option.getD_none]; exact .non
  | _, _, 0, .cons h _ => h
  | _, _, i + 1, .cons _ r => RpAll.getD i r
theorem pick_rp {n : En} {F : Hp} {vs ms zs : List V} {ds md es : List D} (h1 : RpAll n.K n.cn F vs ds) (h2 : RpAll n.K n.cn F ms md) (h3 : RpAll n.K n.cn F zs es) : ∀ srcs : List Src, RpAll n.K n.cn F (pick .non srcs vs ms zs) (pick .non srcs ds md es)
  | [] => .nil
  | s :: r => by
    refine .cons ?_ (pick_rp h1 h2 h3 r)
    cases s with
    | p i => exact h1.getD i
    | k i => exact h3.getD i
    | m i => exact h2.getD i
/-- a def called with m values and the keywords ks; what lacks is told by mds -/
structure CalN (P : Program) (w : World) (K : PySem.W.Frag) (mg : Str → Option Value) (base : Heap) (k : Nat) (x : Str) (sp : Sp) (n : En) (m : Nat) (ks : List Str) (srcs : List Src) (mds : List D) : Prop where
  ex : ∃ (a : Addr) (fd : FuncData) (ps : List Str) (mv : List Value) (ms : List V), FnG P w K mg base (L2.CX P w) k a fd ps sp ∧ mg x = some (.ref a) ∧ PySem.W.keepIn K (.ref a) = true ∧ KBn K fd ps m ks (fun us ws => pick .none srcs us mv ws) (fun vs zs => pick .non srcs vs ms zs) ∧ (∀ F, RpAll n.K n.cn F ms mds)
section
variable {X : Cx} {n : En} {W : WX} {e : Expr} {es : List Expr} {tr tk : TA} {fr fk : DA0} {x : Str} {p pos : Pos} {kws : List Keyword} {ks : List Str}
structure DK (X : Cx) (n : En) (W : WX) (kws : List Keyword) (t : TA) (f : DA0) : Prop where
  p : PK X kws t
  s : SemA n W t f
theorem dk_nil : DK X n W [] tNil daNil := ⟨pk_nil, fun σ δ F H Q S h => h F H [] S Stp.refl .nil⟩
theorem dk_cons {te : TE} {fe : DE0} {nm : Option Str} {kpos : Pos} (ha : DE X n W e te fe) (hr : DK X n W kws tr fr) : DK X n W (⟨nm, e, kpos⟩ :: kws) (tCons te tr) (daCons fe fr) := ⟨pk_cons ha.p hr.p, semA_cons ha.s hr.s⟩
def tCalN (n : En) (m l : Nat) (sp : Sp) (srcs : List Src) (mds : List D) (W : WX) (t tk : TA) : TE := fun σ H Q => t σ H fun vs H1 => tk σ H1 fun zs H2 => vs.length = m ∧ zs.length = l ∧ ∀ ms : List V, (∀ F, RpAll n.K n.cn F ms mds) → sp (pick .non srcs vs ms zs) H2 Q (WE W σ)
theorem run_calN {k m : Nat} {f : Addr} {fd : FuncData} {ps : List Str} {sp : Sp} {E : XK} {CX : CXT} {g : List Value → List Value → List Value} {gV : List V → List V → List V} {pins : List (Addr × Obj)} {σ : L2.St} {H : Hp} {s : Shared} {Q : VK} {us ws : List Value} {vs zs : List V} (F : FnG X.prog X.w X.K X.mg X.base CX k f fd ps sp) (hr : RoomG k X.A) (hb : KBn X.K fd ps m ks g gV) (hx : PassesAt CX X σ E)
    (I : Inv X pins σ H s) (r : Vals vs us) (rz : Vals zs ws) (l1 : vs.length = m) (l2 : zs.length = ks.length) (h : sp (gV vs zs) H Q E) : wpAny (model X.prog X.w) X.A (call (.ref f) us (ks.zip ws)) (EP X pins σ Q) X.xe s := by
  have r2 := hb.rel r rz
  refine wpAny_call (codeAny_mono (F.run X.A X.stack s H ⟨us, ks.zip ws⟩ (g us ws) (gV vs zs) Q E hr I.env0 (hb.to s us ws I.kIn (r.length.symm.trans l1) (rz.length.symm.trans l2)) r2 h) fun r s' hq => ?_)
  cases r with
  | error e => exact hx pins H s e s' I hq
  | ok fl =>
    cases fl with
    | ret u => exact I.after hq
    | next => exact False.elim hq
    | brk => exact False.elim hq
    | cont => exact False.elim hq
theorem pe_calN {k m : Nat} {sp : Sp} {srcs : List Src} {mds : List D} (C : CalN X.prog X.w X.K X.mg X.base k x sp n m ks srcs mds) (hr : RoomG k X.A) (tk' : Takes X W) (hg : Gl X x) (ha : PA X (e :: es) tr) (hkw : PK X kws tk)
    (hall : (backToKw pos (keywordEach kws X.env)).all (·.1.isSome) = true) (hks : (backToKw pos (keywordEach kws X.env)).filterMap (·.1) = ks) (hdb : (x == ("__debug__" : Str)) = false) (he : starEach (e :: es) X.env = (false, eval e X.env) :: starEach es X.env)
    (hpl : ((backTo pos (starEach (e :: es) X.env)).any (·.1) || (backToKw pos (keywordEach kws X.env)).any (·.1.isNone)) = false) : PE X (.Call (.Name x p) (e :: es) kws pos) (tCalN n m ks.length sp srcs mds W tr tk) := by
  obtain ⟨a, fd, ps, mv, ms, G, hm, hk, hb, hD⟩ := C.ex
  refine ⟨fun pins s σ H Q I h => ?_⟩
  refine wpAny_Call_Name_kw (ld_glob I hg hm ?_ hdb)
  refine PySem.W.callWith_KW (h₀ := X.base) I.ok.mod.kin hk hall (thn (ha.run pos pins s σ H _ I h) fun us s1 ⟨vs, H1, I1, r, q⟩ => ?_) hpl he
  refine thn (hkw.run pos pins s1 σ H1 _ I1 q) fun ws s2 ⟨zs, H2, I2, rz, l1, l2, q2⟩ => ⟨I2.kIn, ?_⟩
  rw [hks]
  exact run_calN G hr hb (passAt tk' σ) I2 r rz l1 l2 (q2 ms hD)
theorem pe_calN0 {k : Nat} {sp : Sp} {srcs : List Src} {mds : List D} (C : CalN X.prog X.w X.K X.mg X.base k x sp n 0 ks srcs mds) (hr : RoomG k X.A) (tk' : Takes X W) (hg : Gl X x) (hkw : PK X kws tk)
    (hall : (backToKw pos (keywordEach kws X.env)).all (·.1.isSome) = true) (hks : (backToKw pos (keywordEach kws X.env)).filterMap (·.1) = ks) (hdb : (x == ("__debug__" : Str)) = false)
    (hpl : ((backTo pos (starEach [] X.env)).any (·.1) || (backToKw pos (keywordEach kws X.env)).any (·.1.isNone)) = false) : PE X (.Call (.Name x p) [] kws pos) (tCalN n 0 ks.length sp srcs mds W tNil tk) := by
  obtain ⟨a, fd, ps, mv, ms, G, hm, hk, hb, hD⟩ := C.ex
  refine ⟨fun pins s σ H Q I h => ?_⟩
  refine wpAny_Call_Name_kw (ld_glob I hg hm ?_ hdb)
  refine PySem.W.callWith_KW0 (h₀ := X.base) I.ok.mod.kin hk hall (thn (hkw.run pos pins s σ H _ I h) fun ws s2 ⟨zs, H2, I2, rz, l1, l2, q2⟩ => ⟨I2.kIn, ?_⟩) hpl
  rw [hks]
  exact run_calN G hr hb (passAt tk' σ) I2 .nil rz l1 l2 (q2 ms hD)
def dCallN (f : List D → Rx Rv) (m l : Nat) (srcs : List Src) (mds : List D) (fr fk : DA0) : DE0 := fun δ => (fr δ).bind fun a => (fk a.2).bind fun b => if a.1.length = m ∧ b.1.length = l then (match f (pick .non srcs a.1 mds b.1) with
  | .ok (.d x) => .ok (x, b.2)
  | .ok (.own xs) => .ok (.lst xs, b.2)
  | .exc c fs _ => .exc c fs b.2
  | .bad => .bad) else .bad
theorem semE_calN {f : List D → Rx Rv} {m l : Nat} {srcs : List Src} {mds : List D} (sr : SemA n W tr fr) (sk : SemA n W tk fk) : SemE n W (tCalN n m l (spP n f) srcs mds W tr tk) (dCallN f m l srcs mds fr fk) := by
  intro σ δ F H Q S hP
  refine sr.go PL.e S hP fun xs δ1 F1 H1 vs S1 st1 r1 h1 => ?_
  refine sk.go PL.e S1 h1 fun ys δ2 F2 H2 zs S2 st2 r2 h2 => ?_
  simp only at h2
  split at h2
  · rename_i c
    refine ⟨by rw [r1.len]; exact c.1, by rw [r2.len]; exact c.2, fun ms hM => ?_⟩
    exact spP_use S2 (pick_rp (r1.mono st2.sub) (hM F2) r2 srcs) h2
  · exact h2.elim
theorem de_calN {f : List D → Rx Rv} {k m l : Nat} {srcs : List Src} {mds : List D} (C : CalN X.prog X.w X.K X.mg X.base k x (spP n f) n m ks srcs mds) (hr : RoomG k X.A) (tk' : Takes X W) (ha : DA X n W (e :: es) tr fr) (hkw : DK X n W kws tk fk) (hg : Gl X x := by rfl) (hl : ks.length = l := by rfl)
    (hall : (backToKw pos (keywordEach kws X.env)).all (·.1.isSome) = true := by rfl) (hks : (backToKw pos (keywordEach kws X.env)).filterMap (·.1) = ks := by rfl) (hdb : (x == ("__debug__" : Str)) = false := by decide) (he : starEach (e :: es) X.env = (false, eval e X.env) :: starEach es X.env := by rfl)
    (hpl : ((backTo pos (starEach (e :: es) X.env)).any (·.1) || (backToKw pos (keywordEach kws X.env)).any (·.1.isNone)) = false := by rfl) : DE X n W (.Call (.Name x p) (e :: es) kws pos) (tCalN n m l (spP n f) srcs mds W tr tk) (dCallN f m l srcs mds fr fk) := by subst hl; exact
  ⟨pe_calN C hr tk' hg ha.p hkw.p hall hks hdb he hpl, semE_calN ha.s hkw.s⟩
theorem de_calN0 {f : List D → Rx Rv} {k l : Nat} {srcs : List Src} {mds : List D} (C : CalN X.prog X.w X.K X.mg X.base k x (spP n f) n 0 ks srcs mds) (hr : RoomG k X.A) (tk' : Takes X W) (hkw : DK X n W kws tk fk) (hg : Gl X x := by rfl) (hl : ks.length = l := by rfl)
    (hall : (backToKw pos (keywordEach kws X.env)).all (·.1.isSome) = true := by rfl) (hks : (backToKw pos (keywordEach kws X.env)).filterMap (·.1) = ks := by rfl) (hdb : (x == ("__debug__" : Str)) = false := by decide)
    (hpl : ((backTo pos (starEach [] X.env)).any (·.1) || (backToKw pos (keywordEach kws X.env)).any (·.1.isNone)) = false := by rfl) : DE X n W (.Call (.Name x p) [] kws pos) (tCalN n 0 l (spP n f) srcs mds W tNil tk) (dCallN f 0 l srcs mds daNil fk) := by subst hl; exact
  ⟨pe_calN0 C hr tk' hg hkw.p hall hks hdb hpl, semE_calN (fun σ δ F H Q S h => h F H [] S Stp.refl .nil) hkw.s⟩
end
/-! ### how a def's call binds -/
section
variable {P : Program} {w : World} {K : PySem.W.Frag} {mg : Str → Option Value} {base : Heap} {n : En} {x qual : Str} {params : Arguments} {body : List Stmt} {scope : Scope} {kws : List (Str × V)} {f : Addr} {fd : FuncData} {ps : List Str}
theorem cal_mk {k : Nat} {sp : Sp} (G : FnG P w K mg base (L2.CX P w) k f fd ps sp) (F : FunD K x qual params body scope [] kws f fd) (hm : mg x = some (.ref f))
    (h : ∀ (kV doc pm : Value) (an : Option Addr) (cdv ct : Value) (us : List Value), us.length = ps.length → bindArgs (PySem.W.fnOf x qual params body scope .none kV doc pm an cdv ct) ⟨us, []⟩ = pure (ps.zip us)) : Cal P w K mg base k x sp n [] :=
  ⟨f, fd, ps, [], [], G, hm, F.kp, F.bindsN h, .nil, fun _ => .nil⟩
/-- with keywords, nothing lacks -/
theorem calN_mk {k m : Nat} {sp : Sp} {ks : List Str} {srcs : List Src} (G : FnG P w K mg base (L2.CX P w) k f fd ps sp) (F : FunD K x qual params body scope [] kws f fd) (hm : mg x = some (.ref f))
    (h : ∀ (kV doc pm : Value) (an : Option Addr) (cdv ct : Value) (us ws : List Value), us.length = m → ws.length = ks.length → bindArgs (PySem.W.fnOf x qual params body scope .none kV doc pm an cdv ct) ⟨us, ks.zip ws⟩ = pure (ps.zip (pick .none srcs us [] ws))) : CalN P w K mg base k x sp n m ks srcs [] := by
  obtain ⟨oc, od, dV, kV, doc, pm, an, cdv, ct, osl, rfl, lk, hcd, hD, hK⟩ := F.ex
  rcases hD with ⟨_, rfl⟩ | ⟨e, _⟩
  · exact ⟨f, _, ps, [], [], G, hm, F.kp, ⟨fun s us ws X l1 l2 => .of_eq (h kV doc pm an cdv ct us ws l1 l2), fun r1 r2 => pick_vals r1 .nil r2 srcs⟩, fun _ => .nil⟩
  · exact absurd rfl e
/-- .. keyword-only ones lack: ms -/
theorem calN_kw {k m : Nat} {sp : Sp} {ks : List Str} {srcs : List Src} {ms : List (Str × V)} {mds : List D} (G : FnG P w K mg base (L2.CX P w) k f fd ps sp) (F : FunD K x qual params body scope [] kws f fd) (hm : mg x = some (.ref f)) (hk : kws ≠ []) (hms : ∀ q ∈ ms, q ∈ kws) (hd : ∀ F, RpAll n.K n.cn F (ms.map (·.2)) mds)
    (h : ∀ (D : Addr) (doc pm : Value) (an : Option Addr) (cdv ct : Value) (us mv ws : List Value), us.length = m → mv.length = ms.length → ws.length = ks.length →
      KwChain D ((ms.map (·.1)).zip mv) (bindArgs (PySem.W.fnOf x qual params body scope .none (.ref D) doc pm an cdv ct) ⟨us, ks.zip ws⟩) (ps.zip (pick .none srcs us mv ws))) : CalN P w K mg base k x sp n m ks srcs mds := by
  obtain ⟨oc, od, dV, kV, doc, pm, an, cdv, ct, osl, rfl, lk, hcd, hD, hK⟩ := F.ex
  rcases hD with ⟨_, rfl⟩ | ⟨e, _⟩
  · rcases hK with e | ⟨D, rfl, hq⟩
    · exact absurd e hk
    · obtain ⟨mv, hl, rk, hks⟩ := kwd_vals (ms := ms) fun q hm => hq q (hms q hm)
      exact ⟨f, _, ps, mv, ms.map (·.2), G, hm, F.kp, ⟨fun s us ws X l1 l2 => BindsTo.of_looks fun M => KwChain.looks X hks (h D doc pm an cdv ct us mv ws l1 hl l2), fun r1 r2 => pick_vals r1 rk r2 srcs⟩, hd⟩
  · exact absurd rfl e
end
end DL

set_option Elab.async false
set_option linter.all false
set_option maxRecDepth 100000
set_option maxHeartbeats 2000000
set_option autoImplicit false
/-! DLk: isinstance of built-in types. -/
namespace DL
open PySem PySem.Spec L2
def tyN : D → Option String
  | .non => some "NoneType"
  | .bl _ => some "bool"
  | .int _ => some "int"
  | .str _ => some "str"
  | .tup _ => some "tuple"
  | .lst _ => some "list"
  | .scr _ => some "list"
  | .dct [] => some "dict"
  | _ => none
theorem Rp.tyx {K : PySem.W.Frag} {cn : Nm} {F H : Hp} {v : V} {x : D} {a : String} (sub : Sub F H) (r : Rp K cn F v x) (h : tyN x = some a) : TyX K H v (.type a) := by
  cases r <;> first | (cases h; done) | skip
  · cases h; exact .base .non
  · cases h; exact .base (.bl _)
  · cases h; exact .base (.int _)
  · cases h; exact .base (.str _)
  · rename_i h1 h2
    cases h
    rcases h1.mono sub with ⟨o, h1, _⟩ | ⟨o, its, k, h1, hc, _⟩
    · exact .fTuple h1
    · exact .kTuple h1 hc.1
  · rename_i h1
    cases h
    rcases sub.sqL h1 with h1 | ⟨o, its, k, h1, hc, _⟩
    · rcases h1 with h1 | ⟨o, h1⟩
      · exact .base (.lst h1)
      · exact .base (.frz h1)
    · exact .kList h1 hc
  · rename_i h1 h2
    cases h
    exact .base (.lst (sub _ _ h1))
  · rename_i h1
    cases h
    exact .base (.dK (sub _ _ h1))
def isInt : D → Option Bool
  | .bl _ => some true
  | .int _ => some true
  | .non => some false
  | .str _ => some false
  | .tup _ => some false
  | .lst _ => some false
  | .scr _ => some false
  | .dct [] => some false
  | _ => none
def isBool : D → Option Bool
  | .bl _ => some true
  | .int _ => some false
  | .non => some false
  | .str _ => some false
  | .tup _ => some false
  | .lst _ => some false
  | .scr _ => some false
  | .dct [] => some false
  | _ => none
def isStr : D → Option Bool
  | .bl _ => some false
  | .int _ => some false
  | .non => some false
  | .str _ => some true
  | .tup _ => some false
  | .lst _ => some false
  | .scr _ => some false
  | .dct [] => some false
  | _ => none
def isTuple : D → Option Bool
  | .bl _ => some false
  | .int _ => some false
  | .non => some false
  | .str _ => some false
  | .tup _ => some true
  | .lst _ => some false
  | .scr _ => some false
  | .dct [] => some false
  | _ => none
/-- the answer is isinstance's -/
def IsiOk (T : String) (g : D → Option Bool) : Prop := ∀ x b, g x = some b → ∃ a, tyN x = some a ∧ kitB a T = some b
theorem isi_int : IsiOk "int" isInt := fun x b h => by
  unfold isInt at h
  split at h <;> first | (cases h; done) | (cases h; exact ⟨_, rfl, by decide +kernel⟩)
theorem isi_bool : IsiOk "bool" isBool := fun x b h => by
  unfold isBool at h
  split at h <;> first | (cases h; done) | (cases h; exact ⟨_, rfl, by decide +kernel⟩)
theorem isi_str : IsiOk "str" isStr := fun x b h => by
  unfold isStr at h
  split at h <;> first | (cases h; done) | (cases h; exact ⟨_, rfl, by decide +kernel⟩)
theorem isi_tuple : IsiOk "tuple" isTuple := fun x b h => by
  unfold isTuple at h
  split at h <;> first | (cases h; done) | (cases h; exact ⟨_, rfl, by decide +kernel⟩)
section
variable {X : Cx} {n : En} {W : WX} {a : Expr} {ta : TE} {fa : DE0} {pos : Pos}
def dIsi (g : D → Option Bool) (fa : DE0) : DE0 := fun δ => (fa δ).bind fun a => match g a.1 with
  | some b => .ok (.bl b, a.2)
  | none => .bad
theorem semE_isi {T : String} {g : D → Option Bool} (hg : IsiOk T g) (sa : SemE n W ta fa) : SemE n W (tCB (rIsi n.K) (tCons ta (tCons (tC (.ty T)) tNil))) (dIsi g fa) := fun σ δ F H Q S hP => sa.go PL.e S hP fun x δ1 F1 H1 v S1 st1 r1 h1 => by
  simp only at h1
  cases e : g x with
  | none => rw [e] at h1; exact h1.elim
  | some b =>
    rw [e] at h1
    obtain ⟨t, e1, e2⟩ := hg x b e
    exact ⟨v, .ty T, .type t, .type T, b, rfl, .ty T, r1.tyx S1.sub e1, kit_ty e2, h1 F1 H1 _ S1 Stp.refl (.bl b)⟩
theorem de_isi {T : String} {x : Str} {g : D → Option Bool} {p p' : Pos} (hg : IsiOk T g) (hk : X.K = n.K) (hm : X.mg "isinstance" = none) (hm' : X.mg x = none) (hv' : bootBuiltins x = some (.type T)) (ha : DE X n W a ta fa)
    (hv : bootBuiltins "isinstance" = some (.builtin "isinstance") := by decide +kernel) (hgl : Gl X "isinstance" := by rfl) (hgl' : Gl X x := by rfl) (hn : x ≠ "__name__" := by decide) (hdb : (x == ("__debug__" : Str)) = false := by decide)
    (hs2 : starEach [.Name x p'] X.env = (false, eval (.Name x p') X.env) :: starEach [] X.env := by rfl)
    (he : starEach [a, .Name x p'] X.env = (false, eval a X.env) :: starEach [.Name x p'] X.env := by rfl) (hpl : (backTo pos (starEach [.Name x p'] X.env)).any (·.1) = false := by rfl) : DE X n W (.Call (.Name "isinstance" p) [a, .Name x p'] [] pos) (tCB (rIsi n.K) (tCons ta (tCons (tC (.ty T)) tNil))) (dIsi g fa) :=
  ⟨pe_callB (hk ▸ call_isi) hgl hm hv (pa_cons ha.p (pa_cons (pe_bltn (v := .ty T) hgl' hm' hv' rfl hn hdb) pa_nil hs2) he) (by decide) (by decide) he hpl, semE_isi hg ha.s⟩
end
end DL

set_option Elab.async false
set_option linter.all false
set_option maxRecDepth 100000
set_option maxHeartbeats 2000000
set_option autoImplicit false
/-! DLl: further forms that the printer uses. -/
namespace DL
open PySem PySem.Spec L2
theorem bb_isinstance : bootBuiltins "isinstance" = some (.builtin "isinstance") := by decide +kernel
theorem bb_len : bootBuiltins "len" = some (.builtin "len") := by decide +kernel
theorem bb_int : bootBuiltins "int" = some (.type "int") := by decide +kernel
theorem bb_bool : bootBuiltins "bool" = some (.type "bool") := by decide +kernel
theorem bb_str : bootBuiltins "str" = some (.type "str") := by decide +kernel
theorem bb_tuple : bootBuiltins "tuple" = some (.type "tuple") := by decide +kernel
theorem bb_list : bootBuiltins "list" = some (.type "list") := by decide +kernel
theorem bb_range : bootBuiltins "range" = some (.type "range") := by decide +kernel
theorem bb_max : bootBuiltins "max" = some (.builtin "max") := by decide +kernel
theorem bb_min : bootBuiltins "min" = some (.builtin "min") := by decide +kernel
theorem bb_all : bootBuiltins "all" = some (.builtin "all") := by decide +kernel
theorem bb_any : bootBuiltins "any" = some (.builtin "any") := by decide +kernel
theorem bb_sorted : bootBuiltins "sorted" = some (.builtin "sorted") := by decide +kernel
theorem bb_sum : bootBuiltins "sum" = some (.builtin "sum") := by decide +kernel
theorem bb_enumerate : bootBuiltins "enumerate" = some (.type "enumerate") := by decide +kernel
theorem bb_zip : bootBuiltins "zip" = some (.type "zip") := by decide +kernel
theorem bb_set : bootBuiltins "set" = some (.type "set") := by decide +kernel
theorem bb_abs : bootBuiltins "abs" = some (.builtin "abs") := by decide +kernel
section
variable {X : Cx} {n : En} {W : WX} {te : TE} {fe : DE0}
/-- y = [..], y a local, the list stands still -/
theorem ds_setLcF (i : Nat) {y : Str} {py : Pos} {elt tg iter : Expr} {ifs : List Expr} {scope : Scope} {pos spos : Pos} {ts : List Nat} {wi : TI} {fi : DI0} {g : TG} {gd : GD} {tt : TT} {ft : DT0} (o : Ok X n) (own : List (Str × Nat)) (hi : DI X n W tg iter wi fi) (ok : BlkOk X.N X.env.scope scope own)
    (hg : ∀ (s : Shared) (H : Hp) (C : Addr) (cl : List (Str × Addr)) (fp : List Addr), DG (X.blk s H scope (compEnvC scope cl C X.env) fp) n ts tg g gd)
    (ht : ∀ (s : Shared) (H : Hp) (C : Addr) (cl : List (Str × Addr)) (fp : List Addr), DTs (X.blk s H scope (compEnvC scope cl C X.env) fp) n W0 ifs tt ft)
    (he : ∀ (s : Shared) (H : Hp) (C : Addr) (cl : List (Str × Addr)) (fp : List Addr), DE (X.blk s H scope (compEnvC scope cl C X.env) fp) n W0 elt te fe)
    (hy : X.N[i]? = some y := by rfl) (hyl : X.env.scope.names.lookup y = some .local := by rfl) (hsw : swapsWith (.ListComp elt [⟨tg, iter, ifs, 0⟩] scope pos) (some (.Name y py)) spos.line X.env = pure true := by exact sw_true rfl rfl rfl (by decide +kernel))
    (hv : ∀ i ∈ ts, i ∈ own.map (·.2) := by decide) (hs : ∀ x, foldedSetIterable iter X.env x = pure x := by intro _; rfl) :
    DS X n W (.Assign [.Name y py] (.ListComp elt [⟨tg, iter, ifs, 0⟩] scope pos) spos) (tAsg (tLc wi g tt te (own.map (·.2))) (gName i)) (dSet i (dFrz (dLc fi gd ft fe (own.map (·.2))))) :=
  ⟨ps_setLc o.calm o.nd hy hyl hsw hi.p ok (fun s H C cl fp => (hg s H C cl fp).p) (fun s H C cl fp => (ht s H C cl fp).p) (fun s H C cl fp => (he s H C cl fp).p) hs,
   semS_set (semE_frz (semO_lc hi.s (hg X.s_0 (fun _ => none) 0 [] []).s (ht X.s_0 (fun _ => none) 0 [] []).s (he X.s_0 (fun _ => none) 0 [] []).s hv))⟩
/-! ### comparisons as tests -/
variable {a b c : Expr} {ta tb tc : TE} {fa fb fc : DE0} {pos : Pos}
theorem semT_test {t : TE} {f : DE0} (sa : SemE n W t f) : SemT n W (tTest t) (dTest f) := fun σ δ F H Q S hP => semT_val sa σ δ F H Q S hP
theorem dt_cmpR {op : CmpOp} {r : R2} {p : D → D → Option D} (ho : OpR X (compareOp op) r) (hp : OpOk n r p) (ha : DE X n W a ta fa) (hb : DE X n W b tb fb) (hm : behindInMarks op b = false) : DT X n W (.Compare a [op] [b] pos) (tTest (tOp r ta tb)) (dTest (dOp p fa fb)) :=
  ⟨pt_cmpR ho ha.p hb.p hm, semT_test (semE_op hp ha.s hb.s)⟩
theorem dt_lt (ha : DE X n W a ta fa) (hb : DE X n W b tb fb) : DT X n W (.Compare a [.Lt] [b] pos) (tTest (tOp (rI0 fun i j => .bl (decide (i < j))) ta tb)) (dTest (dOp pLt fa fb)) := dt_cmpR op_lt opOk_cmp ha hb (nomark _)
theorem dt_le (ha : DE X n W a ta fa) (hb : DE X n W b tb fb) : DT X n W (.Compare a [.LtE] [b] pos) (tTest (tOp (rI0 fun i j => .bl (decide (i ≤ j))) ta tb)) (dTest (dOp pLe fa fb)) := dt_cmpR op_le opOk_cmp ha hb (nomark _)
theorem dt_gt (ha : DE X n W a ta fa) (hb : DE X n W b tb fb) : DT X n W (.Compare a [.Gt] [b] pos) (tTest (tOp (rI0 fun i j => .bl (decide (j < i))) ta tb)) (dTest (dOp pGt fa fb)) := dt_cmpR op_gt opOk_cmp ha hb (nomark _)
theorem dt_ge (ha : DE X n W a ta fa) (hb : DE X n W b tb fb) : DT X n W (.Compare a [.GtE] [b] pos) (tTest (tOp (rI0 fun i j => .bl (decide (j ≤ i))) ta tb)) (dTest (dOp pGe fa fb)) := dt_cmpR op_ge opOk_cmp ha hb (nomark _)
theorem dt_eq (o : Ok X n) (ha : DE X n W a ta fa) (hb : DE X n W b tb fb) : DT X n W (.Compare a [.Eq] [b] pos) (tTest (tOp (rEqP n.K false) ta tb)) (dTest (dOp pEqD fa fb)) := dt_cmpR o.eq opOk_eq ha hb (nomark _)
theorem dt_ne (o : Ok X n) (ha : DE X n W a ta fa) (hb : DE X n W b tb fb) : DT X n W (.Compare a [.NotEq] [b] pos) (tTest (tOp (rEqP n.K true) ta tb)) (dTest (dOp pNeD fa fb)) := dt_cmpR o.ne opOk_ne ha hb (nomark _)
theorem dt_in (o : Ok X n) (ha : DE X n W a ta fa) (hb : DE X n W b tb fb) (hm : behindInMarks .In b = false := by rfl) : DT X n W (.Compare a [.In] [b] pos) (tTest (tOp (rInP n.K false) ta tb)) (dTest (dOp pIn fa fb)) := dt_cmpR (by have h := op_inP (X := X) o.u1; rw [o.k] at h; exact h) opOk_in ha hb hm
theorem dt_notIn (o : Ok X n) (ha : DE X n W a ta fa) (hb : DE X n W b tb fb) (hm : behindInMarks .NotIn b = false := by rfl) : DT X n W (.Compare a [.NotIn] [b] pos) (tTest (tOp (rInP n.K true) ta tb)) (dTest (dOp pNotIn fa fb)) := dt_cmpR (by have h := op_notInP (X := X) o.u1; rw [o.k] at h; exact h) opOk_notIn ha hb hm
theorem dt_isN {j : Nat} {pos' : Pos} (ha : DE X n W a ta fa) : DT X n W (.Compare a [.Is] [.Constant .none j pos'] pos) (L2.tB (tIsN ta)) (dTest (dIsN fa)) :=
  ⟨pt_cmp (pc_isN ha.p) (nomark _), semT_val (de_isN (j := j) (pos := pos) (pos' := pos') ha).s⟩
theorem dt_notN {j : Nat} {pos' : Pos} (ha : DE X n W a ta fa) : DT X n W (.Compare a [.IsNot] [.Constant .none j pos'] pos) (L2.tB (tNotN ta)) (dTest (dNotN fa)) :=
  ⟨pt_cmp (pc_notN ha.p) (nomark _), semT_val (de_notN (j := j) (pos := pos) (pos' := pos') ha).s⟩
theorem dt_chainLeLt (ha : DE X n W a ta fa) (hb : DE X n W b tb fb) (hc : DE X n W c tc fc) (hm : lastMarks [CmpOp.LtE, CmpOp.Lt] [b, c] = false := by with_unfolding_all rfl) :
    DT X n W (.Compare a [.LtE, .Lt] [b, c] pos) (tTest (tChain (rI0 fun i j => .bl (decide (i ≤ j))) (rI0 fun i j => .bl (decide (i < j))) ta tb tc)) (dTest (dChain pLe pLt fa fb fc)) :=
  ⟨pt_chain op_le op_lt ha.p hb.p hc.p hm, semT_test (semE_chain opOk_cmp opOk_cmp ha.s hb.s hc.s)⟩
/-! ### a ** b of great numbers -/
def pPowW : D → D → Option D := pI fun i j => if 0 ≤ j ∧ (Builtin.Int.intBits i : Int) * j ≤ 2 ^ 27 then some (.int (i ^ j.toNat)) else none
theorem op_powW : OpR X (binaryOp .Pow) (rI (fun i j => 0 ≤ j ∧ (Builtin.Int.intBits i : Int) * j ≤ 2 ^ 27) fun i j => .int (i ^ j.toNat)) := opI fun _ _ _ _ _ _ _ hc q => PyProof.Rows.pow_int hc.1 hc.2 q
theorem de_powW (ha : DE X n W a ta fa) (hb : DE X n W b tb fb) : DE X n W (.BinOp a .Pow b pos) (tOp (rI (fun i j => 0 ≤ j ∧ (Builtin.Int.intBits i : Int) * j ≤ 2 ^ 27) fun i j => .int (i ^ j.toNat)) ta tb) (dOp pPowW fa fb) :=
  ⟨pe_op op_powW ha.p hb.p, semE_op (opOk_I fun i j z e => by
    split at e
    · cases e
      rename_i c
      exact ⟨c, fun F => .int _⟩
    · cases e) ha.s hb.s⟩
end
section
variable {X : Cx} {n : En} {W : WX} {e : Expr} {es : List Expr} {tr : TA} {fr : DA0} {x : Str} {p pos : Pos}
theorem app_nil {β : Type} (f : List D → β) : (fun xs => f (xs ++ [])) = f := funext fun xs => by rw [List.append_nil]
theorem de_calP {f : List D → Rx Rv} {k : Nat} (C : Cal X.prog X.w X.K X.mg X.base k x (spP n f) n []) (hr : RoomG k X.A) (tk : Takes X W) (ha : DA X n W (e :: es) tr fr) (hg : Gl X x := by rfl) (hdb : (x == ("__debug__" : Str)) = false := by decide)
    (he : starEach (e :: es) X.env = (false, eval e X.env) :: starEach es X.env := by rfl) (hpl : (backTo pos (starEach es X.env)).any (·.1) = false := by rfl) : DE X n W (.Call (.Name x p) (e :: es) [] pos) (tCalD n (spP n f) [] W tr) (dCallF f fr) := by
  have h := de_cal (p := p) C hr tk ha hg hdb he hpl
  rw [app_nil] at h
  exact h
theorem do_calP {f : List D → Rx Rv} {k : Nat} (C : Cal X.prog X.w X.K X.mg X.base k x (spP n f) n []) (hr : RoomG k X.A) (tk : Takes X W) (ha : DA X n W (e :: es) tr fr) (hg : Gl X x := by rfl) (hdb : (x == ("__debug__" : Str)) = false := by decide)
    (he : starEach (e :: es) X.env = (false, eval e X.env) :: starEach es X.env := by rfl) (hpl : (backTo pos (starEach es X.env)).any (·.1) = false := by rfl) : DO X n W (.Call (.Name x p) (e :: es) [] pos) (tCalD n (spP n f) [] W tr) (dCallFO f fr) := by
  have h := do_cal (p := p) C hr tk ha hg hdb he hpl
  rw [app_nil] at h
  exact h
end
section
variable {P : Program} {w : World} {K : PySem.W.Frag} {mg : Str → Option Value} {base : Heap} {n : En} {x qual : Str} {params : Arguments} {body : List Stmt} {scope : Scope} {dvs : List V} {kws : List (Str × V)} {f : Addr} {fd : FuncData}
theorem fn_q (N ps : List Str) {k : Nat} (g : DS0) {Ff : List D → Rx Rv} (F : FunD K x qual params body scope dvs kws f fd) (S : FnScope N ps scope) (hl : ps.length ≤ N.length)
    (hb : ∀ (cdv : Value) (A : Around) (outer : List Env) (s : Shared) (H : Hp) (E : XK), RoomG k (A.deeper (PyProof.Rows.envOfC qual scope s.heap.objs.size f cdv)) → Ok (cxOf (L2.CX P w) P w K mg base N qual scope f cdv A outer s H E) n →
      Takes (cxOf (L2.CX P w) P w K mg base N qual scope f cdv A outer s H E) (fun c d _ H' => E c d H') →
      ∃ t, DSs (cxOf (L2.CX P w) P w K mg base N qual scope f cdv A outer s H E) n (fun c d _ H' => E c d H') body t g) (hK : n.K = K) (hF : Ff = dFn ps.length N.length g) :
    FnG P w K mg base (L2.CX P w) (k + 1) f fd ps (spP n Ff) := by
  subst hF
  exact fn_okP hK F S hl hb
theorem fn_qM (N ps : List Str) {k : Nat} (g : DS0) {Ff : List D → List D → Rx (Rv × List D)} (F : FunD K x qual params body scope dvs kws f fd) (S : FnScope N ps scope) (hl : ps.length ≤ N.length)
    (hb : ∀ (cdv : Value) (A : Around) (outer : List Env) (s : Shared) (H : Hp) (E : XK), RoomG k (A.deeper (PyProof.Rows.envOfC qual scope s.heap.objs.size f cdv)) → Ok (cxOf (L2.CX P w) P w K mg base N qual scope f cdv A outer s H E) n →
      Takes (cxOf (L2.CX P w) P w K mg base N qual scope f cdv A outer s H E) (fun c d _ H' => E c d H') →
      ∃ t, DSs (cxOf (L2.CX P w) P w K mg base N qual scope f cdv A outer s H E) n (fun c d _ H' => E c d H') body t g) (hK : n.K = K) (hF : Ff = dFnM ps.length N.length g) :
    FnG P w K mg base (L2.CX P w) (k + 1) f fd ps (spM n Ff) := by
  subst hF
  exact fn_okM hK F S hl hb
theorem fn_p {N ps : List Str} {k : Nat} (g : DS0) {Ff : List D → Rx Rv} (hF : Ff = dFn ps.length N.length g) (hK : n.K = K) (F : FunD K x qual params body scope dvs kws f fd) (S : FnScope N ps scope) (hl : ps.length ≤ N.length)
    (hb : ∀ (cdv : Value) (A : Around) (outer : List Env) (s : Shared) (H : Hp) (E : XK), RoomG k (A.deeper (PyProof.Rows.envOfC qual scope s.heap.objs.size f cdv)) → Ok (cxOf (L2.CX P w) P w K mg base N qual scope f cdv A outer s H E) n →
      Takes (cxOf (L2.CX P w) P w K mg base N qual scope f cdv A outer s H E) (fun c d _ H' => E c d H') →
      ∃ t, DSs (cxOf (L2.CX P w) P w K mg base N qual scope f cdv A outer s H E) n (fun c d _ H' => E c d H') body t g) :
    FnG P w K mg base (L2.CX P w) (k + 1) f fd ps (spP n Ff) := by
  subst hF
  exact fn_okP hK F S hl hb
theorem fn_m {N ps : List Str} {k : Nat} (g : DS0) {Ff : List D → List D → Rx (Rv × List D)} (hF : Ff = dFnM ps.length N.length g) (hK : n.K = K) (F : FunD K x qual params body scope dvs kws f fd) (S : FnScope N ps scope) (hl : ps.length ≤ N.length)
    (hb : ∀ (cdv : Value) (A : Around) (outer : List Env) (s : Shared) (H : Hp) (E : XK), RoomG k (A.deeper (PyProof.Rows.envOfC qual scope s.heap.objs.size f cdv)) → Ok (cxOf (L2.CX P w) P w K mg base N qual scope f cdv A outer s H E) n →
      Takes (cxOf (L2.CX P w) P w K mg base N qual scope f cdv A outer s H E) (fun c d _ H' => E c d H') →
      ∃ t, DSs (cxOf (L2.CX P w) P w K mg base N qual scope f cdv A outer s H E) n (fun c d _ H' => E c d H') body t g) :
    FnG P w K mg base (L2.CX P w) (k + 1) f fd ps (spM n Ff) := by
  subst hF
  exact fn_okM hK F S hl hb
end
end DL

set_option Elab.async false
set_option linter.all false
set_option maxRecDepth 100000
set_option maxHeartbeats 2000000
set_option autoImplicit false
/-! DLm: the head: a Hook with data told (constants of the module, keyword-only defaults). -/
namespace DL
open PySem PySem.Spec L2
mutual
/-- u is the datum d, by the fragment -/
def rpB (K : PySem.W.Frag) : D → Value → Bool
  | .non, u => (match u with
    | .none => true
    | _ => false)
  | .bl b, u => (match u with
    | .bool c => b == c
    | _ => false)
  | .int i, u => (match u with
    | .int j _ => decide (i = j)
    | _ => false)
  | .str x, u => (match u with
    | .str y _ => decide (x = y)
    | _ => false)
  | .tup ds, u => (match u with
    | .ref a => (match K.lookup a with
      | some ⟨.type c, none, .seq its _, _⟩ => decide (c = "tuple") && (decide (its.size ≤ sizeLine) && rpAllB K ds its.toList)
      | _ => false)
    | _ => false)
  | .lst _, _ => false
  | .dct _, _ => false
  | .scr _, _ => false
  | .ins _ _, _ => false
def rpAllB (K : PySem.W.Frag) : List D → List Value → Bool
  | [], us => us.isEmpty
  | d :: ds, us => (match us with
    | u :: us => rpB K d u && rpAllB K ds us
    | [] => false)
end
mutual
theorem rpB_ok {K : PySem.W.Frag} {cn : Nm} : ∀ (d : D) {u : Value}, rpB K d u = true → ∃ v, RelV v u ∧ ∀ F, Rp K cn F v d
  | .non, u, h => by
    unfold rpB at h
    cases u <;> first | (cases h; done) | exact ⟨.non, rfl, fun _ => .non⟩
  | .bl b, u, h => by
    unfold rpB at h
    cases u <;> first | (cases h; done) | skip
    have e := eq_of_beq h
    subst e
    exact ⟨.bl _, rfl, fun _ => .bl _⟩
  | .int i, u, h => by
    unfold rpB at h
    cases u <;> first | (cases h; done) | skip
    have e := of_decide_eq_true h
    subst e
    exact ⟨.int _, ⟨_, rfl⟩, fun _ => .int _⟩
  | .str x, u, h => by
    unfold rpB at h
    cases u <;> first | (cases h; done) | skip
    have e := of_decide_eq_true h
    subst e
    exact ⟨.str _, ⟨_, rfl⟩, fun _ => .str _⟩
  | .tup ds, u, h => by
    unfold rpB at h
    cases u <;> first | (cases h; done) | skip
    rename_i a
    simp only at h
    split at h
    · rename_i c its n osl lk
      obtain ⟨h1, h2⟩ := Bool.and_eq_true_iff.mp h
      obtain ⟨h2, h3⟩ := Bool.and_eq_true_iff.mp h2
      have e := of_decide_eq_true h1
      subst e
      obtain ⟨vs, r1, r2⟩ := rpAllB_ok (cn := cn) ds h3
      exact ⟨.ref a, rfl, fun F => .tup (.inr ⟨_, its, n, lk, ⟨rfl, rfl⟩, rfl, of_decide_eq_true h2, r1⟩) (r2 F)⟩
    · cases h
  | .lst _, _, h => by unfold rpB at h; cases h
  | .dct _, _, h => by unfold rpB at h; cases h
  | .scr _, _, h => by unfold rpB at h; cases h
  | .ins _ _, _, h => by unfold rpB at h; cases h
theorem rpAllB_ok {K : PySem.W.Frag} {cn : Nm} : ∀ (ds : List D) {us : List Value}, rpAllB K ds us = true → ∃ vs, Vals vs us ∧ ∀ F, RpAll K cn F vs ds
  | [], us, h => by
    unfold rpAllB at h
    cases us with
    | nil => exact ⟨[], .nil, fun _ => .nil⟩
    | cons _ _ => cases h
  | d :: ds, us, h => by
    unfold rpAllB at h
    cases us with
    | nil => cases h
    | cons u us =>
      obtain ⟨h1, h2⟩ := Bool.and_eq_true_iff.mp h
      obtain ⟨v, a, b⟩ := rpB_ok (cn := cn) d h1
      obtain ⟨vs, c, e⟩ := rpAllB_ok (cn := cn) ds h2
      exact ⟨v :: vs, .cons a c, fun F => .cons (b F) (e F)⟩
end
/-- the keyword-only default p of the def at f, if it is an object -/
def kwAt (f : Str × Option Str) (p : Str) (K : PySem.W.Frag) : Addr := match K.lookup (He.fAd K f) with
  | some ⟨_, _, .func fd, _⟩ => (match fd.kwdefaults with
    | .ref D => (match PySem.W.nsIn K D p with
      | some (some (.ref a)) => a
      | _ => 0)
    | _ => 0)
  | _ => 0
def cstB (K : PySem.W.Frag) (c : Str × D) : Bool := match PySem.W.nsIn K mainGlobals c.1 with
  | some (some u) => rpB K c.2 u
  | _ => false
def kwB (K : PySem.W.Frag) (c : (Str × Option Str) × Str × D) : Bool := rpB K c.2.2 (.ref (kwAt c.1 c.2.1 K))
theorem cstB_ok {K : PySem.W.Frag} {cn : Nm} {h : Heap} {mg : Str → Option Value} (X : K.In h) (G : h.Ns mainGlobals mg) {x : Str} {d : D} (c : cstB K (x, d) = true) : Cst K cn mg x d := by
  unfold cstB at c
  split at c
  · rename_i u e
    obtain ⟨v, h1, h2⟩ := rpB_ok (cn := cn) d c
    exact ⟨v, u, PySem.W.mg_of X G e, h1, h2⟩
  · cases c
theorem kwB_ok {K : PySem.W.Frag} {cn : Nm} {f : Str × Option Str} {p : Str} {d : D} (c : kwB K (f, p, d) = true) : ∀ F, Rp K cn F (He.Dv.v K (.adr (kwAt f p))) d := by
  obtain ⟨v, h1, h2⟩ := rpB_ok (cn := cn) d c
  cases v <;> first | (cases h1; done) | (obtain ⟨_, e⟩ := h1; cases e; done) | skip
  cases h1
  exact h2
abbrev Kws : Type := List ((Str × Option Str) × Str × D)
def obsX (fa : List He.Fa) (fn : List He.DefD) (cs : List (Str × D)) (ks : Kws) (K : PySem.W.Frag) : He.AlD := ((He.obsD fa fn K).1 && (cs.all (cstB K) && ks.all (kwB K)), (He.obsD fa fn K).2)
structure SaysX (fa : List He.Fa) (fn : List He.DefD) (cs : List (Str × D)) (ks : Kws) (K : PySem.W.Frag) : Prop where
  d : He.SaysD fa fn K
  c : ∀ q ∈ cs, cstB K q = true
  k : ∀ q ∈ ks, kwB K q = true
theorem saysX_of {fa : List He.Fa} {fn : List He.DefD} {cs : List (Str × D)} {ks : Kws} {K : PySem.W.Frag} (e : obsX fa fn cs ks K = He.valD fn) : SaysX fa fn cs ks K := by
  have e1 : ((He.obsD fa fn K).1 && (cs.all (cstB K) && ks.all (kwB K))) = true := congrArg Prod.fst e
  have e2 : (He.obsD fa fn K).2 = fn.map He.DefD.val := congrArg Prod.snd e
  obtain ⟨a, b⟩ := Bool.and_eq_true_iff.mp e1
  obtain ⟨b, c⟩ := Bool.and_eq_true_iff.mp b
  exact ⟨Prod.ext a e2, fun q h => List.all_eq_true.mp b q h, fun q h => List.all_eq_true.mp c q h⟩
def obsXG (n : Nat) (fa : List He.Fa) (fn : List He.DefD) (cs : List (Str × D)) (ks : Kws) (g : Addr → Option Obj) : He.AlD := obsX fa fn cs ks (He.frG g (He.asD g n))
def hookX (n : Nat) (fa : List He.Fa) (fn : List He.DefD) (cs : List (Str × D)) (ks : Kws) : PySem.W.Hook where
  α := He.AlD
  obs := fun s => obsXG n fa fn cs ks s.heap.get?
  val := fun _ => He.valD fn
  says := fun _ h => ∃ K : PySem.W.Frag, K.In h ∧ SaysX fa fn cs ks K
  of := fun _ _ e => ⟨_, He.frG_in, saysX_of e⟩
  keeps := fun _ _ _ ⟨K, hK, c⟩ k => ⟨K, PySem.W.Frag.In.keeps hK k, c⟩
theorem obsXG_eq {n : Nat} {fa : List He.Fa} {fn : List He.DefD} {cs : List (Str × D)} {ks : Kws} {g : Addr → Option Obj} {s : Shared} (h : ∀ a, g a = s.heap.get? a) : obsXG n fa fn cs ks g = (hookX n fa fn cs ks).obs s := by
  have e : g = s.heap.get? := funext h
  rw [e]
  rfl
section
variable {fa : List He.Fa} {fn : List He.DefD} {cs : List (Str × D)} {ks : Kws} {K : PySem.W.Frag} {cn : Nm} {h : Heap} {mg : Str → Option Value}
theorem SaysX.cst (c : SaysX fa fn cs ks K) (X : K.In h) (G : h.Ns mainGlobals mg) (i : Nat) {x : Str} {d : D} (e : cs[i]? = some (x, d) := by rfl) : Cst K cn mg x d := cstB_ok X G (c.c _ (List.mem_of_getElem? e))
theorem SaysX.kw (c : SaysX fa fn cs ks K) (i : Nat) {f : Str × Option Str} {p : Str} {d : D} (e : ks[i]? = some (f, p, d) := by rfl) : ∀ F, Rp K cn F (He.Dv.v K (.adr (kwAt f p))) d := kwB_ok (c.k _ (List.mem_of_getElem? e))
end
end DL
namespace DL
open PySem PySem.Spec L2
theorem law_post {K : PySem.W.Frag} {cn : Nm} {f : List D → Rx Rv} {H : Hp} {a : Addr} {ns : List Int} (hS : SqL K H a (ns.map V.int)) (h : f [.scr ns] = .ok (.d (.bl true))) : spP (En.mk K cn) f [.ref a] H (fun v _ => v = .bl true) fun _ _ _ => False := by
  refine ⟨H, [.scr ns], Sub.refl H, .cons (.scr hS) .nil, ?_⟩
  rw [h]
  intro F' H' v _ _ r
  cases r
  rfl
end DL

set_option Elab.async false
set_option linter.all false
set_option maxRecDepth 100000
set_option maxHeartbeats 2000000
set_option autoImplicit false
/-! DLn: the meanings' equations for simp. -/
namespace DL
open PySem PySem.Spec L2
section
variable {α β : Type} {fa fb fc fe fk : DE0} {ft : DT0} {f g : DS0} {fr fk' : DA0} {fo : DO0} {fi : DI0} {gd : GD} {gs : GDs} {δ : List Sl} {x y : D} {xs ys : List D} {i j : Nat} {a b : Int}
@[simp] theorem e_ok {r : α} {h : α → Rx β} : (Rx.ok r).bind h = h r := rfl
@[simp] theorem e_exc {c : Str} {fs : List (Str × D)} {h : α → Rx β} : (Rx.exc c fs δ : Rx α).bind h = .exc c fs δ := rfl
@[simp] theorem e_bad {h : α → Rx β} : (Rx.bad : Rx α).bind h = .bad := rfl
@[simp] theorem e_C : dC x δ = .ok (x, δ) := rfl
@[simp] theorem e_Op {op : D → D → Option D} : dOp op fa fb δ = (fa δ).bind fun a => (fb a.2).bind fun b => match op a.1 b.1 with
  | some z => .ok (z, b.2)
  | none => .bad := rfl
@[simp] theorem e_Test : dTest fa δ = (fa δ).bind fun a => match a.1 with
  | .bl b => .ok (b, a.2)
  | _ => .bad := rfl
@[simp] theorem e_tNot : dtNot ft δ = (ft δ).bind fun a => .ok (!a.1, a.2) := rfl
@[simp] theorem e_tAnd {ft' : DT0} : dtAnd ft ft' δ = (ft δ).bind fun a => match a.1 with
  | true => ft' a.2
  | false => .ok (false, a.2) := rfl
@[simp] theorem e_tOr {ft' : DT0} : dtOr ft ft' δ = (ft δ).bind fun a => match a.1 with
  | true => .ok (true, a.2)
  | false => ft' a.2 := rfl
@[simp] theorem e_If : dIf ft fa fb δ = (ft δ).bind fun c => match c.1 with
  | true => fa c.2
  | false => fb c.2 := rfl
@[simp] theorem e_And : dAnd fa fb δ = (fa δ).bind fun a => match a.1 with
  | .bl true => fb a.2
  | .bl false => .ok (.bl false, a.2)
  | _ => .bad := rfl
@[simp] theorem e_Or : dOr fa fb δ = (fa δ).bind fun a => match a.1 with
  | .bl true => .ok (.bl true, a.2)
  | .bl false => fb a.2
  | _ => .bad := rfl
@[simp] theorem e_Not : dNot fa δ = (fa δ).bind fun a => match a.1 with
  | .bl b => .ok (.bl (!b), a.2)
  | _ => .bad := rfl
@[simp] theorem e_Chain {op op' : D → D → Option D} : dChain op op' fa fb fc δ = (fa δ).bind fun a => (fb a.2).bind fun b => match op a.1 b.1 with
  | some (.bl true) => (fc b.2).bind fun c => match op' b.1 c.1 with
    | some z => .ok (z, c.2)
    | none => .bad
  | some (.bl false) => .ok (.bl false, b.2)
  | _ => .bad := rfl
@[simp] theorem e_IsN : dIsN fa δ = (fa δ).bind fun a => .ok (.bl (pIsN a.1), a.2) := rfl
@[simp] theorem e_NotN : dNotN fa δ = (fa δ).bind fun a => .ok (.bl (!pIsN a.1), a.2) := rfl
@[simp] theorem e_Nil : dNil δ = .ok (.nx, δ) := rfl
@[simp] theorem e_Seq : dSeq f g δ = (f δ).bind fun a => match a.1 with
  | .nx => g a.2
  | fl => .ok (fl, a.2) := rfl
@[simp] theorem e_Drop : dDrop fe δ = (fe δ).bind fun a => .ok (.nx, a.2) := rfl
@[simp] theorem e_Ret : dRet fe δ = (fe δ).bind fun a => .ok (.rt a.1, a.2) := rfl
@[simp] theorem e_RetO : dRetO fo δ = (fo δ).bind fun a => .ok (.ro a.1, a.2) := rfl
@[simp] theorem e_RetN : dRetN δ = .ok (.rt .non, δ) := rfl
@[simp] theorem e_IfS : dIfS ft f g δ = (ft δ).bind fun a => match a.1 with
  | true => f a.2
  | false => g a.2 := rfl
@[simp] theorem e_Set : dSet i fe δ = (fe δ).bind fun a => slSet i (.d a.1) a.2 := rfl
@[simp] theorem e_SetO : dSetO i fo δ = (fo δ).bind fun a => slSet i (.own a.1) a.2 := rfl
@[simp] theorem e_aNil : daNil δ = .ok ([], δ) := rfl
@[simp] theorem e_aCons : daCons fa fr δ = (fa δ).bind fun a => (fr a.2).bind fun r => .ok (a.1 :: r.1, r.2) := rfl
@[simp] theorem e_Tup : dTup fr δ = (fr δ).bind fun a => if a.1.length ≤ 10000 then .ok (.tup a.1, a.2) else .bad := rfl
@[simp] theorem e_Lst : dLst fr δ = (fr δ).bind fun a => if a.1.length ≤ 10000 then .ok (a.1, a.2) else .bad := rfl
@[simp] theorem e_Frz : dFrz fo δ = (fo δ).bind fun a => .ok (.lst a.1, a.2) := rfl
@[simp] theorem e_Call {op : List D → Option D} : dCall op fr δ = (fr δ).bind fun a => match op a.1 with
  | some z => .ok (z, a.2)
  | none => .bad := rfl
@[simp] theorem e_CallF {F : List D → Rx Rv} : dCallF F fr δ = (fr δ).bind fun a => match F a.1 with
  | .ok (.d x) => .ok (x, a.2)
  | .ok (.own xs) => .ok (.lst xs, a.2)
  | .exc c fs _ => .exc c fs a.2
  | .bad => .bad := rfl
@[simp] theorem e_CallFO {F : List D → Rx Rv} : dCallFO F fr δ = (fr δ).bind fun a => match F a.1 with
  | .ok (.own xs) => .ok (xs, a.2)
  | .exc c fs _ => .exc c fs a.2
  | _ => .bad := rfl
@[simp] theorem e_CallN {F : List D → Rx Rv} {m l : Nat} {srcs : List Src} {mds : List D} : dCallN F m l srcs mds fr fk' δ = (fr δ).bind fun a => (fk' a.2).bind fun b => if a.1.length = m ∧ b.1.length = l then (match F (pick .non srcs a.1 mds b.1) with
  | .ok (.d x) => .ok (x, b.2)
  | .ok (.own xs) => .ok (.lst xs, b.2)
  | .exc c fs _ => .exc c fs b.2
  | .bad => .bad) else .bad := rfl
@[simp] theorem e_CallM {F : List D → List D → Rx (Rv × List D)} : dCallM F i fr δ = match (δ[i]?).bind Sl.get? with
  | some _ => (fr δ).bind fun a => match a.2[i]? with
    | some s => (match s.get? with
      | some ps => (match F ps a.1 with
        | .ok (.d x, qs) => .ok (x, a.2.set i (s.put qs))
        | .ok (.own xs, qs) => .ok (.lst xs, a.2.set i (s.put qs))
        | _ => .bad)
      | none => .bad)
    | none => .bad
  | none => .bad := rfl
@[simp] theorem e_get_lent : (Sl.lent xs).get? = some xs := rfl
@[simp] theorem e_get_own : (Sl.own xs).get? = some xs := rfl
@[simp] theorem e_get_d : (Sl.d x).get? = none := rfl
@[simp] theorem e_get_no : (Sl.no).get? = none := rfl
@[simp] theorem e_put_lent : (Sl.lent xs).put ys = .lent ys := rfl
@[simp] theorem e_put_own : (Sl.own xs).put ys = .own ys := rfl
@[simp] theorem e_isLent_lent : (Sl.lent xs).isLent = true := rfl
@[simp] theorem e_isLent_own : (Sl.own xs).isLent = false := rfl
@[simp] theorem e_isLent_d : (Sl.d x).isLent = false := rfl
@[simp] theorem e_isLent_no : (Sl.no).isLent = false := rfl
@[simp] theorem e_slSet {s : Sl} : slSet i s δ = match δ[i]? with
  | some o => if o.isLent then .bad else .ok (.nx, δ.set i s)
  | none => .bad := rfl
@[simp] theorem e_Var : dVar i δ = match δ[i]? with
  | some (.d x) => .ok (x, δ)
  | some (.own xs) => .ok (.lst xs, δ.set i (.d (.lst xs)))
  | _ => .bad := rfl
@[simp] theorem e_IxN : dIxN i fb δ = match δ[i]? with
  | some (.d x) => (fb δ).bind fun b => (match pIx x b.1 with
    | some z => .ok (z, b.2)
    | none => .bad)
  | some (.own _) | some (.lent _) => (fb δ).bind fun b => (match b.2[i]?, b.1 with
    | some (.own xs), .int k => (match L2.atI xs k with
      | some z => .ok (z, b.2)
      | none => .bad)
    | some (.lent xs), .int k => (match L2.atI xs k with
      | some z => .ok (z, b.2)
      | none => .bad)
    | _, _ => .bad)
  | _ => .bad := rfl
@[simp] theorem e_Rev : dRev fa δ = (fa δ).bind fun a => match a.1 with
  | .tup xs => .ok (.tup xs.reverse, a.2)
  | .lst xs => .ok (.lst xs.reverse, a.2)
  | _ => .bad := rfl
@[simp] theorem e_Mt {ok : D → Bool} {op : D → D → Option D} : dMt ok op fa fb δ = (fa δ).bind fun a => match ok a.1 with
  | true => (fb a.2).bind fun b => (match op a.1 b.1 with
    | some z => .ok (z, b.2)
    | none => .bad)
  | false => .bad := rfl
@[simp] theorem e_iSeq : diSeq fe δ = (fe δ).bind fun a => match items a.1 with
  | some xs => .ok (xs, a.2)
  | none => .bad := rfl
@[simp] theorem e_Rng1 : dRng1 fr δ = (fr δ).bind fun a => match a.1 with
  | [.int j] => if j.natAbs < 4611686018427387904 then .ok (upto 0 j.toNat, a.2) else .bad
  | _ => .bad := rfl
@[simp] theorem e_gName : gdName i x δ = match δ[i]? with
  | some s => if s.isLent then none else some (δ.set i (.d x))
  | none => none := rfl
@[simp] theorem e_gNil : gdNil xs δ = match xs with
  | [] => some δ
  | _ => none := rfl
@[simp] theorem e_gCons : gdCons gd gs xs δ = match xs with
  | x :: r => (gd x δ).bind fun δ1 => gs r δ1
  | [] => none := rfl
@[simp] theorem e_gTup {m : Nat} : gdTup m gs x δ = match x with
  | .tup xs => if xs.length = m then gs xs δ else none
  | _ => none := rfl
@[simp] theorem e_Asg : dAsg fe gd δ = (fe δ).bind fun a => match gd a.1 a.2 with
  | some δ' => .ok (.nx, δ')
  | none => .bad := rfl
@[simp] theorem e_Par : dPar i j fr δ = (fr δ).bind fun a => match a.1 with
  | [x, y] => (match slSet i (.d x) a.2 with
    | .ok (_, δ1) => slSet j (.d y) δ1
    | _ => .bad)
  | _ => .bad := rfl
@[simp] theorem e_App : dApp i fe δ = if hasOwn i δ then (fe δ).bind fun a => slPut i (fun xs => if xs.length < 1000000 then some (xs ++ [a.1]) else none) a.2 else .bad := rfl
@[simp] theorem e_SetIx : dSetIx i fk fe δ = (fe δ).bind fun a => if hasOwn i a.2 then (fk a.2).bind fun k => slPut i (fun xs => match k.1 with
  | .int j => (ixN xs.length j).map fun m => xs.set m a.1
  | _ => none) k.2 else .bad := rfl
@[simp] theorem e_slPut {h : List D → Option (List D)} : slPut i h δ = match δ[i]? with
  | some s => (match s.get? with
    | some xs => (match h xs with
      | some ys => .ok (.nx, δ.set i (s.put ys))
      | none => .bad)
    | none => .bad)
  | none => .bad := rfl
@[simp] theorem e_Isi {h : D → Option Bool} : dIsi h fa δ = (fa δ).bind fun a => match h a.1 with
  | some b => .ok (.bl b, a.2)
  | none => .bad := rfl
@[simp] theorem e_Neg_int : dNeg (dC (.int a)) δ = .ok (.int (-a), δ) := rfl
@[simp] theorem e_Yes : dYes δ = .ok (true, δ) := rfl
@[simp] theorem p_Ix_tup : pIx (.tup xs) (.int a) = L2.atI xs a := rfl
@[simp] theorem p_Ix_lst : pIx (.lst xs) (.int a) = L2.atI xs a := rfl
@[simp] theorem p_Ix_scr {ns : List Int} : pIx (.scr ns) (.int a) = (L2.atI ns a).map .int := rfl
@[simp] theorem p_Len_tup : pLen [.tup xs] = some (.int xs.length) := rfl
@[simp] theorem p_Len_lst : pLen [.lst xs] = some (.int xs.length) := rfl
@[simp] theorem p_Len_scr {ns : List Int} : pLen [.scr ns] = some (.int ns.length) := rfl
@[simp] theorem p_Tuple_tup : pTuple [.tup xs] = some (.tup xs) := rfl
@[simp] theorem p_Tuple_lst : pTuple [.lst xs] = some (.tup xs) := rfl
@[simp] theorem p_items_tup : items (.tup xs) = some xs := rfl
@[simp] theorem p_items_lst : items (.lst xs) = some xs := rfl
@[simp] theorem p_Lt : pLt (.int a) (.int b) = some (.bl (decide (a < b))) := rfl
@[simp] theorem p_Le : pLe (.int a) (.int b) = some (.bl (decide (a ≤ b))) := rfl
@[simp] theorem p_Gt : pGt (.int a) (.int b) = some (.bl (decide (b < a))) := rfl
@[simp] theorem p_Ge : pGe (.int a) (.int b) = some (.bl (decide (b ≤ a))) := rfl
@[simp] theorem p_Add_int : pAdd (.int a) (.int b) = some (.int (a + b)) := rfl
@[simp] theorem p_Add_tup : pAdd (.tup xs) (.tup ys) = if xs.length + ys.length ≤ 10000 then some (.tup (xs ++ ys)) else none := rfl
@[simp] theorem p_Add_lst : pAdd (.lst xs) (.lst ys) = if xs.length + ys.length ≤ 1000000 then some (.lst (xs ++ ys)) else none := rfl
@[simp] theorem p_Sub : pSub (.int a) (.int b) = some (.int (a - b)) := rfl
@[simp] theorem p_Mul : pMul (.int a) (.int b) = if a.natAbs < 18446744073709551616 ∨ b.natAbs < 18446744073709551616 then some (.int (a * b)) else none := rfl
@[simp] theorem p_Mod : pMod (.int a) (.int b) = if 0 < b then some (.int (a % b)) else none := rfl
@[simp] theorem p_Div : pDiv (.int a) (.int b) = if 0 < b ∧ b.natAbs < 1073741824 then some (.int (a / b)) else none := rfl
@[simp] theorem p_Int : pInt [.int a] = some (.int a) := rfl
@[simp] theorem p_isInt_int : isInt (.int a) = some true := rfl
@[simp] theorem p_isBool_int : isBool (.int a) = some false := rfl
@[simp] theorem p_isTuple_tup : isTuple (.tup xs) = some true := rfl
@[simp] theorem p_isStr_str {z : Str} : isStr (.str z) = some true := rfl
end
def dOut : Rx (Fl × List Sl) → Rx Rv
  | .ok (.rt x, _) => .ok (.d x)
  | .ok (.ro xs, _) => .ok (.own xs)
  | .ok (.nx, _) => .ok (.d .non)
  | .exc c fs _ => .exc c fs []
  | _ => .bad
theorem dFn_eq {k m : Nat} {g : DS0} {ds : List D} (h : ds.length = k) : dFn k m g ds = dOut (g (ds.map .d ++ List.replicate (m - k) .no)) := by
  unfold dFn
  rw [if_pos h]
  unfold dOut
  cases e : g (ds.map .d ++ List.replicate (m - k) .no) with
  | bad => rfl
  | exc c fs δ => rfl
  | ok q =>
    obtain ⟨fl, δ⟩ := q
    cases fl <;> rfl
@[simp] theorem dOut_rt {x : D} {δ : List Sl} : dOut (.ok (.rt x, δ)) = .ok (.d x) := rfl
@[simp] theorem dOut_ro {xs : List D} {δ : List Sl} : dOut (.ok (.ro xs, δ)) = .ok (.own xs) := rfl
@[simp] theorem dOut_nx {δ : List Sl} : dOut (.ok (.nx, δ)) = .ok (.d .non) := rfl
def dOutM : Rx (Fl × List Sl) → Rx (Rv × List D)
  | .ok (fl, δ) => dFin fl δ[0]?
  | _ => .bad
theorem dFnM_eq {k m : Nat} {g : DS0} {ps ds : List D} (h : ds.length + 1 = k) : dFnM k m g ps ds = dOutM (g (.lent ps :: ds.map .d ++ List.replicate (m - k) .no)) := by
  unfold dFnM
  rw [if_pos h]
  unfold dOutM
  cases e : g (.lent ps :: ds.map .d ++ List.replicate (m - k) .no) with
  | bad => rfl
  | exc c fs δ => rfl
  | ok q => rfl
@[simp] theorem dOutM_rt {x : D} {qs : List D} {δ : List Sl} : dOutM (.ok (.rt x, .lent qs :: δ)) = .ok (.d x, qs) := rfl
@[simp] theorem dOutM_ro {xs qs : List D} {δ : List Sl} : dOutM (.ok (.ro xs, .lent qs :: δ)) = .ok (.own xs, qs) := rfl
@[simp] theorem dOutM_nx {qs : List D} {δ : List Sl} : dOutM (.ok (.nx, .lent qs :: δ)) = .ok (.d .non, qs) := rfl
section
variable {m : Nat} {g : DS0} {a b c d e : D} {ps : List D}
@[simp] theorem dFn1 : dFn 1 m g [a] = dOut (g (.d a :: List.replicate (m - 1) .no)) := dFn_eq rfl
@[simp] theorem dFn2 : dFn 2 m g [a, b] = dOut (g (.d a :: .d b :: List.replicate (m - 2) .no)) := dFn_eq rfl
@[simp] theorem dFn3 : dFn 3 m g [a, b, c] = dOut (g (.d a :: .d b :: .d c :: List.replicate (m - 3) .no)) := dFn_eq rfl
@[simp] theorem dFn4 : dFn 4 m g [a, b, c, d] = dOut (g (.d a :: .d b :: .d c :: .d d :: List.replicate (m - 4) .no)) := dFn_eq rfl
@[simp] theorem dFn5 : dFn 5 m g [a, b, c, d, e] = dOut (g (.d a :: .d b :: .d c :: .d d :: .d e :: List.replicate (m - 5) .no)) := dFn_eq rfl
@[simp] theorem dFnM1 : dFnM 1 m g ps [] = dOutM (g (.lent ps :: List.replicate (m - 1) .no)) := dFnM_eq rfl
@[simp] theorem dFnM2 : dFnM 2 m g ps [a] = dOutM (g (.lent ps :: .d a :: List.replicate (m - 2) .no)) := dFnM_eq rfl
@[simp] theorem dFnM3 : dFnM 3 m g ps [a, b] = dOutM (g (.lent ps :: .d a :: .d b :: List.replicate (m - 3) .no)) := dFnM_eq rfl
@[simp] theorem dFnM4 : dFnM 4 m g ps [a, b, c] = dOutM (g (.lent ps :: .d a :: .d b :: .d c :: List.replicate (m - 4) .no)) := dFnM_eq rfl
end
@[simp] theorem rep1 : List.replicate 1 Sl.no = [.no] := rfl
@[simp] theorem rep2 : List.replicate 2 Sl.no = [.no, .no] := rfl
@[simp] theorem rep3 : List.replicate 3 Sl.no = [.no, .no, .no] := rfl
@[simp] theorem rep4 : List.replicate 4 Sl.no = [.no, .no, .no, .no] := rfl
@[simp] theorem rep5 : List.replicate 5 Sl.no = [.no, .no, .no, .no, .no] := rfl
@[simp] theorem rep6 : List.replicate 6 Sl.no = [.no, .no, .no, .no, .no, .no] := rfl
@[simp] theorem rep7 : List.replicate 7 Sl.no = [.no, .no, .no, .no, .no, .no, .no] := rfl
@[simp] theorem rep8 : List.replicate 8 Sl.no = [.no, .no, .no, .no, .no, .no, .no, .no] := rfl
theorem dLc_map {fi : DI0} {gd : GD} {fe : DE0} {vs : List Nat} {δ : List Sl} {xs : List D} (g : D → D) (hfi : fi δ = .ok (xs, δ)) (hlen : xs.length ≤ 1000000)
    (h : ∀ x ∈ xs, wipeOk δ vs = true ∧ ∃ δ1 δ3, gd x (dWipe δ vs) = some δ1 ∧ fe δ1 = .ok (g x, δ3) ∧ dBack δ δ3 vs = δ) : dLc fi gd dYes fe vs δ = .ok (xs.map g, δ) := by
  have go : ∀ ys : List D, (∀ x ∈ ys, x ∈ xs) → dLcL gd dYes fe vs ys δ = .ok (ys.map g, δ) := by
    intro ys
    induction ys with
    | nil => intro _; rfl
    | cons y ys ih =>
      intro hs
      obtain ⟨h1, δ1, δ3, h2, h3, h4⟩ := h y (hs y List.mem_cons_self)
      rw [dLcL, if_pos h1, h2]
      simp only [dYes, h3, h4]
      rw [ih fun x hx => hs x (List.mem_cons_of_mem _ hx)]
      rfl
  unfold dLc
  rw [hfi]
  simp only [Rx.bind, if_pos hlen]
  exact go xs fun _ hx => hx
theorem upto0 {n : Nat} : upto 0 n = (List.range n).map fun i => .int (i : Nat) := by
  unfold upto
  refine List.map_congr_left fun i _ => ?_
  rw [Int.zero_add]
/-- one round of a comprehension without tests -/
def lcStep (gd : GD) (fe : DE0) (vs : List Nat) (δ : List Sl) (x : D) : Rx (D × List Sl) := if wipeOk δ vs then match gd x (dWipe δ vs) with
  | none => .bad
  | some δ1 => (fe δ1).bind fun q => .ok (q.1, dBack δ q.2 vs) else .bad
theorem lcStep_inv {gd : GD} {fe : DE0} {vs : List Nat} {δ δ' : List Sl} {x y : D} (h : lcStep gd fe vs δ x = .ok (y, δ')) : wipeOk δ vs = true ∧ ∃ δ1 δ3, gd x (dWipe δ vs) = some δ1 ∧ fe δ1 = .ok (y, δ3) ∧ dBack δ δ3 vs = δ' := by
  unfold lcStep at h
  split at h
  · rename_i c
    cases e : gd x (dWipe δ vs) with
    | none => rw [e] at h; cases h
    | some δ1 =>
      rw [e] at h
      simp only at h
      cases e2 : fe δ1 with
      | bad => rw [e2] at h; cases h
      | exc c fs δ2 => rw [e2] at h; cases h
      | ok q =>
        rw [e2] at h
        cases h
        exact ⟨c, δ1, q.2, rfl, e2, rfl⟩
  · cases h
/-- over n things, the state may go on -/
theorem dLc_st {fi : DI0} {gd : GD} {fe : DE0} {vs : List Nat} {δ : List Sl} {n : Nat} (r g : Nat → D) (st : Nat → List Sl) (hfi : fi δ = .ok ((List.range n).map r, st 0)) (hlen : n ≤ 1000000)
    (h : ∀ i < n, lcStep gd fe vs (st i) (r i) = .ok (g i, st (i + 1))) : dLc fi gd dYes fe vs δ = .ok ((List.range n).map g, st n) := by
  have go : ∀ k m : Nat, m + k = n → dLcL gd dYes fe vs ((List.range' m k).map r) (st m) = .ok ((List.range' m k).map g, st n) := by
    intro k
    induction k with
    | zero =>
      intro m hm
      have e : m = n := hm
      subst e
      rfl
    | succ k ih =>
      intro m hm
      obtain ⟨h1, δ1, δ3, h2, h3, h4⟩ := lcStep_inv (h m (by omega))
      rw [List.range'_succ, List.map_cons, List.map_cons, dLcL, if_pos h1, h2]
      simp only [dYes, h3, h4]
      rw [ih (m + 1) (by omega)]
  unfold dLc
  rw [hfi]
  have hl : ((List.range n).map r).length ≤ 1000000 := by simpa using hlen
  simp only [Rx.bind, if_pos hl]
  have e := go n 0 (by omega)
  rw [← List.range_eq_range'] at e
  exact e
/-- over n things -/
theorem dLc_gen {fi : DI0} {gd : GD} {fe : DE0} {vs : List Nat} {δ : List Sl} {n : Nat} (r g : Nat → D) (hfi : fi δ = .ok ((List.range n).map r, δ)) (hlen : n ≤ 1000000)
    (h : ∀ i < n, lcStep gd fe vs δ (r i) = .ok (g i, δ)) : dLc fi gd dYes fe vs δ = .ok ((List.range n).map g, δ) := dLc_st r g (fun _ => δ) hfi hlen h
/-- a for over n things -/
def forStep (gd : GD) (fb : DS0) (δ : List Sl) (x : D) : Rx (Fl × List Sl) := match gd x δ with
  | none => .bad
  | some δ1 => fb δ1
theorem dForL_st {gd : GD} {fb : DS0} {n : Nat} (r : Nat → D) (st : Nat → List Sl) (h : ∀ i < n, forStep gd fb (st i) (r i) = .ok (.nx, st (i + 1))) : dForL gd fb ((List.range n).map r) (st 0) = .ok (.nx, st n) := by
  have go : ∀ k m : Nat, m + k = n → dForL gd fb ((List.range' m k).map r) (st m) = .ok (.nx, st n) := by
    intro k
    induction k with
    | zero =>
      intro m hm
      have e : m = n := hm
      subst e
      rfl
    | succ k ih =>
      intro m hm
      have hh := h m (by omega)
      unfold forStep at hh
      cases e : gd (r m) (st m) with
      | none => rw [e] at hh; cases hh
      | some δ1 =>
        rw [e] at hh
        simp only at hh
        rw [List.range'_succ, List.map_cons, dForL, e]
        simp only [hh, Rx.bind]
        exact ih (m + 1) (by omega)
  have e := go n 0 (by omega)
  rw [← List.range_eq_range'] at e
  exact e
theorem rev_range {n : Nat} {α : Type} (r : Nat → α) : ((List.range n).map r).reverse = (List.range n).map fun j => r (n - 1 - j) := by
  refine List.ext_getElem (by simp) fun i h1 h2 => ?_
  simp
theorem atI_nat {α : Type} {xs : List α} {i : Nat} (h : i < xs.length) : L2.atI xs (i : Int) = some xs[i] := by
  unfold L2.atI L2.ixN
  rw [if_pos (by omega), if_pos (by exact_mod_cast h)]
  simp [h]
@[simp] theorem atI_0 {α : Type} {x : α} {xs : List α} : L2.atI (x :: xs) 0 = some x := by
  have := atI_nat (xs := x :: xs) (i := 0) (by simp)
  simpa using this
/-- rows of a map -/
def mk (h w : Nat) (f : Nat → Nat → D) : D := .tup ((List.range h).map fun i => .tup ((List.range w).map fun j => f i j))
@[simp] theorem mk_tup {h w : Nat} {f : Nat → Nat → D} {i : Nat} (hi : i < h) : pIx (mk h w f) (.int (i : Nat)) = some (.tup ((List.range w).map fun j => f i j)) := by
  unfold mk
  rw [p_Ix_tup, atI_nat (by simpa using hi)]
  simp
@[simp] theorem mk_row {w : Nat} {g : Nat → D} {j : Nat} (hj : j < w) : L2.atI ((List.range w).map g) (j : Int) = some (g j) := by
  rw [atI_nat (by simpa using hj)]
  simp
theorem mk_congr {h w : Nat} {f g : Nat → Nat → D} (e : ∀ i < h, ∀ j < w, f i j = g i j) : mk h w f = mk h w g := by
  unfold mk
  congr 1
  refine List.map_congr_left fun i hi => ?_
  congr 1
  refine List.map_congr_left fun j hj => ?_
  exact e i (List.mem_range.mp hi) j (List.mem_range.mp hj)
end DL

set_option Elab.async false
set_option linter.all false
set_option maxRecDepth 100000
set_option maxHeartbeats 2000000
set_option autoImplicit false
/-! DLo: own exceptions raised. -/
namespace DL
open PySem PySem.Spec L2
/-- an __init__ that keeps one field -/
def spIni (K : PySem.W.Frag) (f : Str) : Sp := fun vs H Q _ => ∃ (a C : Addr) (y : V), vs = [.ref a, y] ∧ OexC K C ∧ PySem.W.findIn K (.ref C) f = some none ∧ H a = some (exo a C none) ∧ ∀ dx, H dx = none → dx ≠ a → Q .non (upd (upd H dx (exd dx [(f, y)])) a (exo a C (some dx)))
theorem ok_ini {P : Program} {w : World} {K : PySem.W.Frag} {mg : Str → Option Value} {base : Heap} {x qual f y : Str} {params : Arguments} {scope : Scope} {fI : Addr} {fd : FuncData} {p1 p2 p3 p4 : Pos}
    (F : FunD K x qual params [.Assign [.Attribute (.Name "self" p1) f p2] (.Name y p3) p4] scope [] [] fI fd) (S : FnScope ["self", y] ["self", y] scope)
    (hs : ∀ env : Env, swapsWith (.Name y p3) (some (.Attribute (.Name "self" p1) f p2)) p4.line env = pure false := by intro _; rfl)
    (v0 : Vis scope "self" := by first | exact Or.inl rfl | exact Or.inr (Or.inl rfl) | exact Or.inr (Or.inr rfl)) (v1 : Vis scope y := by first | exact Or.inl rfl | exact Or.inr (Or.inl rfl) | exact Or.inr (Or.inr rfl))
    (d0 : (y == ("__debug__" : Str)) = false := by decide) (d1 : (y == ("__classdict__" : Str)) = false := by decide) : FnOk P w K mg base (L2.CX P w) 1 fI fd ["self", y] (spIni K f) := by
  refine F.ok S (fun vs H Q E h => ?_) fun cdv A outer s H vs Q E hr h => ⟨tOst K f (tVar 0) (tVar 1), PSs.nox ?_, ?_⟩
  · obtain ⟨a, C, z, e, _⟩ := h
    rw [e]
    rfl
  · exact pss_one (ps_ost (pv 0 rfl v0 (by decide) (by decide)) (pv 1 rfl v1 d0 d1) (hs _))
  · obtain ⟨a, C, z, e, T, nf, ha, q⟩ := h
    subst e
    refine ⟨z, rfl, .ref a, rfl, a, C, rfl, T, nf, .inl ⟨ha, fun dx h1 h2 => ?_⟩⟩
    exact q dx h1 h2
/-- an own exception class of one field, called by its name -/
structure Exk (P : Program) (w : World) (K : PySem.W.Frag) (mg : Str → Option Value) (base : Heap) (x f : Str) (n : En) : Prop where
  ex : ∃ (C fI : Addr) (fd : FuncData) (y : Str), n.cn x = some C ∧ mg x = some (.ref C) ∧ OexC K C ∧ PySem.W.findIn K (.ref C) "__init__" = some (some (.ref fI)) ∧ PySem.W.typeIn K (.ref fI) = some (.type "function") ∧
    FnOk P w K mg base (L2.CX P w) 1 fI fd ["self", y] (spIni K f) ∧ Binds K fd ["self", y] [] ∧ PySem.W.findIn K (.ref C) f = some none
def dRaise (c f : Str) (fr : DA0) : DS0 := fun δ => (fr δ).bind fun a => match a.1 with
  | [v] => .exc c [(f, v)] a.2
  | _ => .bad
theorem passes_none {P : Program} {w : World} {X : Cx} : Passes (L2.CX P w) X (fun _ _ _ => False) := fun _ _ _ _ _ _ _ h => by
  obtain ⟨_, _, _, _, _, _, _, _, _, _, _, _, z⟩ := h
  exact z.elim
section
variable {X : Cx} {n : En} {W : WX} {e : Expr} {tr : TA} {fr : DA0} {x f : Str} {p pos pos' : Pos}
theorem del_upd {H : Hp} {a dx : Addr} {C : Addr} {u1 u2 u3 u4 : HO} (ha : H a = none) (ne : dx ≠ a) : upd (del (upd (upd (upd H a u1) dx u2) a u3) a) dx u4 = upd H dx u4 := by
  funext b
  unfold upd del
  by_cases h : b = dx
  · rw [if_pos h, if_pos h]
  · rw [if_neg h, if_neg h]
    by_cases h2 : b = a
    · rw [if_pos h2, h2, ha]
    · simp only [if_neg h2, if_neg h]
def tRaiseK (K : PySem.W.Frag) (x : Str) (cn : Nm) (f : Str) (W : WX) (ta : TA) : TS := fun _ σ H => ∃ C, cn x = some C ∧ tMkO C (spIni K f) [] ta σ H (fun cls d H' => W cls d σ H')
theorem ds_raise (C : Exk X.prog X.w X.K X.mg X.base x f n) (o : Ok X n) (hr : RoomG 2 X.A) (tk : Takes X W) (ha : DA X n W [e] tr fr) (hg : Gl X x := by rfl) (hdb : (x == ("__debug__" : Str)) = false := by decide)
    (he : starEach [e] X.env = (false, eval e X.env) :: starEach [] X.env := by rfl) (hpl : (backTo pos (starEach [] X.env)).any (·.1) = false := by rfl) :
    DS X n W (.Raise (some (.Call (.Name x p) [e] [] pos)) none pos') (tRaiseK n.K x n.cn f W tr) (dRaise x f fr) := by
  obtain ⟨C, fI, fd, y, hcn, hm, T, iC, tI, G, hb, nf⟩ := C.ex
  refine ⟨?_, ?_⟩
  · have pm := pmk_oex (X := X) (p := p) (pos := pos) T iC tI G hr.room hb .nil passes_none hg hm ha.p hdb he hpl
    have h := ps_raise (pos := pos') o.calm tk pm
    refine ⟨fun pins s σ H D I q => ?_⟩
    obtain ⟨C', h1, h2⟩ := q
    rw [hcn] at h1
    cases h1
    rw [← o.k] at h2
    exact h.run pins s σ H D I h2
  · intro σ δ F H d S hP
    refine ⟨C, hcn, ?_⟩
    refine ha.s.go PL.s S hP fun xs δ1 F1 H1 vs S1 st1 r1 h1 => ?_
    simp only at h1
    match xs, vs, r1, h1 with
    | [v], [u], .cons ru .nil, h1 =>
      refine ⟨by simp, fun a hH => ⟨a, C, u, rfl, o.k ▸ T, o.k ▸ nf, upd_same, fun dx h2 ne => ⟨rfl, dx, [(f, u)], upd_same, ?_, ?_, ?_⟩⟩⟩
      · rw [upd_ne ne]
        exact upd_same
      · rw [upd_ne ne] at h2
        exact h2
      · rw [del_upd (C := C) hH ne]
        rw [upd_ne ne] at h2
        exact h1 σ F1 _ (.ref C) (some dx) (S1.newH _ h2) (Stp.newH S1 _ h2) ⟨C, hcn, rfl, .inr ⟨dx, [(f, u)], rfl, upd_same, .cons ru .nil⟩⟩
    | [], _, _, h1 => exact h1.elim
    | _ :: _ :: _, _, _, h1 => exact h1.elim
end
end DL

set_option Elab.async false
set_option linter.all false
set_option maxRecDepth 100000
set_option maxHeartbeats 2000000
set_option autoImplicit false
/-! DLp: try with several except clauses, some of which name the exception. -/
namespace DL
open PySem PySem.Spec L2 PyProof.Rows
abbrev Hsu : Type := Addr → Value → Option Addr → TS
/-- the ends of a suite whose clause names the exception in slot i -/
def Ends.gone (D : Ends) (i : Nat) : Ends := { nx := fun σ1 H1 => D.nx (σ1.set i none) H1, rt := D.rt, bk := fun σ1 H1 => D.bk (σ1.set i none) H1, ct := fun σ1 H1 => D.ct (σ1.set i none) H1 }
/-- one clause: its class, the slot of its name, its suite -/
structure Cl where
  c : Value
  nm : Option Nat
  su : Hsu
def Cl.go (k : Cl) (a : Addr) (cls : Value) (d : Option Addr) (D : Ends) (σ : L2.St) (H : Hp) : Prop := match k.nm with
  | none => k.su a cls d D σ H
  | some i => k.su a cls d (Ends.gone D i) (σ.set i (some (.ref a))) H
def wCls (K : PySem.W.Frag) (Wout : WX) (D : Ends) : List Cl → WX
  | [] => Wout
  | k :: ks => fun cls d σ H => ∃ b, PySem.W.exmOne K cls k.c = some b ∧ (b = true → ∀ a, H a = none → k.go a cls d D σ H) ∧ (b = false → wCls K Wout D ks cls d σ H)
def nmOk (X : Cx) : Option Nat → Option Str → Prop
  | none, none => True
  | some i, some n => X.N[i]? = some n ∧ X.env.kindOf n = some .local
  | _, _ => False
inductive ClsOk (X : Cx) : List ExceptHandler → List Cl → Prop
  | nil : ClsOk X [] []
  | cons {x : Str} {k : Cl} {o : Option Str} {b0 : Stmt} {rest : List Stmt} {q1 q2 : Pos} {hs : List ExceptHandler} {ks : List Cl} (named : Names X x k.c) (slot : nmOk X k.nm o)
      (walk : ∀ (a : Addr) (ob : Obj) (cls : Value) (d : Option Addr) (pn : List (Addr × Obj)), Zc cls d ob → (∃ fs, ob.data = .fields fs) → PSs (X.suite a ((a, ob) :: pn)) (b0 :: rest) (k.su a cls d)) (more : ClsOk X hs ks) :
      ClsOk X (.ExceptHandler (some (.Name x q1)) o (b0 :: rest) q2 :: hs) (k :: ks)
section
variable {X : Cx} {body : List Stmt} {hd : ExceptHandler} {tl : List ExceptHandler} {ks : List Cl} {pos : Pos} {tb : WX → TS} {Wout : WX}
/-- a caught exception at a, its landing heap g -/
structure Lnd (X : Cx) (pins : List (Addr × Obj)) (B : Heap) (sI s1 : Shared) (a : Addr) (cls : Value) (d : Option Addr) (σ : L2.St) (H : Hp) (g : Heap) : Prop where
  fl : HandSPX.FlyingZ B (X.env :: X.outer) a (Zc cls d) g
  inv : Inv X pins σ H sI
  na : H a = none
theorem ps_try_cls (hs : X.stack = X.env :: X.outer) (hf : X.env.frame = some X.env.locals) (nd : X.N.Nodup) (tk : Takes X Wout)
    (hb : ∀ (W : WX) (pn : List (Addr × Obj)) (xe : Value → Shared → Prop), Takes (X.tr pn xe) W → PassesOwn (model X.prog X.w) X.A X.env xe → PSs (X.tr pn xe) body (tb W))
    (hk : ClsOk X (hd :: tl) ks) : PS X (.Try body (hd :: tl) [] [] pos) (fun D σ H => tb (wCls X.K Wout D ks) D σ H) := by
  constructor
  intro pins s0 σ0 H0 D I0 wish
  have okX := I0.ok
  have frs0 : X.A.frames = some (X.env :: X.outer) := okX.frames.trans (by rw [hs])
  apply wpAny_Try_except
  let xe : Value → Shared → Prop := fun e t1 => wpAny (model X.prog X.w) X.A (noteFrame e X.env) (fun _ t2 => wpAny (model X.prog X.w) X.A (setFlight e none) (fun _ t3 =>
    wpAny (model X.prog X.w) X.A (handleBy e X.env (hd :: tl)) (SP X pins D) X.xe t3) X.xe t2) X.xe t1
  have caught : Takes (X.tr (X.pn ++ pins) xe) (wCls X.K Wout D ks) := by
    intro u t1 air
    obtain ⟨a, B, tI, pins', σ1, H1, cls, d, eu, J', nb, up, sky, na, os, ag, w1⟩ := air
    subst eu
    have J : Inv X pins σ1 H1 tI := J'.ofTry okX
    rw [hs] at sky
    show wpAny (model X.prog X.w) X.A (noteFrame (.ref a) X.env) _ _ _
    refine Sky.land Zc.steady frs0 hf sky fun g3 fl3 up3 => ?_
    have K3 : Inv X pins σ1 H1 { t1 with heap := g3 } := J.landed nb fl3.1 (up.trans up3) os ag
    obtain ⟨ob3, fs3, at3, z3, dat3⟩ := fl3.there
    have offF : a ∉ frs (X.env :: X.outer) := by
      intro hm
      obtain ⟨_, ob', e', bad⟩ := fl3.2.2.1.mem hm
      rw [at3] at e'
      cases e'
      exact bad _ dat3
    have offL : a ≠ X.env.locals := fun q => offF (List.mem_filterMap.mpr ⟨X.env, List.mem_cons_self, by rw [hf, q]⟩)
    have offS : a ∉ X.fs := by
      intro hm
      obtain ⟨en, hen, q⟩ := List.mem_filterMap.mp hm
      exact offF (List.mem_filterMap.mpr ⟨en, List.mem_cons_of_mem _ hen, q⟩)
    have U3 := K3.suite at3 dat3 na offL offS
    have each : ∀ {hs' : List ExceptHandler} {ks' : List Cl}, ClsOk X hs' ks' → wCls X.K Wout D ks' cls d σ1 H1 → wpAny (model X.prog X.w) X.A (handleBy (.ref a) X.env hs') (SP X pins D) X.xe { t1 with heap := g3 } := by
      intro hs' ks' ok'
      induction ok' with
      | nil =>
        intro out
        apply wpAny_handleBy_nil
        obtain ⟨_, _, _, ob, fs, T, oT, _, hob, _, hfs, hT, _⟩ := id fl3
        unfold PySem.passOn
        refine wpAny_bind (wpAny_field hob hfs hT ?_)
        rw [if_neg (by simp)]
        have away : wpAny (model X.prog X.w) X.A (setFlight (.ref a) X.env.frame) (fun _ t4 => wpAny (model X.prog X.w) X.A (throw (.ref a) : Sem Flow) (SP X pins D) X.xe t4) X.xe { t1 with heap := g3 } := by
          rw [hf]
          refine HandSPX.setFlight_upZ fl3 fun g4 fly4 up4 => wpAny_throw (tk _ _ ?_)
          refine ⟨a, B, tI, pins, σ1, H1, cls, d, rfl, J, nb, (up.trans up3).trans up4, Or.inr (Or.inr ?_), na, os, ag, out⟩
          rw [hs]
          exact fly4
        first
          | exact wpAny_bind (wpAny_pure (wpAny_bind away))
          | exact wpAny_bind away
      | @cons x k o b0 rest q1 q2 hs2 ks2 named slot walk more ih =>
        intro wk
        obtain ⟨b, hexm, yes, no⟩ := wk
        refine wpAny_handleBy_cons (codeAny_handlers_test ?_) (fun q => nomatch q)
        have kindOf : PySem.W.Looks (model X.prog X.w) g3 (typeOf (.ref a)) cls := fun A Q E t keep q => wpAny_typeOf_ref (keep _ _ at3) (by rw [z3.1]; exact q)
        have look := PySem.W.exm_one (M := model X.prog X.w) K3.kIn kindOf hexm
        have asked : ∀ {Q : Value → Shared → Prop} {E : Value → Shared → Prop}, Q k.c { t1 with heap := g3 } → wpAny (model X.prog X.w) (X.A.mark (some (.ref a))) (eval (.Name x q1) X.env) Q E { t1 with heap := g3 } := by
          intro Q E q
          obtain ⟨gl, nodbg, at_ | ⟨none_, boot, nonm⟩⟩ := named
          · exact ld_glob (X := X.suite a ((a, ob3) :: (X.pn ++ pins))) U3 gl at_ q nodbg
          · exact ld_blt (X := X.suite a ((a, ob3) :: (X.pn ++ pins))) U3 gl none_ boot q nonm nodbg
        refine asked (look.here ?_)
        cases b with
        | false =>
          show wpAny _ X.A (handleBy (.ref a) X.env hs2) _ _ _
          exact ih (no rfl)
        | true =>
          have y := yes rfl a na
          obtain ⟨c, nm, su⟩ := k
          cases nm with
          | none =>
            cases o with
            | some _ => exact slot.elim
            | none =>
              apply codeAny_handlers_suite
              refine HandSPX.lands_againZ fl3 fun g4 fl4 up4 => ?_
              have K4 : Inv X pins σ1 H1 { t1 with heap := g4 } := J.landed nb fl4.1 ((up.trans up3).trans up4) os ag
              obtain ⟨ob4, fs4, at4, z4, dat4⟩ := fl4.there
              have U4 := K4.suite at4 dat4 na offL offS
              refine wpAny_mono ((walk a ob4 cls d (X.pn ++ pins) z4 ⟨_, dat4⟩).run [] _ _ H1 _ U4 y) (fun fl t6 end6 => ?_) (fun _ _ f => f.elim)
              cases fl with
              | next => obtain ⟨_, _, U6, q6⟩ := end6; exact ⟨_, _, U6.unsuite okX, q6⟩
              | brk => obtain ⟨_, _, U6, q6⟩ := end6; exact ⟨_, _, U6.unsuite okX, q6⟩
              | cont => obtain ⟨_, _, U6, q6⟩ := end6; exact ⟨_, _, U6.unsuite okX, q6⟩
              | ret u => obtain ⟨_, _, _, U6, r6, q6⟩ := end6; exact ⟨_, _, _, U6.unsuite okX, r6, q6⟩
          | some i =>
            cases o with
            | none => exact slot.elim
            | some n =>
              obtain ⟨hi, hl⟩ := slot
              apply codeAny_handlers_suite_as
              refine HandSPX.lands_againZ fl3 fun g4 fl4 up4 => ?_
              have K4 : Inv X pins σ1 H1 { t1 with heap := g4 } := J.landed nb fl4.1 ((up.trans up3).trans up4) os ag
              obtain ⟨ob4, fs4, at4, z4, dat4⟩ := fl4.there
              have U4 := K4.suite at4 dat4 na offL offS
              refine store_ok (X := X.suite a ((a, ob4) :: (X.pn ++ pins))) (v := .ref a) U4 nd hi (.inl hl) rfl (fun t5 U5 => ?_) (.inr hl)
              refine wpAny_mono ((walk a ob4 cls d (X.pn ++ pins) z4 ⟨_, dat4⟩).run [] t5 _ H1 _ U5 y) (fun fl t6 end6 => ?_) (fun _ _ f => f.elim)
              have leave : ∀ {σ6 : L2.St} {H6 : Hp} {Q : Shared → Prop}, Inv (X.suite a ((a, ob4) :: (X.pn ++ pins))) [] σ6 H6 t6 → (∀ t7, Inv X pins (σ6.set i none) H6 t7 → Q t7) →
                  wpAny (model X.prog X.w) X.A (do bindName X.env n .none; unbindBehindTheSuite X.env n q2) (fun _ t7 => Q t7) X.xe t6 := fun U6 hq => gone_ok (U6.unsuite okX) nd hi hl hq
              cases fl with
              | next => obtain ⟨_, _, U6, q6⟩ := end6; exact leave U6 fun t7 I7 => ⟨_, _, I7, q6⟩
              | brk => obtain ⟨_, _, U6, q6⟩ := end6; exact leave U6 fun t7 I7 => ⟨_, _, I7, q6⟩
              | cont => obtain ⟨_, _, U6, q6⟩ := end6; exact leave U6 fun t7 I7 => ⟨_, _, I7, q6⟩
              | ret u => obtain ⟨_, _, _, U6, r6, q6⟩ := end6; exact leave U6 fun t7 I7 => ⟨_, _, _, I7, r6, q6⟩
    exact each hk w1
  refine wpAny_mono ((hb (wCls X.K Wout D ks) (X.pn ++ pins) xe caught PassesOwn.looking).run [] s0 σ0 H0 D (I0.toTry _) wish) (fun fl t1 end1 => ?_) (fun _ _ he => he)
  cases fl with
  | next => obtain ⟨_, _, J1, q1⟩ := end1; exact wpAny_execs_nil ⟨_, _, J1.ofTry okX, q1⟩
  | brk => obtain ⟨_, _, J1, q1⟩ := end1; exact ⟨_, _, J1.ofTry okX, q1⟩
  | cont => obtain ⟨_, _, J1, q1⟩ := end1; exact ⟨_, _, J1.ofTry okX, q1⟩
  | ret u => obtain ⟨_, _, _, J1, r1, q1⟩ := end1; exact ⟨_, _, _, J1.ofTry okX, r1, q1⟩
end
end DL

set_option Elab.async false
set_option linter.all false
set_option maxRecDepth 100000
set_option maxHeartbeats 2000000
set_option autoImplicit false
/-! DLq: try / except told by data. -/
namespace DL
open PySem PySem.Spec L2
/-- what a clause does: for which classes, with which fields -/
structure Hdm where
  on : Str → Option Bool
  run : List (Str × D) → DS0
def noExc : Rx (Fl × List Sl) → Rx (Fl × List Sl)
  | .exc _ _ _ => .bad
  | r => r
def dCatch : List Hdm → Str → List (Str × D) → List Sl → Rx (Fl × List Sl)
  | [], c, fs, δ => .exc c fs δ
  | h :: hs, c, fs, δ => match h.on c with
    | some true => noExc (h.run fs δ)
    | some false => dCatch hs c fs δ
    | none => .bad
def dTry (fb : DS0) (hs : List Hdm) : DS0 := fun δ => match fb δ with
  | .exc c fs δ' => dCatch hs c fs δ'
  | r => r
/-- the exceptions that a look at the frame takes -/
def xeT (X : Cx) : Value → Shared → Prop := fun e t => wpAny (model X.prog X.w) X.A (noteFrame e X.env) (fun _ t2 => wpAny (model X.prog X.w) X.A (setFlight e none) (fun _ _ => True) (fun _ _ => True) t2) (fun _ _ => True) t
theorem takesT {X : Cx} {W : WX} {pn : List (Addr × Obj)} (hs : X.stack = X.env :: X.outer) (hf : X.env.frame = some X.env.locals) : Takes (X.tr pn (xeT X)) W := by
  intro u t air
  obtain ⟨a, B, tI, pins, σ, H, cls, d, eu, J, nb, up, sky, na, os, ag, w⟩ := air
  subst eu
  have sky2 : Sky B (X.env :: X.outer) a (Zc cls d) X.env.locals t.heap := by
    rw [← hs]
    exact sky
  have frs0 : X.A.frames = some (X.env :: X.outer) := J.ok.ofTry.frames.trans (by rw [hs])
  exact Sky.land (Q := fun _ _ => True) Zc.steady frs0 hf sky2 fun g fl up3 => trivial
section
variable {X : Cx} {n : En} {W : WX}
/-- a clause of the text, its walk and its meaning -/
structure HdL (X : Cx) (n : En) (h : ExceptHandler) (k : Cl) (m : Hdm) : Prop where
  one : ∀ {hs : List ExceptHandler} {ks : List Cl}, ClsOk X hs ks → ClsOk X (h :: hs) (k :: ks)
  exm : ∀ c b, m.on c = some b → ∀ C, n.cn c = some C → PySem.W.exmOne n.K (.ref C) k.c = some b
  sem : ∀ c fs σ δ F H cls d a D, m.on c = some true → Sta n.K n.cn σ δ F H → ExR n.K n.cn F H cls d c fs → H a = none → PostS n W0 σ δ F H (noExc (m.run fs δ)) D → k.go a cls d D σ H
inductive HdsL (X : Cx) (n : En) : List ExceptHandler → List Cl → List Hdm → Prop
  | nil : HdsL X n [] [] []
  | cons {h : ExceptHandler} {k : Cl} {m : Hdm} {hs : List ExceptHandler} {ks : List Cl} {ms : List Hdm} : HdL X n h k m → HdsL X n hs ks ms → HdsL X n (h :: hs) (k :: ks) (m :: ms)
theorem HdsL.ok {hs : List ExceptHandler} {ks : List Cl} {ms : List Hdm} (h : HdsL X n hs ks ms) : ClsOk X hs ks := by
  induction h with
  | nil => exact .nil
  | cons h _ ih => exact h.one ih
/-- the suite's ends, seen from behind the body -/
theorem PostS.sub {σ σ1 : L2.St} {δ δ1 : List Sl} {F H F1 H1 : Hp} {r : Rx (Fl × List Sl)} {D : Ends} (st : Stp σ δ F H σ1 δ1 F1 H1) (h : PostS n W σ δ F H r D) (nx : ∀ c fs δ', r ≠ .exc c fs δ') : PostS n W0 σ1 δ1 F1 H1 r D := by
  match r, h, nx with
  | .bad, h, _ => exact h.elim
  | .exc c fs δ', _, nx => exact absurd rfl (nx c fs δ')
  | .ok (.nx, δ'), h, _ => exact fun σ2 F2 H2 S2 st2 => h σ2 F2 H2 S2 (st.trans st2)
  | .ok (.bk, δ'), h, _ => exact fun σ2 F2 H2 S2 st2 => h σ2 F2 H2 S2 (st.trans st2)
  | .ok (.ct, δ'), h, _ => exact fun σ2 F2 H2 S2 st2 => h σ2 F2 H2 S2 (st.trans st2)
  | .ok (.rt x, δ'), h, _ => exact fun σ2 F2 H2 v S2 st2 => h σ2 F2 H2 v S2 (st.trans st2)
  | .ok (.ro xs, δ'), h, _ => exact fun σ2 F2 H2 p vs S2 st2 e1 e2 e3 => h σ2 F2 H2 p vs S2 (st.trans st2) e1 e2 (st.wasNone e3)
theorem HdsL.go {hs : List ExceptHandler} {ks : List Cl} {ms : List Hdm} (h : HdsL X n hs ks ms) {σ σ1 : L2.St} {δ δ1 : List Sl} {F H F1 H1 : Hp} {c : Str} {fs : List (Str × D)} {cls : Value} {d : Option Addr} {D : Ends} (S : Sta n.K n.cn σ1 δ1 F1 H1) (st : Stp σ δ F H σ1 δ1 F1 H1) (x : ExR n.K n.cn F1 H1 cls d c fs)
    (hP : PostS n W σ δ F H (dCatch ms c fs δ1) D) : wCls n.K W D ks cls d σ1 H1 := by
  obtain ⟨C, hcn, ecls, _⟩ := id x
  induction h with
  | nil => exact hP σ1 F1 H1 cls d S st x
  | @cons h k m hs ks ms hl _ ih =>
    unfold dCatch at hP
    cases e : m.on c with
    | none => rw [e] at hP; exact hP.elim
    | some b =>
      rw [e] at hP
      refine ⟨b, ecls ▸ hl.exm c b e C hcn, fun hb a na => ?_, fun hb => ?_⟩
      · subst hb
        refine hl.sem c fs σ1 δ1 F1 H1 cls d a D e S x na (hP.sub st fun c' fs' δ' q => ?_)
        cases e2 : m.run fs δ1 with
        | bad => rw [e2] at q; cases q
        | ok _ => rw [e2] at q; cases q
        | exc _ _ _ => rw [e2] at q; cases q
      · subst hb
        exact ih hP
theorem ds_try {body : List Stmt} {hd : ExceptHandler} {tl : List ExceptHandler} {ks : List Cl} {ms : List Hdm} {pos : Pos} {tb : WX → TS} {fb : DS0} (o : Ok X n) (tk : Takes X W) (hk : HdsL X n (hd :: tl) ks ms)
    (hb : ∀ (W' : WX) (pn : List (Addr × Obj)) (xe : Value → Shared → Prop), Takes (X.tr pn xe) W' → Ok (X.tr pn xe) n → DSs (X.tr pn xe) n W' body (tb W') fb)
    (hs : X.stack = X.env :: X.outer := by rfl) (hf : X.env.frame = some X.env.locals := by rfl) : DS X n W (.Try body (hd :: tl) [] [] pos) (fun D σ H => tb (wCls n.K W D ks) D σ H) (dTry fb ms) := by
  refine ⟨?_, ?_⟩
  · have h := ps_try_cls (pos := pos) hs hf o.nd tk (fun W' pn xe t p => (hb W' pn xe t ⟨o.k, o.u, o.calm, o.nd, p, o.g⟩).p) hk.ok
    rw [o.k] at h
    exact h
  · intro σ δ F H D S hP
    have sm := (hb (wCls n.K W D ks) X.pn (xeT X) (takesT hs hf) ⟨o.k, o.u, o.calm, o.nd, PassesOwn.looking, o.g⟩).s
    refine sm σ δ F H D S ?_
    unfold dTry at hP
    cases e : fb δ with
    | bad => rw [e] at hP; exact hP
    | exc c fs δ1 =>
      rw [e] at hP
      exact fun σ1 F1 H1 cls dd S1 st x => hk.go S1 st x hP
    | ok q =>
      rw [e] at hP
      obtain ⟨fl, δ1⟩ := q
      cases fl <;> exact hP
end
end DL

set_option Elab.async false
set_option linter.all false
set_option maxRecDepth 100000
set_option maxHeartbeats 2000000
set_option autoImplicit false
/-! DLr: the forms of except clauses. -/
namespace DL
open PySem PySem.Spec L2
section
variable {K : PySem.W.Frag} {cn : Nm} {σ : L2.St} {δ : List Sl} {F H : Hp}
/-- a slot that holds nothing may hold anything -/
theorem Sta.idle (S : Sta K cn σ δ F H) {i : Nat} (hi : δ[i]? = some .no) (w : Option V) : Sta K cn (σ.set i w) δ F H ∧ Stp σ δ F H (σ.set i w) δ F H := by
  have ne : ∀ {j : Nat} {s : Sl}, δ[j]? = some s → s ≠ .no → j ≠ i := fun hj hn e => by
    subst e
    rw [hi] at hj
    cases hj
    exact hn rfl
  have old : ∀ {j : Nat} {p : Addr}, OwnAt (σ.set i w) δ j p → OwnAt σ δ j p := fun {j p} h => by
    obtain ⟨⟨xs, hx⟩, e⟩ := h
    have q : j ≠ i := by rcases hx with hx | hx <;> exact ne hx (by simp)
    rw [List.getElem?_set_ne (Ne.symm q)] at e
    exact ⟨⟨xs, hx⟩, e⟩
  refine ⟨⟨?_, S.sub, fun j y h => ?_, fun j xs h => ?_, fun j k p a b => S.apart j k p (old a) (old b)⟩, ⟨Sub.refl _, fun a o h _ => h, fun a h => h, fun a h _ _ => h, fun p ⟨j, h⟩ => .inl ⟨j, old h⟩, fun j xs h => ?_⟩⟩
  · rw [List.length_set]; exact S.len
  · rw [List.getElem?_set_ne (Ne.symm (ne h (by simp)))]
    exact S.dat j y h
  · have q : j ≠ i := by rcases h with h | h <;> exact ne h (by simp)
    rw [List.getElem?_set_ne (Ne.symm q)]
    exact S.own j xs h
  · rw [List.getElem?_set_ne (Ne.symm (ne h (by simp)))]
    exact ⟨⟨xs, h⟩, rfl⟩
theorem RpF.look {f : Str} {v : D} : ∀ {vs : List (Str × V)} {fs : List (Str × D)}, RpF K cn F vs fs → fs.lookup f = some v → ∃ u, vs.lookup f = some u ∧ Rp K cn F u v
  | _, _, .nil, h => by cases h
  | _, _, .cons (f := g) (v := u) (d := d) (vs := vs) (ds := ds) r rs, h => by
    rw [List.lookup_cons] at h ⊢
    cases e : f == g with
    | true =>
      rw [e] at h
      cases h
      exact ⟨u, rfl, r⟩
    | false =>
      rw [e] at h
      exact RpF.look rs h
end
/-- a class that a clause names: which of the classes raised it takes -/
structure Ecl (K : PySem.W.Frag) (mg : Str → Option Value) (n : En) (x : Str) (on : Str → Option Bool) : Prop where
  ex : ∃ C, mg x = some (.ref C) ∧ ∀ c b, on c = some b → ∀ A, n.cn c = some A → PySem.W.exmOne K (.ref A) (.ref C) = some b
/-- their field f may be read -/
def Efl (n : En) (on : Str → Option Bool) (f : Str) : Prop := ∀ c, on c = some true → ∀ A, n.cn c = some A → XfC n.K A ∧ PySem.W.findIn n.K (.ref A) f = some none
def clOf (mg : Str → Option Value) (x : Str) : Value := (mg x).getD .none
/-- the caught exception's field -/
def tXg (K : PySem.W.Frag) (a : Addr) (cls : Value) (d : Option Addr) (f : Str) (te : TE) : TE := fun σ H Q => ∃ C, XfC K C ∧ PySem.W.findIn K (.ref C) f = some none ∧ tXf a cls d C f te σ H Q
section
variable {X : Cx} {n : En} {W : WX}
theorem pe_xg {a : Addr} {ob : Obj} {cls : Value} {d : Option Addr} {pn : List (Addr × Obj)} {e : Expr} {te : TE} {pos : Pos} {f : Str} (hz : Zc cls d ob) (hf : ∃ vs, ob.data = .fields vs) (he : PE (X.suite a ((a, ob) :: pn)) e te) (hb : attributeBase e f X.env (eval e X.env) = eval e X.env := by rfl) :
    PE (X.suite a ((a, ob) :: pn)) (.Attribute e f pos) (tXg X.K a cls d f te) := ⟨fun pins s σ H Q I h => by
  obtain ⟨C, T, nf, q⟩ := h
  exact (pe_xf T nf hz hf he hb).run pins s σ H Q I q⟩
/-- what a field's reading gives in such a suite -/
theorem xg_run {f : Str} {on : Str → Option Bool} (xf : Efl n on f) {σ : L2.St} {δ : List Sl} {F H : Hp} {c : Str} {fs : List (Str × D)} {cls : Value} {d : Option Addr} {a : Addr} {i : Nat} {v : D} {Q : VK} (S : Sta n.K n.cn σ δ F H) (e : on c = some true) (x : ExR n.K n.cn F H cls d c fs) (hi : δ[i]? = some .no) (hv : fs.lookup f = some v)
    (h : ∀ u, Rp n.K n.cn F u v → Q u H) : tXg n.K a cls d f (tVar i) (σ.set i (some (.ref a))) H Q := by
  obtain ⟨C, hcn, ecls, q⟩ := x
  obtain ⟨T, nf⟩ := xf c e C hcn
  have hlt : i < σ.length := by
    rw [S.len]
    exact (List.getElem?_eq_some_iff.mp hi).1
  rcases q with ⟨e0, _⟩ | ⟨dd, vs, ed, hd, r⟩
  · rw [e0] at hv
    cases hv
  · obtain ⟨u, hu, ru⟩ := r.look hv
    exact ⟨C, T, nf, .ref a, List.getElem?_set_self hlt, rfl, ecls, dd, vs, u, ed, hd, hu, h u ru⟩
theorem set3 {α : Type} {i j : Nat} (h : i ≠ j) (xs : List α) (a b c : α) : ((xs.set i a).set j b).set i c = (xs.set j b).set i c := by
  rw [List.set_comm _ _ h, List.set_set]
/-- y = g(e.f) -/
def dHd (i j : Nat) (f : Str) (g : D → D) (fs : List (Str × D)) : DS0 := fun δ => match δ[i]?, fs.lookup f with
  | some .no, some v => if i = j then .bad else slSet j (.d (g v)) δ
  | _, _ => .bad
theorem noExc_slSet (j : Nat) (s : Sl) (δ : List Sl) : noExc (slSet j s δ) = slSet j s δ := by
  unfold slSet
  cases δ[j]? with
  | none => rfl
  | some o => cases o <;> rfl
theorem hd_inv {i j : Nat} {f : Str} {g : D → D} {fs : List (Str × D)} {σ : L2.St} {δ : List Sl} {F H : Hp} {T : Ends} (h : PostS n W0 σ δ F H (noExc (dHd i j f g fs δ)) T) : δ[i]? = some .no ∧ ∃ v, fs.lookup f = some v ∧ i ≠ j ∧ PostS n W0 σ δ F H (slSet j (.d (g v)) δ) T := by
  unfold dHd at h
  split at h
  · rename_i v e1 e2
    split at h
    · exact h.elim
    · rename_i ne
      rw [noExc_slSet] at h
      exact ⟨e1, v, e2, ne, h⟩
  · exact h.elim
theorem names_of {K : PySem.W.Frag} {x : Str} {on : Str → Option Bool} (E : Ecl K X.mg n x on) (hg : Gl X x) (hd : (x == ("__debug__" : Str)) = false) : Names X x (clOf X.mg x) := by
  obtain ⟨C, hm, _⟩ := E.ex
  refine ⟨hg, hd, .inl ?_⟩
  unfold clOf
  rw [hm]
  rfl
theorem exm_of {x : Str} {on : Str → Option Bool} (E : Ecl n.K X.mg n x on) : ∀ c b, on c = some b → ∀ A, n.cn c = some A → PySem.W.exmOne n.K (.ref A) (clOf X.mg x) = some b := by
  obtain ⟨C, hm, h⟩ := E.ex
  unfold clOf
  rw [hm]
  exact h
/-- the end of such a suite -/
theorem suite_set {σ : L2.St} {δ : List Sl} {F H : Hp} {i j : Nat} {T : Ends} {a p : Addr} {u : V} {v : D} {F1 H1 : Hp} (ne : i ≠ j) (hi : δ[i]? = some .no) (S1 : Sta n.K n.cn σ δ F1 H1) (st1 : Stp σ δ F H σ δ F1 H1) (r : Rp n.K n.cn F1 u v)
    (hP : PostS n W0 σ δ F H (slSet j (.d v) δ) T) : (Ends.gone T i).nx ((σ.set i (some (.ref a))).set j (some u)) H1 := by
  obtain ⟨o, ho, hl, h2⟩ := slSet_ok (P := fun r => PostS n W0 σ δ F H r T) (fun h => h) hP
  obtain ⟨S2, st2⟩ := S1.setD ho hl r
  have hi2 : (δ.set j (.d v))[i]? = some .no := by rw [List.getElem?_set_ne (Ne.symm ne)]; exact hi
  obtain ⟨S3, st3⟩ := S2.idle hi2 none
  show T.nx (((σ.set i (some (.ref a))).set j (some u)).set i none) H1
  rw [set3 ne]
  exact h2 _ F1 H1 S3 ((st1.trans st2).trans st3)
theorem hd_asgL (i j : Nat) {x nm y f tag : Str} {on : Str → Option Bool} {q1 q2 p1 p2 p3 p4 p5 py : Pos} {c1 : Nat} (o : Ok X n) (E : Ecl n.K X.mg n x on) (xf : Efl n on f) (hg : Gl X x := by rfl) (hd : (x == ("__debug__" : Str)) = false := by decide)
    (hn : X.N[i]? = some nm := by rfl) (hl : X.env.kindOf nm = some .local := by rfl) (hnd : (nm == ("__debug__" : Str)) = false := by decide) (hncd : (nm == ("__classdict__" : Str)) = false := by decide)
    (hi : X.N[j]? = some y := by rfl) (hx : Loc X.env.scope y := by first | exact Or.inl rfl | exact Or.inr rfl) (hs : swapsWith (.List [.Constant (.str tag) c1 p1, .Attribute (.Name nm p2) f p3] p4) (some (.Name y py)) p5.line X.env = pure false := by rfl) (hf : X.fn y = true ∨ X.env.scope.names.lookup y = some .local := by first | exact .inl rfl | exact .inr rfl)
    (hb : attributeBase (.Name nm p2) f X.env (eval (.Name nm p2) X.env) = eval (.Name nm p2) X.env := by rfl)
    (st : starEach [.Constant (.str tag) c1 p1, .Attribute (.Name nm p2) f p3] X.env = (false, eval (.Constant (.str tag) c1 p1) X.env) :: starEach [.Attribute (.Name nm p2) f p3] X.env := by rfl) (st2 : starEach [.Attribute (.Name nm p2) f p3] X.env = (false, eval (.Attribute (.Name nm p2) f p3) X.env) :: starEach [] X.env := by rfl) :
    HdL X n (.ExceptHandler (some (.Name x q1)) (some nm) [.Assign [.Name y py] (.List [.Constant (.str tag) c1 p1, .Attribute (.Name nm p2) f p3] p4) p5] q2)
      ⟨clOf X.mg x, some i, fun a cls d => tAsg (tLst (tCons (tC (.str tag)) (tCons (tXg n.K a cls d f (tVar i)) tNil))) (gName j)⟩ ⟨on, dHd i j f fun v => .lst [.str tag, v]⟩ := by
  refine ⟨fun {hs' ks'} more => ?_, exm_of E, fun c fs σ δ F H cls d a T e S x na hP => ?_⟩
  · refine .cons (names_of E hg hd) ⟨hn, hl⟩ (fun a ob cls d pn hz hfs => ?_) more
    refine pss_one (ps_set (X := X.suite a ((a, ob) :: pn)) o.nd hi hx (pe_lst (pa_cons pe_str (pa_cons (o.k ▸ pe_xg (X := X) hz hfs (pv i hn (.inl hl) hnd hncd) hb) pa_nil st2) st)) hs hf)
  · obtain ⟨e1, v, e2, ne, hP2⟩ := hd_inv hP
    refine xg_run (Q := fun u H1 => [V.str tag, u].length ≤ sizeLine ∧ ∀ p, H1 p = none → (Ends.gone T i).nx ((σ.set i (some (.ref a))).set j (some (.ref p))) (upd H1 p (.lst [.str tag, u]))) xf S e x e1 e2 fun u ru => ⟨size10000 (by simp), fun p hp => ?_⟩
    have S1 := S.new (.lst [.str tag, u]) hp
    exact suite_set (a := a) (p := p) ne e1 S1 (Stp.new S _ hp) (.lst upd_same (.cons (.str _) (.cons (ru.mono (upd_none (S.sub.noneL hp))) .nil))) hP2
theorem hd_asgF (i j : Nat) {x nm y f : Str} {on : Str → Option Bool} {q1 q2 p2 p3 p5 py : Pos} (o : Ok X n) (E : Ecl n.K X.mg n x on) (xf : Efl n on f) (hg : Gl X x := by rfl) (hd : (x == ("__debug__" : Str)) = false := by decide)
    (hn : X.N[i]? = some nm := by rfl) (hl : X.env.kindOf nm = some .local := by rfl) (hnd : (nm == ("__debug__" : Str)) = false := by decide) (hncd : (nm == ("__classdict__" : Str)) = false := by decide)
    (hi : X.N[j]? = some y := by rfl) (hx : Loc X.env.scope y := by first | exact Or.inl rfl | exact Or.inr rfl) (hs : swapsWith (.Attribute (.Name nm p2) f p3) (some (.Name y py)) p5.line X.env = pure false := by rfl) (hf : X.fn y = true ∨ X.env.scope.names.lookup y = some .local := by first | exact .inl rfl | exact .inr rfl)
    (hb : attributeBase (.Name nm p2) f X.env (eval (.Name nm p2) X.env) = eval (.Name nm p2) X.env := by rfl) :
    HdL X n (.ExceptHandler (some (.Name x q1)) (some nm) [.Assign [.Name y py] (.Attribute (.Name nm p2) f p3) p5] q2)
      ⟨clOf X.mg x, some i, fun a cls d => tAsg (tXg n.K a cls d f (tVar i)) (gName j)⟩ ⟨on, dHd i j f id⟩ := by
  refine ⟨fun {hs' ks'} more => ?_, exm_of E, fun c fs σ δ F H cls d a T e S x na hP => ?_⟩
  · refine .cons (names_of E hg hd) ⟨hn, hl⟩ (fun a ob cls d pn hz hfs => ?_) more
    exact pss_one (ps_set (X := X.suite a ((a, ob) :: pn)) o.nd hi hx (o.k ▸ pe_xg (X := X) hz hfs (pv i hn (.inl hl) hnd hncd) hb) hs hf)
  · obtain ⟨e1, v, e2, ne, hP2⟩ := hd_inv hP
    refine xg_run (Q := fun u H1 => (Ends.gone T i).nx ((σ.set i (some (.ref a))).set j (some u)) H1) xf S e x e1 e2 fun u ru => ?_
    exact suite_set (a := a) (p := a) ne e1 S Stp.refl ru hP2
/-- a clause that names nothing: any suite -/
theorem hd_plain {x : Str} {on : Str → Option Bool} {q1 q2 : Pos} {b0 : Stmt} {rest : List Stmt} {t : TS} {g : DS0} (E : Ecl n.K X.mg n x on) (h : ∀ (a : Addr) (ob : Obj) (pn : List (Addr × Obj)), DSs (X.suite a ((a, ob) :: pn)) n W0 (b0 :: rest) t g) (hg : Gl X x := by rfl) (hd : (x == ("__debug__" : Str)) = false := by decide) :
    HdL X n (.ExceptHandler (some (.Name x q1)) none (b0 :: rest) q2) ⟨clOf X.mg x, none, fun _ _ _ => t⟩ ⟨on, fun _ => g⟩ := by
  refine ⟨fun {hs' ks'} more => .cons (names_of E hg hd) trivial (fun a ob cls d pn hz hfs => (h a ob pn).p) more, exm_of E, fun c fs σ δ F H cls d a T e S x na hP => ?_⟩
  refine (h 0 default []).s σ δ F H T S ?_
  have hP' : PostS n W0 σ δ F H (noExc (g δ)) T := hP
  cases e2 : g δ with
  | bad => rw [e2] at hP'; exact hP'.elim
  | exc _ _ _ => rw [e2] at hP'; exact hP'.elim
  | ok q => rw [e2] at hP'; obtain ⟨fl, δ1⟩ := q; cases fl <;> exact hP'
/-- y = e in such a suite -/
theorem ds_setS (i : Nat) {x : Str} {e : Expr} {te : TE} {fe : DE0} {pos pos' : Pos} (nd : X.N.Nodup) (he : DE X n W e te fe) (hi : X.N[i]? = some x := by rfl) (hx : Loc X.env.scope x := by first | exact Or.inl rfl | exact Or.inr rfl) (hs : swapsWith e (some (.Name x pos')) pos.line X.env = pure false := by rfl) (hf : X.fn x = true ∨ X.env.scope.names.lookup x = some .local := by first | exact .inl rfl | exact .inr rfl) :
    DS X n W (.Assign [.Name x pos'] e pos) (tAsg te (gName i)) (dSet i fe) := ⟨ps_set nd hi hx he.p hs hf, semS_set he.s⟩
end
end DL

set_option Elab.async false
set_option linter.all false
set_option maxRecDepth 100000
set_option maxHeartbeats 2000000
set_option autoImplicit false
/-! DLs: a law's end over FnG. -/
namespace DL
open PySem PySem.Spec L2 PyProof.Rows
section
variable {P : Program} {w : World} {K : PySem.W.Frag} {mg mb : Str → Option Value} {CX : CXT} {k : Nat} {fa a : Addr} {fd : FuncData} {x : Str} {sp : Sp} {t : Shared} {vs : List Value} {ns : List Int}
/-- at the heap behind the top, H telling the script at most -/
theorem law_at (KX : K.In t.heap) (hns : t.heap.Ns mainGlobals mg) (hb : t.heap.Ns builtinsNs mb) (hbb : ∀ x : Str, x ≠ "__name__" → mb x = bootBuiltins x) (hlim : t.heap.NoLimit) (hg : t.gens = #[]) (ha : t.heap.get? a = some { cls := .type "list", data := .seq vs.toArray })
    (hr : RoomG k callerA) (F : ∀ base : Heap, K.In base → base.Ns mainGlobals mg → FnG P w K mg base CX k fa fd [x] sp) (hbind : ∀ (s : Shared) (u : Value), BindsTo s fd ⟨[u], []⟩ [(x, u)]) (hCX : ∀ H e s', CX [] H t (fun _ _ _ => False) e s' → False)
    {H : Hp} (only : ∀ b, H b = none ∨ ∃ o xs, H b = some (.frz o (.lst xs))) (hok : HOk P w H t.heap) (atA : ∀ b, H b ≠ none → b = a) (offK : H a ≠ none → K.lookup a = none) (wish : sp [.ref a] H (fun v _ => v = .bl true) fun _ _ _ => False) :
    codeAny (model P w) callerA (.call (.ref fa) ⟨[.ref a], []⟩) (fun r s' => r = .ok (.ret (.bool true)) ∧ OldK t.heap s'.heap ∧ s'.os = t.os ∧ AllBare s'.gens) t := by
  have free : ∀ {b : Addr} {o : Obj}, t.heap.get? b = some o → (b = a → H a = none) → (hidT t.heap H).get? b = some o := fun {b o} e n => hidT_get e (by
    cases q : H b with
    | none => rfl
    | some u =>
      have eb := atA b (by rw [q]; simp)
      rw [eb, n eb] at q
      cases q)
  have dicts : ∀ {b : Addr} {m : Str → Option Value}, t.heap.Ns b m → (hidT t.heap H).Ns b m := fun {b m} z => by
    obtain ⟨o, es, ep, e, d, r⟩ := z
    refine ⟨o, es, ep, free e fun eb => ?_, d, r⟩
    rw [eb, ha] at e
    cases e
    cases (show Data.seq vs.toArray _ = Data.dict es ep from d)
  have inB : K.In (hidT t.heap H) := fun b o e => free (KX b o e) fun eb => by
    cases q : H a with
    | none => rfl
    | some u =>
      have z := offK (by rw [q]; simp)
      rw [← eb, e] at z
      cases z
  have md : Mod K mg (hidT t.heap H) := ⟨inB, dicts hns, ⟨mb, dicts hb, hbb⟩, by obtain ⟨mc, h1, h2⟩ := hlim; exact ⟨mc, dicts h1, h2⟩⟩
  have env : Env0 P w K mg (hidT t.heap H) callerA [] t H := ⟨rfl, md, fun b o e => of_hidT e, Nat.le_of_eq (hidT_size _ _), trivial, (fun b q => by cases (show b ∈ ([] : List Addr) from q)), hok, .of_eq hg⟩
  have done := (F _ inB (dicts hns)).run callerA [] t H ⟨[.ref a], []⟩ [.ref a] [.ref a] _ _ hr env (hbind t (.ref a)) (.cons rfl .nil) wish
  refine codeAny_mono done fun r s' out => ?_
  cases r with
  | error e => exact (hCX H e s' out).elim
  | ok fl =>
    cases fl with
    | next => exact out.elim
    | brk => exact out.elim
    | cont => exact out.elim
    | ret u =>
      obtain ⟨v, H', sameOs, bare, un, hok', rv, q⟩ := out
      have ev : v = .bl true := q
      rw [ev] at rv
      have eu : u = Value.bool true := rv
      rw [eu]
      refine ⟨rfl, OldK.of_keep fun b o e => ?_, sameOs, bare⟩
      rcases only b with z | ⟨ob, xs, z⟩
      · exact un.keep b o e z (fun q => by cases (show b ∈ ([] : List Addr) from q)) (by simp)
      · have was := (hok b _ z).1
        have now_ := (hok' b _ (un.frzs b ob _ z)).1
        rw [e] at was
        cases was
        exact now_
theorem law_callG (KX : K.In t.heap) (hns : t.heap.Ns mainGlobals mg) (hb : t.heap.Ns builtinsNs mb) (hbb : ∀ x : Str, x ≠ "__name__" → mb x = bootBuiltins x) (hlim : t.heap.NoLimit) (hg : t.gens = #[]) (ha : t.heap.get? a = some { cls := .type "list", data := .seq vs.toArray }) (hi : IntsAre vs ns) (hl : ns.length ≤ sizeLine)
    (hr : RoomG k callerA) (F : ∀ base : Heap, K.In base → base.Ns mainGlobals mg → FnG P w K mg base CX k fa fd [x] sp) (hbind : ∀ (s : Shared) (u : Value), BindsTo s fd ⟨[u], []⟩ [(x, u)]) (hCX : ∀ H e s', CX [] H t (fun _ _ _ => False) e s' → False)
    (wish : ∀ H : Hp, SqL K H a (ns.map V.int) → sp [.ref a] H (fun v _ => v = .bl true) fun _ _ _ => False) :
    codeAny (model P w) callerA (.call (.ref fa) ⟨[.ref a], []⟩) (fun r s' => r = .ok (.ret (.bool true)) ∧ OldK t.heap s'.heap ∧ s'.os = t.os ∧ AllBare s'.gens) t := by
  have rel := vals_ints hi
  by_cases hk : ∃ o, K.lookup a = some o
  · obtain ⟨o, hk⟩ := hk
    have e := KX a o hk
    rw [ha] at e
    cases e
    refine law_at KX hns hb hbb hlim hg ha hr F hbind hCX (H := fun _ => none) (fun _ => .inl rfl) (fun b u z => by cases (show (none : Option HO) = some u from z)) (fun b z => (z rfl).elim) (fun z => (z rfl).elim) (wish _ (.inr ⟨_, vs.toArray, _, hk, rfl, rfl, rfl, ?_, by simpa using rel⟩))
    rw [List.size_toArray, hi.length]
    exact hl
  · have none_ : K.lookup a = none := by
      cases q : K.lookup a with
      | none => rfl
      | some o => exact (hk ⟨o, q⟩).elim
    let oS : Obj := { cls := .type "list", data := .seq vs.toArray }
    let Hs : Hp := fun b => if b = a then some (.frz oS (.lst (ns.map V.int))) else none
    have hit : Hs a = some (.frz oS (.lst (ns.map V.int))) := if_pos rfl
    have miss : ∀ {b}, b ≠ a → Hs b = none := fun h => if_neg h
    refine law_at KX hns hb hbb hlim hg ha hr F hbind hCX (H := Hs) (fun b => ?_) (fun b u z => ?_) (fun b z => ?_) (fun _ => none_) (wish _ (.inl (.inr ⟨oS, hit⟩)))
    · by_cases h : b = a
      · exact .inr ⟨_, _, h ▸ hit⟩
      · exact .inl (miss h)
    · by_cases h : b = a
      · subst h
        rw [hit] at z
        cases z
        exact ⟨ha, by rw [List.length_map]; exact hl, vs, _, rel, ha⟩
      · rw [miss h] at z
        cases z
    · by_cases h : b = a
      · exact h
      · exact (z (miss h)).elim
end
/-- a law of a program, its promise by data -/
theorem walk_d {l : PySem.W.OpenLaw} {n k : Nat} {q : Program} {loose : List Str} {XP : (Str → Option Value) → Heap → Prop} {YP : World → Heap → Prop} {d : DefRec} {x : Str}
    (hn : l.most = some n) (hn2 : n ≤ sizeLine) (hdf : d.params.defaults = []) (hr : RoomG k callerA)
    (F : ∀ (w : World) (mg : Str → Option Value) (fa : Addr) (h : Heap), YP w h → h.Ns mainGlobals mg → mg d.name = some (.ref fa) → ∃ (K : PySem.W.Frag) (cn : Nm) (fd : FuncData) (f : List D → Rx Rv), K.In h ∧ (∀ (s : Shared) (u : Value), BindsTo s fd ⟨[u], []⟩ [(x, u)]) ∧
      (∀ ns : List Int, ns.length ≤ n → (∀ z ∈ ns, Builtin.Int.intBits z ≤ 1048576) → f [.scr ns] = .ok (.d (.bl true))) ∧ ∀ base : Heap, K.In base → base.Ns mainGlobals mg → FnG l.prog w K mg base (L2.CX l.prog w) k fa fd [x] (spP (En.mk K cn) f)) :
    PySem.W.WalkO q loose XP YP l.row.toRowW d [] (fun f vs => PySem.call f vs) := by
  refine Att.attach_callB hn hdf fun w t0 t1 mg mb fa o pm cd doc a vs ns G Y ho hd hcd hmg hobj hints hlen hbits hg => ?_
  obtain ⟨K, cn, fd, f, KX, hb, hf, hF⟩ := F w mg fa _ Y G.T.g hmg
  refine law_callG KX G.T.g G.T.b G.T.builtins G.T.nolimit hg hobj hints (Nat.le_trans hlen hn2) hr hF hb (fun H e s' z => ?_) fun H hS => law_post hS (hf ns hlen hbits)
  obtain ⟨_, _, _, _, _, _, _, _, _, _, _, _, bad⟩ := z
  exact bad
end DL

set_option Elab.async false
set_option linter.all false
set_option maxRecDepth 100000
set_option maxHeartbeats 2000000
set_option autoImplicit false
/-! DLt: {} and str of data. -/
namespace DL
open PySem PySem.Spec L2
def dDct0 : DE0 := fun δ => .ok (.dct [], δ)
theorem de_dct0 {X : Cx} {n : En} {W : WX} {pos : Pos} : DE X n W (.Dict [] [] pos) tDNewK dDct0 :=
  ⟨pe_dnewK, fun σ δ F H Q S hP p hp => hP _ _ _ (S.new _ hp) (Stp.new S _ hp) (.dct0 upd_same)⟩
mutual
def toS : D → PyData
  | .non => .none
  | .bl b => .bool b
  | .int i => .int i
  | .str x => .str x
  | .tup xs => .tuple (toSs xs)
  | .lst xs => .list (toSs xs)
  | .dct _ => .dict []
  | .scr _ => .none
  | .ins _ _ => .none
def toSs : List D → List PyData
  | [] => []
  | x :: xs => toS x :: toSs xs
end
mutual
/-- may be shown: its depth, its ints -/
def shw : Nat → D → Bool
  | _, .non => true
  | _, .bl _ => true
  | _, .int i => decide (i.natAbs.log2 < 1920)
  | _, .str _ => true
  | k + 1, .tup xs => shws k xs
  | k + 1, .lst xs => shws k xs
  | _ + 1, .dct kvs => kvs.isEmpty
  | _, _ => false
def shws : Nat → List D → Bool
  | _, [] => true
  | k, x :: xs => shw k x && shws k xs
end
mutual
theorem shw_ok : ∀ (d : D) (k : Nat), shw k d = true → (toS d).showable = true ∧ (toS d).depth ≤ k
  | .non, k, _ => ⟨rfl, Nat.zero_le _⟩
  | .bl _, k, _ => ⟨rfl, Nat.zero_le _⟩
  | .int _, k, h => by
    refine ⟨?_, Nat.zero_le _⟩
    cases k <;> (rw [shw] at h; exact h)
  | .str _, k, _ => ⟨rfl, Nat.zero_le _⟩
  | .tup xs, 0, h => by simp [shw] at h
  | .tup xs, k + 1, h => by
    rw [shw] at h
    obtain ⟨a, b⟩ := shws_ok xs k h
    rw [toS, PyData.depth]
    exact ⟨a, by omega⟩
  | .lst xs, 0, h => by simp [shw] at h
  | .lst xs, k + 1, h => by
    rw [shw] at h
    obtain ⟨a, b⟩ := shws_ok xs k h
    rw [toS, PyData.depth]
    exact ⟨a, by omega⟩
  | .dct _, 0, h => by simp [shw] at h
  | .dct _, k + 1, _ => ⟨rfl, by rw [toS, PyData.depth, PyData.depthKv]; omega⟩
  | .scr _, k, h => by cases k <;> simp [shw] at h
  | .ins _ _, k, h => by cases k <;> simp [shw] at h
theorem shws_ok : ∀ (ds : List D) (k : Nat), shws k ds = true → PyData.showableAll (toSs ds) = true ∧ PyData.depthAll (toSs ds) ≤ k
  | [], k, _ => ⟨rfl, Nat.zero_le _⟩
  | d :: ds, k, h => by
    rw [shws, Bool.and_eq_true] at h
    obtain ⟨a, b⟩ := shw_ok d k h.1
    obtain ⟨a', b'⟩ := shws_ok ds k h.2
    rw [toSs, PyData.depthAll, PyData.showableAll, a, a']
    exact ⟨rfl, Nat.max_le.mpr ⟨b, b'⟩⟩
end
/-- sys.modules is told as a dict -/
def SysD (K : PySem.W.Frag) : Prop := ∃ o es ep, K.lookup sysModules = some o ∧ o.data = .dict es ep
section
variable {X : Cx} {n : En} {W : WX} {pins : List (Addr × Obj)} {σ : L2.St} {H F : Hp} {s : Shared}
theorem not_sys (y : SysD X.K) (I : Inv X pins σ H s) {a : Addr} {o : Obj} {vs : Array Value} {k : Nat} (h : s.heap.get? a = some o) (hd : o.data = .seq vs k) : sysModules ≠ a := fun e => by
  obtain ⟨o', es, ep, l, d⟩ := y
  have z := I.kIn _ _ l
  rw [e, h] at z
  cases z
  rw [hd] at d
  cases d
mutual
theorem rp_reads (y : SysD X.K) (I : Inv X pins σ H s) (sub : Sub F H) {cn : Nm} : ∀ (d : D) (k : Nat) (v : V) (u : Value), shw k d = true → Rp X.K cn F v d → RelV v u → ∃ as, Reads s.heap u (toS d) as ∧ sysModules ∉ as
  | .non, _, _, _, _, .non, r => by cases r; exact ⟨_, .none, by simp⟩
  | .bl _, _, _, _, _, .bl b, r => by cases r; exact ⟨_, .bool b, by simp⟩
  | .int _, _, _, _, _, .int i, r => by obtain ⟨t, e⟩ := r; cases e; exact ⟨_, .int i t, by simp⟩
  | .str _, _, _, _, _, .str x, r => by obtain ⟨t, e⟩ := r; cases e; exact ⟨_, .str x t, by simp⟩
  | .tup xs, 0, _, _, h, _, _ => by simp [shw] at h
  | .tup xs, k + 1, _, _, h, .tup a b, r => by
    rw [shw] at h
    cases r
    obtain ⟨its, rv, ⟨o, ho, hc, m, hd⟩, _⟩ := I.tuple (sub.sqT a.sq)
    obtain ⟨as, hr, hs⟩ := rp_readsAll y I sub xs k _ its h b rv
    exact ⟨_, .tuple ho hc hd hr, hs⟩
  | .lst xs, 0, _, _, h, _, _ => by simp [shw] at h
  | .lst xs, k + 1, _, _, h, .lst a b, r => by
    rw [shw] at h
    cases r
    obtain ⟨its, rv, ⟨o, m, ho, hc, _, hd⟩, _⟩ := I.list (SqL.of (sub _ _ a))
    obtain ⟨as, hr, hs⟩ := rp_readsAll y I sub xs k _ its h b rv
    refine ⟨_, .list ho hc hd hr, fun q => ?_⟩
    rcases List.mem_cons.mp q with q | q
    · exact not_sys y I ho hd q
    · exact hs q
  | .dct _, 0, _, _, h, _, _ => by simp [shw] at h
  | .dct _, k + 1, _, _, h, .dct0 (a := p) a, r => by
    cases r
    obtain ⟨_, low, vs, kv, o, es, ep, ho, hx, hd, _, ps, _⟩ := dk_of I.hok (sub _ _ a)
    cases kv
    cases e : es.toList with
    | nil =>
      refine ⟨_, .dict ho hx.1 hd (kvs := []) (by rw [e]; exact .nil) (by rw [e]; exact .nil), fun q => ?_⟩
      have q' : sysModules = p := by simpa using q
      rw [← q'] at low
      simp at low
    | cons _ _ => rw [e] at ps; cases ps
  | .scr _, k, _, _, h, _, _ => by cases k <;> simp [shw] at h
  | .ins _ _, k, _, _, h, _, _ => by cases k <;> simp [shw] at h
theorem rp_readsAll (y : SysD X.K) (I : Inv X pins σ H s) (sub : Sub F H) {cn : Nm} : ∀ (ds : List D) (k : Nat) (vs : List V) (us : List Value), shws k ds = true → RpAll X.K cn F vs ds → Vals vs us → ∃ as, ReadsAll s.heap us (toSs ds) as ∧ sysModules ∉ as
  | [], _, _, _, _, .nil, r => by cases r; exact ⟨_, .nil, by simp⟩
  | d :: ds, k, _, _, h, .cons a b, r => by
    rw [shws, Bool.and_eq_true] at h
    cases r with
    | cons r1 r2 =>
      obtain ⟨as, q1, n1⟩ := rp_reads y I sub d k _ _ h.1 a r1
      obtain ⟨bs, q2, n2⟩ := rp_readsAll y I sub ds k _ _ h.2 b r2
      exact ⟨_, .cons q1 q2, fun q => by
        rcases List.mem_append.mp q with q | q
        · exact n1 q
        · exact n2 q⟩
end
/-- str of a list, a tuple -/
def pStr : List D → Option D := on1 fun x => match x with
  | .lst xs => if shw 30 (.lst xs) && decide ((toS (.lst xs)).shown.length ≤ 1000000) then some (.str (toS (.lst xs)).shown) else none
  | .tup xs => if shw 30 (.tup xs) && decide ((toS (.tup xs)).shown.length ≤ 1000000) then some (.str (toS (.tup xs)).shown) else none
  | _ => none
def rStrD (K : PySem.W.Frag) (cn : Nm) : List V → Hp → VK → Prop := fun vs H Q => ∃ (F : Hp) (a : Addr) (x : D), vs = [.ref a] ∧ Sub F H ∧ Rp K cn F (.ref a) x ∧ shw 30 x = true ∧ (toS x).shown.length ≤ 1000000 ∧ Q (.str (toS x).shown) H
theorem cr_str (o : Ok X n) (y : SysD n.K) : CallR X (.type "str") (rStrD n.K n.cn) := by
  intro pins s σ H vs us Q I r h
  obtain ⟨F, a, x, e, sub, rx, hs, hl, q⟩ := h
  subst e
  obtain ⟨u, eu, ru⟩ := vals1 r
  subst eu
  rw [← o.k] at rx y
  obtain ⟨as, rd, ns⟩ := rp_reads y I sub x 30 _ u hs rx ru
  obtain ⟨sh, dp⟩ := shw_ok x 30 hs
  have eu : u = .ref a := ru
  subst eu
  refine PySem.str_of_reads rd sh (fun _ => ns) o.g (by have := o.u; omega) (fun _ _ e => e) (fun h' u tk keep => ?_) (size1000000 hl)
  exact ⟨.str _, H, I.kept keep, ⟨u, rfl⟩, q⟩
theorem callOk_str : CallOk n (rStrD n.K n.cn) pStr := by
  intro σ δ F H vs xs z Q S r e k
  unfold pStr at e
  obtain ⟨x, hx, e2⟩ : ∃ x, xs = [x] ∧ (match x with
    | .lst xs => if shw 30 (.lst xs) && decide ((toS (.lst xs)).shown.length ≤ 1000000) then some (D.str (toS (.lst xs)).shown) else none
    | .tup xs => if shw 30 (.tup xs) && decide ((toS (.tup xs)).shown.length ≤ 1000000) then some (D.str (toS (.tup xs)).shown) else none
    | _ => none) = some z := by
    match xs, e with
    | [x], e => exact ⟨x, rfl, e⟩
    | [], e => cases e
    | _ :: _ :: _, e => cases e
  subst hx
  cases r with
  | cons rx r =>
    cases r
    cases rx <;> first | (cases e2; done) | skip
    · rename_i a us ds h1 h2
      simp only at e2
      split at e2
      · rename_i c
        cases e2
        obtain ⟨c1, c2⟩ := Bool.and_eq_true_iff.mp c
        exact ⟨F, a, .tup ds, rfl, S.sub, .tup h1 h2, c1, of_decide_eq_true c2, k F H _ S Stp.refl (.str _)⟩
      · cases e2
    · rename_i a us ds h1 h2
      simp only at e2
      split at e2
      · rename_i c
        cases e2
        obtain ⟨c1, c2⟩ := Bool.and_eq_true_iff.mp c
        exact ⟨F, a, .lst ds, rfl, S.sub, .lst h1 h2, c1, of_decide_eq_true c2, k F H _ S Stp.refl (.str _)⟩
      · cases e2
end
end DL

set_option Elab.async false
set_option linter.all false
set_option maxRecDepth 100000
set_option maxHeartbeats 2000000
set_option autoImplicit false
/-! DLu: what the head tells of exception classes. -/
namespace DL
open PySem PySem.Spec L2
/-- an own exception class over ValueError's -/
def oexClsB (K : PySem.W.Frag) (C : Addr) : Bool := match K.lookup C with
  | some ⟨.type ty, _, .cls cd, sl⟩ => decide (ty = "type") && (match cd.mro, sl.toList with
    | .ref A :: bm, [_, _, _, _, some (.builtin nw), _] => decide (A = C) && (decide (nw = "ValueError.__new__") && (!cd.hasDel && (cd.hasDict && PySem.HandSPX.refsVE bm)))
    | _, _ => false)
  | _ => false
def oexB (K : PySem.W.Frag) (C : Addr) : Bool := oexClsB K C && (decide (PySem.W.findIn K (.ref C) "__setattr__" = some (some (.builtin "object.__setattr__"))) && (decide (PySem.W.subIn K (.ref C) (.type "BaseException") = some true) &&
  (decide (PySem.W.typeIn K (.ref C) = some (.type "type")) && PySem.W.keepIn K (.ref C))))
theorem oexB_ok {K : PySem.W.Frag} {C : Addr} (h : oexB K C = true) : OexC K C := by
  unfold oexB at h
  obtain ⟨h1, h⟩ := Bool.and_eq_true_iff.mp h
  obtain ⟨h2, h⟩ := Bool.and_eq_true_iff.mp h
  obtain ⟨h3, h⟩ := Bool.and_eq_true_iff.mp h
  obtain ⟨h4, h5⟩ := Bool.and_eq_true_iff.mp h
  refine ⟨?_, of_decide_eq_true h2, of_decide_eq_true h3, of_decide_eq_true h4, h5⟩
  unfold oexClsB at h1
  split at h1
  · rename_i ty dd cd sl lk
    obtain ⟨e1, m1⟩ := Bool.and_eq_true_iff.mp h1
    have et := of_decide_eq_true e1
    subst et
    clear h1
    split at m1
    · rename_i A bm k0 k1 k2 k3 nw k5 em es
      obtain ⟨a1, m2⟩ := Bool.and_eq_true_iff.mp m1
      obtain ⟨a2, m3⟩ := Bool.and_eq_true_iff.mp m2
      obtain ⟨a3, m4⟩ := Bool.and_eq_true_iff.mp m3
      obtain ⟨a4, a5⟩ := Bool.and_eq_true_iff.mp m4
      clear m1 m2 m3 m4
      have b1 := of_decide_eq_true a1
      have b2 := of_decide_eq_true a2
      obtain ⟨nm, bs, mro, ns, qn, hd, sn, sub, ab, col, dl⟩ := cd
      simp only at em a3 a4
      have b3 : dl = false := by simpa using a3
      subst b1 b2 em a4 b3
      obtain ⟨l⟩ := sl
      simp only at es
      subst es
      exact ⟨nm, qn, ns, bs, bm, sn, sub, ab, col, dd, k0, k1, k2, k3, k5, lk, a5⟩
    · cases m1
  · cases h1
/-- one exception class: its name, its field -/
def exkB (K : PySem.W.Frag) (x f : Str) : Bool := oexB K (He.ga K x) && (xfB K (He.ga K x) && (decide (PySem.W.findIn K (.ref (He.ga K x)) f = some none) && (decide (PySem.W.findIn K (.ref (He.ga K x)) "__init__" = some (some (.ref (He.fAd K (x, some "__init__"))))) &&
  decide (PySem.W.typeIn K (.ref (He.fAd K (x, some "__init__"))) = some (.type "function")))))
def sysB (K : PySem.W.Frag) : Bool := match K.lookup sysModules with
  | some ⟨_, _, .dict _ _, _⟩ => true
  | _ => false
theorem sysB_ok {K : PySem.W.Frag} (h : sysB K = true) : SysD K := by
  unfold sysB at h
  split at h
  · rename_i c d es ep sl lk
    exact ⟨_, es, ep, lk, rfl⟩
  · cases h
end DL

set_option Elab.async false
set_option linter.all false
set_option maxRecDepth 100000
set_option maxHeartbeats 2000000
set_option autoImplicit false
/-! DLv: the head's Hook with exception classes. -/
namespace DL
open PySem PySem.Spec L2
abbrev Xs : Type := List (Str × Str)
abbrev Rel : Type := List (Str × Str × Bool)
def relB (K : PySem.W.Frag) (r : Str × Str × Bool) : Bool := decide (PySem.W.exmOne K (.ref (He.ga K r.1)) (.ref (He.ga K r.2.1)) = some r.2.2)
def obsE (fa : List He.Fa) (fn : List He.DefD) (cs : List (Str × D)) (ks : Kws) (xs : Xs) (rs : Rel) (K : PySem.W.Frag) : He.AlD :=
  ((obsX fa fn cs ks K).1 && (sysB K && ((xs.all fun q => exkB K q.1 q.2) && rs.all (relB K))), (obsX fa fn cs ks K).2)
structure SaysE (fa : List He.Fa) (fn : List He.DefD) (cs : List (Str × D)) (ks : Kws) (xs : Xs) (rs : Rel) (K : PySem.W.Frag) : Prop where
  x : SaysX fa fn cs ks K
  sys : SysD K
  exk : ∀ q ∈ xs, exkB K q.1 q.2 = true
  rel : ∀ q ∈ rs, PySem.W.exmOne K (.ref (He.ga K q.1)) (.ref (He.ga K q.2.1)) = some q.2.2
section
variable {fa : List He.Fa} {fn : List He.DefD} {cs : List (Str × D)} {ks : Kws} {xs : Xs} {rs : Rel} {K : PySem.W.Frag}
theorem saysE_of (e : obsE fa fn cs ks xs rs K = He.valD fn) : SaysE fa fn cs ks xs rs K := by
  have e1 : ((obsX fa fn cs ks K).1 && (sysB K && ((xs.all fun q => exkB K q.1 q.2) && rs.all (relB K)))) = true := congrArg Prod.fst e
  have e2 : (obsX fa fn cs ks K).2 = fn.map He.DefD.val := congrArg Prod.snd e
  obtain ⟨a, b⟩ := Bool.and_eq_true_iff.mp e1
  obtain ⟨b, c⟩ := Bool.and_eq_true_iff.mp b
  obtain ⟨c, d⟩ := Bool.and_eq_true_iff.mp c
  exact ⟨saysX_of (Prod.ext a e2), sysB_ok b, fun q h => List.all_eq_true.mp c q h, fun q h => of_decide_eq_true (List.all_eq_true.mp d q h)⟩
def obsEG (n : Nat) (fa : List He.Fa) (fn : List He.DefD) (cs : List (Str × D)) (ks : Kws) (xs : Xs) (rs : Rel) (g : Addr → Option Obj) : He.AlD := obsE fa fn cs ks xs rs (He.frG g (He.asD g n ++ [sysModules]))
def hookE (n : Nat) (fa : List He.Fa) (fn : List He.DefD) (cs : List (Str × D)) (ks : Kws) (xs : Xs) (rs : Rel) : PySem.W.Hook where
  α := He.AlD
  obs := fun s => obsEG n fa fn cs ks xs rs s.heap.get?
  val := fun _ => He.valD fn
  says := fun _ h => ∃ K : PySem.W.Frag, K.In h ∧ SaysE fa fn cs ks xs rs K
  of := fun _ _ e => ⟨_, He.frG_in, saysE_of e⟩
  keeps := fun _ _ _ z k => by
    obtain ⟨K, hK, c⟩ := z
    exact ⟨K, PySem.W.Frag.In.keeps hK k, c⟩
theorem obsEG_eq {n : Nat} {g : Addr → Option Obj} {s : Shared} (h : ∀ a, g a = s.heap.get? a) : obsEG n fa fn cs ks xs rs g = (hookE n fa fn cs ks xs rs).obs s := by
  have eg : g = s.heap.get? := funext h
  rw [eg]
  rfl
/-- the names of the classes -/
def cnE (xs : Xs) (K : PySem.W.Frag) : Nm := fun x => if (xs.map (·.1)).contains x then some (He.ga K x) else none
theorem cnE_at {x : Str} {A : Addr} (h : cnE xs K x = some A) : A = He.ga K x := by
  unfold cnE at h
  split at h
  · cases h; rfl
  · cases h
/-- an own exception of one field, from its parts -/
theorem exk_mk {P : Program} {w : World} {mg : Str → Option Value} {base : Heap} {x f qual y : Str} {params : Arguments} {scope : Scope} {fd : FuncData} {p1 p2 p3 p4 : Pos} (q : exkB K x f = true) (hm : mg x = some (.ref (He.ga K x)))
    (hc : cnE xs K x = some (He.ga K x)) (F : FunD K "__init__" qual params [.Assign [.Attribute (.Name "self" p1) f p2] (.Name y p3) p4] scope [] [] (He.fAd K (x, some "__init__")) fd)
    (G : FnOk P w K mg base (L2.CX P w) 1 (He.fAd K (x, some "__init__")) fd ["self", y] (spIni K f))
    (h : ∀ (kV doc pm : Value) (an : Option Addr) (cdv ct : Value) (us : List Value), us.length = 2 → bindArgs (PySem.W.fnOf "__init__" qual params [.Assign [.Attribute (.Name "self" p1) f p2] (.Name y p3) p4] scope .none kV doc pm an cdv ct) ⟨us, []⟩ = pure ((["self", y] : List Str).zip us)) :
    Exk P w K mg base x f (En.mk K (cnE xs K)) := by
  unfold exkB at q
  obtain ⟨q1, q⟩ := Bool.and_eq_true_iff.mp q
  obtain ⟨q2, q⟩ := Bool.and_eq_true_iff.mp q
  obtain ⟨q3, q⟩ := Bool.and_eq_true_iff.mp q
  obtain ⟨q4, q5⟩ := Bool.and_eq_true_iff.mp q
  exact ⟨He.ga K x, _, fd, y, hc, hm, oexB_ok q1, of_decide_eq_true q4, of_decide_eq_true q5, G, F.bindsN h, of_decide_eq_true q3⟩
/-- a clause's classes as a table -/
def onOf (l : List (Str × Bool)) : Str → Option Bool := fun c => l.lookup c
theorem ecl_mk {mg : Str → Option Value} {y : Str} {l : List (Str × Bool)} (c : SaysE fa fn cs ks xs rs K) (hm : mg y = some (.ref (He.ga K y))) (h : (l.all fun q => rs.contains (q.1, y, q.2)) = true) : Ecl K mg (En.mk K (cnE xs K)) y (onOf l) := by
  refine ⟨He.ga K y, hm, fun x b e A hA => ?_⟩
  have hx := cnE_at hA
  subst hx
  have mem : (x, b) ∈ l := by
    have go : ∀ l : List (Str × Bool), l.lookup x = some b → (x, b) ∈ l := by
      intro l
      induction l with
      | nil => intro z; cases z
      | cons p r ih =>
        obtain ⟨k, v⟩ := p
        intro z
        rw [List.lookup_cons] at z
        cases e2 : x == k with
        | true =>
          rw [e2] at z
          cases z
          have : x = k := eq_of_beq e2
          subst this
          exact List.mem_cons_self
        | false =>
          rw [e2] at z
          exact List.mem_cons_of_mem _ (ih z)
    exact go l e
  have r := List.all_eq_true.mp h (x, b) mem
  exact c.rel (x, y, b) (by simpa using r)
theorem efl_mk {l : List (Str × Bool)} {f : Str} (c : SaysE fa fn cs ks xs rs K) (h : (l.all fun q => !q.2 || xs.contains (q.1, f)) = true) : Efl (En.mk K (cnE xs K)) (onOf l) f := by
  intro x e A hA
  have hx := cnE_at hA
  subst hx
  have mem : (x, true) ∈ l := by
    have go : ∀ l : List (Str × Bool), l.lookup x = some true → (x, true) ∈ l := by
      intro l
      induction l with
      | nil => intro z; cases z
      | cons p r ih =>
        obtain ⟨k, v⟩ := p
        intro z
        rw [List.lookup_cons] at z
        cases e2 : x == k with
        | true =>
          rw [e2] at z
          cases z
          have : x = k := eq_of_beq e2
          subst this
          exact List.mem_cons_self
        | false =>
          rw [e2] at z
          exact List.mem_cons_of_mem _ (ih z)
    exact go l e
  have r := List.all_eq_true.mp h (x, true) mem
  have q := c.exk (x, f) (by simpa using r)
  unfold exkB at q
  obtain ⟨_, q⟩ := Bool.and_eq_true_iff.mp q
  obtain ⟨q2, q⟩ := Bool.and_eq_true_iff.mp q
  obtain ⟨q3, _⟩ := Bool.and_eq_true_iff.mp q
  exact ⟨xfB_ok q2, of_decide_eq_true q3⟩
end
end DL

set_option Elab.async false
set_option linter.all false
set_option maxRecDepth 100000
set_option maxHeartbeats 2000000
set_option autoImplicit false
/-! DLw: data compared by a program (for closed cases). -/
namespace DL
open PySem PySem.Spec L2
mutual
def beqD : D → D → Bool
  | .non, y => (match y with
    | .non => true
    | _ => false)
  | .bl a, y => (match y with
    | .bl b => a == b
    | _ => false)
  | .int a, y => (match y with
    | .int b => decide (a = b)
    | _ => false)
  | .str a, y => (match y with
    | .str b => decide (a = b)
    | _ => false)
  | .tup xs, y => (match y with
    | .tup ys => beqDs xs ys
    | _ => false)
  | .lst xs, y => (match y with
    | .lst ys => beqDs xs ys
    | _ => false)
  | .dct a, y => (match y with
    | .dct b => a.isEmpty && b.isEmpty
    | _ => false)
  | .scr _, _ => false
  | .ins _ _, _ => false
def beqDs : List D → List D → Bool
  | [], ys => ys.isEmpty
  | x :: xs, ys => (match ys with
    | y :: ys => beqD x y && beqDs xs ys
    | [] => false)
end
mutual
theorem beqD_ok : ∀ (x : D) {y : D}, beqD x y = true → x = y
  | .non, y, h => by unfold beqD at h; cases y <;> first | rfl | cases h
  | .bl a, y, h => by
    unfold beqD at h
    cases y <;> first | (cases h; done) | skip
    exact congrArg D.bl (eq_of_beq h)
  | .int a, y, h => by
    unfold beqD at h
    cases y <;> first | (cases h; done) | skip
    exact congrArg D.int (of_decide_eq_true h)
  | .str a, y, h => by
    unfold beqD at h
    cases y <;> first | (cases h; done) | skip
    exact congrArg D.str (of_decide_eq_true h)
  | .tup xs, y, h => by
    unfold beqD at h
    cases y <;> first | (cases h; done) | skip
    exact congrArg D.tup (beqDs_ok xs h)
  | .lst xs, y, h => by
    unfold beqD at h
    cases y <;> first | (cases h; done) | skip
    exact congrArg D.lst (beqDs_ok xs h)
  | .dct a, y, h => by
    unfold beqD at h
    cases y <;> first | (cases h; done) | skip
    rename_i b
    obtain ⟨h1, h2⟩ := Bool.and_eq_true_iff.mp h
    rw [List.isEmpty_iff.mp h1, List.isEmpty_iff.mp h2]
  | .scr _, _, h => by unfold beqD at h; cases h
  | .ins _ _, _, h => by unfold beqD at h; cases h
theorem beqDs_ok : ∀ (xs : List D) {ys : List D}, beqDs xs ys = true → xs = ys
  | [], ys, h => by unfold beqDs at h; exact (List.isEmpty_iff.mp h).symm
  | x :: xs, ys, h => by
    unfold beqDs at h
    cases ys with
    | nil => cases h
    | cons y ys =>
      obtain ⟨h1, h2⟩ := Bool.and_eq_true_iff.mp h
      rw [beqD_ok x h1, beqDs_ok xs h2]
end
/-- a def's answer is the datum x -/
def isD (r : Rx Rv) (x : D) : Bool := match r with
  | .ok (.d y) => beqD y x
  | _ => false
theorem isD_ok {r : Rx Rv} {x : D} (h : isD r x = true) : r = .ok (.d x) := by
  unfold isD at h
  split at h
  · rename_i y
    rw [beqD_ok y h]
  · cases h
end DL

set_option Elab.async false
set_option linter.all false
set_option maxRecDepth 100000
set_option maxHeartbeats 4000000
set_option autoImplicit false
namespace K02
open PySem PySem.Spec L2 DL
def top (i : Nat) : Stmt := PySem.Challenge.pw_cellpictures_k02_ways_and_maps_refused.main.body.getD i (.Pass ⟨0, 0, 0, 0⟩)
structure Bn (mg : Str → Option Value) : Prop where
  isinstance_ : mg "isinstance" = none
  int_ : mg "int" = none
  bool_ : mg "bool" = none
  tuple_ : mg "tuple" = none
  len_ : mg "len" = none
  all_ : mg "all" = none
  str_ : mg "str" = none
  range_ : mg "range" = none
  max_ : mg "max" = none
  min_ : mg "min" = none
def c_AROUND : D := (.tup [(.tup [(.int (-1)), (.int (-1))]), (.tup [(.int (-1)), (.int 0)]), (.tup [(.int (-1)), (.int 1)]), (.tup [(.int 0), (.int 1)]), (.tup [(.int 1), (.int 1)]), (.tup [(.int 1), (.int 0)]), (.tup [(.int 1), (.int (-1))]), (.tup [(.int 0), (.int (-1))])])
def on_PictureError : Str → Option Bool := onOf [("InvalidNumber", true), ("InvalidWay", true), ("InvalidMap", true), ("InvalidEnds", true), ("InvalidCell", true)]
def on_InvalidCell : Str → Option Bool := onOf [("InvalidNumber", false), ("InvalidWay", false), ("InvalidMap", false), ("InvalidEnds", false), ("InvalidCell", true)]
def on_InvalidEnds : Str → Option Bool := onOf [("InvalidNumber", false), ("InvalidWay", false), ("InvalidMap", false), ("InvalidEnds", true), ("InvalidCell", false)]
def on_InvalidMap : Str → Option Bool := onOf [("InvalidNumber", false), ("InvalidWay", false), ("InvalidMap", true), ("InvalidEnds", false), ("InvalidCell", false)]
def on_InvalidNumber : Str → Option Bool := onOf [("InvalidNumber", true), ("InvalidWay", false), ("InvalidMap", false), ("InvalidEnds", false), ("InvalidCell", false)]
def on_InvalidWay : Str → Option Bool := onOf [("InvalidNumber", false), ("InvalidWay", true), ("InvalidMap", false), ("InvalidEnds", false), ("InvalidCell", false)]
def g_is_below : DS0 := (dRet (dAnd (dIsi isInt (dVar 0)) (dAnd (dNot (dIsi isBool (dVar 0))) (dChain pLe pLt (dC (.int 0)) (dVar 0) (dVar 1)))))
def F_is_below : List D → Rx Rv := dFn 2 2 g_is_below
def g_require_way : DS0 := (dIfS (dtNot (dTest (dCallF F_is_below (daCons (dVar 0) (daCons (dC (.int 8)) daNil))))) (dRaise "InvalidWay" "thing" (daCons (dVar 0) daNil)) dNil)
def F_require_way : List D → Rx Rv := dFn 1 1 g_require_way
def g_turned_by : DS0 := (dSeq (dIfS (dTest (dOp pLt (dVar 0) (dC (.int 4)))) (dRet (dOp pAdd (dOp pMul (dOp pDiv (dVar 1) (dC (.int 4))) (dC (.int 4))) (dOp pMod (dOp pAdd (dVar 0) (dVar 1)) (dC (.int 4))))) dNil) (dRet (dOp pAdd (dOp pSub (dC (.int 4)) (dOp pMul (dOp pDiv (dVar 1) (dC (.int 4))) (dC (.int 4)))) (dOp pMod (dOp pSub (dVar 0) (dVar 1)) (dC (.int 4))))))
def F_turned_by : List D → Rx Rv := dFn 2 2 g_turned_by
def g_undone : DS0 := (dRet (dIf (dTest (dOp pGe (dVar 0) (dC (.int 4)))) (dVar 0) (dOp pMod (dOp pSub (dC (.int 0)) (dVar 0)) (dC (.int 4)))))
def F_undone : List D → Rx Rv := dFn 1 1 g_undone
def g_place_by : DS0 := (dRet (dIf (dTest (dOp pLt (dVar 0) (dC (.int 4)))) (dOp pMod (dOp pAdd (dVar 1) (dOp pMul (dC (.int 2)) (dVar 0))) (dC (.int 8))) (dOp pMod (dOp pAdd (dOp pSub (dC (.int 2)) (dVar 1)) (dOp pMul (dC (.int 2)) (dVar 0))) (dC (.int 8)))))
def F_place_by : List D → Rx Rv := dFn 2 2 g_place_by
def g_side_by : DS0 := (dRet (dIf (dTest (dOp pLt (dVar 0) (dC (.int 4)))) (dOp pMod (dOp pAdd (dVar 1) (dVar 0)) (dC (.int 4))) (dOp pMod (dOp pSub (dVar 0) (dVar 1)) (dC (.int 4)))))
def F_side_by : List D → Rx Rv := dFn 2 2 g_side_by
def g_behind : DS0 := (dSeq (dDrop (dCallF F_require_way (daCons (dVar 0) daNil))) (dSeq (dDrop (dCallF F_require_way (daCons (dVar 1) daNil))) (dRet (dCallF F_turned_by (daCons (dVar 0) (daCons (dVar 1) daNil))))))
def F_behind : List D → Rx Rv := dFn 2 2 g_behind
def g_inverse : DS0 := (dSeq (dDrop (dCallF F_require_way (daCons (dVar 0) daNil))) (dRet (dCallF F_undone (daCons (dVar 0) daNil))))
def F_inverse : List D → Rx Rv := dFn 1 1 g_inverse
def g_place_to : DS0 := (dSeq (dDrop (dCallF F_require_way (daCons (dVar 0) daNil))) (dSeq (dIfS (dtNot (dTest (dCallF F_is_below (daCons (dVar 1) (daCons (dC (.int 8)) daNil))))) (dRaise "InvalidNumber" "thing" (daCons (dVar 1) daNil)) dNil) (dRet (dCallF F_place_by (daCons (dVar 0) (daCons (dVar 1) daNil))))))
def F_place_to : List D → Rx Rv := dFn 2 2 g_place_to
def g_side_to : DS0 := (dSeq (dDrop (dCallF F_require_way (daCons (dVar 0) daNil))) (dSeq (dIfS (dtNot (dTest (dCallF F_is_below (daCons (dVar 1) (daCons (dC (.int 4)) daNil))))) (dRaise "InvalidNumber" "thing" (daCons (dVar 1) daNil)) dNil) (dRet (dCallF F_side_by (daCons (dVar 0) (daCons (dVar 1) daNil))))))
def F_side_to : List D → Rx Rv := dFn 2 2 g_side_to
def g_is_kind : DS0 := (dRet (dAnd (dIsi isInt (dVar 0)) (dAnd (dNot (dIsi isBool (dVar 0))) (dOp pGe (dVar 0) (dC (.int 0))))))
def F_is_kind : List D → Rx Rv := dFn 1 1 g_is_kind
def g_is_map : DS0 := (dSeq (dIfS (dtOr (dtNot (dTest (dIsi isTuple (dVar 0)))) (dtOr (dTest (dOp pEqD (dCall pLen (daCons (dVar 0) daNil)) (dC (.int 0)))) (dtOr (dtNot (dTest (dIsi isTuple (dIxN 0 (dC (.int 0)))))) (dTest (dOp pEqD (dCall pLen (daCons (dIxN 0 (dC (.int 0))) daNil)) (dC (.int 0))))))) (dRet (dC (.bl false))) dNil) (dSeq (dFor (diSeq (dVar 0)) (gdName 1) (dIfS (dtOr (dtNot (dTest (dIsi isTuple (dVar 1)))) (dtOr (dTest (dOp pNeD (dCall pLen (daCons (dVar 1) daNil)) (dCall pLen (daCons (dIxN 0 (dC (.int 0))) daNil)))) (dtNot (dTest (dCall pAll (daCons (dFrz (dLc (diSeq (dVar 1)) (gdName 2) dYes (dCallF F_is_kind (daCons (dVar 2) daNil)) [2])) daNil)))))) (dRet (dC (.bl false))) dNil)) (dRet (dC (.bl true)))))
def F_is_map : List D → Rx Rv := dFn 1 3 g_is_map
def g_require_map : DS0 := (dIfS (dtNot (dTest (dCallF F_is_map (daCons (dVar 0) daNil)))) (dRaise "InvalidMap" "thing" (daCons (dVar 0) daNil)) dNil)
def F_require_map : List D → Rx Rv := dFn 1 1 g_require_map
def g_is_ends : DS0 := (dSeq (dIfS (dtOr (dtNot (dTest (dIsi isTuple (dVar 0)))) (dTest (dOp pNeD (dCall pLen (daCons (dVar 0) daNil)) (dC (.int 2))))) (dRet (dC (.bl false))) dNil) (dRet (dCall pAll (daCons (dFrz (dLc (diSeq (dVar 0)) (gdName 1) dYes (dAnd (dIsi isStr (dVar 1)) (dOp pIn (dVar 1) (dTup (daCons (dC (.str "open")) (daCons (dC (.str "wrap")) daNil))))) [1])) daNil))))
def F_is_ends : List D → Rx Rv := dFn 1 2 g_is_ends
def g_require_ends : DS0 := (dIfS (dtNot (dTest (dCallF F_is_ends (daCons (dVar 0) daNil)))) (dRaise "InvalidEnds" "thing" (daCons (dVar 0) daNil)) dNil)
def F_require_ends : List D → Rx Rv := dFn 1 1 g_require_ends
def g_require_cell : DS0 := (dSeq (dIfS (dtNot (dTest (dCallF F_is_below (daCons (dVar 1) (daCons (dCall pLen (daCons (dVar 0) daNil)) daNil))))) (dRaise "InvalidCell" "thing" (daCons (dVar 1) daNil)) dNil) (dIfS (dtNot (dTest (dCallF F_is_below (daCons (dVar 2) (daCons (dCall pLen (daCons (dIxN 0 (dC (.int 0))) daNil)) daNil))))) (dRaise "InvalidCell" "thing" (daCons (dVar 2) daNil)) dNil))
def F_require_cell : List D → Rx Rv := dFn 3 3 g_require_cell
def g_kind_at : DS0 := (dSeq (dIfS (dTest (dOp pEqD (dIxN 1 (dC (.int 1))) (dC (.str "wrap")))) (dSet 2 (dOp pMod (dVar 2) (dCall pLen (daCons (dVar 0) daNil)))) dNil) (dSeq (dIfS (dTest (dOp pEqD (dIxN 1 (dC (.int 0))) (dC (.str "wrap")))) (dSet 3 (dOp pMod (dVar 3) (dCall pLen (daCons (dIxN 0 (dC (.int 0))) daNil)))) dNil) (dSeq (dIfS (dtOr (dtNot (dTest (dChain pLe pLt (dC (.int 0)) (dVar 2) (dCall pLen (daCons (dVar 0) daNil))))) (dtNot (dTest (dChain pLe pLt (dC (.int 0)) (dVar 3) (dCall pLen (daCons (dIxN 0 (dC (.int 0))) daNil)))))) (dRet (dC .non)) dNil) (dRet (dOp pIx (dIxN 0 (dVar 2)) (dVar 3))))))
def F_kind_at : List D → Rx Rv := dFn 4 4 g_kind_at
def g_window_of : DS0 := (dSeq (dSet 4 (dFrz (dLc (diSeq (dC c_AROUND)) (gdTup 2 (gdCons (gdName 5) (gdCons (gdName 6) gdNil))) dYes (dCallF F_kind_at (daCons (dVar 0) (daCons (dVar 1) (daCons (dOp pAdd (dVar 2) (dVar 5)) (daCons (dOp pAdd (dVar 3) (dVar 6)) daNil))))) [5, 6]))) (dRet (dTup (daCons (dOp pIx (dIxN 0 (dVar 2)) (dVar 3)) (daCons (dCall pTuple (daCons (dVar 4) daNil)) daNil)))))
def F_window_of : List D → Rx Rv := dFn 4 7 g_window_of
def g_mirrored : DS0 := (dRet (dCall pTuple (daCons (dFrz (dLc (diSeq (dVar 0)) (gdName 1) dYes (dRev (dVar 1)) [1])) daNil)))
def F_mirrored : List D → Rx Rv := dFn 1 2 g_mirrored
def g_quarter : DS0 := (dRet (dCall pTuple (daCons (dFrz (dLc (dRng1 (daCons (dCall pLen (daCons (dIxN 0 (dC (.int 0))) daNil)) daNil)) (gdName 1) dYes (dCall pTuple (daCons (dFrz (dLc (diSeq (dRev (dVar 0))) (gdName 2) dYes (dIxN 2 (dVar 1)) [2])) daNil)) [1])) daNil)))
def F_quarter : List D → Rx Rv := dFn 1 3 g_quarter
def g_rows_by : DS0 := (dSeq (dIfS (dTest (dOp pGe (dVar 1) (dC (.int 4)))) (dSet 0 (dCallF F_mirrored (daCons (dVar 0) daNil))) dNil) (dSeq (dFor (dRng1 (daCons (dOp pMod (dVar 1) (dC (.int 4))) daNil)) (gdName 2) (dSet 0 (dCallF F_quarter (daCons (dVar 0) daNil)))) (dRet (dVar 0))))
def F_rows_by : List D → Rx Rv := dFn 2 3 g_rows_by
def g_ends_by : DS0 := (dRet (dIf (dTest (dOp pEqD (dOp pMod (dVar 1) (dC (.int 2))) (dC (.int 1)))) (dRev (dVar 0)) (dVar 0)))
def F_ends_by : List D → Rx Rv := dFn 2 2 g_ends_by
def g_turned_map : DS0 := (dSeq (dDrop (dCallF F_require_map (daCons (dVar 0) daNil))) (dSeq (dDrop (dCallF F_require_way (daCons (dVar 1) daNil))) (dRet (dCallF F_rows_by (daCons (dVar 0) (daCons (dVar 1) daNil))))))
def F_turned_map : List D → Rx Rv := dFn 2 2 g_turned_map
def g_turned_ends : DS0 := (dSeq (dDrop (dCallF F_require_ends (daCons (dVar 0) daNil))) (dSeq (dDrop (dCallF F_require_way (daCons (dVar 1) daNil))) (dRet (dCallF F_ends_by (daCons (dVar 0) (daCons (dVar 1) daNil))))))
def F_turned_ends : List D → Rx Rv := dFn 2 2 g_turned_ends
def g_window : DS0 := (dSeq (dDrop (dCallF F_require_map (daCons (dVar 0) daNil))) (dSeq (dDrop (dCallF F_require_cell (daCons (dVar 0) (daCons (dVar 1) (daCons (dVar 2) daNil))))) (dSeq (dDrop (dCallF F_require_ends (daCons (dVar 3) daNil))) (dRet (dCallF F_window_of (daCons (dVar 0) (daCons (dVar 3) (daCons (dVar 1) (daCons (dVar 2) daNil)))))))))
def F_window : List D → Rx Rv := dFn 4 4 g_window
def g__law_mixed : DS0 := (dSeq (dSet 2 (dOp pMod (dCall pInt (daCons (dOp pAdd (dOp pAdd (dOp pAdd (dOp pMul (dVar 0) (dC (.int 2654435761))) (dOp pMul (dOp pMul (dC (.int 40503)) (dVar 1)) (dVar 1))) (dOp pMul (dC (.int 97)) (dVar 1))) (dC (.int 13))) daNil)) (dC (.int 2147483647)))) (dRet (dOp pDiv (dOp pMod (dCall pInt (daCons (dOp pAdd (dOp pAdd (dOp pMul (dVar 2) (dVar 2)) (dOp pMul (dC (.int 7)) (dVar 2))) (dC (.int 11))) daNil)) (dC (.int 2147483629))) (dC (.int 3)))))
def F__law_mixed : List D → Rx Rv := dFn 2 3 g__law_mixed
def g__law_purse : DS0 := (dSeq (dSet 2 (dC (.int 0))) (dSeq (dIfS (dTest (dOp pLt (dVar 1) (dCall pLen (daCons (dVar 0) daNil)))) (dSet 2 (dIxN 0 (dVar 1))) dNil) (dRetO (dLst (daCons (dOp pMod (dCall pInt (daCons (dCall pMax2 (daCons (dOp pSub (dVar 2) (dOp pPow (dC (.int 10)) (dC (.int 18)))) (daCons (dC (.int 0)) daNil))) daNil)) (dOp pPowW (dOp pPow (dC (.int 10)) (dC (.int 60))) (dC (.int 8)))) (daCons (dOp pMod (dCall pInt (daCons (dVar 2) daNil)) (dC (.int 2147483647))) (daCons (dOp pMul (dC (.int 1000)) (dVar 1)) daNil)))))))
def F__law_purse : List D → Rx Rv := dFn 2 3 g__law_purse
def g__law_draw : DS0 := (dSeq (dIfS (dTest (dOp pGt (dIxN 0 (dC (.int 0))) (dC (.int 0)))) (dSeq (dSet 2 (dOp pMod (dCall pInt (daCons (dIxN 0 (dC (.int 0))) daNil)) (dVar 1))) (dSeq (dSetIx 0 (dC (.int 0)) (dOp pDiv (dIxN 0 (dC (.int 0))) (dVar 1))) (dRet (dVar 2)))) dNil) (dSeq (dSetIx 0 (dC (.int 2)) (dOp pAdd (dIxN 0 (dC (.int 2))) (dC (.int 1)))) (dRet (dOp pMod (dCall pInt (daCons (dCallF F__law_mixed (daCons (dIxN 0 (dC (.int 1))) (daCons (dIxN 0 (dC (.int 2))) daNil))) daNil)) (dVar 1)))))
def F__law_draw : List D → List D → Rx (Rv × List D) := dFnM 2 3 g__law_draw
def g__law_great : DS0 := (dSeq (dSet 2 (dC (.int 0))) (dSeq (dFor (dRng1 (daCons (dVar 1) daNil)) (gdName 3) (dSet 2 (dOp pAdd (dOp pMul (dC (.int 10)) (dVar 2)) (dCallM F__law_draw 0 (daCons (dC (.int 10)) daNil))))) (dRet (dVar 2))))
def F__law_great : List D → List D → Rx (Rv × List D) := dFnM 2 4 g__law_great
def g__law_asked : DS0 := (dSeq (dIfS (dTest (dOp pEqD (dVar 0) (dC (.int 0)))) (dRet (dCallF F_behind (daCons (dIxN 1 (dC (.int 0))) (daCons (dIxN 1 (dC (.int 1))) daNil)))) dNil) (dSeq (dIfS (dTest (dOp pEqD (dVar 0) (dC (.int 1)))) (dRet (dCallF F_inverse (daCons (dIxN 1 (dC (.int 0))) daNil))) dNil) (dSeq (dIfS (dTest (dOp pEqD (dVar 0) (dC (.int 2)))) (dRet (dCallF F_place_to (daCons (dIxN 1 (dC (.int 0))) (daCons (dIxN 1 (dC (.int 1))) daNil)))) dNil) (dSeq (dIfS (dTest (dOp pEqD (dVar 0) (dC (.int 3)))) (dRet (dCallF F_side_to (daCons (dIxN 1 (dC (.int 0))) (daCons (dIxN 1 (dC (.int 1))) daNil)))) dNil) (dSeq (dIfS (dTest (dOp pEqD (dVar 0) (dC (.int 4)))) (dRet (dCallF F_turned_map (daCons (dIxN 1 (dC (.int 0))) (daCons (dIxN 1 (dC (.int 1))) daNil)))) dNil) (dSeq (dIfS (dTest (dOp pEqD (dVar 0) (dC (.int 5)))) (dRet (dCallF F_turned_ends (daCons (dIxN 1 (dC (.int 0))) (daCons (dIxN 1 (dC (.int 1))) daNil)))) dNil) (dRet (dCallN F_window 3 1 [.p 0, .p 1, .p 2, .k 0] [] (daCons (dIxN 1 (dC (.int 0))) (daCons (dIxN 1 (dC (.int 1))) (daCons (dIxN 1 (dC (.int 2))) daNil))) (daCons (dIxN 1 (dC (.int 3))) daNil)))))))))
def F__law_asked : List D → Rx Rv := dFn 2 2 g__law_asked
def g__law_caught : DS0 := (dSeq (dSet 2 (dC .non)) (dSeq (dTry (dDrop (dCallF F__law_asked (daCons (dVar 0) (daCons (dVar 1) daNil)))) [⟨on_InvalidWay, dHd 3 2 "thing" fun v => .lst [.str "way", v]⟩, ⟨on_InvalidNumber, dHd 3 2 "thing" fun v => .lst [.str "number", v]⟩, ⟨on_InvalidMap, dHd 3 2 "thing" fun v => .lst [.str "map", v]⟩, ⟨on_InvalidEnds, dHd 3 2 "thing" fun v => .lst [.str "ends", v]⟩, ⟨on_InvalidCell, dHd 3 2 "thing" fun v => .lst [.str "cell", v]⟩, ⟨on_PictureError, fun _ => (dSet 2 (dFrz (dLst (daCons (dC (.str "other")) daNil))))⟩]) (dRet (dVar 2))))
def F__law_caught : List D → Rx Rv := dFn 2 4 g__law_caught
def g__law_right : DS0 := (dSeq (dSet 1 (dOp pIx (dFrz (dLst (daCons (dC .non) (daCons (dNeg (dC (.int 1))) (daCons (dC (.int 8)) (daCons (dC (.bl true)) (daCons (dC (.str "3")) (daCons (dTup (daCons (dC (.int 1)) daNil)) (daCons (dFrz (dLst daNil)) daNil))))))))) (dCallM F__law_draw 0 (daCons (dC (.int 7)) daNil)))) (dSeq (dSet 2 (dOp pIx (dFrz (dLst (daCons (dC .non) (daCons (dNeg (dC (.int 1))) (daCons (dC (.int 8)) (daCons (dC (.bl true)) (daCons (dC (.str "3")) (daCons (dTup (daCons (dC (.int 1)) daNil)) (daCons dDct0 daNil))))))))) (dCallM F__law_draw 0 (daCons (dC (.int 7)) daNil)))) (dSeq (dSet 3 (dOp pIx (dFrz (dLst (daCons (dC .non) (daCons (dNeg (dC (.int 1))) (daCons (dC (.int 4)) (daCons (dC (.bl false)) (daCons (dC (.str "3")) (daCons (dTup (daCons (dC (.int 1)) daNil)) (daCons dDct0 daNil))))))))) (dCallM F__law_draw 0 (daCons (dC (.int 7)) daNil)))) (dSeq (dSet 4 (dFrz (dLst (daCons (dC .non) (daCons (dTup daNil) (daCons (dTup (daCons (dTup daNil) daNil)) (daCons (dFrz (dLst (daCons (dTup (daCons (dC (.int 0)) daNil)) daNil))) (daCons (dTup (daCons (dTup (daCons (dC (.int 0)) daNil)) (daCons (dTup (daCons (dC (.int 0)) (daCons (dC (.int 1)) daNil))) daNil))) (daCons (dTup (daCons (dFrz (dLst (daCons (dC (.int 0)) daNil))) daNil)) (daCons (dTup (daCons (dTup (daCons (dC (.bl true)) daNil)) daNil)) (daCons (dTup (daCons (dTup (daCons (dNeg (dC (.int 1))) daNil)) daNil)) (daCons (dTup (daCons (dTup (daCons (dC (.str "0")) daNil)) daNil)) (daCons (dTup (daCons (dTup (daCons (dC (.int 0)) (daCons (dC .non) daNil))) daNil)) daNil))))))))))))) (dSeq (dSet 4 (dOp pAdd (dVar 4) (dFrz (dLst (daCons (dC (.int 5)) (daCons (dTup (daCons (dTup (daCons (dC (.int 0)) daNil)) (daCons (dTup daNil) daNil))) (daCons (dTup (daCons (dC (.int 0)) (daCons (dC (.int 1)) daNil))) (daCons (dTup (daCons (dC .non) daNil)) (daCons (dTup (daCons (dC (.str "01")) daNil)) (daCons (dTup (daCons (dTup (daCons (dC (.int 0)) daNil)) (daCons (dTup (daCons (dC (.bl true)) daNil)) daNil))) (daCons (dTup (daCons (dTup (daCons (dC (.int 0)) daNil)) (daCons (dTup (daCons (dNeg (dC (.int 1))) daNil)) daNil))) (daCons (dTup (daCons (dTup (daCons (dC (.int 0)) (daCons (dC (.int 1)) daNil))) (daCons (dTup (daCons (dC (.int 2)) (daCons (dC (.str "3")) daNil))) daNil))) (daCons dDct0 daNil))))))))))))) (dSeq (dSet 5 (dIxN 4 (dCallM F__law_draw 0 (daCons (dC (.int 19)) daNil)))) (dSeq (dSet 6 (dFrz (dLst (daCons (dC .non) (daCons (dTup (daCons (dC (.str "open")) daNil)) (daCons (dFrz (dLst (daCons (dC (.str "open")) (daCons (dC (.str "open")) daNil)))) (daCons (dTup (daCons (dC (.str "open")) (daCons (dC (.str "shut")) daNil))) (daCons (dTup (daCons (dC (.str "wrap")) (daCons (dC (.str "wrap")) (daCons (dC (.str "wrap")) daNil)))) (daCons (dC (.str "wrap")) (daCons (dTup (daCons (dC (.bl true)) (daCons (dC (.str "open")) daNil))) (daCons (dTup daNil) daNil))))))))))) (dSeq (dSet 6 (dOp pAdd (dVar 6) (dFrz (dLst (daCons (dTup (daCons (dC (.str "shut")) (daCons (dC (.str "open")) daNil))) (daCons (dTup (daCons (dC (.str "open")) (daCons (dC .non) daNil))) (daCons (dTup (daCons (dC (.str "Open")) (daCons (dC (.str "open")) daNil))) daNil))))))) (dSeq (dSet 6 (dIxN 6 (dCallM F__law_draw 0 (daCons (dC (.int 11)) daNil)))) (dSeq (dSet 7 (dOp pIx (dFrz (dLst (daCons (dC .non) (daCons (dNeg (dC (.int 1))) (daCons (dC (.int 2)) (daCons (dC (.bl true)) (daCons (dC (.str "0")) (daCons (dTup (daCons (dC (.int 0)) daNil)) daNil)))))))) (dCallM F__law_draw 0 (daCons (dC (.int 6)) daNil)))) (dSeq (dSet 8 (dTup (daCons (dTup (daCons (dC (.int 0)) (daCons (dC (.int 1)) (daCons (dC (.int 5)) daNil)))) (daCons (dTup (daCons (dC (.int 2)) (daCons (dC (.int 0)) (daCons (dOp pPow (dC (.int 10)) (dC (.int 20))) daNil)))) daNil)))) (dSeq (dSet 9 (dFrz (dLst (daCons (dTup (daCons (dC (.int 0)) (daCons (dFrz (dLst (daCons (dVar 1) (daCons (dVar 2) daNil)))) daNil))) (daCons (dTup (daCons (dC (.int 0)) (daCons (dFrz (dLst (daCons (dC (.int 3)) (daCons (dVar 2) daNil)))) daNil))) (daCons (dTup (daCons (dC (.int 1)) (daCons (dFrz (dLst (daCons (dVar 1) daNil))) daNil))) (daCons (dTup (daCons (dC (.int 2)) (daCons (dFrz (dLst (daCons (dVar 1) (daCons (dVar 2) daNil)))) daNil))) (daCons (dTup (daCons (dC (.int 2)) (daCons (dFrz (dLst (daCons (dC (.int 3)) (daCons (dVar 2) daNil)))) daNil))) daNil)))))))) (dSeq (dSet 9 (dOp pAdd (dVar 9) (dFrz (dLst (daCons (dTup (daCons (dC (.int 3)) (daCons (dFrz (dLst (daCons (dVar 1) (daCons (dVar 3) daNil)))) daNil))) (daCons (dTup (daCons (dC (.int 3)) (daCons (dFrz (dLst (daCons (dC (.int 7)) (daCons (dVar 3) daNil)))) daNil))) daNil)))))) (dSeq (dSet 10 (dFrz (dLst (daCons (dFrz (dLst (daCons (dC (.str "way")) (daCons (dVar 1) daNil)))) (daCons (dFrz (dLst (daCons (dC (.str "way")) (daCons (dVar 2) daNil)))) (daCons (dFrz (dLst (daCons (dC (.str "way")) (daCons (dVar 1) daNil)))) (daCons (dFrz (dLst (daCons (dC (.str "way")) (daCons (dVar 1) daNil)))) (daCons (dFrz (dLst (daCons (dC (.str "number")) (daCons (dVar 2) daNil)))) (daCons (dFrz (dLst (daCons (dC (.str "way")) (daCons (dVar 1) daNil)))) (daCons (dFrz (dLst (daCons (dC (.str "number")) (daCons (dVar 3) daNil)))) daNil)))))))))) (dSeq (dSet 9 (dOp pAdd (dVar 9) (dFrz (dLst (daCons (dTup (daCons (dC (.int 4)) (daCons (dFrz (dLst (daCons (dVar 5) (daCons (dVar 1) daNil)))) daNil))) (daCons (dTup (daCons (dC (.int 4)) (daCons (dFrz (dLst (daCons (dVar 8) (daCons (dVar 1) daNil)))) daNil))) (daCons (dTup (daCons (dC (.int 5)) (daCons (dFrz (dLst (daCons (dVar 6) (daCons (dVar 1) daNil)))) daNil))) (daCons (dTup (daCons (dC (.int 5)) (daCons (dFrz (dLst (daCons (dTup (daCons (dC (.str "open")) (daCons (dC (.str "wrap")) daNil))) (daCons (dVar 1) daNil)))) daNil))) daNil)))))))) (dSeq (dSet 10 (dOp pAdd (dVar 10) (dFrz (dLst (daCons (dFrz (dLst (daCons (dC (.str "map")) (daCons (dVar 5) daNil)))) (daCons (dFrz (dLst (daCons (dC (.str "way")) (daCons (dVar 1) daNil)))) (daCons (dFrz (dLst (daCons (dC (.str "ends")) (daCons (dVar 6) daNil)))) (daCons (dFrz (dLst (daCons (dC (.str "way")) (daCons (dVar 1) daNil)))) daNil)))))))) (dSeq (dSet 9 (dOp pAdd (dVar 9) (dFrz (dLst (daCons (dTup (daCons (dC (.int 6)) (daCons (dFrz (dLst (daCons (dVar 5) (daCons (dVar 7) (daCons (dVar 7) (daCons (dVar 6) daNil)))))) daNil))) (daCons (dTup (daCons (dC (.int 6)) (daCons (dFrz (dLst (daCons (dVar 8) (daCons (dVar 7) (daCons (dC .non) (daCons (dVar 6) daNil)))))) daNil))) (daCons (dTup (daCons (dC (.int 6)) (daCons (dFrz (dLst (daCons (dVar 8) (daCons (dC (.int 1)) (daCons (dVar 7) (daCons (dVar 6) daNil)))))) daNil))) daNil))))))) (dSeq (dIfS (dTest (dOp pEqD (dVar 7) (dC (.int 2)))) (dSet 9 (dOp pAdd (dCut (dVar 9) dpNone (dpSome (dNeg (dC (.int 1))))) (dFrz (dLst (daCons (dTup (daCons (dC (.int 6)) (daCons (dFrz (dLst (daCons (dVar 8) (daCons (dC (.int 1)) (daCons (dC (.int 3)) (daCons (dVar 6) daNil)))))) daNil))) daNil))))) dNil) (dSeq (dSet 10 (dOp pAdd (dVar 10) (dFrz (dLst (daCons (dFrz (dLst (daCons (dC (.str "map")) (daCons (dVar 5) daNil)))) (daCons (dFrz (dLst (daCons (dC (.str "cell")) (daCons (dVar 7) daNil)))) (daCons (dFrz (dLst (daCons (dC (.str "cell")) (daCons (dOp pIx (dFrz (dLst (daCons (dVar 7) (daCons (dC (.int 3)) daNil)))) (dCall pInt (daCons (dOp pEqD (dVar 7) (dC (.int 2))) daNil))) daNil)))) daNil))))))) (dSeq (dSet 9 (dOp pAdd (dVar 9) (dFrz (dLst (daCons (dTup (daCons (dC (.int 6)) (daCons (dFrz (dLst (daCons (dVar 8) (daCons (dC (.int 1)) (daCons (dC (.int 2)) (daCons (dVar 6) daNil)))))) daNil))) (daCons (dTup (daCons (dC (.int 6)) (daCons (dFrz (dLst (daCons (dVar 8) (daCons (dC (.int 1)) (daCons (dC (.int 2)) (daCons (dTup (daCons (dC (.str "wrap")) (daCons (dC (.str "open")) daNil))) daNil)))))) daNil))) daNil)))))) (dSeq (dSet 9 (dOp pAdd (dVar 9) (dFrz (dLst (daCons (dTup (daCons (dC (.int 4)) (daCons (dFrz (dLst (daCons (dVar 8) (daCons (dC (.int 0)) daNil)))) daNil))) (daCons (dTup (daCons (dC (.int 5)) (daCons (dFrz (dLst (daCons (dTup (daCons (dC (.str "open")) (daCons (dC (.str "open")) daNil))) (daCons (dC (.int 7)) daNil)))) daNil))) daNil)))))) (dSeq (dSet 10 (dOp pAdd (dVar 10) (dFrz (dLst (daCons (dFrz (dLst (daCons (dC (.str "ends")) (daCons (dVar 6) daNil)))) (daCons (dC .non) (daCons (dC .non) (daCons (dC .non) daNil)))))))) (dRet (dOp pEqD (dCall pStr (daCons (dFrz (dLc (diSeq (dVar 9)) (gdTup 2 (gdCons (gdName 11) (gdCons (gdName 12) gdNil))) dYes (dCallF F__law_caught (daCons (dVar 11) (daCons (dVar 12) daNil))) [11, 12])) daNil)) (dCall pStr (daCons (dVar 10) daNil))))))))))))))))))))))))))
def F__law_right : List D → List D → Rx (Rv × List D) := dFnM 1 13 g__law_right
def g_law : DS0 := (dSeq (dFor (dRng1 (daCons (dOp pAdd (dC (.int 1)) (dCall pMin2 (daCons (dC (.int 8)) (daCons (dCall pLen (daCons (dVar 0) daNil)) daNil)))) daNil)) (gdName 1) (dSeq (dSetO 2 (dCallFO F__law_purse (daCons (dVar 0) (daCons (dVar 1) daNil)))) (dFor (dRng1 (daCons (dC (.int 3)) daNil)) (gdName 3) (dIfS (dtNot (dTest (dCallM F__law_right 2 daNil))) (dRet (dC (.bl false))) dNil)))) (dRet (dIsN (dCallF F__law_caught (daCons (dC (.int 6)) (daCons (dFrz (dLst (daCons (dTup (daCons (dTup (daCons (dC (.int 0)) daNil)) daNil)) (daCons (dC (.int 0)) (daCons (dC (.int 0)) (daCons (dTup (daCons (dC (.str "open")) (daCons (dC (.str "open")) daNil))) daNil)))))) daNil))))))
def F_law : List D → Rx Rv := dFn 1 4 g_law
end K02

set_option Elab.async false
set_option linter.all false
set_option maxRecDepth 100000
set_option maxHeartbeats 4000000
set_option autoImplicit false
namespace K02
open PySem PySem.Spec L2 DL
abbrev s_is_below : Stmt := top 8
theorem sc_is_below : FnScope ["thing", "most"] ["thing", "most"] (defScope s_is_below) := ⟨rfl, rfl, rfl, by decide +kernel, rfl, by decide +kernel, by decide +kernel⟩
theorem F_is_below_eq : F_is_below = dFn (List.length ["thing", "most"]) (List.length ["thing", "most"]) g_is_below := rfl
theorem ok_is_below {P : Program} {w : World} {K : PySem.W.Frag} {mg : Str → Option Value} {base : Heap} {cn : Nm} {f : Addr} {fd : FuncData} (F : FunD K "is_below" "is_below" (defArgs s_is_below) (defBody s_is_below) (defScope s_is_below) [] [] f fd) (B : Bn mg) :
    FnG P w K mg base (L2.CX P w) 1 f fd ["thing", "most"] (spP (En.mk K cn) F_is_below) := by
  refine fn_q (P := P) (w := w) (k := 0) ["thing", "most"] ["thing", "most"] g_is_below F sc_is_below (by decide) (fun cdv A outer s H E hr o tk => ?_) rfl F_is_below_eq
  unfold g_is_below
  exact Exists.intro _ (dss_one (ds_ret (de_and (de_isi isi_int (o).k B.isinstance_ B.int_ bb_int (de_var 0) bb_isinstance) (de_and (de_not (de_isi isi_bool (o).k B.isinstance_ B.bool_ bb_bool (de_var 0) bb_isinstance)) (de_one (de_chainLeLt de_int (de_var 0) (de_var 1)))))))
abbrev s_require_way : Stmt := top 9
theorem sc_require_way : FnScope ["thing"] ["thing"] (defScope s_require_way) := ⟨rfl, rfl, rfl, by decide +kernel, rfl, by decide +kernel, by decide +kernel⟩
theorem F_require_way_eq : F_require_way = dFn (List.length ["thing"]) (List.length ["thing"]) g_require_way := rfl
theorem ok_require_way {P : Program} {w : World} {K : PySem.W.Frag} {mg : Str → Option Value} {base : Heap} {cn : Nm} {f : Addr} {fd : FuncData} (F : FunD K "require_way" "require_way" (defArgs s_require_way) (defBody s_require_way) (defScope s_require_way) [] [] f fd) (h_exc_InvalidWay : Exk P w K mg base "InvalidWay" "thing" (En.mk K cn)) (h_is_below : Cal P w K mg base 1 "is_below" (spP (En.mk K cn) F_is_below) (En.mk K cn) []) :
    FnG P w K mg base (L2.CX P w) 3 f fd ["thing"] (spP (En.mk K cn) F_require_way) := by
  refine fn_q (P := P) (w := w) (k := 2) ["thing"] ["thing"] g_require_way F sc_require_way (by decide) (fun cdv A outer s H E hr o tk => ?_) rfl F_require_way_eq
  unfold g_require_way
  exact Exists.intro _ (dss_one (ds_if (dt_not (dt_val (de_calP h_is_below (hr.mono (by decide)) tk (da_cons (de_var 0) (da_cons de_int da_nil))))) (dss_one (ds_raise h_exc_InvalidWay o (hr.mono (by decide)) tk (da_cons (de_var 0) da_nil))) dss_nil))
abbrev s_turned_by : Stmt := top 10
theorem sc_turned_by : FnScope ["way", "way_before"] ["way", "way_before"] (defScope s_turned_by) := ⟨rfl, rfl, rfl, by decide +kernel, rfl, by decide +kernel, by decide +kernel⟩
theorem F_turned_by_eq : F_turned_by = dFn (List.length ["way", "way_before"]) (List.length ["way", "way_before"]) g_turned_by := rfl
theorem ok_turned_by {P : Program} {w : World} {K : PySem.W.Frag} {mg : Str → Option Value} {base : Heap} {cn : Nm} {f : Addr} {fd : FuncData} (F : FunD K "turned_by" "turned_by" (defArgs s_turned_by) (defBody s_turned_by) (defScope s_turned_by) [] [] f fd)  :
    FnG P w K mg base (L2.CX P w) 1 f fd ["way", "way_before"] (spP (En.mk K cn) F_turned_by) := by
  refine fn_q (P := P) (w := w) (k := 0) ["way", "way_before"] ["way", "way_before"] g_turned_by F sc_turned_by (by decide) (fun cdv A outer s H E hr o tk => ?_) rfl F_turned_by_eq
  unfold g_turned_by
  exact Exists.intro _ (dss_cons (ds_if (dt_lt (de_var 0) de_int) (dss_one (ds_ret (de_add (o).k (de_mul (de_div (de_var 1) de_int) de_int) (de_mod (de_add (o).k (de_var 0) (de_var 1)) de_int)))) dss_nil) (dss_one (ds_ret (de_add (o).k (de_sub de_int (de_mul (de_div (de_var 1) de_int) de_int)) (de_mod (de_sub (de_var 0) (de_var 1)) de_int)))))
abbrev s_undone : Stmt := top 11
theorem sc_undone : FnScope ["way"] ["way"] (defScope s_undone) := ⟨rfl, rfl, rfl, by decide +kernel, rfl, by decide +kernel, by decide +kernel⟩
theorem F_undone_eq : F_undone = dFn (List.length ["way"]) (List.length ["way"]) g_undone := rfl
theorem ok_undone {P : Program} {w : World} {K : PySem.W.Frag} {mg : Str → Option Value} {base : Heap} {cn : Nm} {f : Addr} {fd : FuncData} (F : FunD K "undone" "undone" (defArgs s_undone) (defBody s_undone) (defScope s_undone) [] [] f fd)  :
    FnG P w K mg base (L2.CX P w) 1 f fd ["way"] (spP (En.mk K cn) F_undone) := by
  refine fn_q (P := P) (w := w) (k := 0) ["way"] ["way"] g_undone F sc_undone (by decide) (fun cdv A outer s H E hr o tk => ?_) rfl F_undone_eq
  unfold g_undone
  exact Exists.intro _ (dss_one (ds_ret (de_if (dt_ge (de_var 0) de_int) (de_var 0) (de_mod (de_sub de_int (de_var 0)) de_int))))
abbrev s_place_by : Stmt := top 12
theorem sc_place_by : FnScope ["way", "place"] ["way", "place"] (defScope s_place_by) := ⟨rfl, rfl, rfl, by decide +kernel, rfl, by decide +kernel, by decide +kernel⟩
theorem F_place_by_eq : F_place_by = dFn (List.length ["way", "place"]) (List.length ["way", "place"]) g_place_by := rfl
theorem ok_place_by {P : Program} {w : World} {K : PySem.W.Frag} {mg : Str → Option Value} {base : Heap} {cn : Nm} {f : Addr} {fd : FuncData} (F : FunD K "place_by" "place_by" (defArgs s_place_by) (defBody s_place_by) (defScope s_place_by) [] [] f fd)  :
    FnG P w K mg base (L2.CX P w) 1 f fd ["way", "place"] (spP (En.mk K cn) F_place_by) := by
  refine fn_q (P := P) (w := w) (k := 0) ["way", "place"] ["way", "place"] g_place_by F sc_place_by (by decide) (fun cdv A outer s H E hr o tk => ?_) rfl F_place_by_eq
  unfold g_place_by
  exact Exists.intro _ (dss_one (ds_ret (de_if (dt_lt (de_var 0) de_int) (de_mod (de_add (o).k (de_var 1) (de_mul de_int (de_var 0))) de_int) (de_mod (de_add (o).k (de_sub de_int (de_var 1)) (de_mul de_int (de_var 0))) de_int))))
abbrev s_side_by : Stmt := top 13
theorem sc_side_by : FnScope ["way", "side"] ["way", "side"] (defScope s_side_by) := ⟨rfl, rfl, rfl, by decide +kernel, rfl, by decide +kernel, by decide +kernel⟩
theorem F_side_by_eq : F_side_by = dFn (List.length ["way", "side"]) (List.length ["way", "side"]) g_side_by := rfl
theorem ok_side_by {P : Program} {w : World} {K : PySem.W.Frag} {mg : Str → Option Value} {base : Heap} {cn : Nm} {f : Addr} {fd : FuncData} (F : FunD K "side_by" "side_by" (defArgs s_side_by) (defBody s_side_by) (defScope s_side_by) [] [] f fd)  :
    FnG P w K mg base (L2.CX P w) 1 f fd ["way", "side"] (spP (En.mk K cn) F_side_by) := by
  refine fn_q (P := P) (w := w) (k := 0) ["way", "side"] ["way", "side"] g_side_by F sc_side_by (by decide) (fun cdv A outer s H E hr o tk => ?_) rfl F_side_by_eq
  unfold g_side_by
  exact Exists.intro _ (dss_one (ds_ret (de_if (dt_lt (de_var 0) de_int) (de_mod (de_add (o).k (de_var 1) (de_var 0)) de_int) (de_mod (de_sub (de_var 0) (de_var 1)) de_int))))
abbrev s_behind : Stmt := top 14
theorem sc_behind : FnScope ["way", "first_way"] ["way", "first_way"] (defScope s_behind) := ⟨rfl, rfl, rfl, by decide +kernel, rfl, by decide +kernel, by decide +kernel⟩
theorem F_behind_eq : F_behind = dFn (List.length ["way", "first_way"]) (List.length ["way", "first_way"]) g_behind := rfl
theorem ok_behind {P : Program} {w : World} {K : PySem.W.Frag} {mg : Str → Option Value} {base : Heap} {cn : Nm} {f : Addr} {fd : FuncData} (F : FunD K "behind" "behind" (defArgs s_behind) (defBody s_behind) (defScope s_behind) [] [] f fd) (h_require_way : Cal P w K mg base 3 "require_way" (spP (En.mk K cn) F_require_way) (En.mk K cn) []) (h_turned_by : Cal P w K mg base 1 "turned_by" (spP (En.mk K cn) F_turned_by) (En.mk K cn) []) :
    FnG P w K mg base (L2.CX P w) 4 f fd ["way", "first_way"] (spP (En.mk K cn) F_behind) := by
  refine fn_q (P := P) (w := w) (k := 3) ["way", "first_way"] ["way", "first_way"] g_behind F sc_behind (by decide) (fun cdv A outer s H E hr o tk => ?_) rfl F_behind_eq
  unfold g_behind
  exact Exists.intro _ (dss_cons (ds_expr (de_calP h_require_way (hr.mono (by decide)) tk (da_cons (de_var 0) da_nil))) (dss_cons (ds_expr (de_calP h_require_way (hr.mono (by decide)) tk (da_cons (de_var 1) da_nil))) (dss_one (ds_ret (de_calP h_turned_by (hr.mono (by decide)) tk (da_cons (de_var 0) (da_cons (de_var 1) da_nil)))))))
abbrev s_inverse : Stmt := top 15
theorem sc_inverse : FnScope ["way"] ["way"] (defScope s_inverse) := ⟨rfl, rfl, rfl, by decide +kernel, rfl, by decide +kernel, by decide +kernel⟩
theorem F_inverse_eq : F_inverse = dFn (List.length ["way"]) (List.length ["way"]) g_inverse := rfl
theorem ok_inverse {P : Program} {w : World} {K : PySem.W.Frag} {mg : Str → Option Value} {base : Heap} {cn : Nm} {f : Addr} {fd : FuncData} (F : FunD K "inverse" "inverse" (defArgs s_inverse) (defBody s_inverse) (defScope s_inverse) [] [] f fd) (h_require_way : Cal P w K mg base 3 "require_way" (spP (En.mk K cn) F_require_way) (En.mk K cn) []) (h_undone : Cal P w K mg base 1 "undone" (spP (En.mk K cn) F_undone) (En.mk K cn) []) :
    FnG P w K mg base (L2.CX P w) 4 f fd ["way"] (spP (En.mk K cn) F_inverse) := by
  refine fn_q (P := P) (w := w) (k := 3) ["way"] ["way"] g_inverse F sc_inverse (by decide) (fun cdv A outer s H E hr o tk => ?_) rfl F_inverse_eq
  unfold g_inverse
  exact Exists.intro _ (dss_cons (ds_expr (de_calP h_require_way (hr.mono (by decide)) tk (da_cons (de_var 0) da_nil))) (dss_one (ds_ret (de_calP h_undone (hr.mono (by decide)) tk (da_cons (de_var 0) da_nil)))))
abbrev s_place_to : Stmt := top 16
theorem sc_place_to : FnScope ["way", "place"] ["way", "place"] (defScope s_place_to) := ⟨rfl, rfl, rfl, by decide +kernel, rfl, by decide +kernel, by decide +kernel⟩
theorem F_place_to_eq : F_place_to = dFn (List.length ["way", "place"]) (List.length ["way", "place"]) g_place_to := rfl
theorem ok_place_to {P : Program} {w : World} {K : PySem.W.Frag} {mg : Str → Option Value} {base : Heap} {cn : Nm} {f : Addr} {fd : FuncData} (F : FunD K "place_to" "place_to" (defArgs s_place_to) (defBody s_place_to) (defScope s_place_to) [] [] f fd) (h_exc_InvalidNumber : Exk P w K mg base "InvalidNumber" "thing" (En.mk K cn)) (h_require_way : Cal P w K mg base 3 "require_way" (spP (En.mk K cn) F_require_way) (En.mk K cn) []) (h_is_below : Cal P w K mg base 1 "is_below" (spP (En.mk K cn) F_is_below) (En.mk K cn) []) (h_place_by : Cal P w K mg base 1 "place_by" (spP (En.mk K cn) F_place_by) (En.mk K cn) []) :
    FnG P w K mg base (L2.CX P w) 4 f fd ["way", "place"] (spP (En.mk K cn) F_place_to) := by
  refine fn_q (P := P) (w := w) (k := 3) ["way", "place"] ["way", "place"] g_place_to F sc_place_to (by decide) (fun cdv A outer s H E hr o tk => ?_) rfl F_place_to_eq
  unfold g_place_to
  exact Exists.intro _ (dss_cons (ds_expr (de_calP h_require_way (hr.mono (by decide)) tk (da_cons (de_var 0) da_nil))) (dss_cons (ds_if (dt_not (dt_val (de_calP h_is_below (hr.mono (by decide)) tk (da_cons (de_var 1) (da_cons de_int da_nil))))) (dss_one (ds_raise h_exc_InvalidNumber o (hr.mono (by decide)) tk (da_cons (de_var 1) da_nil))) dss_nil) (dss_one (ds_ret (de_calP h_place_by (hr.mono (by decide)) tk (da_cons (de_var 0) (da_cons (de_var 1) da_nil)))))))
abbrev s_side_to : Stmt := top 17
theorem sc_side_to : FnScope ["way", "side"] ["way", "side"] (defScope s_side_to) := ⟨rfl, rfl, rfl, by decide +kernel, rfl, by decide +kernel, by decide +kernel⟩
theorem F_side_to_eq : F_side_to = dFn (List.length ["way", "side"]) (List.length ["way", "side"]) g_side_to := rfl
theorem ok_side_to {P : Program} {w : World} {K : PySem.W.Frag} {mg : Str → Option Value} {base : Heap} {cn : Nm} {f : Addr} {fd : FuncData} (F : FunD K "side_to" "side_to" (defArgs s_side_to) (defBody s_side_to) (defScope s_side_to) [] [] f fd) (h_exc_InvalidNumber : Exk P w K mg base "InvalidNumber" "thing" (En.mk K cn)) (h_require_way : Cal P w K mg base 3 "require_way" (spP (En.mk K cn) F_require_way) (En.mk K cn) []) (h_is_below : Cal P w K mg base 1 "is_below" (spP (En.mk K cn) F_is_below) (En.mk K cn) []) (h_side_by : Cal P w K mg base 1 "side_by" (spP (En.mk K cn) F_side_by) (En.mk K cn) []) :
    FnG P w K mg base (L2.CX P w) 4 f fd ["way", "side"] (spP (En.mk K cn) F_side_to) := by
  refine fn_q (P := P) (w := w) (k := 3) ["way", "side"] ["way", "side"] g_side_to F sc_side_to (by decide) (fun cdv A outer s H E hr o tk => ?_) rfl F_side_to_eq
  unfold g_side_to
  exact Exists.intro _ (dss_cons (ds_expr (de_calP h_require_way (hr.mono (by decide)) tk (da_cons (de_var 0) da_nil))) (dss_cons (ds_if (dt_not (dt_val (de_calP h_is_below (hr.mono (by decide)) tk (da_cons (de_var 1) (da_cons de_int da_nil))))) (dss_one (ds_raise h_exc_InvalidNumber o (hr.mono (by decide)) tk (da_cons (de_var 1) da_nil))) dss_nil) (dss_one (ds_ret (de_calP h_side_by (hr.mono (by decide)) tk (da_cons (de_var 0) (da_cons (de_var 1) da_nil)))))))
abbrev s_is_kind : Stmt := top 20
theorem sc_is_kind : FnScope ["thing"] ["thing"] (defScope s_is_kind) := ⟨rfl, rfl, rfl, by decide +kernel, rfl, by decide +kernel, by decide +kernel⟩
theorem F_is_kind_eq : F_is_kind = dFn (List.length ["thing"]) (List.length ["thing"]) g_is_kind := rfl
theorem ok_is_kind {P : Program} {w : World} {K : PySem.W.Frag} {mg : Str → Option Value} {base : Heap} {cn : Nm} {f : Addr} {fd : FuncData} (F : FunD K "is_kind" "is_kind" (defArgs s_is_kind) (defBody s_is_kind) (defScope s_is_kind) [] [] f fd) (B : Bn mg) :
    FnG P w K mg base (L2.CX P w) 1 f fd ["thing"] (spP (En.mk K cn) F_is_kind) := by
  refine fn_q (P := P) (w := w) (k := 0) ["thing"] ["thing"] g_is_kind F sc_is_kind (by decide) (fun cdv A outer s H E hr o tk => ?_) rfl F_is_kind_eq
  unfold g_is_kind
  exact Exists.intro _ (dss_one (ds_ret (de_and (de_isi isi_int (o).k B.isinstance_ B.int_ bb_int (de_var 0) bb_isinstance) (de_and (de_not (de_isi isi_bool (o).k B.isinstance_ B.bool_ bb_bool (de_var 0) bb_isinstance)) (de_one (de_ge (de_var 0) de_int))))))
abbrev s_is_map : Stmt := top 21
theorem sc_is_map : FnScope ["thing", "row", "kind"] ["thing"] (defScope s_is_map) := ⟨rfl, rfl, rfl, by decide +kernel, rfl, by decide +kernel, by decide +kernel⟩
theorem F_is_map_eq : F_is_map = dFn (List.length ["thing"]) (List.length ["thing", "row", "kind"]) g_is_map := rfl
theorem ok_is_map {P : Program} {w : World} {K : PySem.W.Frag} {mg : Str → Option Value} {base : Heap} {cn : Nm} {f : Addr} {fd : FuncData} (F : FunD K "is_map" "is_map" (defArgs s_is_map) (defBody s_is_map) (defScope s_is_map) [] [] f fd) (B : Bn mg) (h_is_kind : Cal P w K mg base 1 "is_kind" (spP (En.mk K cn) F_is_kind) (En.mk K cn) []) :
    FnG P w K mg base (L2.CX P w) 2 f fd ["thing"] (spP (En.mk K cn) F_is_map) := by
  refine fn_q (P := P) (w := w) (k := 1) ["thing", "row", "kind"] ["thing"] g_is_map F sc_is_map (by decide) (fun cdv A outer s H E hr o tk => ?_) rfl F_is_map_eq
  unfold g_is_map
  exact Exists.intro _ (dss_cons (ds_if (DW.dt (dw_or (dt_not (dt_val (de_isi isi_tuple (o).k B.isinstance_ B.tuple_ bb_tuple (de_var 0) bb_isinstance))) (dw_or (dt_eq o (de_callB (cr_len (o).k) callOk_len B.len_ bb_len (da_cons (de_var 0) da_nil)) de_int) (dw_or (dt_not (dt_val (de_isi isi_tuple (o).k B.isinstance_ B.tuple_ bb_tuple (de_ixN 0 (o).k de_int) bb_isinstance))) (dw_or1 (dt_eq o (de_callB (cr_len (o).k) callOk_len B.len_ bb_len (da_cons (de_ixN 0 (o).k de_int) da_nil)) de_int)))))) (dss_one (ds_ret de_bl)) dss_nil) (dss_cons (ds_for o (di_seq (o).k (de_var 0)) (dg_name 1 (o)) (dss_one (ds_if (DW.dt (dw_or (dt_not (dt_val (de_isi isi_tuple (o).k B.isinstance_ B.tuple_ bb_tuple (de_var 1) bb_isinstance))) (dw_or (dt_ne o (de_callB (cr_len (o).k) callOk_len B.len_ bb_len (da_cons (de_var 1) da_nil)) (de_callB (cr_len (o).k) callOk_len B.len_ bb_len (da_cons (de_ixN 0 (o).k de_int) da_nil))) (dw_or1 (dt_not (dt_val (de_callB (cr_all' o) callOk_all B.all_ bb_all (da_cons (DO.de (do_lc o [("kind", 2)] (di_seq (o).k (de_var 1)) (blkOk_by (by first | rfl | kernel_rfl)) (fun _ _ _ _ _ => (dg_name 2 (((o).blk _ _ _ _ _)))) (fun _ _ _ _ _ => dts_nil) (fun _ _ _ _ _ => (de_calP h_is_kind (hr.mono (by decide)) takes0 (da_cons (de_var 2) da_nil))))) da_nil)))))))) (dss_one (ds_ret de_bl)) dss_nil))) (dss_one (ds_ret de_bl))))
end K02

set_option Elab.async false
set_option linter.all false
set_option maxRecDepth 100000
set_option maxHeartbeats 4000000
set_option autoImplicit false
namespace K02
open PySem PySem.Spec L2 DL
abbrev s_require_map : Stmt := top 22
theorem sc_require_map : FnScope ["thing"] ["thing"] (defScope s_require_map) := ⟨rfl, rfl, rfl, by decide +kernel, rfl, by decide +kernel, by decide +kernel⟩
theorem F_require_map_eq : F_require_map = dFn (List.length ["thing"]) (List.length ["thing"]) g_require_map := rfl
theorem ok_require_map {P : Program} {w : World} {K : PySem.W.Frag} {mg : Str → Option Value} {base : Heap} {cn : Nm} {f : Addr} {fd : FuncData} (F : FunD K "require_map" "require_map" (defArgs s_require_map) (defBody s_require_map) (defScope s_require_map) [] [] f fd) (h_exc_InvalidMap : Exk P w K mg base "InvalidMap" "thing" (En.mk K cn)) (h_is_map : Cal P w K mg base 2 "is_map" (spP (En.mk K cn) F_is_map) (En.mk K cn) []) :
    FnG P w K mg base (L2.CX P w) 3 f fd ["thing"] (spP (En.mk K cn) F_require_map) := by
  refine fn_q (P := P) (w := w) (k := 2) ["thing"] ["thing"] g_require_map F sc_require_map (by decide) (fun cdv A outer s H E hr o tk => ?_) rfl F_require_map_eq
  unfold g_require_map
  exact Exists.intro _ (dss_one (ds_if (dt_not (dt_val (de_calP h_is_map (hr.mono (by decide)) tk (da_cons (de_var 0) da_nil)))) (dss_one (ds_raise h_exc_InvalidMap o (hr.mono (by decide)) tk (da_cons (de_var 0) da_nil))) dss_nil))
abbrev s_is_ends : Stmt := top 23
theorem sc_is_ends : FnScope ["thing", "end"] ["thing"] (defScope s_is_ends) := ⟨rfl, rfl, rfl, by decide +kernel, rfl, by decide +kernel, by decide +kernel⟩
theorem F_is_ends_eq : F_is_ends = dFn (List.length ["thing"]) (List.length ["thing", "end"]) g_is_ends := rfl
theorem ok_is_ends {P : Program} {w : World} {K : PySem.W.Frag} {mg : Str → Option Value} {base : Heap} {cn : Nm} {f : Addr} {fd : FuncData} (F : FunD K "is_ends" "is_ends" (defArgs s_is_ends) (defBody s_is_ends) (defScope s_is_ends) [] [] f fd) (B : Bn mg) :
    FnG P w K mg base (L2.CX P w) 1 f fd ["thing"] (spP (En.mk K cn) F_is_ends) := by
  refine fn_q (P := P) (w := w) (k := 0) ["thing", "end"] ["thing"] g_is_ends F sc_is_ends (by decide) (fun cdv A outer s H E hr o tk => ?_) rfl F_is_ends_eq
  unfold g_is_ends
  exact Exists.intro _ (dss_cons (ds_if (DW.dt (dw_or (dt_not (dt_val (de_isi isi_tuple (o).k B.isinstance_ B.tuple_ bb_tuple (de_var 0) bb_isinstance))) (dw_or1 (dt_ne o (de_callB (cr_len (o).k) callOk_len B.len_ bb_len (da_cons (de_var 0) da_nil)) de_int)))) (dss_one (ds_ret de_bl)) dss_nil) (dss_one (ds_ret (de_callB (cr_all' o) callOk_all B.all_ bb_all (da_cons (DO.de (do_lc o [("end", 1)] (di_seq (o).k (de_var 0)) (blkOk_by (by first | rfl | kernel_rfl)) (fun _ _ _ _ _ => (dg_name 1 (((o).blk _ _ _ _ _)))) (fun _ _ _ _ _ => dts_nil) (fun _ _ _ _ _ => (de_and (de_isi isi_str (((o).blk _ _ _ _ _)).k B.isinstance_ B.str_ bb_str (de_var 1) bb_isinstance) (de_one (de_in ((o).blk _ _ _ _ _) (de_var 1) (de_tup (da_cons de_str (da_cons de_str da_nil))))))))) da_nil)))))
abbrev s_require_ends : Stmt := top 24
theorem sc_require_ends : FnScope ["thing"] ["thing"] (defScope s_require_ends) := ⟨rfl, rfl, rfl, by decide +kernel, rfl, by decide +kernel, by decide +kernel⟩
theorem F_require_ends_eq : F_require_ends = dFn (List.length ["thing"]) (List.length ["thing"]) g_require_ends := rfl
theorem ok_require_ends {P : Program} {w : World} {K : PySem.W.Frag} {mg : Str → Option Value} {base : Heap} {cn : Nm} {f : Addr} {fd : FuncData} (F : FunD K "require_ends" "require_ends" (defArgs s_require_ends) (defBody s_require_ends) (defScope s_require_ends) [] [] f fd) (h_exc_InvalidEnds : Exk P w K mg base "InvalidEnds" "thing" (En.mk K cn)) (h_is_ends : Cal P w K mg base 1 "is_ends" (spP (En.mk K cn) F_is_ends) (En.mk K cn) []) :
    FnG P w K mg base (L2.CX P w) 3 f fd ["thing"] (spP (En.mk K cn) F_require_ends) := by
  refine fn_q (P := P) (w := w) (k := 2) ["thing"] ["thing"] g_require_ends F sc_require_ends (by decide) (fun cdv A outer s H E hr o tk => ?_) rfl F_require_ends_eq
  unfold g_require_ends
  exact Exists.intro _ (dss_one (ds_if (dt_not (dt_val (de_calP h_is_ends (hr.mono (by decide)) tk (da_cons (de_var 0) da_nil)))) (dss_one (ds_raise h_exc_InvalidEnds o (hr.mono (by decide)) tk (da_cons (de_var 0) da_nil))) dss_nil))
abbrev s_require_cell : Stmt := top 25
theorem sc_require_cell : FnScope ["rows", "row", "column"] ["rows", "row", "column"] (defScope s_require_cell) := ⟨rfl, rfl, rfl, by decide +kernel, rfl, by decide +kernel, by decide +kernel⟩
theorem F_require_cell_eq : F_require_cell = dFn (List.length ["rows", "row", "column"]) (List.length ["rows", "row", "column"]) g_require_cell := rfl
theorem ok_require_cell {P : Program} {w : World} {K : PySem.W.Frag} {mg : Str → Option Value} {base : Heap} {cn : Nm} {f : Addr} {fd : FuncData} (F : FunD K "require_cell" "require_cell" (defArgs s_require_cell) (defBody s_require_cell) (defScope s_require_cell) [] [] f fd) (B : Bn mg) (h_exc_InvalidCell : Exk P w K mg base "InvalidCell" "thing" (En.mk K cn)) (h_is_below : Cal P w K mg base 1 "is_below" (spP (En.mk K cn) F_is_below) (En.mk K cn) []) :
    FnG P w K mg base (L2.CX P w) 3 f fd ["rows", "row", "column"] (spP (En.mk K cn) F_require_cell) := by
  refine fn_q (P := P) (w := w) (k := 2) ["rows", "row", "column"] ["rows", "row", "column"] g_require_cell F sc_require_cell (by decide) (fun cdv A outer s H E hr o tk => ?_) rfl F_require_cell_eq
  unfold g_require_cell
  exact Exists.intro _ (dss_cons (ds_if (dt_not (dt_val (de_calP h_is_below (hr.mono (by decide)) tk (da_cons (de_var 1) (da_cons (de_callB (cr_len (o).k) callOk_len B.len_ bb_len (da_cons (de_var 0) da_nil)) da_nil))))) (dss_one (ds_raise h_exc_InvalidCell o (hr.mono (by decide)) tk (da_cons (de_var 1) da_nil))) dss_nil) (dss_one (ds_if (dt_not (dt_val (de_calP h_is_below (hr.mono (by decide)) tk (da_cons (de_var 2) (da_cons (de_callB (cr_len (o).k) callOk_len B.len_ bb_len (da_cons (de_ixN 0 (o).k de_int) da_nil)) da_nil))))) (dss_one (ds_raise h_exc_InvalidCell o (hr.mono (by decide)) tk (da_cons (de_var 2) da_nil))) dss_nil)))
abbrev s_kind_at : Stmt := top 26
theorem sc_kind_at : FnScope ["rows", "ends", "row", "column"] ["rows", "ends", "row", "column"] (defScope s_kind_at) := ⟨rfl, rfl, rfl, by decide +kernel, rfl, by decide +kernel, by decide +kernel⟩
theorem F_kind_at_eq : F_kind_at = dFn (List.length ["rows", "ends", "row", "column"]) (List.length ["rows", "ends", "row", "column"]) g_kind_at := rfl
theorem ok_kind_at {P : Program} {w : World} {K : PySem.W.Frag} {mg : Str → Option Value} {base : Heap} {cn : Nm} {f : Addr} {fd : FuncData} (F : FunD K "kind_at" "kind_at" (defArgs s_kind_at) (defBody s_kind_at) (defScope s_kind_at) [] [] f fd) (B : Bn mg) :
    FnG P w K mg base (L2.CX P w) 1 f fd ["rows", "ends", "row", "column"] (spP (En.mk K cn) F_kind_at) := by
  refine fn_q (P := P) (w := w) (k := 0) ["rows", "ends", "row", "column"] ["rows", "ends", "row", "column"] g_kind_at F sc_kind_at (by decide) (fun cdv A outer s H E hr o tk => ?_) rfl F_kind_at_eq
  unfold g_kind_at
  exact Exists.intro _ (dss_cons (ds_if (dt_eq o (de_ixN 1 (o).k de_int) de_str) (dss_one (ds_set 2 o (de_mod (de_var 2) (de_callB (cr_len (o).k) callOk_len B.len_ bb_len (da_cons (de_var 0) da_nil))))) dss_nil) (dss_cons (ds_if (dt_eq o (de_ixN 1 (o).k de_int) de_str) (dss_one (ds_set 3 o (de_mod (de_var 3) (de_callB (cr_len (o).k) callOk_len B.len_ bb_len (da_cons (de_ixN 0 (o).k de_int) da_nil))))) dss_nil) (dss_cons (ds_if (DW.dt (dw_or (dt_not (dt_chainLeLt de_int (de_var 2) (de_callB (cr_len (o).k) callOk_len B.len_ bb_len (da_cons (de_var 0) da_nil)))) (dw_or1 (dt_not (dt_chainLeLt de_int (de_var 3) (de_callB (cr_len (o).k) callOk_len B.len_ bb_len (da_cons (de_ixN 0 (o).k de_int) da_nil))))))) (dss_one (ds_ret de_non)) dss_nil) (dss_one (ds_ret (de_ix (o).k (de_ixN 0 (o).k (de_var 2)) (de_var 3)))))))
abbrev s_window_of : Stmt := top 27
theorem sc_window_of : FnScope ["rows", "ends", "row", "column", "around", "down", "right"] ["rows", "ends", "row", "column"] (defScope s_window_of) := ⟨rfl, rfl, rfl, by decide +kernel, rfl, by decide +kernel, by decide +kernel⟩
theorem F_window_of_eq : F_window_of = dFn (List.length ["rows", "ends", "row", "column"]) (List.length ["rows", "ends", "row", "column", "around", "down", "right"]) g_window_of := rfl
theorem ok_window_of {P : Program} {w : World} {K : PySem.W.Frag} {mg : Str → Option Value} {base : Heap} {cn : Nm} {f : Addr} {fd : FuncData} (F : FunD K "window_of" "window_of" (defArgs s_window_of) (defBody s_window_of) (defScope s_window_of) [] [] f fd) (B : Bn mg) (h_AROUND : Cst K cn mg "AROUND" c_AROUND) (h_kind_at : Cal P w K mg base 1 "kind_at" (spP (En.mk K cn) F_kind_at) (En.mk K cn) []) :
    FnG P w K mg base (L2.CX P w) 2 f fd ["rows", "ends", "row", "column"] (spP (En.mk K cn) F_window_of) := by
  refine fn_q (P := P) (w := w) (k := 1) ["rows", "ends", "row", "column", "around", "down", "right"] ["rows", "ends", "row", "column"] g_window_of F sc_window_of (by decide) (fun cdv A outer s H E hr o tk => ?_) rfl F_window_of_eq
  unfold g_window_of
  exact Exists.intro _ (dss_cons (ds_setLcF 4 o [("down", 5), ("right", 6)] (di_seq (o).k (de_glob h_AROUND)) (blkOk_by (by first | rfl | kernel_rfl)) (fun _ _ _ _ _ => (dg_tup (((o).blk _ _ _ _ _)) (dgs_cons (dg_name 5 (((o).blk _ _ _ _ _))) (dgs_cons (dg_name 6 (((o).blk _ _ _ _ _))) dgs_nil)))) (fun _ _ _ _ _ => dts_nil) (fun _ _ _ _ _ => (de_calP h_kind_at (hr.mono (by decide)) takes0 (da_cons (de_var 0) (da_cons (de_var 1) (da_cons (de_add (((o).blk _ _ _ _ _)).k (de_var 2) (de_var 5)) (da_cons (de_add (((o).blk _ _ _ _ _)).k (de_var 3) (de_var 6)) da_nil))))))) (dss_one (ds_ret (de_tup (da_cons (de_ix (o).k (de_ixN 0 (o).k (de_var 2)) (de_var 3)) (da_cons (de_callTy (cr_tuple (o).k) callOk_tuple B.tuple_ bb_tuple (da_cons (de_var 4) da_nil)) da_nil))))))
abbrev s_mirrored : Stmt := top 28
theorem sc_mirrored : FnScope ["rows", "row"] ["rows"] (defScope s_mirrored) := ⟨rfl, rfl, rfl, by decide +kernel, rfl, by decide +kernel, by decide +kernel⟩
theorem F_mirrored_eq : F_mirrored = dFn (List.length ["rows"]) (List.length ["rows", "row"]) g_mirrored := rfl
theorem ok_mirrored {P : Program} {w : World} {K : PySem.W.Frag} {mg : Str → Option Value} {base : Heap} {cn : Nm} {f : Addr} {fd : FuncData} (F : FunD K "mirrored" "mirrored" (defArgs s_mirrored) (defBody s_mirrored) (defScope s_mirrored) [] [] f fd) (B : Bn mg) :
    FnG P w K mg base (L2.CX P w) 1 f fd ["rows"] (spP (En.mk K cn) F_mirrored) := by
  refine fn_q (P := P) (w := w) (k := 0) ["rows", "row"] ["rows"] g_mirrored F sc_mirrored (by decide) (fun cdv A outer s H E hr o tk => ?_) rfl F_mirrored_eq
  unfold g_mirrored
  exact Exists.intro _ (dss_one (ds_ret (de_callTy (cr_tuple (o).k) callOk_tuple B.tuple_ bb_tuple (da_cons (DO.de (do_lc o [("row", 1)] (di_seq (o).k (de_var 0)) (blkOk_by (by first | rfl | kernel_rfl)) (fun _ _ _ _ _ => (dg_name 1 (((o).blk _ _ _ _ _)))) (fun _ _ _ _ _ => dts_nil) (fun _ _ _ _ _ => (de_rev (((o).blk _ _ _ _ _)).k (de_var 1))))) da_nil))))
abbrev s_quarter : Stmt := top 29
theorem sc_quarter : FnScope ["rows", "column", "row"] ["rows"] (defScope s_quarter) := ⟨rfl, rfl, rfl, by decide +kernel, rfl, by decide +kernel, by decide +kernel⟩
theorem F_quarter_eq : F_quarter = dFn (List.length ["rows"]) (List.length ["rows", "column", "row"]) g_quarter := rfl
theorem ok_quarter {P : Program} {w : World} {K : PySem.W.Frag} {mg : Str → Option Value} {base : Heap} {cn : Nm} {f : Addr} {fd : FuncData} (F : FunD K "quarter" "quarter" (defArgs s_quarter) (defBody s_quarter) (defScope s_quarter) [] [] f fd) (B : Bn mg) :
    FnG P w K mg base (L2.CX P w) 1 f fd ["rows"] (spP (En.mk K cn) F_quarter) := by
  refine fn_q (P := P) (w := w) (k := 0) ["rows", "column", "row"] ["rows"] g_quarter F sc_quarter (by decide) (fun cdv A outer s H E hr o tk => ?_) rfl F_quarter_eq
  unfold g_quarter
  exact Exists.intro _ (dss_one (ds_ret (de_callTy (cr_tuple (o).k) callOk_tuple B.tuple_ bb_tuple (da_cons (DO.de (do_lc o [("column", 1)] (di_range1 B.range_ (da_cons (de_callB (cr_len (o).k) callOk_len B.len_ bb_len (da_cons (de_ixN 0 (o).k de_int) da_nil)) da_nil)) (blkOk_by (by first | rfl | kernel_rfl)) (fun _ _ _ _ _ => (dg_name 1 (((o).blk _ _ _ _ _)))) (fun _ _ _ _ _ => dts_nil) (fun _ _ _ _ _ => (de_callTy (cr_tuple (((o).blk _ _ _ _ _)).k) callOk_tuple B.tuple_ bb_tuple (da_cons (DO.de (do_lc ((o).blk _ _ _ _ _) [("row", 2)] (di_seq (((o).blk _ _ _ _ _)).k (de_rev (((o).blk _ _ _ _ _)).k (de_var 0))) (blkOk_by (by first | rfl | kernel_rfl)) (fun _ _ _ _ _ => (dg_name 2 (((((o).blk _ _ _ _ _)).blk _ _ _ _ _)))) (fun _ _ _ _ _ => dts_nil) (fun _ _ _ _ _ => (de_ixN 2 (((((o).blk _ _ _ _ _)).blk _ _ _ _ _)).k (de_var 1))))) da_nil))))) da_nil))))
abbrev s_rows_by : Stmt := top 30
theorem sc_rows_by : FnScope ["rows", "way", "turn"] ["rows", "way"] (defScope s_rows_by) := ⟨rfl, rfl, rfl, by decide +kernel, rfl, by decide +kernel, by decide +kernel⟩
theorem F_rows_by_eq : F_rows_by = dFn (List.length ["rows", "way"]) (List.length ["rows", "way", "turn"]) g_rows_by := rfl
theorem ok_rows_by {P : Program} {w : World} {K : PySem.W.Frag} {mg : Str → Option Value} {base : Heap} {cn : Nm} {f : Addr} {fd : FuncData} (F : FunD K "rows_by" "rows_by" (defArgs s_rows_by) (defBody s_rows_by) (defScope s_rows_by) [] [] f fd) (B : Bn mg) (h_mirrored : Cal P w K mg base 1 "mirrored" (spP (En.mk K cn) F_mirrored) (En.mk K cn) []) (h_quarter : Cal P w K mg base 1 "quarter" (spP (En.mk K cn) F_quarter) (En.mk K cn) []) :
    FnG P w K mg base (L2.CX P w) 2 f fd ["rows", "way"] (spP (En.mk K cn) F_rows_by) := by
  refine fn_q (P := P) (w := w) (k := 1) ["rows", "way", "turn"] ["rows", "way"] g_rows_by F sc_rows_by (by decide) (fun cdv A outer s H E hr o tk => ?_) rfl F_rows_by_eq
  unfold g_rows_by
  exact Exists.intro _ (dss_cons (ds_if (dt_ge (de_var 1) de_int) (dss_one (ds_set 0 o (de_calP h_mirrored (hr.mono (by decide)) tk (da_cons (de_var 0) da_nil)))) dss_nil) (dss_cons (ds_for o (di_range1 B.range_ (da_cons (de_mod (de_var 1) de_int) da_nil)) (dg_name 2 (o)) (dss_one (ds_set 0 o (de_calP h_quarter (hr.mono (by decide)) tk (da_cons (de_var 0) da_nil))))) (dss_one (ds_ret (de_var 0)))))
abbrev s_ends_by : Stmt := top 31
theorem sc_ends_by : FnScope ["ends", "way"] ["ends", "way"] (defScope s_ends_by) := ⟨rfl, rfl, rfl, by decide +kernel, rfl, by decide +kernel, by decide +kernel⟩
theorem F_ends_by_eq : F_ends_by = dFn (List.length ["ends", "way"]) (List.length ["ends", "way"]) g_ends_by := rfl
theorem ok_ends_by {P : Program} {w : World} {K : PySem.W.Frag} {mg : Str → Option Value} {base : Heap} {cn : Nm} {f : Addr} {fd : FuncData} (F : FunD K "ends_by" "ends_by" (defArgs s_ends_by) (defBody s_ends_by) (defScope s_ends_by) [] [] f fd)  :
    FnG P w K mg base (L2.CX P w) 1 f fd ["ends", "way"] (spP (En.mk K cn) F_ends_by) := by
  refine fn_q (P := P) (w := w) (k := 0) ["ends", "way"] ["ends", "way"] g_ends_by F sc_ends_by (by decide) (fun cdv A outer s H E hr o tk => ?_) rfl F_ends_by_eq
  unfold g_ends_by
  exact Exists.intro _ (dss_one (ds_ret (de_if (dt_eq o (de_mod (de_var 1) de_int) de_int) (de_rev (o).k (de_var 0)) (de_var 0))))
abbrev s_turned_map : Stmt := top 32
theorem sc_turned_map : FnScope ["rows", "way"] ["rows", "way"] (defScope s_turned_map) := ⟨rfl, rfl, rfl, by decide +kernel, rfl, by decide +kernel, by decide +kernel⟩
theorem F_turned_map_eq : F_turned_map = dFn (List.length ["rows", "way"]) (List.length ["rows", "way"]) g_turned_map := rfl
theorem ok_turned_map {P : Program} {w : World} {K : PySem.W.Frag} {mg : Str → Option Value} {base : Heap} {cn : Nm} {f : Addr} {fd : FuncData} (F : FunD K "turned_map" "turned_map" (defArgs s_turned_map) (defBody s_turned_map) (defScope s_turned_map) [] [] f fd) (h_require_map : Cal P w K mg base 3 "require_map" (spP (En.mk K cn) F_require_map) (En.mk K cn) []) (h_require_way : Cal P w K mg base 3 "require_way" (spP (En.mk K cn) F_require_way) (En.mk K cn) []) (h_rows_by : Cal P w K mg base 2 "rows_by" (spP (En.mk K cn) F_rows_by) (En.mk K cn) []) :
    FnG P w K mg base (L2.CX P w) 4 f fd ["rows", "way"] (spP (En.mk K cn) F_turned_map) := by
  refine fn_q (P := P) (w := w) (k := 3) ["rows", "way"] ["rows", "way"] g_turned_map F sc_turned_map (by decide) (fun cdv A outer s H E hr o tk => ?_) rfl F_turned_map_eq
  unfold g_turned_map
  exact Exists.intro _ (dss_cons (ds_expr (de_calP h_require_map (hr.mono (by decide)) tk (da_cons (de_var 0) da_nil))) (dss_cons (ds_expr (de_calP h_require_way (hr.mono (by decide)) tk (da_cons (de_var 1) da_nil))) (dss_one (ds_ret (de_calP h_rows_by (hr.mono (by decide)) tk (da_cons (de_var 0) (da_cons (de_var 1) da_nil)))))))
abbrev s_turned_ends : Stmt := top 33
theorem sc_turned_ends : FnScope ["ends", "way"] ["ends", "way"] (defScope s_turned_ends) := ⟨rfl, rfl, rfl, by decide +kernel, rfl, by decide +kernel, by decide +kernel⟩
theorem F_turned_ends_eq : F_turned_ends = dFn (List.length ["ends", "way"]) (List.length ["ends", "way"]) g_turned_ends := rfl
theorem ok_turned_ends {P : Program} {w : World} {K : PySem.W.Frag} {mg : Str → Option Value} {base : Heap} {cn : Nm} {f : Addr} {fd : FuncData} (F : FunD K "turned_ends" "turned_ends" (defArgs s_turned_ends) (defBody s_turned_ends) (defScope s_turned_ends) [] [] f fd) (h_require_ends : Cal P w K mg base 3 "require_ends" (spP (En.mk K cn) F_require_ends) (En.mk K cn) []) (h_require_way : Cal P w K mg base 3 "require_way" (spP (En.mk K cn) F_require_way) (En.mk K cn) []) (h_ends_by : Cal P w K mg base 1 "ends_by" (spP (En.mk K cn) F_ends_by) (En.mk K cn) []) :
    FnG P w K mg base (L2.CX P w) 4 f fd ["ends", "way"] (spP (En.mk K cn) F_turned_ends) := by
  refine fn_q (P := P) (w := w) (k := 3) ["ends", "way"] ["ends", "way"] g_turned_ends F sc_turned_ends (by decide) (fun cdv A outer s H E hr o tk => ?_) rfl F_turned_ends_eq
  unfold g_turned_ends
  exact Exists.intro _ (dss_cons (ds_expr (de_calP h_require_ends (hr.mono (by decide)) tk (da_cons (de_var 0) da_nil))) (dss_cons (ds_expr (de_calP h_require_way (hr.mono (by decide)) tk (da_cons (de_var 1) da_nil))) (dss_one (ds_ret (de_calP h_ends_by (hr.mono (by decide)) tk (da_cons (de_var 0) (da_cons (de_var 1) da_nil)))))))
end K02

set_option Elab.async false
set_option linter.all false
set_option maxRecDepth 100000
set_option maxHeartbeats 4000000
set_option autoImplicit false
namespace K02
open PySem PySem.Spec L2 DL
abbrev s_window : Stmt := top 34
theorem sc_window : FnScope ["rows", "row", "column", "ends"] ["rows", "row", "column", "ends"] (defScope s_window) := ⟨rfl, rfl, rfl, by decide +kernel, rfl, by decide +kernel, by decide +kernel⟩
theorem F_window_eq : F_window = dFn (List.length ["rows", "row", "column", "ends"]) (List.length ["rows", "row", "column", "ends"]) g_window := rfl
theorem ok_window {P : Program} {w : World} {K : PySem.W.Frag} {mg : Str → Option Value} {base : Heap} {cn : Nm} {f : Addr} {fd : FuncData} {kw_window_ends : V} (F : FunD K "window" "window" (defArgs s_window) (defBody s_window) (defScope s_window) [] [("ends", kw_window_ends)] f fd) (h_require_map : Cal P w K mg base 3 "require_map" (spP (En.mk K cn) F_require_map) (En.mk K cn) []) (h_require_cell : Cal P w K mg base 3 "require_cell" (spP (En.mk K cn) F_require_cell) (En.mk K cn) []) (h_require_ends : Cal P w K mg base 3 "require_ends" (spP (En.mk K cn) F_require_ends) (En.mk K cn) []) (h_window_of : Cal P w K mg base 2 "window_of" (spP (En.mk K cn) F_window_of) (En.mk K cn) []) :
    FnG P w K mg base (L2.CX P w) 4 f fd ["rows", "row", "column", "ends"] (spP (En.mk K cn) F_window) := by
  refine fn_q (P := P) (w := w) (k := 3) ["rows", "row", "column", "ends"] ["rows", "row", "column", "ends"] g_window F sc_window (by decide) (fun cdv A outer s H E hr o tk => ?_) rfl F_window_eq
  unfold g_window
  exact Exists.intro _ (dss_cons (ds_expr (de_calP h_require_map (hr.mono (by decide)) tk (da_cons (de_var 0) da_nil))) (dss_cons (ds_expr (de_calP h_require_cell (hr.mono (by decide)) tk (da_cons (de_var 0) (da_cons (de_var 1) (da_cons (de_var 2) da_nil))))) (dss_cons (ds_expr (de_calP h_require_ends (hr.mono (by decide)) tk (da_cons (de_var 3) da_nil))) (dss_one (ds_ret (de_calP h_window_of (hr.mono (by decide)) tk (da_cons (de_var 0) (da_cons (de_var 3) (da_cons (de_var 1) (da_cons (de_var 2) da_nil))))))))))
abbrev s__law_mixed : Stmt := top 36
theorem sc__law_mixed : FnScope ["cell", "k", "stirred"] ["cell", "k"] (defScope s__law_mixed) := ⟨rfl, rfl, rfl, by decide +kernel, rfl, by decide +kernel, by decide +kernel⟩
theorem F__law_mixed_eq : F__law_mixed = dFn (List.length ["cell", "k"]) (List.length ["cell", "k", "stirred"]) g__law_mixed := rfl
theorem ok__law_mixed {P : Program} {w : World} {K : PySem.W.Frag} {mg : Str → Option Value} {base : Heap} {cn : Nm} {f : Addr} {fd : FuncData} (F : FunD K "_law_mixed" "_law_mixed" (defArgs s__law_mixed) (defBody s__law_mixed) (defScope s__law_mixed) [] [] f fd) (B : Bn mg) :
    FnG P w K mg base (L2.CX P w) 1 f fd ["cell", "k"] (spP (En.mk K cn) F__law_mixed) := by
  refine fn_q (P := P) (w := w) (k := 0) ["cell", "k", "stirred"] ["cell", "k"] g__law_mixed F sc__law_mixed (by decide) (fun cdv A outer s H E hr o tk => ?_) rfl F__law_mixed_eq
  unfold g__law_mixed
  exact Exists.intro _ (dss_cons (ds_set 2 o (de_mod (de_callTy cr_int callOk_int B.int_ bb_int (da_cons (de_add (o).k (de_add (o).k (de_add (o).k (de_mul (de_var 0) de_int) (de_mul (de_mul de_int (de_var 1)) (de_var 1))) (de_mul de_int (de_var 1))) de_int) da_nil)) de_int)) (dss_one (ds_ret (de_div (de_mod (de_callTy cr_int callOk_int B.int_ bb_int (da_cons (de_add (o).k (de_add (o).k (de_mul (de_var 2) (de_var 2)) (de_mul de_int (de_var 2))) de_int) da_nil)) de_int) de_int))))
abbrev s__law_purse : Stmt := top 37
theorem sc__law_purse : FnScope ["cells", "at", "cell"] ["cells", "at"] (defScope s__law_purse) := ⟨rfl, rfl, rfl, by decide +kernel, rfl, by decide +kernel, by decide +kernel⟩
theorem F__law_purse_eq : F__law_purse = dFn (List.length ["cells", "at"]) (List.length ["cells", "at", "cell"]) g__law_purse := rfl
theorem ok__law_purse {P : Program} {w : World} {K : PySem.W.Frag} {mg : Str → Option Value} {base : Heap} {cn : Nm} {f : Addr} {fd : FuncData} (F : FunD K "_law_purse" "_law_purse" (defArgs s__law_purse) (defBody s__law_purse) (defScope s__law_purse) [] [] f fd) (B : Bn mg) :
    FnG P w K mg base (L2.CX P w) 1 f fd ["cells", "at"] (spP (En.mk K cn) F__law_purse) := by
  refine fn_q (P := P) (w := w) (k := 0) ["cells", "at", "cell"] ["cells", "at"] g__law_purse F sc__law_purse (by decide) (fun cdv A outer s H E hr o tk => ?_) rfl F__law_purse_eq
  unfold g__law_purse
  exact Exists.intro _ (dss_cons (ds_set 2 o de_int) (dss_cons (ds_if (dt_lt (de_var 1) (de_callB (cr_len (o).k) callOk_len B.len_ bb_len (da_cons (de_var 0) da_nil))) (dss_one (ds_set 2 o (de_ixN 0 (o).k (de_var 1)))) dss_nil) (dss_one (ds_retO (do_lst (da_cons (de_mod (de_callTy cr_int callOk_int B.int_ bb_int (da_cons (de_callB (cr_max2 o) callOk_max2 B.max_ bb_max (da_cons (de_sub (de_var 2) (de_pow de_int de_int)) (da_cons de_int da_nil))) da_nil)) (de_powW (de_pow de_int de_int) de_int)) (da_cons (de_mod (de_callTy cr_int callOk_int B.int_ bb_int (da_cons (de_var 2) da_nil)) de_int) (da_cons (de_mul de_int (de_var 1)) da_nil))))))))
abbrev s__law_draw : Stmt := top 38
theorem sc__law_draw : FnScope ["purse", "out_of", "drawn"] ["purse", "out_of"] (defScope s__law_draw) := ⟨rfl, rfl, rfl, by decide +kernel, rfl, by decide +kernel, by decide +kernel⟩
theorem F__law_draw_eq : F__law_draw = dFnM (List.length ["purse", "out_of"]) (List.length ["purse", "out_of", "drawn"]) g__law_draw := rfl
theorem ok__law_draw {P : Program} {w : World} {K : PySem.W.Frag} {mg : Str → Option Value} {base : Heap} {cn : Nm} {f : Addr} {fd : FuncData} (F : FunD K "_law_draw" "_law_draw" (defArgs s__law_draw) (defBody s__law_draw) (defScope s__law_draw) [] [] f fd) (B : Bn mg) (h__law_mixed : Cal P w K mg base 1 "_law_mixed" (spP (En.mk K cn) F__law_mixed) (En.mk K cn) []) :
    FnG P w K mg base (L2.CX P w) 2 f fd ["purse", "out_of"] (spM (En.mk K cn) F__law_draw) := by
  refine fn_qM (P := P) (w := w) (k := 1) ["purse", "out_of", "drawn"] ["purse", "out_of"] g__law_draw F sc__law_draw (by decide) (fun cdv A outer s H E hr o tk => ?_) rfl F__law_draw_eq
  unfold g__law_draw
  exact Exists.intro _ (dss_cons (ds_if (dt_gt (de_ixN 0 (o).k de_int) de_int) (dss_cons (ds_set 2 o (de_mod (de_callTy cr_int callOk_int B.int_ bb_int (da_cons (de_ixN 0 (o).k de_int) da_nil)) (de_var 1))) (dss_cons (ds_setIx 0 (de_div (de_ixN 0 (o).k de_int) (de_var 1)) de_int) (dss_one (ds_ret (de_var 2))))) dss_nil) (dss_cons (ds_setIx 0 (de_add (o).k (de_ixN 0 (o).k de_int) de_int) de_int) (dss_one (ds_ret (de_mod (de_callTy cr_int callOk_int B.int_ bb_int (da_cons (de_calP h__law_mixed (hr.mono (by decide)) tk (da_cons (de_ixN 0 (o).k de_int) (da_cons (de_ixN 0 (o).k de_int) da_nil))) da_nil)) (de_var 1))))))
abbrev s__law_great : Stmt := top 39
theorem sc__law_great : FnScope ["purse", "figures", "found", "turn"] ["purse", "figures"] (defScope s__law_great) := ⟨rfl, rfl, rfl, by decide +kernel, rfl, by decide +kernel, by decide +kernel⟩
theorem F__law_great_eq : F__law_great = dFnM (List.length ["purse", "figures"]) (List.length ["purse", "figures", "found", "turn"]) g__law_great := rfl
theorem ok__law_great {P : Program} {w : World} {K : PySem.W.Frag} {mg : Str → Option Value} {base : Heap} {cn : Nm} {f : Addr} {fd : FuncData} (F : FunD K "_law_great" "_law_great" (defArgs s__law_great) (defBody s__law_great) (defScope s__law_great) [] [] f fd) (B : Bn mg) (h__law_draw : Cal P w K mg base 2 "_law_draw" (spM (En.mk K cn) F__law_draw) (En.mk K cn) []) :
    FnG P w K mg base (L2.CX P w) 3 f fd ["purse", "figures"] (spM (En.mk K cn) F__law_great) := by
  refine fn_qM (P := P) (w := w) (k := 2) ["purse", "figures", "found", "turn"] ["purse", "figures"] g__law_great F sc__law_great (by decide) (fun cdv A outer s H E hr o tk => ?_) rfl F__law_great_eq
  unfold g__law_great
  exact Exists.intro _ (dss_cons (ds_set 2 o de_int) (dss_cons (ds_for o (di_range1 B.range_ (da_cons (de_var 1) da_nil)) (dg_name 3 (o)) (dss_one (ds_set 2 o (de_add (o).k (de_mul de_int (de_var 2)) (de_calM 0 h__law_draw (hr.mono (by decide)) tk (da_cons de_int da_nil)))))) (dss_one (ds_ret (de_var 2)))))
abbrev s__law_asked : Stmt := top 40
theorem sc__law_asked : FnScope ["kind", "some"] ["kind", "some"] (defScope s__law_asked) := ⟨rfl, rfl, rfl, by decide +kernel, rfl, by decide +kernel, by decide +kernel⟩
theorem F__law_asked_eq : F__law_asked = dFn (List.length ["kind", "some"]) (List.length ["kind", "some"]) g__law_asked := rfl
theorem ok__law_asked {P : Program} {w : World} {K : PySem.W.Frag} {mg : Str → Option Value} {base : Heap} {cn : Nm} {f : Addr} {fd : FuncData} (F : FunD K "_law_asked" "_law_asked" (defArgs s__law_asked) (defBody s__law_asked) (defScope s__law_asked) [] [] f fd) (h_behind : Cal P w K mg base 4 "behind" (spP (En.mk K cn) F_behind) (En.mk K cn) []) (h_inverse : Cal P w K mg base 4 "inverse" (spP (En.mk K cn) F_inverse) (En.mk K cn) []) (h_place_to : Cal P w K mg base 4 "place_to" (spP (En.mk K cn) F_place_to) (En.mk K cn) []) (h_side_to : Cal P w K mg base 4 "side_to" (spP (En.mk K cn) F_side_to) (En.mk K cn) []) (h_turned_map : Cal P w K mg base 4 "turned_map" (spP (En.mk K cn) F_turned_map) (En.mk K cn) []) (h_turned_ends : Cal P w K mg base 4 "turned_ends" (spP (En.mk K cn) F_turned_ends) (En.mk K cn) []) (h_window_3_ends : CalN P w K mg base 4 "window" (spP (En.mk K cn) F_window) (En.mk K cn) 3 ["ends"] [.p 0, .p 1, .p 2, .k 0] []) :
    FnG P w K mg base (L2.CX P w) 5 f fd ["kind", "some"] (spP (En.mk K cn) F__law_asked) := by
  refine fn_q (P := P) (w := w) (k := 4) ["kind", "some"] ["kind", "some"] g__law_asked F sc__law_asked (by decide) (fun cdv A outer s H E hr o tk => ?_) rfl F__law_asked_eq
  unfold g__law_asked
  exact Exists.intro _ (dss_cons (ds_if (dt_eq o (de_var 0) de_int) (dss_one (ds_ret (de_calP h_behind (hr.mono (by decide)) tk (da_cons (de_ixN 1 (o).k de_int) (da_cons (de_ixN 1 (o).k de_int) da_nil))))) dss_nil) (dss_cons (ds_if (dt_eq o (de_var 0) de_int) (dss_one (ds_ret (de_calP h_inverse (hr.mono (by decide)) tk (da_cons (de_ixN 1 (o).k de_int) da_nil)))) dss_nil) (dss_cons (ds_if (dt_eq o (de_var 0) de_int) (dss_one (ds_ret (de_calP h_place_to (hr.mono (by decide)) tk (da_cons (de_ixN 1 (o).k de_int) (da_cons (de_ixN 1 (o).k de_int) da_nil))))) dss_nil) (dss_cons (ds_if (dt_eq o (de_var 0) de_int) (dss_one (ds_ret (de_calP h_side_to (hr.mono (by decide)) tk (da_cons (de_ixN 1 (o).k de_int) (da_cons (de_ixN 1 (o).k de_int) da_nil))))) dss_nil) (dss_cons (ds_if (dt_eq o (de_var 0) de_int) (dss_one (ds_ret (de_calP h_turned_map (hr.mono (by decide)) tk (da_cons (de_ixN 1 (o).k de_int) (da_cons (de_ixN 1 (o).k de_int) da_nil))))) dss_nil) (dss_cons (ds_if (dt_eq o (de_var 0) de_int) (dss_one (ds_ret (de_calP h_turned_ends (hr.mono (by decide)) tk (da_cons (de_ixN 1 (o).k de_int) (da_cons (de_ixN 1 (o).k de_int) da_nil))))) dss_nil) (dss_one (ds_ret (de_calN h_window_3_ends (hr.mono (by decide)) tk (da_cons (de_ixN 1 (o).k de_int) (da_cons (de_ixN 1 (o).k de_int) (da_cons (de_ixN 1 (o).k de_int) da_nil))) (dk_cons (de_ixN 1 (o).k de_int) dk_nil))))))))))
abbrev s__law_caught : Stmt := top 41
theorem sc__law_caught : FnScope ["kind", "some", "caught", "error"] ["kind", "some"] (defScope s__law_caught) := ⟨rfl, rfl, rfl, by decide +kernel, rfl, by decide +kernel, by decide +kernel⟩
theorem F__law_caught_eq : F__law_caught = dFn (List.length ["kind", "some"]) (List.length ["kind", "some", "caught", "error"]) g__law_caught := rfl
theorem ok__law_caught {P : Program} {w : World} {K : PySem.W.Frag} {mg : Str → Option Value} {base : Heap} {cn : Nm} {f : Addr} {fd : FuncData} (F : FunD K "_law_caught" "_law_caught" (defArgs s__law_caught) (defBody s__law_caught) (defScope s__law_caught) [] [] f fd) (h_ecl_PictureError : Ecl K mg (En.mk K cn) "PictureError" on_PictureError) (h_ecl_InvalidCell : Ecl K mg (En.mk K cn) "InvalidCell" on_InvalidCell) (h_ecl_InvalidEnds : Ecl K mg (En.mk K cn) "InvalidEnds" on_InvalidEnds) (h_ecl_InvalidMap : Ecl K mg (En.mk K cn) "InvalidMap" on_InvalidMap) (h_ecl_InvalidNumber : Ecl K mg (En.mk K cn) "InvalidNumber" on_InvalidNumber) (h_ecl_InvalidWay : Ecl K mg (En.mk K cn) "InvalidWay" on_InvalidWay) (h_efl_InvalidCell : Efl (En.mk K cn) on_InvalidCell "thing") (h_efl_InvalidEnds : Efl (En.mk K cn) on_InvalidEnds "thing") (h_efl_InvalidMap : Efl (En.mk K cn) on_InvalidMap "thing") (h_efl_InvalidNumber : Efl (En.mk K cn) on_InvalidNumber "thing") (h_efl_InvalidWay : Efl (En.mk K cn) on_InvalidWay "thing") (h__law_asked : Cal P w K mg base 5 "_law_asked" (spP (En.mk K cn) F__law_asked) (En.mk K cn) []) :
    FnG P w K mg base (L2.CX P w) 6 f fd ["kind", "some"] (spP (En.mk K cn) F__law_caught) := by
  refine fn_q (P := P) (w := w) (k := 5) ["kind", "some", "caught", "error"] ["kind", "some"] g__law_caught F sc__law_caught (by decide) (fun cdv A outer s H E hr o tk => ?_) rfl F__law_caught_eq
  unfold g__law_caught
  exact Exists.intro _ (dss_cons (ds_set 2 o de_non) (dss_cons (ds_try o tk (.cons (hd_asgL 3 2 o h_ecl_InvalidWay h_efl_InvalidWay) (.cons (hd_asgL 3 2 o h_ecl_InvalidNumber h_efl_InvalidNumber) (.cons (hd_asgL 3 2 o h_ecl_InvalidMap h_efl_InvalidMap) (.cons (hd_asgL 3 2 o h_ecl_InvalidEnds h_efl_InvalidEnds) (.cons (hd_asgL 3 2 o h_ecl_InvalidCell h_efl_InvalidCell) (.cons (hd_plain h_ecl_PictureError (fun _ _ _ => (dss_one (ds_setS 2 (o).nd (DO.de (do_lst (da_cons de_str da_nil))))))) .nil)))))) (fun _ _ _ tk o => (dss_one (ds_expr (de_calP h__law_asked (hr.mono (by decide)) tk (da_cons (de_var 0) (da_cons (de_var 1) da_nil))))))) (dss_one (ds_ret (de_var 2)))))
abbrev s__law_right : Stmt := top 42
theorem sc__law_right : FnScope ["purse", "odd", "bad", "side", "grids", "grid", "rims", "cell", "fine", "asked", "due", "kind", "some"] ["purse"] (defScope s__law_right) := ⟨rfl, rfl, rfl, by decide +kernel, rfl, by decide +kernel, by decide +kernel⟩
theorem F__law_right_eq : F__law_right = dFnM (List.length ["purse"]) (List.length ["purse", "odd", "bad", "side", "grids", "grid", "rims", "cell", "fine", "asked", "due", "kind", "some"]) g__law_right := rfl
theorem ok__law_right {P : Program} {w : World} {K : PySem.W.Frag} {mg : Str → Option Value} {base : Heap} {cn : Nm} {f : Addr} {fd : FuncData} (F : FunD K "_law_right" "_law_right" (defArgs s__law_right) (defBody s__law_right) (defScope s__law_right) [] [] f fd) (B : Bn mg) (h_sys : SysD K) (h__law_draw : Cal P w K mg base 2 "_law_draw" (spM (En.mk K cn) F__law_draw) (En.mk K cn) []) (h__law_caught : Cal P w K mg base 6 "_law_caught" (spP (En.mk K cn) F__law_caught) (En.mk K cn) []) :
    FnG P w K mg base (L2.CX P w) 7 f fd ["purse"] (spM (En.mk K cn) F__law_right) := by
  refine fn_qM (P := P) (w := w) (k := 6) ["purse", "odd", "bad", "side", "grids", "grid", "rims", "cell", "fine", "asked", "due", "kind", "some"] ["purse"] g__law_right F sc__law_right (by decide) (fun cdv A outer s H E hr o tk => ?_) rfl F__law_right_eq
  unfold g__law_right
  exact Exists.intro _ (dss_cons (ds_set 1 o (de_ix (o).k (DO.de (do_lst (da_cons de_non (da_cons (de_neg de_int) (da_cons de_int (da_cons de_bl (da_cons de_str (da_cons (de_tup (da_cons de_int da_nil)) (da_cons (DO.de (do_lst da_nil)) da_nil))))))))) (de_calM 0 h__law_draw (hr.mono (by decide)) tk (da_cons de_int da_nil)))) (dss_cons (ds_set 2 o (de_ix (o).k (DO.de (do_lst (da_cons de_non (da_cons (de_neg de_int) (da_cons de_int (da_cons de_bl (da_cons de_str (da_cons (de_tup (da_cons de_int da_nil)) (da_cons de_dct0 da_nil))))))))) (de_calM 0 h__law_draw (hr.mono (by decide)) tk (da_cons de_int da_nil)))) (dss_cons (ds_set 3 o (de_ix (o).k (DO.de (do_lst (da_cons de_non (da_cons (de_neg de_int) (da_cons de_int (da_cons de_bl (da_cons de_str (da_cons (de_tup (da_cons de_int da_nil)) (da_cons de_dct0 da_nil))))))))) (de_calM 0 h__law_draw (hr.mono (by decide)) tk (da_cons de_int da_nil)))) (dss_cons (ds_set 4 o (DO.de (do_lst (da_cons de_non (da_cons (de_tup da_nil) (da_cons (de_tup (da_cons (de_tup da_nil) da_nil)) (da_cons (DO.de (do_lst (da_cons (de_tup (da_cons de_int da_nil)) da_nil))) (da_cons (de_tup (da_cons (de_tup (da_cons de_int da_nil)) (da_cons (de_tup (da_cons de_int (da_cons de_int da_nil))) da_nil))) (da_cons (de_tup (da_cons (DO.de (do_lst (da_cons de_int da_nil))) da_nil)) (da_cons (de_tup (da_cons (de_tup (da_cons de_bl da_nil)) da_nil)) (da_cons (de_tup (da_cons (de_tup (da_cons (de_neg de_int) da_nil)) da_nil)) (da_cons (de_tup (da_cons (de_tup (da_cons de_str da_nil)) da_nil)) (da_cons (de_tup (da_cons (de_tup (da_cons de_int (da_cons de_non da_nil))) da_nil)) da_nil))))))))))))) (dss_cons (ds_set 4 o (de_add (o).k (de_var 4) (DO.de (do_lst (da_cons de_int (da_cons (de_tup (da_cons (de_tup (da_cons de_int da_nil)) (da_cons (de_tup da_nil) da_nil))) (da_cons (de_tup (da_cons de_int (da_cons de_int da_nil))) (da_cons (de_tup (da_cons de_non da_nil)) (da_cons (de_tup (da_cons de_str da_nil)) (da_cons (de_tup (da_cons (de_tup (da_cons de_int da_nil)) (da_cons (de_tup (da_cons de_bl da_nil)) da_nil))) (da_cons (de_tup (da_cons (de_tup (da_cons de_int da_nil)) (da_cons (de_tup (da_cons (de_neg de_int) da_nil)) da_nil))) (da_cons (de_tup (da_cons (de_tup (da_cons de_int (da_cons de_int da_nil))) (da_cons (de_tup (da_cons de_int (da_cons de_str da_nil))) da_nil))) (da_cons de_dct0 da_nil))))))))))))) (dss_cons (ds_set 5 o (de_ixN 4 (o).k (de_calM 0 h__law_draw (hr.mono (by decide)) tk (da_cons de_int da_nil)))) (dss_cons (ds_set 6 o (DO.de (do_lst (da_cons de_non (da_cons (de_tup (da_cons de_str da_nil)) (da_cons (DO.de (do_lst (da_cons de_str (da_cons de_str da_nil)))) (da_cons (de_tup (da_cons de_str (da_cons de_str da_nil))) (da_cons (de_tup (da_cons de_str (da_cons de_str (da_cons de_str da_nil)))) (da_cons de_str (da_cons (de_tup (da_cons de_bl (da_cons de_str da_nil))) (da_cons (de_tup da_nil) da_nil))))))))))) (dss_cons (ds_set 6 o (de_add (o).k (de_var 6) (DO.de (do_lst (da_cons (de_tup (da_cons de_str (da_cons de_str da_nil))) (da_cons (de_tup (da_cons de_str (da_cons de_non da_nil))) (da_cons (de_tup (da_cons de_str (da_cons de_str da_nil))) da_nil))))))) (dss_cons (ds_set 6 o (de_ixN 6 (o).k (de_calM 0 h__law_draw (hr.mono (by decide)) tk (da_cons de_int da_nil)))) (dss_cons (ds_set 7 o (de_ix (o).k (DO.de (do_lst (da_cons de_non (da_cons (de_neg de_int) (da_cons de_int (da_cons de_bl (da_cons de_str (da_cons (de_tup (da_cons de_int da_nil)) da_nil)))))))) (de_calM 0 h__law_draw (hr.mono (by decide)) tk (da_cons de_int da_nil)))) (dss_cons (ds_set 8 o (de_tup (da_cons (de_tup (da_cons de_int (da_cons de_int (da_cons de_int da_nil)))) (da_cons (de_tup (da_cons de_int (da_cons de_int (da_cons (de_pow de_int de_int) da_nil)))) da_nil)))) (dss_cons (ds_set 9 o (DO.de (do_lst (da_cons (de_tup (da_cons de_int (da_cons (DO.de (do_lst (da_cons (de_var 1) (da_cons (de_var 2) da_nil)))) da_nil))) (da_cons (de_tup (da_cons de_int (da_cons (DO.de (do_lst (da_cons de_int (da_cons (de_var 2) da_nil)))) da_nil))) (da_cons (de_tup (da_cons de_int (da_cons (DO.de (do_lst (da_cons (de_var 1) da_nil))) da_nil))) (da_cons (de_tup (da_cons de_int (da_cons (DO.de (do_lst (da_cons (de_var 1) (da_cons (de_var 2) da_nil)))) da_nil))) (da_cons (de_tup (da_cons de_int (da_cons (DO.de (do_lst (da_cons de_int (da_cons (de_var 2) da_nil)))) da_nil))) da_nil)))))))) (dss_cons (ds_set 9 o (de_add (o).k (de_var 9) (DO.de (do_lst (da_cons (de_tup (da_cons de_int (da_cons (DO.de (do_lst (da_cons (de_var 1) (da_cons (de_var 3) da_nil)))) da_nil))) (da_cons (de_tup (da_cons de_int (da_cons (DO.de (do_lst (da_cons de_int (da_cons (de_var 3) da_nil)))) da_nil))) da_nil)))))) (dss_cons (ds_set 10 o (DO.de (do_lst (da_cons (DO.de (do_lst (da_cons de_str (da_cons (de_var 1) da_nil)))) (da_cons (DO.de (do_lst (da_cons de_str (da_cons (de_var 2) da_nil)))) (da_cons (DO.de (do_lst (da_cons de_str (da_cons (de_var 1) da_nil)))) (da_cons (DO.de (do_lst (da_cons de_str (da_cons (de_var 1) da_nil)))) (da_cons (DO.de (do_lst (da_cons de_str (da_cons (de_var 2) da_nil)))) (da_cons (DO.de (do_lst (da_cons de_str (da_cons (de_var 1) da_nil)))) (da_cons (DO.de (do_lst (da_cons de_str (da_cons (de_var 3) da_nil)))) da_nil)))))))))) (dss_cons (ds_set 9 o (de_add (o).k (de_var 9) (DO.de (do_lst (da_cons (de_tup (da_cons de_int (da_cons (DO.de (do_lst (da_cons (de_var 5) (da_cons (de_var 1) da_nil)))) da_nil))) (da_cons (de_tup (da_cons de_int (da_cons (DO.de (do_lst (da_cons (de_var 8) (da_cons (de_var 1) da_nil)))) da_nil))) (da_cons (de_tup (da_cons de_int (da_cons (DO.de (do_lst (da_cons (de_var 6) (da_cons (de_var 1) da_nil)))) da_nil))) (da_cons (de_tup (da_cons de_int (da_cons (DO.de (do_lst (da_cons (de_tup (da_cons de_str (da_cons de_str da_nil))) (da_cons (de_var 1) da_nil)))) da_nil))) da_nil)))))))) (dss_cons (ds_set 10 o (de_add (o).k (de_var 10) (DO.de (do_lst (da_cons (DO.de (do_lst (da_cons de_str (da_cons (de_var 5) da_nil)))) (da_cons (DO.de (do_lst (da_cons de_str (da_cons (de_var 1) da_nil)))) (da_cons (DO.de (do_lst (da_cons de_str (da_cons (de_var 6) da_nil)))) (da_cons (DO.de (do_lst (da_cons de_str (da_cons (de_var 1) da_nil)))) da_nil)))))))) (dss_cons (ds_set 9 o (de_add (o).k (de_var 9) (DO.de (do_lst (da_cons (de_tup (da_cons de_int (da_cons (DO.de (do_lst (da_cons (de_var 5) (da_cons (de_var 7) (da_cons (de_var 7) (da_cons (de_var 6) da_nil)))))) da_nil))) (da_cons (de_tup (da_cons de_int (da_cons (DO.de (do_lst (da_cons (de_var 8) (da_cons (de_var 7) (da_cons de_non (da_cons (de_var 6) da_nil)))))) da_nil))) (da_cons (de_tup (da_cons de_int (da_cons (DO.de (do_lst (da_cons (de_var 8) (da_cons de_int (da_cons (de_var 7) (da_cons (de_var 6) da_nil)))))) da_nil))) da_nil))))))) (dss_cons (ds_if (dt_eq o (de_var 7) de_int) (dss_one (ds_set 9 o (de_add (o).k (de_cut (o).k (de_var 9) dp_none (dp_some (de_neg de_int))) (DO.de (do_lst (da_cons (de_tup (da_cons de_int (da_cons (DO.de (do_lst (da_cons (de_var 8) (da_cons de_int (da_cons de_int (da_cons (de_var 6) da_nil)))))) da_nil))) da_nil)))))) dss_nil) (dss_cons (ds_set 10 o (de_add (o).k (de_var 10) (DO.de (do_lst (da_cons (DO.de (do_lst (da_cons de_str (da_cons (de_var 5) da_nil)))) (da_cons (DO.de (do_lst (da_cons de_str (da_cons (de_var 7) da_nil)))) (da_cons (DO.de (do_lst (da_cons de_str (da_cons (de_ix (o).k (DO.de (do_lst (da_cons (de_var 7) (da_cons de_int da_nil)))) (de_callTy cr_int callOk_int B.int_ bb_int (da_cons (de_eq o (de_var 7) de_int) da_nil))) da_nil)))) da_nil))))))) (dss_cons (ds_set 9 o (de_add (o).k (de_var 9) (DO.de (do_lst (da_cons (de_tup (da_cons de_int (da_cons (DO.de (do_lst (da_cons (de_var 8) (da_cons de_int (da_cons de_int (da_cons (de_var 6) da_nil)))))) da_nil))) (da_cons (de_tup (da_cons de_int (da_cons (DO.de (do_lst (da_cons (de_var 8) (da_cons de_int (da_cons de_int (da_cons (de_tup (da_cons de_str (da_cons de_str da_nil))) da_nil)))))) da_nil))) da_nil)))))) (dss_cons (ds_set 9 o (de_add (o).k (de_var 9) (DO.de (do_lst (da_cons (de_tup (da_cons de_int (da_cons (DO.de (do_lst (da_cons (de_var 8) (da_cons de_int da_nil)))) da_nil))) (da_cons (de_tup (da_cons de_int (da_cons (DO.de (do_lst (da_cons (de_tup (da_cons de_str (da_cons de_str da_nil))) (da_cons de_int da_nil)))) da_nil))) da_nil)))))) (dss_cons (ds_set 10 o (de_add (o).k (de_var 10) (DO.de (do_lst (da_cons (DO.de (do_lst (da_cons de_str (da_cons (de_var 6) da_nil)))) (da_cons de_non (da_cons de_non (da_cons de_non da_nil)))))))) (dss_one (ds_ret (de_eq o (de_callTy (cr_str o h_sys) callOk_str B.str_ bb_str (da_cons (DO.de (do_lc o [("kind", 11), ("some", 12)] (di_seq (o).k (de_var 9)) (blkOk_by (by first | rfl | kernel_rfl)) (fun _ _ _ _ _ => (dg_tup (((o).blk _ _ _ _ _)) (dgs_cons (dg_name 11 (((o).blk _ _ _ _ _))) (dgs_cons (dg_name 12 (((o).blk _ _ _ _ _))) dgs_nil)))) (fun _ _ _ _ _ => dts_nil) (fun _ _ _ _ _ => (de_calP h__law_caught (hr.mono (by decide)) takes0 (da_cons (de_var 11) (da_cons (de_var 12) da_nil)))))) da_nil)) (de_callTy (cr_str o h_sys) callOk_str B.str_ bb_str (da_cons (de_var 10) da_nil)))))))))))))))))))))))))))
abbrev s_law : Stmt := top 43
theorem sc_law : FnScope ["script", "at", "purse", "turn"] ["script"] (defScope s_law) := ⟨rfl, rfl, rfl, by decide +kernel, rfl, by decide +kernel, by decide +kernel⟩
theorem F_law_eq : F_law = dFn (List.length ["script"]) (List.length ["script", "at", "purse", "turn"]) g_law := rfl
theorem ok_law {P : Program} {w : World} {K : PySem.W.Frag} {mg : Str → Option Value} {base : Heap} {cn : Nm} {f : Addr} {fd : FuncData} (F : FunD K "law" "law" (defArgs s_law) (defBody s_law) (defScope s_law) [] [] f fd) (B : Bn mg) (h__law_purse : Cal P w K mg base 1 "_law_purse" (spP (En.mk K cn) F__law_purse) (En.mk K cn) []) (h__law_right : Cal P w K mg base 7 "_law_right" (spM (En.mk K cn) F__law_right) (En.mk K cn) []) (h__law_caught : Cal P w K mg base 6 "_law_caught" (spP (En.mk K cn) F__law_caught) (En.mk K cn) []) :
    FnG P w K mg base (L2.CX P w) 8 f fd ["script"] (spP (En.mk K cn) F_law) := by
  refine fn_q (P := P) (w := w) (k := 7) ["script", "at", "purse", "turn"] ["script"] g_law F sc_law (by decide) (fun cdv A outer s H E hr o tk => ?_) rfl F_law_eq
  unfold g_law
  exact Exists.intro _ (dss_cons (ds_for o (di_range1 B.range_ (da_cons (de_add (o).k de_int (de_callB (cr_min2 o) callOk_min2 B.min_ bb_min (da_cons de_int (da_cons (de_callB (cr_len (o).k) callOk_len B.len_ bb_len (da_cons (de_var 0) da_nil)) da_nil)))) da_nil)) (dg_name 1 (o)) (dss_cons (ds_setO 2 o (do_calP h__law_purse (hr.mono (by decide)) tk (da_cons (de_var 0) (da_cons (de_var 1) da_nil)))) (dss_one (ds_for o (di_range1 B.range_ (da_cons de_int da_nil)) (dg_name 3 (o)) (dss_one (ds_if (dt_not (dt_val (de_calM 2 h__law_right (hr.mono (by decide)) tk da_nil))) (dss_one (ds_ret de_bl)) dss_nil)))))) (dss_one (ds_ret (de_isN (de_calP h__law_caught (hr.mono (by decide)) tk (da_cons de_int (da_cons (DO.de (do_lst (da_cons (de_tup (da_cons (de_tup (da_cons de_int da_nil)) da_nil)) (da_cons de_int (da_cons de_int (da_cons (de_tup (da_cons de_str (da_cons de_str da_nil))) da_nil)))))) da_nil)))))))
end K02

set_option Elab.async false
set_option linter.all false
set_option maxRecDepth 100000
set_option maxHeartbeats 2000000
set_option autoImplicit false
namespace K02
open PySem PySem.Spec L2 DL
theorem atI_1 {x y : D} {xs : List D} : L2.atI (x :: y :: xs) 1 = some y := by
  have := atI_nat (xs := x :: y :: xs) (i := 1) (by simp)
  simpa using this
theorem atI_2 {x y z : D} {xs : List D} : L2.atI (x :: y :: z :: xs) 2 = some z := by
  have := atI_nat (xs := x :: y :: z :: xs) (i := 2) (by simp)
  simpa using this
theorem ixN_0 {n : Nat} : L2.ixN (n + 1) 0 = some 0 := by
  unfold L2.ixN
  rw [if_pos (by omega), if_pos (by omega)]
  rfl
theorem ixN_2 {n : Nat} : L2.ixN (n + 3) 2 = some 2 := by
  unfold L2.ixN
  rw [if_pos (by omega), if_pos (by omega)]
  rfl
/-! ### the purse -/
structure Pu where
  a : Int
  b : Int
  c : Int
def Pu.d (p : Pu) : List D := [.int p.a, .int p.b, .int p.c]
def mix (b k : Int) : Int :=
  ((b * 2654435761 + 40503 * k * k + 97 * k + 13) % 2147483647 * ((b * 2654435761 + 40503 * k * k + 97 * k + 13) % 2147483647) + 7 * ((b * 2654435761 + 40503 * k * k + 97 * k + 13) % 2147483647) + 11) % 2147483629 / 3
theorem mixed_d (b k : Int) (hk : k.natAbs < 18446744073709551616) : F__law_mixed [.int b, .int k] = .ok (.d (.int (mix b k))) := by
  unfold F__law_mixed g__law_mixed mix
  have hs : ((b * 2654435761 + 40503 * k * k + 97 * k + 13) % 2147483647).natAbs < 18446744073709551616 := by omega
  simp [hk, hs]
def Pu.v (p : Pu) (m : Int) : Int := if 0 < p.a then p.a % m else mix p.b (p.c + 1) % m
def Pu.n (p : Pu) (m : Int) : Pu := if 0 < p.a then ⟨p.a / m, p.b, p.c⟩ else ⟨p.a, p.b, p.c + 1⟩
structure Pu.Ok (k : Nat) (p : Pu) : Prop where
  lo : 0 ≤ p.c
  hi : p.c ≤ k
theorem Pu.Ok.n {k : Nat} {p : Pu} (o : p.Ok k) (m : Int) : (p.n m).Ok (k + 1) := by
  have := o.lo
  have := o.hi
  unfold Pu.n
  split <;> constructor <;> simp <;> omega
theorem Pu.Ok.mono {k l : Nat} {p : Pu} (o : p.Ok k) (h : k ≤ l) : p.Ok l := ⟨o.lo, by have := o.hi; omega⟩
theorem draw_d {p : Pu} {k : Nat} (o : p.Ok k) (hk : k ≤ 1000000) {m : Int} (h0 : 0 < m) (h1 : m.natAbs < 1073741824) : F__law_draw p.d [.int m] = .ok (.d (.int (p.v m)), (p.n m).d) := by
  obtain ⟨a, b, c⟩ := p
  have l := o.lo
  have h := o.hi
  simp only at l h
  have hc : (c + 1).natAbs < 18446744073709551616 := by omega
  unfold F__law_draw g__law_draw Pu.d Pu.v Pu.n
  by_cases q : 0 < a
  · simp [q, h0, h1, hasOwn, ixN_0]
  · simp [q, h0, h1, hasOwn, ixN_2, atI_1, atI_2, mixed_d b (c + 1) hc]
theorem Pu.v_lt (p : Pu) {m : Int} (h0 : 0 < m) : 0 ≤ p.v m ∧ p.v m < m := by
  unfold Pu.v
  split
  · exact ⟨Int.emod_nonneg _ (by omega), Int.emod_lt_of_pos _ h0⟩
  · exact ⟨Int.emod_nonneg _ (by omega), Int.emod_lt_of_pos _ h0⟩
theorem dForL_inv {gd : GD} {fb : DS0} {n : Nat} (r : Nat → D) (I : Nat → List Sl → Prop) {δ : List Sl} (h0 : I 0 δ) (h : ∀ i < n, ∀ δ, I i δ → ∃ δ', forStep gd fb δ (r i) = .ok (.nx, δ') ∧ I (i + 1) δ') : ∃ δ', dForL gd fb ((List.range n).map r) δ = .ok (.nx, δ') ∧ I n δ' := by
  have go : ∀ k m : Nat, m + k = n → ∀ δ, I m δ → ∃ δ', dForL gd fb ((List.range' m k).map r) δ = .ok (.nx, δ') ∧ I n δ' := by
    intro k
    induction k with
    | zero =>
      intro m hm δ hI
      have e : m = n := hm
      subst e
      exact ⟨δ, rfl, hI⟩
    | succ k ih =>
      intro m hm δ hI
      obtain ⟨δ', hh, hI'⟩ := h m (by omega) δ hI
      unfold forStep at hh
      obtain ⟨δ2, h2, h3⟩ := ih (m + 1) (by omega) δ' hI'
      refine ⟨δ2, ?_, h3⟩
      cases e : gd (r m) δ with
      | none => rw [e] at hh; cases hh
      | some δ1 =>
        rw [e] at hh
        simp only at hh
        rw [List.range'_succ, List.map_cons, dForL, e]
        simp only [hh, Rx.bind]
        exact h2
  have e := go n 0 (by omega) δ h0
  rw [← List.range_eq_range'] at e
  exact e
theorem dFor_eq {fi : DI0} {gd : GD} {fb : DS0} {δ δ1 : List Sl} {xs : List D} (h : fi δ = .ok (xs, δ1)) : dFor fi gd fb δ = dForL gd fb xs δ1 := by
  unfold dFor
  rw [h]
  rfl
theorem rng1_n {fr : DA0} {δ : List Sl} {i : Int} (h : fr δ = .ok ([.int i], δ)) (h0 : 0 ≤ i) (h1 : i ≤ 1000000) : dRng1 fr δ = .ok ((List.range i.toNat).map fun j => .int (j : Nat), δ) := by
  have hn : i.natAbs < 4611686018427387904 := by omega
  simp [h, hn, upto0]
def big : Int := ((10 : Int) ^ 60) ^ 8
theorem big_pos : 0 < big := by decide
theorem pow_18 : pPow (.int 10) (.int 18) = some (.int (10 ^ 18)) := by kernel_rfl
theorem pow_60 : pPow (.int 10) (.int 60) = some (.int (10 ^ 60)) := by kernel_rfl
theorem pow_8 : pPowW (.int (10 ^ 60)) (.int 8) = some (.int big) := by kernel_rfl
theorem max_2 (x y : Int) : pMax2 [.int x, .int y] = some (.int (if y > x then y else x)) := rfl
theorem min_2 (x y : Int) : pMin2 [.int x, .int y] = some (.int (if y < x then y else x)) := rfl
theorem law_purse_d (ns : List Int) (i : Nat) (hi : i ≤ 8) : ∃ q : Pu, F__law_purse [.scr ns, .int i] = .ok (.own q.d) ∧ q.Ok 8000 := by
  have hb := big_pos
  by_cases h : (i : Int) < (ns.length : Nat)
  · have hi' : i < ns.length := by omega
    have e : L2.atI ns (i : Int) = some ns[i] := atI_nat hi'
    refine ⟨⟨(if (0 : Int) > ns[i] - 10 ^ 18 then 0 else ns[i] - 10 ^ 18) % big, ns[i] % 2147483647, 1000 * i⟩, ?_, ⟨by simp only; omega, by simp only; omega⟩⟩
    unfold F__law_purse g__law_purse Pu.d
    simp only [dFn2, Nat.reduceSub, rep1, e_Seq, e_IfS, e_Test, e_Op, e_Var, e_C, e_ok, e_Set, e_slSet, List.getElem?_cons_zero, List.getElem?_cons_succ, e_Call, e_aCons, e_aNil, e_isLent_no, e_isLent_d, List.set, p_Len_scr, p_Lt, h, decide_true, e_IxN, p_Ix_scr, e, Option.map_some, e_RetO, e_Lst, pow_18, pow_60, pow_8, p_Sub, max_2, p_Int, p_Mod, hb, if_true, p_Mul]
    simp [hi', e, max_2, hb]
  · refine ⟨⟨(if (0 : Int) > 0 - 10 ^ 18 then 0 else 0 - 10 ^ 18) % big, 0 % 2147483647, 1000 * i⟩, ?_, ⟨by simp only; omega, by simp only; omega⟩⟩
    unfold F__law_purse g__law_purse Pu.d
    simp only [dFn2, Nat.reduceSub, rep1, e_Seq, e_IfS, e_Test, e_Op, e_Var, e_C, e_ok, e_Set, e_slSet, List.getElem?_cons_zero, List.getElem?_cons_succ, e_Call, e_aCons, e_aNil, e_isLent_no, e_isLent_d, List.set, p_Len_scr, p_Lt, h, decide_false, e_RetO, e_Nil, e_Lst, pow_18, pow_60, pow_8, p_Sub, max_2, p_Int, p_Mod, hb, if_true, p_Mul]
    simp [show ¬ i < ns.length by omega, max_2, hb]
end K02

set_option Elab.async false
set_option linter.all false
set_option maxRecDepth 100000
set_option maxHeartbeats 2000000
set_option autoImplicit false
namespace K02
open PySem PySem.Spec L2 DL
/-! ### the things that are handed in -/
def odds : List D := [.non, .int (-1), .int 8, .bl true, .str "3", .tup [.int 1], .lst []]
def bads : List D := [.non, .int (-1), .int 8, .bl true, .str "3", .tup [.int 1], .dct []]
def sides : List D := [.non, .int (-1), .int 4, .bl false, .str "3", .tup [.int 1], .dct []]
def tag (s : Str) (x : D) : D := .lst [.str s, x]
theorem c0 : (odds.all fun o => bads.all fun b => isD (F__law_caught [.int 0, .lst [o, b]]) (tag "way" o)) = true := by kernel_rfl
theorem c0' : (bads.all fun b => isD (F__law_caught [.int 0, .lst [.int 3, b]]) (tag "way" b)) = true := by kernel_rfl
theorem c1 : (odds.all fun o => isD (F__law_caught [.int 1, .lst [o]]) (tag "way" o)) = true := by kernel_rfl
theorem c2 : (odds.all fun o => bads.all fun b => isD (F__law_caught [.int 2, .lst [o, b]]) (tag "way" o)) = true := by kernel_rfl
theorem c2' : (bads.all fun b => isD (F__law_caught [.int 2, .lst [.int 3, b]]) (tag "number" b)) = true := by kernel_rfl
theorem c3 : (odds.all fun o => sides.all fun b => isD (F__law_caught [.int 3, .lst [o, b]]) (tag "way" o)) = true := by kernel_rfl
theorem c3' : (sides.all fun b => isD (F__law_caught [.int 3, .lst [.int 7, b]]) (tag "number" b)) = true := by kernel_rfl
def i1 (a : Int) : D := .tup [.int a]
def grids : List D := [.non, .tup [], .tup [.tup []], .lst [.tup [.int 0]], .tup [.tup [.int 0], .tup [.int 0, .int 1]], .tup [.lst [.int 0]], .tup [.tup [.bl true]], .tup [.tup [.int (-1)]], .tup [.tup [.str "0"]], .tup [.tup [.int 0, .non]],
  .int 5, .tup [.tup [.int 0], .tup []], .tup [.int 0, .int 1], .tup [.non], .tup [.str "01"], .tup [.tup [.int 0], .tup [.bl true]], .tup [.tup [.int 0], .tup [.int (-1)]], .tup [.tup [.int 0, .int 1], .tup [.int 2, .str "3"]], .dct []]
def rimss : List D := [.non, .tup [.str "open"], .lst [.str "open", .str "open"], .tup [.str "open", .str "shut"], .tup [.str "wrap", .str "wrap", .str "wrap"], .str "wrap", .tup [.bl true, .str "open"], .tup [],
  .tup [.str "shut", .str "open"], .tup [.str "open", .non], .tup [.str "Open", .str "open"]]
def cells : List D := [.non, .int (-1), .int 2, .bl true, .str "0", .tup [.int 0]]
def fine : D := .tup [.tup [.int 0, .int 1, .int 5], .tup [.int 2, .int 0, .int (10 ^ 20)]]
theorem c4 (o : D) : (grids.all fun g => isD (F__law_caught [.int 4, .lst [g, o]]) (tag "map" g)) = true := by kernel_rfl
theorem c4' : (odds.all fun o => isD (F__law_caught [.int 4, .lst [fine, o]]) (tag "way" o)) = true := by kernel_rfl
theorem c5 (o : D) : (rimss.all fun r => isD (F__law_caught [.int 5, .lst [r, o]]) (tag "ends" r)) = true := by kernel_rfl
theorem c5' : (odds.all fun o => isD (F__law_caught [.int 5, .lst [.tup [.str "open", .str "wrap"], o]]) (tag "way" o)) = true := by kernel_rfl
theorem c6 (c r : D) : (grids.all fun g => isD (F__law_caught [.int 6, .lst [g, c, c, r]]) (tag "map" g)) = true := by kernel_rfl
theorem c6' (r : D) : (cells.all fun c => isD (F__law_caught [.int 6, .lst [fine, c, .non, r]]) (tag "cell" c)) = true := by kernel_rfl
def cell3 (c : D) : D := match c with
  | .int 2 => .int 3
  | c => c
theorem c6'' (r : D) : (cells.all fun c => isD (F__law_caught [.int 6, .lst [fine, .int 1, cell3 c, r]]) (tag "cell" (cell3 c))) = true := by kernel_rfl
theorem c6e : (rimss.all fun r => isD (F__law_caught [.int 6, .lst [fine, .int 1, .int 2, r]]) (tag "ends" r)) = true := by kernel_rfl
theorem c6n : F__law_caught [.int 6, .lst [fine, .int 1, .int 2, .tup [.str "wrap", .str "open"]]] = .ok (.d .non) := isD_ok (by kernel_rfl)
theorem c4n : F__law_caught [.int 4, .lst [fine, .int 0]] = .ok (.d .non) := isD_ok (by kernel_rfl)
theorem c5n : F__law_caught [.int 5, .lst [.tup [.str "open", .str "open"], .int 7]] = .ok (.d .non) := isD_ok (by kernel_rfl)
theorem last_d : F__law_caught [.int 6, .lst [.tup [.tup [.int 0]], .int 0, .int 0, .tup [.str "open", .str "open"]]] = .ok (.d .non) := isD_ok (by kernel_rfl)
end K02

set_option Elab.async false
set_option linter.all false
set_option maxRecDepth 100000
set_option maxHeartbeats 4000000
set_option autoImplicit false
namespace K02
open PySem PySem.Spec L2 DL
theorem eqb_refl (x : D) : eqb x x = true := PySem.SeqAt.eqv_refl_plain _ (toP_plain x)
theorem pEqD_str (x : Str) : pEqD (.str x) (.str x) = some (.bl true) := by
  unfold pEqD pEq
  rw [eqb_refl]
  rfl
/-- one of n things by a draw -/
theorem pick_at {xs : List D} {v : Int} (h0 : 0 ≤ v) (h1 : v < xs.length) : ∃ x, x ∈ xs ∧ L2.atI xs v = some x := by
  obtain ⟨i, rfl⟩ := Int.eq_ofNat_of_zero_le h0
  have hi : i < xs.length := by omega
  exact ⟨xs[i], List.getElem_mem hi, atI_nat hi⟩
/-- what is asked, what is due -/
def asked (o b s g r c : D) : List (Int × List D × D) := [(0, [o, b], tag "way" o), (0, [.int 3, b], tag "way" b), (1, [o], tag "way" o), (2, [o, b], tag "way" o), (2, [.int 3, b], tag "number" b), (3, [o, s], tag "way" o), (3, [.int 7, s], tag "number" s),
  (4, [g, o], tag "map" g), (4, [fine, o], tag "way" o), (5, [r, o], tag "ends" r), (5, [.tup [.str "open", .str "wrap"], o], tag "way" o),
  (6, [g, c, c, r], tag "map" g), (6, [fine, c, .non, r], tag "cell" c), (6, [fine, .int 1, cell3 c, r], tag "cell" (cell3 c)),
  (6, [fine, .int 1, .int 2, r], tag "ends" r), (6, [fine, .int 1, .int 2, .tup [.str "wrap", .str "open"]], .non), (4, [fine, .int 0], .non), (5, [.tup [.str "open", .str "open"], .int 7], .non)]
theorem caught_all {o b s g r c : D} (ho : o ∈ odds) (hb : b ∈ bads) (hs : s ∈ sides) (hg : g ∈ grids) (hr : r ∈ rimss) (hc : c ∈ cells) : ∀ q ∈ asked o b s g r c, F__law_caught [.int q.1, .lst q.2.1] = .ok (.d q.2.2) := by
  intro q hq
  simp only [asked, List.mem_cons, List.not_mem_nil, or_false] at hq
  rcases hq with rfl | rfl | rfl | rfl | rfl | rfl | rfl | rfl | rfl | rfl | rfl | rfl | rfl | rfl | rfl | rfl | rfl | rfl
  · exact isD_ok (List.all_eq_true.mp (List.all_eq_true.mp c0 o ho) b hb)
  · exact isD_ok (List.all_eq_true.mp c0' b hb)
  · exact isD_ok (List.all_eq_true.mp c1 o ho)
  · exact isD_ok (List.all_eq_true.mp (List.all_eq_true.mp c2 o ho) b hb)
  · exact isD_ok (List.all_eq_true.mp c2' b hb)
  · exact isD_ok (List.all_eq_true.mp (List.all_eq_true.mp c3 o ho) s hs)
  · exact isD_ok (List.all_eq_true.mp c3' s hs)
  · exact isD_ok (List.all_eq_true.mp (c4 o) g hg)
  · exact isD_ok (List.all_eq_true.mp c4' o ho)
  · exact isD_ok (List.all_eq_true.mp (c5 o) r hr)
  · exact isD_ok (List.all_eq_true.mp c5' o ho)
  · exact isD_ok (List.all_eq_true.mp (c6 c r) g hg)
  · exact isD_ok (List.all_eq_true.mp (c6' r) c hc)
  · exact isD_ok (List.all_eq_true.mp (c6'' r) c hc)
  · exact isD_ok (List.all_eq_true.mp c6e r hr)
  · exact c6n
  · exact c4n
  · exact c5n
end K02

set_option Elab.async false
set_option linter.all false
set_option maxRecDepth 100000
set_option maxHeartbeats 4000000
set_option autoImplicit false
namespace K02
open PySem PySem.Spec L2 DL
/-! ### what is due may be shown -/
def okD (x : D) : Bool := shw 29 x && decide ((toS x).shown.length ≤ 100)
theorem str_list {xs : List D} (hl : xs.length ≤ 1000) (h : ∀ x ∈ xs, okD x = true) : pStr [.lst xs] = some (.str (toS (.lst xs)).shown) := by
  have go : ∀ xs : List D, (∀ x ∈ xs, okD x = true) → shws 29 xs = true ∧ ((PyData.shownAll (toSs xs)).map (·.length)).sum ≤ 100 * xs.length ∧ (PyData.shownAll (toSs xs)).length = xs.length := by
    intro xs
    induction xs with
    | nil => intro _; exact ⟨rfl, Nat.le_refl _, rfl⟩
    | cons x xs ih =>
      intro h
      obtain ⟨a, b, c⟩ := ih fun y hy => h y (List.mem_cons_of_mem _ hy)
      have hx := h x List.mem_cons_self
      unfold okD at hx
      obtain ⟨h1, h2⟩ := Bool.and_eq_true_iff.mp hx
      have h3 := of_decide_eq_true h2
      refine ⟨by rw [shws, h1, a]; rfl, ?_, ?_⟩
      · rw [toSs, PyData.shownAll, List.map_cons, List.sum_cons, List.length_cons]
        omega
      · rw [toSs, PyData.shownAll, List.length_cons, List.length_cons, c]
  obtain ⟨a, b, c⟩ := go xs h
  have e : (toS (.lst xs)).shown.length ≤ 1000000 := by
    rw [toS, PyData.shown]
    have z := listText_len_le (PyData.shownAll (toSs xs))
    rw [c] at z
    omega
  have s : shw 30 (.lst xs) = true := by
    rw [show 30 = 29 + 1 from rfl, shw]
    exact a
  show (if shw 30 (.lst xs) && decide ((toS (.lst xs)).shown.length ≤ 1000000) then some (D.str (toS (.lst xs)).shown) else none) = _
  rw [s, decide_eq_true e]
  rfl
theorem k_odds : (odds.all fun x => okD (tag "way" x)) = true := by kernel_rfl
theorem k_bads : (bads.all fun x => okD (tag "way" x) && okD (tag "number" x)) = true := by kernel_rfl
theorem k_sides : (sides.all fun x => okD (tag "number" x)) = true := by kernel_rfl
theorem k_grids : (grids.all fun x => okD (tag "map" x)) = true := by kernel_rfl
theorem k_rims : (rimss.all fun x => okD (tag "ends" x)) = true := by kernel_rfl
theorem k_cells : (cells.all fun x => okD (tag "cell" x) && okD (tag "cell" (cell3 x))) = true := by kernel_rfl
theorem k_non : okD .non = true := by kernel_rfl
def dues (o b s g r c : D) : List D := (asked o b s g r c).map (·.2.2)
theorem dues_ok {o b s g r c : D} (ho : o ∈ odds) (hb : b ∈ bads) (hs : s ∈ sides) (hg : g ∈ grids) (hr : r ∈ rimss) (hc : c ∈ cells) : ∀ x ∈ dues o b s g r c, okD x = true := by
  have b2 := Bool.and_eq_true_iff.mp (List.all_eq_true.mp k_bads b hb)
  have c2 := Bool.and_eq_true_iff.mp (List.all_eq_true.mp k_cells c hc)
  intro x hx
  simp only [dues, asked, List.map_cons, List.map_nil, List.mem_cons, List.not_mem_nil, or_false] at hx
  rcases hx with rfl | rfl | rfl | rfl | rfl | rfl | rfl | rfl | rfl | rfl | rfl | rfl | rfl | rfl | rfl | rfl | rfl | rfl <;> first
    | exact List.all_eq_true.mp k_odds _ ho
    | exact b2.1
    | exact b2.2
    | exact List.all_eq_true.mp k_sides _ hs
    | exact List.all_eq_true.mp k_grids _ hg
    | exact List.all_eq_true.mp k_rims _ hr
    | exact c2.1
    | exact c2.2
    | exact k_non
end K02

set_option Elab.async false
set_option linter.all false
set_option maxRecDepth 100000
set_option maxHeartbeats 4000000
set_option autoImplicit false
namespace K02
open PySem PySem.Spec L2 DL
theorem dLc_on {α : Type} {fi : DI0} {gd : GD} {fe : DE0} {vs : List Nat} {δ : List Sl} (L : List α) (r g : α → D) (hfi : fi δ = .ok (L.map r, δ)) (hlen : L.length ≤ 1000000) (h : ∀ a ∈ L, lcStep gd fe vs δ (r a) = .ok (g a, δ)) : dLc fi gd dYes fe vs δ = .ok (L.map g, δ) := by
  have go : ∀ M : List α, (∀ a ∈ M, a ∈ L) → dLcL gd dYes fe vs (M.map r) δ = .ok (M.map g, δ) := by
    intro M
    induction M with
    | nil => intro _; rfl
    | cons a M ih =>
      intro hs
      obtain ⟨h1, δ1, δ3, h2, h3, h4⟩ := lcStep_inv (h a (hs a List.mem_cons_self))
      rw [List.map_cons, List.map_cons, dLcL, if_pos h1, h2]
      simp only [dYes, h3, h4]
      rw [ih fun x hx => hs x (List.mem_cons_of_mem _ hx)]
  unfold dLc
  rw [hfi]
  have hl : (L.map r).length ≤ 1000000 := by simpa using hlen
  simp only [Rx.bind, if_pos hl]
  exact go L fun _ hx => hx
def ask (q : Int × List D × D) : D := .tup [.int q.1, .lst q.2.1]
/-- the end of the def: what is caught and what is due are shown alike -/
theorem tail_d {o b s g r c : D} (ho : o ∈ odds) (hb : b ∈ bads) (hs : s ∈ sides) (hg : g ∈ grids) (hr : r ∈ rimss) (hc : c ∈ cells) (p : Sl) (x4 : D) :
    dOp pEqD (dCall pStr (daCons (dFrz (dLc (diSeq (dVar 9)) (gdTup 2 (gdCons (gdName 11) (gdCons (gdName 12) gdNil))) dYes (dCallF F__law_caught (daCons (dVar 11) (daCons (dVar 12) daNil))) [11, 12])) daNil)) (dCall pStr (daCons (dVar 10) daNil))
      [p, .d o, .d b, .d s, .d x4, .d g, .d r, .d c, .d fine, .d (.lst ((asked o b s g r c).map ask)), .d (.lst (dues o b s g r c)), .no, .no] =
    .ok (.bl true, [p, .d o, .d b, .d s, .d x4, .d g, .d r, .d c, .d fine, .d (.lst ((asked o b s g r c).map ask)), .d (.lst (dues o b s g r c)), .no, .no]) := by
  have all := caught_all ho hb hs hg hr hc
  have e := dLc_on (fi := diSeq (dVar 9)) (gd := gdTup 2 (gdCons (gdName 11) (gdCons (gdName 12) gdNil))) (fe := dCallF F__law_caught (daCons (dVar 11) (daCons (dVar 12) daNil))) (vs := [11, 12])
    (δ := [p, .d o, .d b, .d s, .d x4, .d g, .d r, .d c, .d fine, .d (.lst ((asked o b s g r c).map ask)), .d (.lst (dues o b s g r c)), .no, .no]) (asked o b s g r c) ask (·.2.2) (by simp) (by simp [asked]) fun q hq => by
      simp [lcStep, wipeOk, dWipe, dBack, ask, all q hq]
  have st := str_list (xs := dues o b s g r c) (by simp [dues, asked]) (dues_ok ho hb hs hg hr hc)
  have e2 : (asked o b s g r c).map (·.2.2) = dues o b s g r c := rfl
  rw [e2] at e
  simp only [e_Op, e_Call, e_aCons, e_Frz, e, e_ok, e_aNil, st, e_Var, List.getElem?_cons_succ, List.getElem?_cons_zero, pEqD_str]
end K02

set_option Elab.async false
set_option linter.all false
set_option maxRecDepth 100000
set_option maxHeartbeats 4000000
set_option autoImplicit false
namespace K02
open PySem PySem.Spec L2 DL
theorem seq_nx {f g : DS0} {δ δ' : List Sl} (h : f δ = .ok (.nx, δ')) : dSeq f g δ = g δ' := by
  rw [e_Seq, h]
  rfl
theorem seq_to {f g : DS0} {δ δ' : List Sl} {r : Rx (Fl × List Sl)} (h : f δ = .ok (.nx, δ')) (k : g δ' = r) : dSeq f g δ = r := (seq_nx h).trans k
theorem dSet_ok {i : Nat} {fe : DE0} {δ δ' : List Sl} {x : D} {s : Sl} (h : fe δ = .ok (x, δ')) (hs : δ'[i]? = some s) (hl : s.isLent = false) : dSet i fe δ = .ok (.nx, δ'.set i (.d x)) := by
  rw [e_Set, h]
  show slSet i (.d x) δ' = _
  unfold slSet
  rw [hs]
  show (if s.isLent = true then _ else _) = _
  rw [hl]
  rfl
theorem seq_set {i : Nat} {fe : DE0} {g : DS0} {δ δ' : List Sl} {x : D} {s : Sl} {r : Rx (Fl × List Sl)} (h : fe δ = .ok (x, δ')) (hs : δ'[i]? = some s) (hl : s.isLent = false) (k : g (δ'.set i (.d x)) = r) : dSeq (dSet i fe) g δ = r := seq_to (dSet_ok h hs hl) k
/-- x = [..][draw(purse, m)] -/
theorem pick_ok {fa : DE0} {p q : List D} {δ : List Sl} {xs : List D} {v m : Int} {x : D} {Fd : List D → List D → Rx (Rv × List D)} (ha : fa (.lent p :: δ) = .ok (.lst xs, .lent p :: δ)) (hd : Fd p [.int m] = .ok (.d (.int v), q)) (hx : L2.atI xs v = some x) :
    dOp pIx fa (dCallM Fd 0 (daCons (dC (.int m)) daNil)) (.lent p :: δ) = .ok (x, .lent q :: δ) := by
  simp [ha, hd, hx]
theorem pickN_ok {i : Nat} {p q : List D} {δ : List Sl} {xs : List D} {v m : Int} {x : D} {Fd : List D → List D → Rx (Rv × List D)} (ha : δ[i]? = some (.d (.lst xs))) (hd : Fd p [.int m] = .ok (.d (.int v), q)) (hx : L2.atI xs v = some x) :
    dIxN (i + 1) (dCallM Fd 0 (daCons (dC (.int m)) daNil)) (.lent p :: δ) = .ok (x, .lent q :: δ) := by
  simp [ha, hd, hx]
theorem seq_setD {i : Nat} {fe : DE0} {g : DS0} {δ : List Sl} (x : D) {s : Sl} {r : Rx (Fl × List Sl)} (h : fe δ = .ok (x, δ)) (hs : δ[i]? = some s) (hl : s.isLent = false) (k : g (δ.set i (.d x)) = r) : dSeq (dSet i fe) g δ = r := seq_to (dSet_ok h hs hl) k
def grids1 : List D := [.non, .tup [], .tup [.tup []], .lst [.tup [.int 0]], .tup [.tup [.int 0], .tup [.int 0, .int 1]], .tup [.lst [.int 0]], .tup [.tup [.bl true]], .tup [.tup [.int (-1)]], .tup [.tup [.str "0"]], .tup [.tup [.int 0, .non]]]
def rims1 : List D := [.non, .tup [.str "open"], .lst [.str "open", .str "open"], .tup [.str "open", .str "shut"], .tup [.str "wrap", .str "wrap", .str "wrap"], .str "wrap", .tup [.bl true, .str "open"], .tup []]
theorem ret_ok {fe : DE0} {δ δ' : List Sl} {x : D} (h : fe δ = .ok (x, δ')) : dRet fe δ = .ok (.rt x, δ') := by
  show (fe δ).bind _ = _
  rw [h]
  rfl
theorem outM_fin {g : DS0} {δ δ' : List Sl} {x : D} {q : List D} (h : g δ = .ok (.rt x, (.lent q :: δ'))) : dOutM (g δ) = .ok (.d x, q) := by rw [h]; rfl
theorem law_right_d {p : Pu} {k : Nat} (ok : p.Ok k) (hk : k + 100 ≤ 1000000) : ∃ q : Pu, F__law_right p.d [] = .ok (.d (.bl true), q.d) ∧ q.Ok (k + 6) := by
  obtain ⟨a0, a1⟩ := p.v_lt (m := 7) (by decide)
  have e1 := draw_d ok (by omega) (m := 7) (by decide) (by decide)
  have o1 := ok.n 7
  obtain ⟨b0, b1⟩ := (p.n 7).v_lt (m := 7) (by decide)
  have e2 := draw_d o1 (by omega) (m := 7) (by decide) (by decide)
  have o2 := o1.n 7
  obtain ⟨c0, c1⟩ := ((p.n 7).n 7).v_lt (m := 7) (by decide)
  have e3 := draw_d o2 (by omega) (m := 7) (by decide) (by decide)
  have o3 := o2.n 7
  revert a0 a1 e1 b0 b1 e2 c0 c1 e3 o3
  generalize p.n 7 = p1
  generalize p1.n 7 = p2
  generalize p2.n 7 = p3
  generalize p.v 7 = v1
  generalize p1.v 7 = v2
  generalize p2.v 7 = v3
  intro a0 a1 e1 b0 b1 e2 c0 c1 e3 o3
  obtain ⟨d0, d1⟩ := p3.v_lt (m := 19) (by decide)
  have e4 := draw_d o3 (by omega) (m := 19) (by decide) (by decide)
  have o4 := o3.n 19
  obtain ⟨f0, f1⟩ := (p3.n 19).v_lt (m := 11) (by decide)
  have e5 := draw_d o4 (by omega) (m := 11) (by decide) (by decide)
  have o5 := o4.n 11
  obtain ⟨h0, h1⟩ := ((p3.n 19).n 11).v_lt (m := 6) (by decide)
  have e6 := draw_d o5 (by omega) (m := 6) (by decide) (by decide)
  have o6 := o5.n 6
  revert d0 d1 e4 f0 f1 e5 h0 h1 e6 o6
  generalize p3.n 19 = p4
  generalize p4.n 11 = p5
  generalize p5.n 6 = p6
  generalize p3.v 19 = v4
  generalize p4.v 11 = v5
  generalize p5.v 6 = v6
  intro d0 d1 e4 f0 f1 e5 h0 h1 e6 o6
  obtain ⟨o, ho, eo⟩ := pick_at (xs := odds) a0 a1
  obtain ⟨b, hb, eb⟩ := pick_at (xs := bads) b0 b1
  obtain ⟨s, hs, es⟩ := pick_at (xs := sides) c0 c1
  obtain ⟨g, hg, eg⟩ := pick_at (xs := grids) d0 d1
  obtain ⟨r, hr, er⟩ := pick_at (xs := rimss) f0 f1
  obtain ⟨c, hc, ec⟩ := pick_at (xs := cells) h0 h1
  refine ⟨p6, ?_, o6⟩
  have tl := tail_d ho hb hs hg hr hc (.lent p6.d) (.lst grids)
  unfold F__law_right g__law_right
  rw [dFnM1]
  refine outM_fin (δ' := [.d o, .d b, .d s, .d (.lst grids), .d g, .d r, .d c, .d fine, .d (.lst ((asked o b s g r c).map ask)), .d (.lst (dues o b s g r c)), .no, .no]) ?_
  refine seq_set (pick_ok (xs := odds) rfl e1 eo) rfl rfl ?_
  refine seq_set (pick_ok (xs := bads) rfl e2 eb) rfl rfl ?_
  refine seq_set (pick_ok (xs := sides) rfl e3 es) rfl rfl ?_
  refine seq_setD (.lst grids1) (by kernel_rfl) rfl rfl ?_
  refine seq_setD (.lst grids) (by kernel_rfl) rfl rfl ?_
  refine seq_set (pickN_ok (xs := grids) rfl e4 eg) rfl rfl ?_
  refine seq_setD (.lst rims1) (by kernel_rfl) rfl rfl ?_
  refine seq_setD (.lst rimss) (by kernel_rfl) rfl rfl ?_
  refine seq_set (pickN_ok (xs := rimss) rfl e5 er) rfl rfl ?_
  refine seq_set (pick_ok (xs := cells) rfl e6 ec) rfl rfl ?_
  refine seq_setD fine (by kernel_rfl) rfl rfl ?_
  refine seq_setD (.lst (((asked o b s g r c).take 5).map ask)) (by kernel_rfl) rfl rfl ?_
  refine seq_setD (.lst (((asked o b s g r c).take 7).map ask)) (by kernel_rfl) rfl rfl ?_
  refine seq_setD (.lst ((dues o b s g r c).take 7)) (by kernel_rfl) rfl rfl ?_
  refine seq_setD (.lst (((asked o b s g r c).take 11).map ask)) (by kernel_rfl) rfl rfl ?_
  refine seq_setD (.lst ((dues o b s g r c).take 11)) (by kernel_rfl) rfl rfl ?_
  refine seq_setD (.lst (((asked o b s g r c).take 13).map ask ++ [ask (6, [fine, .int 1, c, r], .non)])) (by kernel_rfl) rfl rfl ?_
  refine seq_to (δ' := [.lent p6.d, .d o, .d b, .d s, .d (.lst grids), .d g, .d r, .d c, .d fine, .d (.lst (((asked o b s g r c).take 14).map ask)), .d (.lst ((dues o b s g r c).take 11)), .no, .no]) ?_ ?_
  · simp only [cells, List.mem_cons, List.not_mem_nil, or_false] at hc
    rcases hc with rfl | rfl | rfl | rfl | rfl | rfl <;> kernel_rfl
  refine seq_setD (.lst ((dues o b s g r c).take 14)) ?_ rfl rfl ?_
  · simp only [cells, List.mem_cons, List.not_mem_nil, or_false] at hc
    rcases hc with rfl | rfl | rfl | rfl | rfl | rfl <;> kernel_rfl
  refine seq_setD (.lst (((asked o b s g r c).take 16).map ask)) (by kernel_rfl) rfl rfl ?_
  refine seq_setD (.lst (((asked o b s g r c)).map ask)) (by kernel_rfl) rfl rfl ?_
  refine seq_setD (.lst (dues o b s g r c)) (by kernel_rfl) rfl rfl ?_
  exact ret_ok tl
end K02

set_option Elab.async false
set_option linter.all false
set_option maxRecDepth 100000
set_option maxHeartbeats 2000000
set_option autoImplicit false
namespace K02
open PySem PySem.Spec L2 DL
theorem law_inner (ns : List Int) (i : Nat) (s3 : Sl) (h3 : s3.isLent = false) {q : Pu} (o : q.Ok 8000) : ∃ (s : Sl) (q' : Pu), s.isLent = false ∧ dFor (dRng1 (daCons (dC (.int 3)) daNil)) (gdName 3) (dIfS (dtNot (dTest (dCallM F__law_right 2 daNil))) (dRet (dC (.bl false))) dNil) [.d (.scr ns), .d (.int i), .own q.d, s3] = .ok (.nx, [.d (.scr ns), .d (.int i), .own q'.d, s]) := by
  obtain ⟨δ', e, s, q', hs, e2, _⟩ := dForL_inv (gd := gdName 3) (fb := dIfS (dtNot (dTest (dCallM F__law_right 2 daNil))) (dRet (dC (.bl false))) dNil) (n := 3) (fun i => .int (i : Nat))
    (fun j δ => ∃ (s : Sl) (q' : Pu), s.isLent = false ∧ δ = [.d (.scr ns), .d (.int i), .own q'.d, s] ∧ q'.Ok (8000 + 6 * j)) (δ := [.d (.scr ns), .d (.int i), .own q.d, s3]) ⟨s3, q, h3, rfl, o⟩ fun j hj δ ⟨s, q', hs, e, oq⟩ => by
      obtain ⟨q2, e2, o2⟩ := law_right_d oq (by omega)
      subst e
      exact ⟨[.d (.scr ns), .d (.int i), .own q2.d, .d (.int j)], by simp [forStep, hs, e2], .d (.int j), q2, rfl, rfl, o2.mono (by omega)⟩
  subst e2
  refine ⟨s, q', hs, ?_⟩
  exact (dFor_eq (rng1_n (i := 3) (by simp) (by decide) (by decide))).trans e
theorem law_1 (ns : List Int) : ∃ (s1 s2 s3 : Sl), dFor (dRng1 (daCons (dOp pAdd (dC (.int 1)) (dCall pMin2 (daCons (dC (.int 8)) (daCons (dCall pLen (daCons (dVar 0) daNil)) daNil)))) daNil)) (gdName 1) (dSeq (dSetO 2 (dCallFO F__law_purse (daCons (dVar 0) (daCons (dVar 1) daNil)))) (dFor (dRng1 (daCons (dC (.int 3)) daNil)) (gdName 3) (dIfS (dtNot (dTest (dCallM F__law_right 2 daNil))) (dRet (dC (.bl false))) dNil))) [.d (.scr ns), .no, .no, .no] = .ok (.nx, [.d (.scr ns), s1, s2, s3]) := by
  have hn : ∃ n : Nat, n ≤ 9 ∧ (1 + (if ((ns.length : Nat) : Int) < 8 then ((ns.length : Nat) : Int) else 8)) = n := by
    split
    · exact ⟨1 + ns.length, by omega, by omega⟩
    · exact ⟨9, by omega, by omega⟩
  obtain ⟨n, hn9, en⟩ := hn
  obtain ⟨δ', e, s1, s2, s3, h1, h2, h3, e2⟩ := dForL_inv (gd := gdName 1) (fb := dSeq (dSetO 2 (dCallFO F__law_purse (daCons (dVar 0) (daCons (dVar 1) daNil)))) (dFor (dRng1 (daCons (dC (.int 3)) daNil)) (gdName 3) (dIfS (dtNot (dTest (dCallM F__law_right 2 daNil))) (dRet (dC (.bl false))) dNil))) (n := n) (fun i => .int (i : Nat))
    (fun j δ => ∃ (s1 s2 s3 : Sl), s1.isLent = false ∧ s2.isLent = false ∧ s3.isLent = false ∧ δ = [.d (.scr ns), s1, s2, s3]) (δ := [.d (.scr ns), .no, .no, .no]) ⟨.no, .no, .no, rfl, rfl, rfl, rfl⟩ fun j hj δ ⟨s1, s2, s3, h1, h2, h3, e⟩ => by
      obtain ⟨q, eq, oq⟩ := law_purse_d ns j (by omega)
      obtain ⟨s, q', hs, e3⟩ := law_inner ns j s3 h3 oq
      subst e
      exact ⟨[.d (.scr ns), .d (.int j), .own q'.d, s], by simp [forStep, h1, h2, eq, e3], .d (.int j), .own q'.d, s, rfl, rfl, hs, rfl⟩
  subst e2
  refine ⟨s1, s2, s3, ?_⟩
  rw [dFor_eq (rng1_n (i := n) (by simp [min_2, ← en]) (by omega) (by omega)), Int.toNat_natCast]
  exact e
theorem F_law_true (ns : List Int) (hl : ns.length ≤ 63) : F_law [.scr ns] = .ok (.d (.bl true)) := by
  obtain ⟨s1, s2, s3, e1⟩ := law_1 ns
  unfold F_law g_law
  rw [dFn1]
  refine (congrArg dOut (seq_to (δ' := [.d (.scr ns), s1, s2, s3]) e1 rfl)).trans ?_
  simp [last_d]
  rfl
end K02

set_option Elab.async false
set_option linter.all false
set_option maxRecDepth 100000
set_option maxHeartbeats 0
set_option autoImplicit false
namespace K02
open PySem PySem.Spec L2 DL
def d_is_below : He.DefD := ⟨("is_below", none), "is_below", "is_below", defArgs s_is_below, defBody s_is_below, defScope s_is_below, [], []⟩
def d_require_way : He.DefD := ⟨("require_way", none), "require_way", "require_way", defArgs s_require_way, defBody s_require_way, defScope s_require_way, [], []⟩
def d_turned_by : He.DefD := ⟨("turned_by", none), "turned_by", "turned_by", defArgs s_turned_by, defBody s_turned_by, defScope s_turned_by, [], []⟩
def d_undone : He.DefD := ⟨("undone", none), "undone", "undone", defArgs s_undone, defBody s_undone, defScope s_undone, [], []⟩
def d_place_by : He.DefD := ⟨("place_by", none), "place_by", "place_by", defArgs s_place_by, defBody s_place_by, defScope s_place_by, [], []⟩
def d_side_by : He.DefD := ⟨("side_by", none), "side_by", "side_by", defArgs s_side_by, defBody s_side_by, defScope s_side_by, [], []⟩
def d_behind : He.DefD := ⟨("behind", none), "behind", "behind", defArgs s_behind, defBody s_behind, defScope s_behind, [], []⟩
def d_inverse : He.DefD := ⟨("inverse", none), "inverse", "inverse", defArgs s_inverse, defBody s_inverse, defScope s_inverse, [], []⟩
def d_place_to : He.DefD := ⟨("place_to", none), "place_to", "place_to", defArgs s_place_to, defBody s_place_to, defScope s_place_to, [], []⟩
def d_side_to : He.DefD := ⟨("side_to", none), "side_to", "side_to", defArgs s_side_to, defBody s_side_to, defScope s_side_to, [], []⟩
def d_is_kind : He.DefD := ⟨("is_kind", none), "is_kind", "is_kind", defArgs s_is_kind, defBody s_is_kind, defScope s_is_kind, [], []⟩
def d_is_map : He.DefD := ⟨("is_map", none), "is_map", "is_map", defArgs s_is_map, defBody s_is_map, defScope s_is_map, [], []⟩
def d_require_map : He.DefD := ⟨("require_map", none), "require_map", "require_map", defArgs s_require_map, defBody s_require_map, defScope s_require_map, [], []⟩
def d_is_ends : He.DefD := ⟨("is_ends", none), "is_ends", "is_ends", defArgs s_is_ends, defBody s_is_ends, defScope s_is_ends, [], []⟩
def d_require_ends : He.DefD := ⟨("require_ends", none), "require_ends", "require_ends", defArgs s_require_ends, defBody s_require_ends, defScope s_require_ends, [], []⟩
def d_require_cell : He.DefD := ⟨("require_cell", none), "require_cell", "require_cell", defArgs s_require_cell, defBody s_require_cell, defScope s_require_cell, [], []⟩
def d_kind_at : He.DefD := ⟨("kind_at", none), "kind_at", "kind_at", defArgs s_kind_at, defBody s_kind_at, defScope s_kind_at, [], []⟩
def d_window_of : He.DefD := ⟨("window_of", none), "window_of", "window_of", defArgs s_window_of, defBody s_window_of, defScope s_window_of, [], []⟩
def d_mirrored : He.DefD := ⟨("mirrored", none), "mirrored", "mirrored", defArgs s_mirrored, defBody s_mirrored, defScope s_mirrored, [], []⟩
def d_quarter : He.DefD := ⟨("quarter", none), "quarter", "quarter", defArgs s_quarter, defBody s_quarter, defScope s_quarter, [], []⟩
def d_rows_by : He.DefD := ⟨("rows_by", none), "rows_by", "rows_by", defArgs s_rows_by, defBody s_rows_by, defScope s_rows_by, [], []⟩
def d_ends_by : He.DefD := ⟨("ends_by", none), "ends_by", "ends_by", defArgs s_ends_by, defBody s_ends_by, defScope s_ends_by, [], []⟩
def d_turned_map : He.DefD := ⟨("turned_map", none), "turned_map", "turned_map", defArgs s_turned_map, defBody s_turned_map, defScope s_turned_map, [], []⟩
def d_turned_ends : He.DefD := ⟨("turned_ends", none), "turned_ends", "turned_ends", defArgs s_turned_ends, defBody s_turned_ends, defScope s_turned_ends, [], []⟩
def d_window : He.DefD := ⟨("window", none), "window", "window", defArgs s_window, defBody s_window, defScope s_window, [], [("ends", (.adr (kwAt ("window", none) "ends")))]⟩
def d__law_mixed : He.DefD := ⟨("_law_mixed", none), "_law_mixed", "_law_mixed", defArgs s__law_mixed, defBody s__law_mixed, defScope s__law_mixed, [], []⟩
def d__law_purse : He.DefD := ⟨("_law_purse", none), "_law_purse", "_law_purse", defArgs s__law_purse, defBody s__law_purse, defScope s__law_purse, [], []⟩
def d__law_draw : He.DefD := ⟨("_law_draw", none), "_law_draw", "_law_draw", defArgs s__law_draw, defBody s__law_draw, defScope s__law_draw, [], []⟩
def d__law_great : He.DefD := ⟨("_law_great", none), "_law_great", "_law_great", defArgs s__law_great, defBody s__law_great, defScope s__law_great, [], []⟩
def d__law_asked : He.DefD := ⟨("_law_asked", none), "_law_asked", "_law_asked", defArgs s__law_asked, defBody s__law_asked, defScope s__law_asked, [], []⟩
def d__law_caught : He.DefD := ⟨("_law_caught", none), "_law_caught", "_law_caught", defArgs s__law_caught, defBody s__law_caught, defScope s__law_caught, [], []⟩
def d__law_right : He.DefD := ⟨("_law_right", none), "_law_right", "_law_right", defArgs s__law_right, defBody s__law_right, defScope s__law_right, [], []⟩
def d_law : He.DefD := ⟨("law", none), "law", "law", defArgs s_law, defBody s_law, defScope s_law, [], []⟩
abbrev i_InvalidNumber : Stmt := inClass (top 2) 0
def d_InvalidNumber : He.DefD := ⟨("InvalidNumber", some "__init__"), "__init__", "InvalidNumber.__init__", defArgs i_InvalidNumber, defBody i_InvalidNumber, defScope i_InvalidNumber, [], []⟩
abbrev i_InvalidWay : Stmt := inClass (top 3) 0
def d_InvalidWay : He.DefD := ⟨("InvalidWay", some "__init__"), "__init__", "InvalidWay.__init__", defArgs i_InvalidWay, defBody i_InvalidWay, defScope i_InvalidWay, [], []⟩
abbrev i_InvalidMap : Stmt := inClass (top 4) 0
def d_InvalidMap : He.DefD := ⟨("InvalidMap", some "__init__"), "__init__", "InvalidMap.__init__", defArgs i_InvalidMap, defBody i_InvalidMap, defScope i_InvalidMap, [], []⟩
abbrev i_InvalidEnds : Stmt := inClass (top 5) 0
def d_InvalidEnds : He.DefD := ⟨("InvalidEnds", some "__init__"), "__init__", "InvalidEnds.__init__", defArgs i_InvalidEnds, defBody i_InvalidEnds, defScope i_InvalidEnds, [], []⟩
abbrev i_InvalidCell : Stmt := inClass (top 6) 0
def d_InvalidCell : He.DefD := ⟨("InvalidCell", some "__init__"), "__init__", "InvalidCell.__init__", defArgs i_InvalidCell, defBody i_InvalidCell, defScope i_InvalidCell, [], []⟩
def xs : Xs := [("InvalidNumber", "thing"), ("InvalidWay", "thing"), ("InvalidMap", "thing"), ("InvalidEnds", "thing"), ("InvalidCell", "thing")]
def rs : Rel := [("InvalidNumber", "PictureError", true), ("InvalidWay", "PictureError", true), ("InvalidMap", "PictureError", true), ("InvalidEnds", "PictureError", true), ("InvalidCell", "PictureError", true), ("InvalidNumber", "InvalidCell", false), ("InvalidWay", "InvalidCell", false), ("InvalidMap", "InvalidCell", false), ("InvalidEnds", "InvalidCell", false), ("InvalidCell", "InvalidCell", true), ("InvalidNumber", "InvalidEnds", false), ("InvalidWay", "InvalidEnds", false), ("InvalidMap", "InvalidEnds", false), ("InvalidEnds", "InvalidEnds", true), ("InvalidCell", "InvalidEnds", false), ("InvalidNumber", "InvalidMap", false), ("InvalidWay", "InvalidMap", false), ("InvalidMap", "InvalidMap", true), ("InvalidEnds", "InvalidMap", false), ("InvalidCell", "InvalidMap", false), ("InvalidNumber", "InvalidNumber", true), ("InvalidWay", "InvalidNumber", false), ("InvalidMap", "InvalidNumber", false), ("InvalidEnds", "InvalidNumber", false), ("InvalidCell", "InvalidNumber", false), ("InvalidNumber", "InvalidWay", false), ("InvalidWay", "InvalidWay", true), ("InvalidMap", "InvalidWay", false), ("InvalidEnds", "InvalidWay", false), ("InvalidCell", "InvalidWay", false)]
def fn0 : List He.DefD := [d_is_below, d_require_way, d_turned_by, d_undone, d_place_by, d_side_by, d_behind, d_inverse, d_place_to, d_side_to, d_is_kind, d_is_map, d_require_map, d_is_ends, d_require_ends, d_require_cell, d_kind_at, d_window_of, d_mirrored, d_quarter, d_rows_by, d_ends_by, d_turned_map, d_turned_ends, d_window, d__law_mixed, d__law_purse, d__law_draw, d__law_great, d__law_asked]
def fn1 : List He.DefD := [d__law_caught, d__law_right, d_law, d_InvalidNumber, d_InvalidWay, d_InvalidMap, d_InvalidEnds, d_InvalidCell]
def fn : List He.DefD := fn0 ++ fn1
def fa0 : List He.Fa := [.glo "is_below", .glo "require_way", .glo "turned_by", .glo "undone", .glo "place_by", .glo "side_by", .glo "behind", .glo "inverse", .glo "place_to", .glo "side_to", .glo "is_kind", .glo "is_map", .glo "require_map", .glo "is_ends", .glo "require_ends", .glo "require_cell", .glo "kind_at", .glo "window_of", .glo "mirrored", .glo "quarter", .glo "rows_by", .glo "ends_by", .glo "turned_map", .glo "turned_ends", .glo "window", .glo "_law_mixed", .glo "_law_purse", .glo "_law_draw", .glo "_law_great", .glo "_law_asked"]
def fa1 : List He.Fa := [.glo "_law_caught", .glo "_law_right", .glo "law", .free "isinstance", .free "int", .free "bool", .free "tuple", .free "len", .free "all", .free "str", .free "range", .free "max", .free "min", .glo "InvalidNumber", .glo "InvalidWay", .glo "InvalidMap", .glo "InvalidEnds", .glo "InvalidCell", .glo "PictureError"]
def fa : List He.Fa := fa0 ++ fa1
def cs : List (Str × D) := [("AROUND", c_AROUND)]
def kss : Kws := [(("window", none), "ends", (.tup [(.str "open"), (.str "open")]))]
def loose0 : List Str := ["PictureError", "InvalidNumber", "InvalidWay", "InvalidMap", "InvalidEnds", "InvalidCell", "is_below", "require_way", "turned_by", "undone", "place_by", "side_by", "behind", "inverse", "place_to", "side_to", "AROUND", "is_kind", "is_map", "require_map", "is_ends", "require_ends", "require_cell", "kind_at", "window_of", "mirrored", "quarter", "rows_by", "ends_by", "turned_map"]
def loose1 : List Str := ["turned_ends", "window", "_law_mixed", "_law_purse", "_law_draw", "_law_great", "_law_asked", "_law_caught", "_law_right"]
def loose : List Str := loose0 ++ loose1
abbrev R : PySem.W.OpenRow := PySem.W.OpenLaw.row PySem.Challenge.rw_cellpictures_k02_ways_and_maps_refused
abbrev hk : PySem.W.Hook := hookE 4 fa fn cs kss xs rs
def ob (s : PySem.W.SharedT) : He.AlD := obsEG 4 fa fn cs kss xs rs (HandSHeadRun.getT s)
theorem ob_eq (s : PySem.W.SharedT) : ob s = hk.obs s.abs := obsEG_eq (HandSHeadRun.getT_eq s)
theorem run (w : World) : HandSHeadRun.RunEq R (PySem.W.view R.prog [43]) hk ob 10000 loose w := by
  intro os
  kernel_rfl
end K02

set_option Elab.async false
set_option linter.all false
set_option maxRecDepth 100000
set_option maxHeartbeats 0
set_option autoImplicit false
namespace K02
open PySem PySem.Spec L2 DL
theorem sc_InvalidNumber : FnScope ["self", "thing"] ["self", "thing"] (defScope i_InvalidNumber) := ⟨rfl, rfl, rfl, by decide +kernel, rfl, by decide +kernel, by decide +kernel⟩
theorem sc_InvalidWay : FnScope ["self", "thing"] ["self", "thing"] (defScope i_InvalidWay) := ⟨rfl, rfl, rfl, by decide +kernel, rfl, by decide +kernel, by decide +kernel⟩
theorem sc_InvalidMap : FnScope ["self", "thing"] ["self", "thing"] (defScope i_InvalidMap) := ⟨rfl, rfl, rfl, by decide +kernel, rfl, by decide +kernel, by decide +kernel⟩
theorem sc_InvalidEnds : FnScope ["self", "thing"] ["self", "thing"] (defScope i_InvalidEnds) := ⟨rfl, rfl, rfl, by decide +kernel, rfl, by decide +kernel, by decide +kernel⟩
theorem sc_InvalidCell : FnScope ["self", "thing"] ["self", "thing"] (defScope i_InvalidCell) := ⟨rfl, rfl, rfl, by decide +kernel, rfl, by decide +kernel, by decide +kernel⟩
theorem facts {P : Program} {w : World} {K : PySem.W.Frag} {h : Heap} {mg : Str → Option Value} {f : Addr} (X : K.In h) (G : h.Ns mainGlobals mg) (hfa : mg ("law" : Str) = some (.ref f)) (c : SaysE fa fn cs kss xs rs K) :
    ∃ fd : FuncData, (∀ (s : Shared) (v : Value), BindsTo s fd ⟨[v], []⟩ [("script", v)]) ∧ ∀ base : Heap, K.In base → base.Ns mainGlobals mg → FnG P w K mg base (L2.CX P w) 8 f fd ["script"] (spP (En.mk K (cnE xs K)) F_law) := by
  obtain ⟨fd_is_below, D_is_below⟩ := c.x.d.def_ 0 (d := d_is_below) rfl
  have m_is_below := He.glo_ok X G (c.x.d.fact 0 (f := .glo "is_below") rfl)
  obtain ⟨fd_require_way, D_require_way⟩ := c.x.d.def_ 1 (d := d_require_way) rfl
  have m_require_way := He.glo_ok X G (c.x.d.fact 1 (f := .glo "require_way") rfl)
  obtain ⟨fd_turned_by, D_turned_by⟩ := c.x.d.def_ 2 (d := d_turned_by) rfl
  have m_turned_by := He.glo_ok X G (c.x.d.fact 2 (f := .glo "turned_by") rfl)
  obtain ⟨fd_undone, D_undone⟩ := c.x.d.def_ 3 (d := d_undone) rfl
  have m_undone := He.glo_ok X G (c.x.d.fact 3 (f := .glo "undone") rfl)
  obtain ⟨fd_place_by, D_place_by⟩ := c.x.d.def_ 4 (d := d_place_by) rfl
  have m_place_by := He.glo_ok X G (c.x.d.fact 4 (f := .glo "place_by") rfl)
  obtain ⟨fd_side_by, D_side_by⟩ := c.x.d.def_ 5 (d := d_side_by) rfl
  have m_side_by := He.glo_ok X G (c.x.d.fact 5 (f := .glo "side_by") rfl)
  obtain ⟨fd_behind, D_behind⟩ := c.x.d.def_ 6 (d := d_behind) rfl
  have m_behind := He.glo_ok X G (c.x.d.fact 6 (f := .glo "behind") rfl)
  obtain ⟨fd_inverse, D_inverse⟩ := c.x.d.def_ 7 (d := d_inverse) rfl
  have m_inverse := He.glo_ok X G (c.x.d.fact 7 (f := .glo "inverse") rfl)
  obtain ⟨fd_place_to, D_place_to⟩ := c.x.d.def_ 8 (d := d_place_to) rfl
  have m_place_to := He.glo_ok X G (c.x.d.fact 8 (f := .glo "place_to") rfl)
  obtain ⟨fd_side_to, D_side_to⟩ := c.x.d.def_ 9 (d := d_side_to) rfl
  have m_side_to := He.glo_ok X G (c.x.d.fact 9 (f := .glo "side_to") rfl)
  obtain ⟨fd_is_kind, D_is_kind⟩ := c.x.d.def_ 10 (d := d_is_kind) rfl
  have m_is_kind := He.glo_ok X G (c.x.d.fact 10 (f := .glo "is_kind") rfl)
  obtain ⟨fd_is_map, D_is_map⟩ := c.x.d.def_ 11 (d := d_is_map) rfl
  have m_is_map := He.glo_ok X G (c.x.d.fact 11 (f := .glo "is_map") rfl)
  obtain ⟨fd_require_map, D_require_map⟩ := c.x.d.def_ 12 (d := d_require_map) rfl
  have m_require_map := He.glo_ok X G (c.x.d.fact 12 (f := .glo "require_map") rfl)
  obtain ⟨fd_is_ends, D_is_ends⟩ := c.x.d.def_ 13 (d := d_is_ends) rfl
  have m_is_ends := He.glo_ok X G (c.x.d.fact 13 (f := .glo "is_ends") rfl)
  obtain ⟨fd_require_ends, D_require_ends⟩ := c.x.d.def_ 14 (d := d_require_ends) rfl
  have m_require_ends := He.glo_ok X G (c.x.d.fact 14 (f := .glo "require_ends") rfl)
  obtain ⟨fd_require_cell, D_require_cell⟩ := c.x.d.def_ 15 (d := d_require_cell) rfl
  have m_require_cell := He.glo_ok X G (c.x.d.fact 15 (f := .glo "require_cell") rfl)
  obtain ⟨fd_kind_at, D_kind_at⟩ := c.x.d.def_ 16 (d := d_kind_at) rfl
  have m_kind_at := He.glo_ok X G (c.x.d.fact 16 (f := .glo "kind_at") rfl)
  obtain ⟨fd_window_of, D_window_of⟩ := c.x.d.def_ 17 (d := d_window_of) rfl
  have m_window_of := He.glo_ok X G (c.x.d.fact 17 (f := .glo "window_of") rfl)
  obtain ⟨fd_mirrored, D_mirrored⟩ := c.x.d.def_ 18 (d := d_mirrored) rfl
  have m_mirrored := He.glo_ok X G (c.x.d.fact 18 (f := .glo "mirrored") rfl)
  obtain ⟨fd_quarter, D_quarter⟩ := c.x.d.def_ 19 (d := d_quarter) rfl
  have m_quarter := He.glo_ok X G (c.x.d.fact 19 (f := .glo "quarter") rfl)
  obtain ⟨fd_rows_by, D_rows_by⟩ := c.x.d.def_ 20 (d := d_rows_by) rfl
  have m_rows_by := He.glo_ok X G (c.x.d.fact 20 (f := .glo "rows_by") rfl)
  obtain ⟨fd_ends_by, D_ends_by⟩ := c.x.d.def_ 21 (d := d_ends_by) rfl
  have m_ends_by := He.glo_ok X G (c.x.d.fact 21 (f := .glo "ends_by") rfl)
  obtain ⟨fd_turned_map, D_turned_map⟩ := c.x.d.def_ 22 (d := d_turned_map) rfl
  have m_turned_map := He.glo_ok X G (c.x.d.fact 22 (f := .glo "turned_map") rfl)
  obtain ⟨fd_turned_ends, D_turned_ends⟩ := c.x.d.def_ 23 (d := d_turned_ends) rfl
  have m_turned_ends := He.glo_ok X G (c.x.d.fact 23 (f := .glo "turned_ends") rfl)
  obtain ⟨fd_window, D_window⟩ := c.x.d.def_ 24 (d := d_window) rfl
  have m_window := He.glo_ok X G (c.x.d.fact 24 (f := .glo "window") rfl)
  obtain ⟨fd__law_mixed, D__law_mixed⟩ := c.x.d.def_ 25 (d := d__law_mixed) rfl
  have m__law_mixed := He.glo_ok X G (c.x.d.fact 25 (f := .glo "_law_mixed") rfl)
  obtain ⟨fd__law_purse, D__law_purse⟩ := c.x.d.def_ 26 (d := d__law_purse) rfl
  have m__law_purse := He.glo_ok X G (c.x.d.fact 26 (f := .glo "_law_purse") rfl)
  obtain ⟨fd__law_draw, D__law_draw⟩ := c.x.d.def_ 27 (d := d__law_draw) rfl
  have m__law_draw := He.glo_ok X G (c.x.d.fact 27 (f := .glo "_law_draw") rfl)
  obtain ⟨fd__law_great, D__law_great⟩ := c.x.d.def_ 28 (d := d__law_great) rfl
  have m__law_great := He.glo_ok X G (c.x.d.fact 28 (f := .glo "_law_great") rfl)
  obtain ⟨fd__law_asked, D__law_asked⟩ := c.x.d.def_ 29 (d := d__law_asked) rfl
  have m__law_asked := He.glo_ok X G (c.x.d.fact 29 (f := .glo "_law_asked") rfl)
  obtain ⟨fd__law_caught, D__law_caught⟩ := c.x.d.def_ 30 (d := d__law_caught) rfl
  have m__law_caught := He.glo_ok X G (c.x.d.fact 30 (f := .glo "_law_caught") rfl)
  obtain ⟨fd__law_right, D__law_right⟩ := c.x.d.def_ 31 (d := d__law_right) rfl
  have m__law_right := He.glo_ok X G (c.x.d.fact 31 (f := .glo "_law_right") rfl)
  obtain ⟨fd_law, D_law⟩ := c.x.d.def_ 32 (d := d_law) rfl
  have m_law := He.glo_ok X G (c.x.d.fact 32 (f := .glo "law") rfl)
  have B : Bn mg := ⟨He.free_ok X G (c.x.d.fact 33 (f := .free "isinstance") rfl), He.free_ok X G (c.x.d.fact 34 (f := .free "int") rfl), He.free_ok X G (c.x.d.fact 35 (f := .free "bool") rfl), He.free_ok X G (c.x.d.fact 36 (f := .free "tuple") rfl), He.free_ok X G (c.x.d.fact 37 (f := .free "len") rfl), He.free_ok X G (c.x.d.fact 38 (f := .free "all") rfl), He.free_ok X G (c.x.d.fact 39 (f := .free "str") rfl), He.free_ok X G (c.x.d.fact 40 (f := .free "range") rfl), He.free_ok X G (c.x.d.fact 41 (f := .free "max") rfl), He.free_ok X G (c.x.d.fact 42 (f := .free "min") rfl)⟩
  have h_AROUND : Cst K (cnE xs K) mg "AROUND" c_AROUND := c.x.cst X G 0
  have k_window_ends := c.x.kw (cn := cnE xs K) 0 (f := ("window", none)) (p := "ends")
  have e := hfa.symm.trans m_law
  cases e
  have b := FunD.bindsA (ps := ["script"]) D_law fun _ _ _ _ _ _ us hl => match us, hl with | [_], _ => rfl
  refine ⟨fd_law, fun s v => b s [v] rfl, fun base _ _ => ?_⟩
  have m_InvalidNumber := He.glo_ok X G (c.x.d.fact 43 (f := .glo "InvalidNumber") rfl)
  have m_InvalidWay := He.glo_ok X G (c.x.d.fact 44 (f := .glo "InvalidWay") rfl)
  have m_InvalidMap := He.glo_ok X G (c.x.d.fact 45 (f := .glo "InvalidMap") rfl)
  have m_InvalidEnds := He.glo_ok X G (c.x.d.fact 46 (f := .glo "InvalidEnds") rfl)
  have m_InvalidCell := He.glo_ok X G (c.x.d.fact 47 (f := .glo "InvalidCell") rfl)
  have m_PictureError := He.glo_ok X G (c.x.d.fact 48 (f := .glo "PictureError") rfl)
  obtain ⟨fd_InvalidNumber, D_InvalidNumber⟩ := c.x.d.def_ 33 (d := d_InvalidNumber) rfl
  have h_exc_InvalidNumber : Exk P w K mg base "InvalidNumber" "thing" (En.mk K (cnE xs K)) := exk_mk (y := "thing") (c.exk ("InvalidNumber", "thing") (by decide)) m_InvalidNumber rfl D_InvalidNumber (ok_ini D_InvalidNumber sc_InvalidNumber) fun _ _ _ _ _ _ us hl => match us, hl with | [_, _], _ => rfl
  obtain ⟨fd_InvalidWay, D_InvalidWay⟩ := c.x.d.def_ 34 (d := d_InvalidWay) rfl
  have h_exc_InvalidWay : Exk P w K mg base "InvalidWay" "thing" (En.mk K (cnE xs K)) := exk_mk (y := "thing") (c.exk ("InvalidWay", "thing") (by decide)) m_InvalidWay rfl D_InvalidWay (ok_ini D_InvalidWay sc_InvalidWay) fun _ _ _ _ _ _ us hl => match us, hl with | [_, _], _ => rfl
  obtain ⟨fd_InvalidMap, D_InvalidMap⟩ := c.x.d.def_ 35 (d := d_InvalidMap) rfl
  have h_exc_InvalidMap : Exk P w K mg base "InvalidMap" "thing" (En.mk K (cnE xs K)) := exk_mk (y := "thing") (c.exk ("InvalidMap", "thing") (by decide)) m_InvalidMap rfl D_InvalidMap (ok_ini D_InvalidMap sc_InvalidMap) fun _ _ _ _ _ _ us hl => match us, hl with | [_, _], _ => rfl
  obtain ⟨fd_InvalidEnds, D_InvalidEnds⟩ := c.x.d.def_ 36 (d := d_InvalidEnds) rfl
  have h_exc_InvalidEnds : Exk P w K mg base "InvalidEnds" "thing" (En.mk K (cnE xs K)) := exk_mk (y := "thing") (c.exk ("InvalidEnds", "thing") (by decide)) m_InvalidEnds rfl D_InvalidEnds (ok_ini D_InvalidEnds sc_InvalidEnds) fun _ _ _ _ _ _ us hl => match us, hl with | [_, _], _ => rfl
  obtain ⟨fd_InvalidCell, D_InvalidCell⟩ := c.x.d.def_ 37 (d := d_InvalidCell) rfl
  have h_exc_InvalidCell : Exk P w K mg base "InvalidCell" "thing" (En.mk K (cnE xs K)) := exk_mk (y := "thing") (c.exk ("InvalidCell", "thing") (by decide)) m_InvalidCell rfl D_InvalidCell (ok_ini D_InvalidCell sc_InvalidCell) fun _ _ _ _ _ _ us hl => match us, hl with | [_, _], _ => rfl
  have h_ecl_PictureError : Ecl K mg (En.mk K (cnE xs K)) "PictureError" on_PictureError := ecl_mk c m_PictureError (by decide +kernel)
  have h_ecl_InvalidCell : Ecl K mg (En.mk K (cnE xs K)) "InvalidCell" on_InvalidCell := ecl_mk c m_InvalidCell (by decide +kernel)
  have h_ecl_InvalidEnds : Ecl K mg (En.mk K (cnE xs K)) "InvalidEnds" on_InvalidEnds := ecl_mk c m_InvalidEnds (by decide +kernel)
  have h_ecl_InvalidMap : Ecl K mg (En.mk K (cnE xs K)) "InvalidMap" on_InvalidMap := ecl_mk c m_InvalidMap (by decide +kernel)
  have h_ecl_InvalidNumber : Ecl K mg (En.mk K (cnE xs K)) "InvalidNumber" on_InvalidNumber := ecl_mk c m_InvalidNumber (by decide +kernel)
  have h_ecl_InvalidWay : Ecl K mg (En.mk K (cnE xs K)) "InvalidWay" on_InvalidWay := ecl_mk c m_InvalidWay (by decide +kernel)
  have h_efl_InvalidCell : Efl (En.mk K (cnE xs K)) on_InvalidCell "thing" := efl_mk c (by decide +kernel)
  have h_efl_InvalidEnds : Efl (En.mk K (cnE xs K)) on_InvalidEnds "thing" := efl_mk c (by decide +kernel)
  have h_efl_InvalidMap : Efl (En.mk K (cnE xs K)) on_InvalidMap "thing" := efl_mk c (by decide +kernel)
  have h_efl_InvalidNumber : Efl (En.mk K (cnE xs K)) on_InvalidNumber "thing" := efl_mk c (by decide +kernel)
  have h_efl_InvalidWay : Efl (En.mk K (cnE xs K)) on_InvalidWay "thing" := efl_mk c (by decide +kernel)
  have h_sys := c.sys
  have ok_is_below_ := ok_is_below (P := P) (w := w) (mg := mg) (base := base) (cn := cnE xs K) D_is_below B
  have h_is_below := cal_mk (mg := mg) (n := En.mk K (cnE xs K)) ok_is_below_ D_is_below m_is_below fun _ _ _ _ _ _ us hl => match us, hl with | [_, _], _ => rfl
  have ok_require_way_ := ok_require_way (P := P) (w := w) (mg := mg) (base := base) (cn := cnE xs K) D_require_way h_exc_InvalidWay h_is_below
  have h_require_way := cal_mk (mg := mg) (n := En.mk K (cnE xs K)) ok_require_way_ D_require_way m_require_way fun _ _ _ _ _ _ us hl => match us, hl with | [_], _ => rfl
  have ok_turned_by_ := ok_turned_by (P := P) (w := w) (mg := mg) (base := base) (cn := cnE xs K) D_turned_by 
  have h_turned_by := cal_mk (mg := mg) (n := En.mk K (cnE xs K)) ok_turned_by_ D_turned_by m_turned_by fun _ _ _ _ _ _ us hl => match us, hl with | [_, _], _ => rfl
  have ok_undone_ := ok_undone (P := P) (w := w) (mg := mg) (base := base) (cn := cnE xs K) D_undone 
  have h_undone := cal_mk (mg := mg) (n := En.mk K (cnE xs K)) ok_undone_ D_undone m_undone fun _ _ _ _ _ _ us hl => match us, hl with | [_], _ => rfl
  have ok_place_by_ := ok_place_by (P := P) (w := w) (mg := mg) (base := base) (cn := cnE xs K) D_place_by 
  have h_place_by := cal_mk (mg := mg) (n := En.mk K (cnE xs K)) ok_place_by_ D_place_by m_place_by fun _ _ _ _ _ _ us hl => match us, hl with | [_, _], _ => rfl
  have ok_side_by_ := ok_side_by (P := P) (w := w) (mg := mg) (base := base) (cn := cnE xs K) D_side_by 
  have h_side_by := cal_mk (mg := mg) (n := En.mk K (cnE xs K)) ok_side_by_ D_side_by m_side_by fun _ _ _ _ _ _ us hl => match us, hl with | [_, _], _ => rfl
  have ok_behind_ := ok_behind (P := P) (w := w) (mg := mg) (base := base) (cn := cnE xs K) D_behind h_require_way h_turned_by
  have h_behind := cal_mk (mg := mg) (n := En.mk K (cnE xs K)) ok_behind_ D_behind m_behind fun _ _ _ _ _ _ us hl => match us, hl with | [_, _], _ => rfl
  have ok_inverse_ := ok_inverse (P := P) (w := w) (mg := mg) (base := base) (cn := cnE xs K) D_inverse h_require_way h_undone
  have h_inverse := cal_mk (mg := mg) (n := En.mk K (cnE xs K)) ok_inverse_ D_inverse m_inverse fun _ _ _ _ _ _ us hl => match us, hl with | [_], _ => rfl
  have ok_place_to_ := ok_place_to (P := P) (w := w) (mg := mg) (base := base) (cn := cnE xs K) D_place_to h_exc_InvalidNumber h_require_way h_is_below h_place_by
  have h_place_to := cal_mk (mg := mg) (n := En.mk K (cnE xs K)) ok_place_to_ D_place_to m_place_to fun _ _ _ _ _ _ us hl => match us, hl with | [_, _], _ => rfl
  have ok_side_to_ := ok_side_to (P := P) (w := w) (mg := mg) (base := base) (cn := cnE xs K) D_side_to h_exc_InvalidNumber h_require_way h_is_below h_side_by
  have h_side_to := cal_mk (mg := mg) (n := En.mk K (cnE xs K)) ok_side_to_ D_side_to m_side_to fun _ _ _ _ _ _ us hl => match us, hl with | [_, _], _ => rfl
  have ok_is_kind_ := ok_is_kind (P := P) (w := w) (mg := mg) (base := base) (cn := cnE xs K) D_is_kind B
  have h_is_kind := cal_mk (mg := mg) (n := En.mk K (cnE xs K)) ok_is_kind_ D_is_kind m_is_kind fun _ _ _ _ _ _ us hl => match us, hl with | [_], _ => rfl
  have ok_is_map_ := ok_is_map (P := P) (w := w) (mg := mg) (base := base) (cn := cnE xs K) D_is_map B h_is_kind
  have h_is_map := cal_mk (mg := mg) (n := En.mk K (cnE xs K)) ok_is_map_ D_is_map m_is_map fun _ _ _ _ _ _ us hl => match us, hl with | [_], _ => rfl
  have ok_require_map_ := ok_require_map (P := P) (w := w) (mg := mg) (base := base) (cn := cnE xs K) D_require_map h_exc_InvalidMap h_is_map
  have h_require_map := cal_mk (mg := mg) (n := En.mk K (cnE xs K)) ok_require_map_ D_require_map m_require_map fun _ _ _ _ _ _ us hl => match us, hl with | [_], _ => rfl
  have ok_is_ends_ := ok_is_ends (P := P) (w := w) (mg := mg) (base := base) (cn := cnE xs K) D_is_ends B
  have h_is_ends := cal_mk (mg := mg) (n := En.mk K (cnE xs K)) ok_is_ends_ D_is_ends m_is_ends fun _ _ _ _ _ _ us hl => match us, hl with | [_], _ => rfl
  have ok_require_ends_ := ok_require_ends (P := P) (w := w) (mg := mg) (base := base) (cn := cnE xs K) D_require_ends h_exc_InvalidEnds h_is_ends
  have h_require_ends := cal_mk (mg := mg) (n := En.mk K (cnE xs K)) ok_require_ends_ D_require_ends m_require_ends fun _ _ _ _ _ _ us hl => match us, hl with | [_], _ => rfl
  have ok_require_cell_ := ok_require_cell (P := P) (w := w) (mg := mg) (base := base) (cn := cnE xs K) D_require_cell B h_exc_InvalidCell h_is_below
  have h_require_cell := cal_mk (mg := mg) (n := En.mk K (cnE xs K)) ok_require_cell_ D_require_cell m_require_cell fun _ _ _ _ _ _ us hl => match us, hl with | [_, _, _], _ => rfl
  have ok_kind_at_ := ok_kind_at (P := P) (w := w) (mg := mg) (base := base) (cn := cnE xs K) D_kind_at B
  have h_kind_at := cal_mk (mg := mg) (n := En.mk K (cnE xs K)) ok_kind_at_ D_kind_at m_kind_at fun _ _ _ _ _ _ us hl => match us, hl with | [_, _, _, _], _ => rfl
  have ok_window_of_ := ok_window_of (P := P) (w := w) (mg := mg) (base := base) (cn := cnE xs K) D_window_of B h_AROUND h_kind_at
  have h_window_of := cal_mk (mg := mg) (n := En.mk K (cnE xs K)) ok_window_of_ D_window_of m_window_of fun _ _ _ _ _ _ us hl => match us, hl with | [_, _, _, _], _ => rfl
  have ok_mirrored_ := ok_mirrored (P := P) (w := w) (mg := mg) (base := base) (cn := cnE xs K) D_mirrored B
  have h_mirrored := cal_mk (mg := mg) (n := En.mk K (cnE xs K)) ok_mirrored_ D_mirrored m_mirrored fun _ _ _ _ _ _ us hl => match us, hl with | [_], _ => rfl
  have ok_quarter_ := ok_quarter (P := P) (w := w) (mg := mg) (base := base) (cn := cnE xs K) D_quarter B
  have h_quarter := cal_mk (mg := mg) (n := En.mk K (cnE xs K)) ok_quarter_ D_quarter m_quarter fun _ _ _ _ _ _ us hl => match us, hl with | [_], _ => rfl
  have ok_rows_by_ := ok_rows_by (P := P) (w := w) (mg := mg) (base := base) (cn := cnE xs K) D_rows_by B h_mirrored h_quarter
  have h_rows_by := cal_mk (mg := mg) (n := En.mk K (cnE xs K)) ok_rows_by_ D_rows_by m_rows_by fun _ _ _ _ _ _ us hl => match us, hl with | [_, _], _ => rfl
  have ok_ends_by_ := ok_ends_by (P := P) (w := w) (mg := mg) (base := base) (cn := cnE xs K) D_ends_by 
  have h_ends_by := cal_mk (mg := mg) (n := En.mk K (cnE xs K)) ok_ends_by_ D_ends_by m_ends_by fun _ _ _ _ _ _ us hl => match us, hl with | [_, _], _ => rfl
  have ok_turned_map_ := ok_turned_map (P := P) (w := w) (mg := mg) (base := base) (cn := cnE xs K) D_turned_map h_require_map h_require_way h_rows_by
  have h_turned_map := cal_mk (mg := mg) (n := En.mk K (cnE xs K)) ok_turned_map_ D_turned_map m_turned_map fun _ _ _ _ _ _ us hl => match us, hl with | [_, _], _ => rfl
  have ok_turned_ends_ := ok_turned_ends (P := P) (w := w) (mg := mg) (base := base) (cn := cnE xs K) D_turned_ends h_require_ends h_require_way h_ends_by
  have h_turned_ends := cal_mk (mg := mg) (n := En.mk K (cnE xs K)) ok_turned_ends_ D_turned_ends m_turned_ends fun _ _ _ _ _ _ us hl => match us, hl with | [_, _], _ => rfl
  have ok_window_ := ok_window (P := P) (w := w) (mg := mg) (base := base) (cn := cnE xs K) D_window h_require_map h_require_cell h_require_ends h_window_of
  have h_window_3_ends := calN_mk (mg := mg) (n := En.mk K (cnE xs K)) (m := 3) (ks := ["ends"]) (srcs := [.p 0, .p 1, .p 2, .k 0]) ok_window_ D_window m_window fun _ _ _ _ _ _ us ws l1 l2 => match us, ws, l1, l2 with | [_, _, _], [_], _, _ => rfl
  have ok__law_mixed_ := ok__law_mixed (P := P) (w := w) (mg := mg) (base := base) (cn := cnE xs K) D__law_mixed B
  have h__law_mixed := cal_mk (mg := mg) (n := En.mk K (cnE xs K)) ok__law_mixed_ D__law_mixed m__law_mixed fun _ _ _ _ _ _ us hl => match us, hl with | [_, _], _ => rfl
  have ok__law_purse_ := ok__law_purse (P := P) (w := w) (mg := mg) (base := base) (cn := cnE xs K) D__law_purse B
  have h__law_purse := cal_mk (mg := mg) (n := En.mk K (cnE xs K)) ok__law_purse_ D__law_purse m__law_purse fun _ _ _ _ _ _ us hl => match us, hl with | [_, _], _ => rfl
  have ok__law_draw_ := ok__law_draw (P := P) (w := w) (mg := mg) (base := base) (cn := cnE xs K) D__law_draw B h__law_mixed
  have h__law_draw := cal_mk (mg := mg) (n := En.mk K (cnE xs K)) ok__law_draw_ D__law_draw m__law_draw fun _ _ _ _ _ _ us hl => match us, hl with | [_, _], _ => rfl
  have ok__law_great_ := ok__law_great (P := P) (w := w) (mg := mg) (base := base) (cn := cnE xs K) D__law_great B h__law_draw
  have ok__law_asked_ := ok__law_asked (P := P) (w := w) (mg := mg) (base := base) (cn := cnE xs K) D__law_asked h_behind h_inverse h_place_to h_side_to h_turned_map h_turned_ends h_window_3_ends
  have h__law_asked := cal_mk (mg := mg) (n := En.mk K (cnE xs K)) ok__law_asked_ D__law_asked m__law_asked fun _ _ _ _ _ _ us hl => match us, hl with | [_, _], _ => rfl
  have ok__law_caught_ := ok__law_caught (P := P) (w := w) (mg := mg) (base := base) (cn := cnE xs K) D__law_caught h_ecl_PictureError h_ecl_InvalidCell h_ecl_InvalidEnds h_ecl_InvalidMap h_ecl_InvalidNumber h_ecl_InvalidWay h_efl_InvalidCell h_efl_InvalidEnds h_efl_InvalidMap h_efl_InvalidNumber h_efl_InvalidWay h__law_asked
  have h__law_caught := cal_mk (mg := mg) (n := En.mk K (cnE xs K)) ok__law_caught_ D__law_caught m__law_caught fun _ _ _ _ _ _ us hl => match us, hl with | [_, _], _ => rfl
  have ok__law_right_ := ok__law_right (P := P) (w := w) (mg := mg) (base := base) (cn := cnE xs K) D__law_right B h_sys h__law_draw h__law_caught
  have h__law_right := cal_mk (mg := mg) (n := En.mk K (cnE xs K)) ok__law_right_ D__law_right m__law_right fun _ _ _ _ _ _ us hl => match us, hl with | [_], _ => rfl
  have ok_law_ := ok_law (P := P) (w := w) (mg := mg) (base := base) (cn := cnE xs K) D_law B h__law_purse h__law_right h__law_caught
  exact ok_law_
end K02
open PySem PySem.W PySem.Calls
theorem PySem.Challenge.cw_cellpictures_k02_ways_and_maps_refused_holds : PySem.Challenge.rw_cellpictures_k02_ways_and_maps_refused.Holds := by
  w_on; o_law
  refine HandSHeadRun.head_any (r := OpenLaw.row PySem.Challenge.rw_cellpictures_k02_ways_and_maps_refused) (q := view (OpenLaw.row PySem.Challenge.rw_cellpictures_k02_ways_and_maps_refused).prog [43]) (H := K02.hk) (ob := K02.ob) (M := 10000) (loose := K02.loose) (d := HandSHeadRun.topDef (OpenLaw.row PySem.Challenge.rw_cellpictures_k02_ways_and_maps_refused).prog 43) (kwd := []) K02.ob_eq
    (by kernel_rfl) (fun s => by kernel_rfl) K02.run (by kernel_rfl) (by kernel_rfl) (by kernel_rfl) (by rfl) (by first | assumption | decide +kernel) (by decide +kernel) ⟨rfl, rfl, rfl, rfl, rfl, by decide +kernel⟩ ?hw ?hc
  case hw => w_witness2
  case hc =>
    refine DL.walk_d (l := PySem.Challenge.rw_cellpictures_k02_ways_and_maps_refused) (n := 63) (k := 8) (x := "script") rfl (by decide) (by kernel_rfl) ⟨⟨by decide, by decide, by decide⟩, rfl⟩ ?F
    intro w mg fa h Y G hmg0
    obtain ⟨K, KX, c⟩ := Y
    have hmg : mg ("law" : PySem.Str) = some (.ref fa) := by
      have e : (HandSHeadRun.topDef (OpenLaw.row PySem.Challenge.rw_cellpictures_k02_ways_and_maps_refused).prog 43).name = ("law" : PySem.Str) := by kernel_rfl
      rw [← e]
      exact hmg0
    obtain ⟨fd, hb, hF⟩ := K02.facts (P := (PySem.Challenge.rw_cellpictures_k02_ways_and_maps_refused).prog) (w := w) KX G hmg c
    exact ⟨K, DL.cnE K02.xs K, fd, K02.F_law, KX, hb, fun ns hl _ => K02.F_law_true ns hl, hF⟩

