import PyProof.Rows.All
import Wide.All
import OpenK.AllK
import Wide.FinOn
import HandS.ForMost
import HandS.Flow
import HandS.IsInst
import HandS.Star
import HandS.Zip
import HandS.Conv
import HandS.TupAny
import HandS.TupSets
import HandS.DictComp
import HandS.Style
import HandS.Wide
import HandS.Walk
import HandS.Iter
import HandS.Comp
import KE.GoesEnum
import KE.GoesMore
import KE.SortData
import KE.KDictWalk
import HandS.SetFor
import HandS.Strs
import KE.DataMinMax
import KE.KStateDown
import Lean
import HandS.Defaults
import HandS.Head0
import HandS.Head1
import HandS.Head2
import HandS.HeadEnd
import HandS.HeadHook1
import HandS.HeadHook2
import PySem.Challenge.RW_crestjoin_k74_whole_trees_of_bags
set_option Elab.async false
set_option linter.all false
set_option maxRecDepth 100000
set_option maxHeartbeats 1000000
/-! D0: tuples whose one object is known to have no dict. -/
namespace Kb
open PySem PySem.Spec PyProof.Rows HT L2

def TupA (H : Hp) (a : Addr) (xs : List V) : Prop := ∃ o : Obj, H a = some (.frz o (.tup xs)) ∧ o.dict = none
theorem TupA.sq {K : PySem.W.Frag} {H : Hp} {a : Addr} {xs : List V} (h : TupA H a xs) : SqT K H a xs := by
  obtain ⟨o, h, _⟩ := h
  exact .inl (.inr ⟨o, h⟩)
/-- a new tuple at p -/
def NwT (H : Hp) (xs : List V) (p : Addr) (H' : Hp) : Prop := H p = none ∧ ∃ o : Obj, o.dict = none ∧ H' = upd H p (.frz o (.tup xs))
section
variable {X : Cx} {pins : List (Addr × Obj)} {σ : L2.St} {H : Hp} {s : Shared} {Q : VK}
theorem laidT {vs : List V} {us : Array Value} {k : Nat} (I : Inv X pins σ H s) (r : Vals vs us.toList) (hz : vs.length ≤ sizeLine) (h : ∀ q H', NwT H vs q H' → Q (.ref q) H') :
    EP X pins σ Q (.ref s.heap.objs.size) { s with heap := s.heap.push { cls := .type "tuple", data := .seq us }, toks := k } := by
  refine ⟨.ref s.heap.objs.size, upd H s.heap.objs.size (.frz { cls := .type "tuple", data := .seq us } (.tup vs)), I.laid (t' := k) (fun b u q => Heap.get?_push_of_some _ q) (Nat.le_refl _) ?_, rfl, h _ _ ⟨I.hok.fresh (Nat.le_refl _), _, rfl, rfl⟩⟩
  exact ⟨Heap.get?_push_size _ rfl, hz, us.toList, r, by rw [Array.toArray_toList]; exact IsTup.new _ _⟩
end
section
variable {X : Cx} {es : List Expr} {t : TA} {pos : Pos}
def tTupA (t : TA) : TE := fun σ H Q => t σ H fun xs H1 => xs.length ≤ sizeLine ∧ ∀ p H', NwT H1 xs p H' → Q (.ref p) H'
theorem pe_tupA {x1} (h : PA X es t) : PE X (.Tuple es x1 pos) (tTupA t) := by
  refine ⟨fun pins s σ H Q I hq => ?_⟩
  refine wpAny_Tuple_spliced (thn (h.run pos pins s σ H _ I hq) fun us s1 ⟨xs, H1, I1, r, z, q⟩ => ⟨by rw [← r.length]; exact z, ?_⟩)
  exact laidT (us := us.toArray) I1 (by simpa using r) z q
def rTupOf (K : PySem.W.Frag) : List V → Hp → VK → Prop := fun xs H Q => ∃ p ys, xs = [.ref p] ∧ ((SqL K H p ys ∧ ∀ l H', NwT H ys l H' → Q (.ref l) H') ∨ (SqT K H p ys ∧ Q (.ref p) H))
theorem call_tupleA : CallR X (.type "tuple") (rTupOf X.K) := by
  intro pins s σ H xs us Q I r h
  obtain ⟨p, ys, rfl, h⟩ := h
  obtain ⟨u, rfl, rx⟩ := vals1 r
  cases rx
  rcases h with ⟨hq, q⟩ | ⟨hq, q⟩
  · obtain ⟨its, r', pl, hz⟩ := I.list hq
    have hlen := r'.length
    refine call_tuple_list pl.isList (fun h' kp => ?_) (by simp only [List.size_toArray] <;> omega)
    have I1 : Inv X pins σ H { s with heap := h' } := I.kept (t' := s.toks) kp
    exact laidT (k := s.toks) I1 (by simpa using r') hz q
  · obtain ⟨its, r', pl, hz⟩ := I.tuple hq
    exact call_tuple_same pl ⟨.ref p, H, I, rfl, q⟩
/-- t[lo:hi]: the whole of it is t itself -/
def rCutA (K : PySem.W.Frag) : V → Option Int → Option Int → Hp → VK → Prop := fun x lo hi H Q => ∃ a xs, x = .ref a ∧ SqT K H a xs ∧
  (HT.sIx xs.length 0 lo = 0 ∧ HT.sIx xs.length xs.length hi = xs.length → Q (.ref a) H) ∧ (¬ (HT.sIx xs.length 0 lo = 0 ∧ HT.sIx xs.length xs.length hi = xs.length) → ∀ p H', NwT H (cutV xs lo hi) p H' → Q (.ref p) H')
theorem sl_cutA : SlR X (rCutA X.K) := by
  intro pins s σ H x v vl vu lo hi sl Q I rx hs pl pu h
  obtain ⟨a, xs, rfl, hx, q1, q2⟩ := h
  cases rx
  obtain ⟨its, r, ht, hz⟩ := I.tuple hx
  have hlen : its.toArray.size = xs.length := by rw [List.size_toArray]; exact r.length.symm
  refine ⟨"tuple", _, PyProof.Rows.slot_tuple_getitem.lookup, ht.typeIs, ?_⟩
  by_cases hw : HT.sIx xs.length 0 lo = 0 ∧ HT.sIx xs.length xs.length hi = xs.length
  · exact getItem_tuple_whole ht hs pl pu (by rw [hlen]; exact hw) ⟨.ref a, H, I, rfl, q1 hw⟩
  · refine HT.getItem_tuple_cut ht hs pl pu (by rw [hlen]; exact hw) ?_ (by rw [hlen]; exact hz)
    rw [hlen]
    refine laidT (k := s.toks) I ?_ (Nat.le_trans (cutV_length xs lo hi) hz) (q2 hw)
    have z := (r.drop (HT.sIx xs.length 0 lo)).take (HT.sIx xs.length xs.length hi - HT.sIx xs.length 0 lo)
    unfold cutV
    simpa using z
/-- t + u -/
def rJoinA (K : PySem.W.Frag) : R2 := fun x y H Q => ∃ a b xs ys, x = .ref a ∧ y = .ref b ∧ SqT K H a xs ∧ SqT K H b ys ∧ xs.length + ys.length ≤ sizeLine ∧
  (xs = [] → Q (.ref b) H) ∧ (xs ≠ [] → ys = [] → Q (.ref a) H) ∧ (xs ≠ [] → ys ≠ [] → ∀ p H', NwT H (xs ++ ys) p H' → Q (.ref p) H')
theorem op_joinA : OpR X (binaryOp .Add) (rJoinA X.K) := by
  intro pins s σ H x y v u Q I rx ry h
  obtain ⟨a, b, xs, ys, rfl, rfl, ha, hb, hz, q0, q1, q2⟩ := h
  cases rx
  cases ry
  obtain ⟨its, r1, p1, _⟩ := I.tuple ha
  obtain ⟨its2, r2, p2, _⟩ := I.tuple hb
  by_cases hx : xs = []
  · subst hx
    cases r1
    exact cat_tup0 p1 p2 ⟨.ref b, H, I, rfl, q0 rfl⟩
  · refine HT.cat_tup p1 p2 (fun z => hx (r1.nil_iff.mp z)) (fun z => ⟨.ref a, H, I, rfl, q1 hx (r2.nil_iff.mp z)⟩) (fun z => ?_) (by rw [← r1.length, ← r2.length]; exact hz)
    exact laidT (k := s.toks) I (by simpa using r1.append r2) (by rw [List.length_append]; exact hz) (q2 hx fun w => z (r2.nil_iff.mpr w))
/-- t[::-1], of two or more -/
theorem getItem_tuple_rev {prog : Program} {w : World} {A : Around} {E : Value → Shared → Prop} {t sl : Addr} {items : Array Value} {vl vu vs : Value} {Q : Value → Shared → Prop} (ht : IsTup s.heap t items) (hs : s.heap.IsSliceOf sl vl vu vs) (pl : IsPart vl none) (pu : IsPart vu none) (ps : IsPart vs (some (-1)))
    (h : Q (.ref s.heap.objs.size) { s with heap := s.heap.push { cls := .type "tuple", data := .seq items.toList.reverse.toArray } })
    (hsz : items.size ≤ sizeLine) : wpAny (model prog w) A (getItem (.ref t) (.ref sl)) Q E s := by
  obtain ⟨os, hos, hcs, hds⟩ := id hs
  have hTs : s.TypeIs (.ref sl) "slice" := ⟨os, hos, hcs⟩
  unfold getItem
  try with_reducible refine wpAny_holding ?_
  first | refine wpAny_bind (wpAny_pure ?_) | skip
  refine wpAny_bind (wpAny_sequenceKey ht.typeIs (by decide) ?_)
  refine wpAny_bind (wpAny_callSpecial?_slot (name := Str.ofString "__getitem__") ht.typeIs PyProof.Rows.slot_tuple_getitem
    (wpAny_call_entry PyProof.Rows.slot_tuple_getitem ht.typeIs entry_tuple_getitem ?_ (args_tuple_getitem _ _)))
  show wpAny _ _ (Builtin.Tuple.tupleItemsOf (.ref t) >>= _) _ _ s
  refine wpAny_bind (tupleItemsOf_ ht ?_)
  refine wpAny_bind (wpAny_typeOf hTs ?_)
  rw [if_pos (by decide)]
  have hap : ∀ {A : Around} {E : Value → Shared → Prop} {Q : Int × Int × Nat → Shared → Prop}, Q ((items.size : Int) - 1, -1, items.size) s → wpAny (model prog w) A (Builtin.Slice.sliceApplied (.ref sl) (pure (items.size : Int))) Q E s := by
    intro A E Q h
    unfold Builtin.Slice.sliceApplied Builtin.Slice.sliceFields
    refine wpAny_bind (wpAny_bind (wpAny_field hos hds (x := vl) rfl (wpAny_bind (wpAny_field hos hds (x := vu) rfl (wpAny_bind (wpAny_field hos hds (x := vs) rfl (wpAny_pure ?_)))))))
    refine wpAny_bind (slicePart_ ps ?_)
    show wpAny _ _ (if ((-1 : Int) == 0) = true then _ else _) _ _ s
    rw [if_neg (by decide)]
    refine wpAny_bind (slicePart_ pl (wpAny_bind (slicePart_ pu (wpAny_bind (wpAny_pure ?_)))))
    show wpAny _ _ (pure ((items.size : Int) - 1, (-1 : Int), Builtin.Slice.slicePlaces ((items.size : Int) - 1) (-1) (-1))) _ _ s
    have e : Builtin.Slice.slicePlaces ((items.size : Int) - 1) (-1) (-1) = items.size := by
      unfold Builtin.Slice.slicePlaces
      rw [if_neg (by decide)]
      by_cases c : (items.size : Int) - 1 > -1
      · rw [if_pos c, show (- -1 : Int) = 1 by decide, Int.ediv_one]; omega
      · rw [if_neg c]; omega
    rw [e]
    exact wpAny_pure h
  refine wpAny_bind (hap ?_)
  have hno : ¬ ((((items.size : Int) - 1) == 0 && (-1 : Int) == 1 && items.size == items.size) = true) := by simp
  show wpAny _ _ (if (((items.size : Int) - 1) == 0 && (-1 : Int) == 1 && items.size == items.size) = true then _ else _) _ _ s
  have pick : ((List.range items.size).filterMap fun (k : Nat) => items[((items.size : Int) - 1 + (k : Int) * -1).toNat]?).toArray = items.toList.reverse.toArray := by
    have e : ((List.range items.size).filterMap fun (k : Nat) => items[((items.size : Int) - 1 + (k : Int) * -1).toNat]?) = ((List.range items.size).map (fun k => items.size - 1 - k)).filterMap (items[·]?) := by
      rw [List.filterMap_map]
      have fm : ∀ (l : List Nat) (f g : Nat → Option Value), (∀ k ∈ l, f k = g k) → l.filterMap f = l.filterMap g := by
        intro l f g
        induction l with
        | nil => intro _; rfl
        | cons k l ih =>
          intro h
          rw [List.filterMap_cons, List.filterMap_cons, h k List.mem_cons_self, ih fun j hj => h j (List.mem_cons_of_mem _ hj)]
      refine fm _ _ _ fun k hk => ?_
      have := List.mem_range.mp hk
      have e2 : ((items.size : Int) - 1 + (k : Int) * -1).toNat = items.size - 1 - k := by omega
      rw [e2]; rfl
    rw [e, PySem.W.krv_range, List.filterMap_reverse, PySem.W.krv_all]
  have htake : sizeOk (.seq items.toList.reverse.toArray) := by
    show items.toList.reverse.toArray.size ≤ sizeLine
    rw [List.size_toArray, List.length_reverse, Array.length_toList]
    exact hsz
  rw [if_neg hno, pick]
  first
    | exact wpAny_bind (m := Builtin.Tuple.tupleExact _) (wpAny_newObj_type (wpAny_pure ⟨_, rfl, wpAny_pure h⟩) htake)
    | exact wpAny_bind (m := Builtin.Tuple.tupleExact _) (wpAny_newObj_type (wpAny_bind (wpAny_pure (wpAny_pure ⟨_, rfl, wpAny_pure h⟩))) htake)
    | exact wpAny_bind (wpAny_bind (m := Builtin.Tuple.tupleExact _) (wpAny_newObj_type (wpAny_pure (wpAny_pure ⟨_, rfl, wpAny_pure h⟩)) htake))
    | exact wpAny_bind (wpAny_bind (m := Builtin.Tuple.tupleExact _) (wpAny_newObj_type (wpAny_pure ⟨_, rfl, wpAny_pure h⟩) htake))
def tRevT (K : PySem.W.Frag) (te : TE) : TE := fun σ H Q => te σ H fun x H1 => ∃ a xs, x = .ref a ∧ SqT K H1 a xs ∧ ∀ p H', NwT H1 xs.reverse p H' → Q (.ref p) H'
theorem pe_revT {e : Expr} {te : TE} {k : Nat} {p1 p2 p3 pos : Pos} (he : PE X e te) : PE X (.Subscript e (.Slice none none (some (.UnaryOp .USub (.Constant (.int 1) k p1) p2)) p3) pos) (tRevT X.K te) := by
  refine ⟨fun pins s σ H Q I h => ?_⟩
  refine Subscript_ (thn (he.run pins s σ H _ I h) fun v s1 ⟨x, H1, I1, r1, q1⟩ => ?_)
  obtain ⟨a, xs, ex, hx, q⟩ := q1
  subst ex
  cases r1
  have hst : PO X (some (.UnaryOp .USub (.Constant (.int 1) k p1) p2)) (tPart (tUn (rU fun i => .int (-i)) (tC (.int 1)))) := po_some (pe_un un_neg pe_int)
  refine wpAny_Slice (thn (po_none.run pins s1 σ H1 (fun o H2 => o = none ∧ H2 = H1) I1 ⟨rfl, rfl⟩) fun vl s2 ⟨l, H2, I2, pl, el, e2⟩ => ?_)
  subst el e2
  refine thn (po_none.run pins s2 σ H2 (fun o H3 => o = none ∧ H3 = H2) I2 ⟨rfl, rfl⟩) fun vu s3 ⟨u, H3, I3, pu, eu, e3⟩ => ?_
  subst eu e3
  refine thn (hst.run pins s3 σ H3 (fun o H4 => o = some (-1) ∧ H4 = H3) I3 ⟨1, rfl, -1, rfl, rfl, rfl⟩) fun vs s4 ⟨o, H4, I4, ps, eo, e4⟩ => ?_
  subst eo e4
  have I5 : Inv X pins σ H4 { s4 with heap := s4.heap.push { cls := .type "slice", data := .fields #[vl, vu, vs] } } := I4.kept (t' := s4.toks) fun b ob q => Heap.get?_push_of_some _ q
  obtain ⟨its, r, ht, hz⟩ := I5.tuple hx
  have hlen := r.length
  show wpAny (model X.prog X.w) X.A (subscriptTail e (.Slice none none (some (.UnaryOp .USub (.Constant (.int 1) k p1) p2)) p3) (.ref a) (.ref s4.heap.objs.size)) (EP X pins σ Q) X.xe { s4 with heap := s4.heap.push { cls := .type "slice", data := .fields #[vl, vu, vs] } }
  refine tail_any (ops := [.ref a, .ref s4.heap.objs.size]) ht.typeIs (PyProof.Rows.slot_tuple_getitem.lookup) ?_ (by with_unfolding_all rfl)
  refine getItem_tuple_rev ht (Heap.IsSliceOf.new _ vl vu vs) pl pu ps ?_ (by rw [List.size_toArray]; omega)
  exact laidT (k := s4.toks) I5 (by simpa using r.reverse) (by rw [List.length_reverse]; exact hz) q
end
/-- how often x is in a tuple of flat items -/
def tCntA (te : TE) (tx : TE) : TE := fun σ H Q => te σ H fun v H1 => ∃ a xs, v = .ref a ∧ TupA H1 a xs ∧ tx σ H1 fun x H2 => TupA H2 a xs ∧ flatV x = true ∧ xs.all flatV = true ∧ Q (.int (xs.countP fun y => eqV y x : Nat)) H2
theorem countP_eqU {x : V} : ∀ {xs : List V} {us : List Value}, Vals xs us → xs.all flatV = true → us.countP (eqU x) = xs.countP fun y => eqV y x
  | _, _, .nil, _ => rfl
  | y :: xs, u :: us, .cons r t, f => by
    rw [List.all_cons, Bool.and_eq_true] at f
    rw [List.countP_cons, List.countP_cons, eqU_of r f.1, countP_eqU t f.2]
theorem pe_count {X : Cx} {o e : Expr} {te tx : TE} {apos cpos : Pos} (ho : PE X o te) (he : PE X e tx) (hbase : attributeBase o "count" X.env (eval o X.env) = eval o X.env := by rfl) (hline : (apos.endLine == cpos.line) = true := by rfl)
    (htrees : backTo cpos (starEach [e] X.env) = [(false, eval e X.env)] := by rfl) : PE X (.Call (.Attribute o "count" apos) [e] [] cpos) (tCntA te tx) := by
  refine ⟨fun pins s σ H Q I h => ?_⟩
  refine wpAny_Call_method1_late hbase hline htrees (thn (ho.run pins s σ H _ I h) fun v s1 ⟨x, H1, I1, r1, a, xs, ex, hx, q1⟩ => ?_)
  subst ex
  cases r1
  have look : ∀ {H : Hp} {s : Shared}, Inv X pins σ H s → TupA H a xs → ∃ (its : List Value) (n : Nat) (sl : Array (Option Value)), s.heap.get? a = some { cls := .type "tuple", dict := none, data := .seq its.toArray n, slots := sl } ∧ Vals xs its := by
    intro H s I hx
    obtain ⟨o, hx, hd⟩ := hx
    obtain ⟨e, _, its, r, o', e', c, n, d⟩ := (show ObjOk X.prog X.w H s.heap a (.frz o (.tup xs)) from I.hok a _ hx)
    rw [e] at e'
    cases e'
    obtain ⟨cls, dd, data, sl⟩ := o
    simp only at hd c d
    subst hd c d
    exact ⟨its, n, sl, e, r⟩
  obtain ⟨its0, n0, sl0, e0, _⟩ := look I1 hx
  refine ⟨"tuple", "tuple.count", PySem.F.plainAttrs_tuple, PySem.F.slot_tuple_count, PySem.F.type_tuple_count, ⟨_, e0, rfl⟩, fun b e => by cases e; exact ⟨_, e0, rfl⟩, ?_⟩
  refine Calls.callWith_builtin rfl (Calls.evalArgs_plain (Calls.spliced_cons (thn (he.run pins s1 σ H1 _ I1 q1) fun v2 s2 ⟨x2, H2, I2, r2, hx2, f1, f2, q2⟩ => Calls.spliced_nil ?_)))
  obtain ⟨its, n, sl, e2, rs⟩ := look I2 hx2
  refine call_meets PySem.F.slot_tuple_count ⟨_, e2, rfl⟩ PySem.F.entry_tuple_count (PySem.F.args_tuple_count_2 _ _) (SeqAt.tuple_countAt a its.toArray n none sl v2 (eqU x2)) ⟨e2, fun w hw => mem_eqAt r2 f1 rs f2 w (by simpa using hw), ?_⟩
  refine ⟨.int (xs.countP fun y => eqV y x2 : Nat), H2, I2.tok _, ⟨s2.toks, ?_⟩, q2⟩
  rw [show its.toArray.toList = its by simp, countP_eqU rs f2]
end Kb
set_option Elab.async false
set_option linter.all false
set_option maxRecDepth 100000
/-! D1: data over the tracked heap: what a value reads as, environments of data. -/
namespace Kb
open PySem L2

/-! ### data -/
mutual
inductive Dt (H : Hp) : V → PyData → Prop
  | non : Dt H .non .none
  | bl (b : Bool) : Dt H (.bl b) (.bool b)
  | int (i : Int) : Dt H (.int i) (.int i)
  | str (x : Str) : Dt H (.str x) (.str x)
  | lst {a : Addr} {xs : List V} {ds : List PyData} : H a = some (.lst xs) → DtL H xs ds → Dt H (.ref a) (.list ds)
  | tup {a : Addr} {xs : List V} {ds : List PyData} : TupA H a xs → DtL H xs ds → Dt H (.ref a) (.tuple ds)
  | dic {a : Addr} : H a = some (.dK []) → Dt H (.ref a) (.dict [])
inductive DtL (H : Hp) : List V → List PyData → Prop
  | nil : DtL H [] []
  | cons {v : V} {vs : List V} {d : PyData} {ds : List PyData} : Dt H v d → DtL H vs ds → DtL H (v :: vs) (d :: ds)
end

/-! no list, no dict within: a value of tuples and flat things -/
mutual
def pur : PyData → Bool
  | .none => true
  | .bool _ => true
  | .int _ => true
  | .str _ => true
  | .list _ => false
  | .tuple ds => purL ds
  | .dict _ => false
def purL : List PyData → Bool
  | [] => true
  | d :: ds => pur d && purL ds
end
theorem purL_mem : ∀ {ds : List PyData}, purL ds = true → ∀ d ∈ ds, pur d = true
  | [], _, _, h => by cases h
  | d :: ds, h, e, hm => by
    have h2 : (pur d && purL ds) = true := by rw [purL] at h; exact h
    obtain ⟨h3, h4⟩ := Bool.and_eq_true_iff.mp h2
    rcases List.mem_cons.mp hm with rfl | hm
    · exact h3
    · exact purL_mem h4 e hm
theorem purL_of : ∀ {ds : List PyData}, (∀ d ∈ ds, pur d = true) → purL ds = true
  | [], _ => by rw [purL]
  | d :: ds, h => by
    rw [purL, h d List.mem_cons_self, purL_of fun e he => h e (List.mem_cons_of_mem _ he)]
    rfl
theorem purL_append {ds es : List PyData} (h : purL ds = true) (k : purL es = true) : purL (ds ++ es) = true :=
  purL_of fun d hd => (List.mem_append.mp hd).elim (purL_mem h d) (purL_mem k d)

/-- more is tracked, nothing else changed -/
def Sub (F H : Hp) : Prop := ∀ a o, F a = some o → H a = some o
theorem Sub.refl (H : Hp) : Sub H H := fun _ _ h => h
theorem Sub.trans {A B C : Hp} (h : Sub A B) (k : Sub B C) : Sub A C := fun a o e => k a o (h a o e)
theorem Sub.none {F H : Hp} {a : Addr} (h : Sub F H) (k : H a = none) : F a = none := by
  cases e : F a with
  | none => rfl
  | some o => rw [h a o e] at k; cases k

theorem TupA.mono {F H : Hp} (s : Sub F H) {a : Addr} {xs : List V} (h : TupA F a xs) : TupA H a xs := by
  obtain ⟨o, h, d⟩ := h
  exact ⟨o, s _ _ h, d⟩
mutual
theorem Dt.mono {F H : Hp} (s : Sub F H) : ∀ {v : V} {d : PyData}, Dt F v d → Dt H v d
  | _, _, .non => .non
  | _, _, .bl b => .bl b
  | _, _, .int i => .int i
  | _, _, .str x => .str x
  | _, _, .lst h k => .lst (s _ _ h) (DtL.mono s k)
  | _, _, .tup h k => .tup (h.mono s) (DtL.mono s k)
  | _, _, .dic h => .dic (s _ _ h)
theorem DtL.mono {F H : Hp} (s : Sub F H) : ∀ {vs : List V} {ds : List PyData}, DtL F vs ds → DtL H vs ds
  | _, _, .nil => .nil
  | _, _, .cons h k => .cons (Dt.mono s h) (DtL.mono s k)
end
mutual
/-- what is made of tuples alone needs the tuples alone -/
theorem Dt.pure {F H : Hp} (s : ∀ a xs, TupA F a xs → TupA H a xs) : ∀ {v : V} {d : PyData}, pur d = true → Dt F v d → Dt H v d
  | _, _, _, .non => .non
  | _, _, _, .bl b => .bl b
  | _, _, _, .int i => .int i
  | _, _, _, .str x => .str x
  | _, _, p, .lst h k => by rw [pur] at p; cases p
  | _, _, p, .tup h k => .tup (s _ _ h) (DtL.pure s (by rw [pur] at p; exact p) k)
  | _, _, p, .dic h => by rw [pur] at p; cases p
theorem DtL.pure {F H : Hp} (s : ∀ a xs, TupA F a xs → TupA H a xs) : ∀ {vs : List V} {ds : List PyData}, purL ds = true → DtL F vs ds → DtL H vs ds
  | _, _, _, .nil => .nil
  | _, _, p, .cons h k => .cons (Dt.pure s (by rw [purL] at p; exact (Bool.and_eq_true_iff.mp p).1) h) (DtL.pure s (by rw [purL] at p; exact (Bool.and_eq_true_iff.mp p).2) k)
end
theorem DtL.length {H : Hp} : ∀ {vs : List V} {ds : List PyData}, DtL H vs ds → vs.length = ds.length
  | _, _, .nil => rfl
  | _, _, .cons _ k => by rw [List.length_cons, List.length_cons, DtL.length k]
theorem DtL.get {H : Hp} : ∀ {vs : List V} {ds : List PyData} {i : Nat} {v : V}, DtL H vs ds → vs[i]? = some v → ∃ d, ds[i]? = some d ∧ Dt H v d
  | _, _, _, _, .nil, e => by cases e
  | _, _, 0, _, .cons h _, e => by cases e; exact ⟨_, rfl, h⟩
  | _, _, i + 1, _, .cons _ k, e => DtL.get (i := i) k e
theorem DtL.get' {H : Hp} : ∀ {vs : List V} {ds : List PyData} {i : Nat} {d : PyData}, DtL H vs ds → ds[i]? = some d → ∃ v, vs[i]? = some v ∧ Dt H v d
  | _, _, _, _, .nil, e => by cases e
  | _, _, 0, _, .cons h _, e => by cases e; exact ⟨_, rfl, h⟩
  | _, _, i + 1, _, .cons _ k, e => DtL.get' (i := i) k e
theorem DtL.append {H : Hp} : ∀ {vs ws : List V} {ds es : List PyData}, DtL H vs ds → DtL H ws es → DtL H (vs ++ ws) (ds ++ es)
  | _, _, _, _, .nil, k => k
  | _, _, _, _, .cons h r, k => .cons h (DtL.append r k)
theorem DtL.take {H : Hp} : ∀ {vs : List V} {ds : List PyData} (n : Nat), DtL H vs ds → DtL H (vs.take n) (ds.take n)
  | _, _, 0, _ => .nil
  | _, _, _ + 1, .nil => .nil
  | _, _, n + 1, .cons h k => .cons h (DtL.take n k)
theorem DtL.drop {H : Hp} : ∀ {vs : List V} {ds : List PyData} (n : Nat), DtL H vs ds → DtL H (vs.drop n) (ds.drop n)
  | _, _, 0, k => k
  | _, _, _ + 1, .nil => .nil
  | _, _, n + 1, .cons _ k => DtL.drop n k
theorem DtL.set {H : Hp} {v : V} {d : PyData} (x : Dt H v d) : ∀ {vs : List V} {ds : List PyData} (i : Nat), DtL H vs ds → DtL H (vs.set i v) (ds.set i d)
  | _, _, _, .nil => .nil
  | _, _, 0, .cons _ k => .cons x k
  | _, _, i + 1, .cons h k => .cons h (DtL.set x i k)
theorem DtL.eraseIdx {H : Hp} : ∀ {vs : List V} {ds : List PyData} (i : Nat), DtL H vs ds → DtL H (vs.eraseIdx i) (ds.eraseIdx i)
  | _, _, _, .nil => .nil
  | _, _, 0, .cons _ k => k
  | _, _, i + 1, .cons h k => .cons h (DtL.eraseIdx i k)
theorem DtL.reverse {H : Hp} {vs : List V} {ds : List PyData} (k : DtL H vs ds) : DtL H vs.reverse ds.reverse := by
  induction vs generalizing ds with
  | nil => cases k; exact .nil
  | cons v vs ih =>
    cases k with
    | cons h k =>
      rw [List.reverse_cons, List.reverse_cons]
      exact (ih k).append (.cons h .nil)
theorem DtL.of_get {H : Hp} : ∀ {vs : List V} {ds : List PyData}, vs.length = ds.length → (∀ (i : Nat) (v : V) (d : PyData), vs[i]? = some v → ds[i]? = some d → Dt H v d) → DtL H vs ds
  | [], [], _, _ => .nil
  | [], _ :: _, h, _ => by cases h
  | _ :: _, [], h, _ => by cases h
  | v :: vs, d :: ds, h, k => .cons (k 0 v d rfl rfl) (DtL.of_get (by simpa using h) fun i w e a b => k (i + 1) w e a b)
theorem DtL.ints {H : Hp} : ∀ (ns : List Int), DtL H (ns.map V.int) (ns.map PyData.int)
  | [] => .nil
  | n :: ns => .cons (.int n) (DtL.ints ns)
theorem DtL.of_ints {H : Hp} : ∀ {ns : List Int} {vs : List V}, DtL H vs (ns.map PyData.int) → vs = ns.map V.int
  | [], _, .nil => rfl
  | n :: ns, _, .cons h k => by cases h; rw [List.map_cons, DtL.of_ints k]
theorem Dt.ref_lst {H : Hp} {v : V} {ds : List PyData} (h : Dt H v (.list ds)) : ∃ a xs, v = .ref a ∧ H a = some (.lst xs) ∧ DtL H xs ds := by cases h; exact ⟨_, _, rfl, by assumption, by assumption⟩
theorem Dt.ref_tup {H : Hp} {v : V} {ds : List PyData} (h : Dt H v (.tuple ds)) : ∃ a xs, v = .ref a ∧ TupA H a xs ∧ DtL H xs ds := by cases h; exact ⟨_, _, rfl, by assumption, by assumption⟩

/-! ### parts of the heap -/
def hid (p : Option Addr) (H : Hp) : Hp := fun a => if p = some a then none else H a
theorem hid_sub (p : Option Addr) (H : Hp) : Sub (hid p H) H := fun a o h => by
  unfold hid at h
  split at h
  · cases h
  · exact h
theorem hid_at {p : Option Addr} {H : Hp} {a : Addr} (h : p ≠ some a) : hid p H a = H a := if_neg h
theorem hid_self {H : Hp} {a : Addr} : hid (some a) H a = none := if_pos rfl
theorem hid_none {H : Hp} : hid none H = H := by
  funext a
  exact if_neg (by simp)
/-- F, and what H' has at places that H lacks -/
def grow (F H H' : Hp) : Hp := fun a => match H a with
  | none => H' a
  | some _ => F a
theorem grow_new {F H H' : Hp} {a : Addr} (h : H a = none) : grow F H H' a = H' a := by unfold grow; rw [h]
theorem grow_old {F H H' : Hp} {a : Addr} {o : HO} (h : H a = some o) : grow F H H' a = F a := by unfold grow; rw [h]

/-- three numbers: what the draws are made of -/
def HatAt (H : Hp) (a : Addr) : Prop := ∃ x y z : Int, H a = some (.lst [.int x, .int y, .int z]) ∧ 0 ≤ x ∧ 0 ≤ y ∧ 0 ≤ z
/-- everything stands but the draws' own list -/
structure Ext (p : Option Addr) (H H' : Hp) : Prop where
  keep : ∀ a o, p ≠ some a → H a = some o → H' a = some o
  hat : ∀ a, p = some a → HatAt H a → HatAt H' a
theorem Ext.refl (p : Option Addr) (H : Hp) : Ext p H H := ⟨fun _ _ _ h => h, fun _ _ h => h⟩
theorem Ext.trans {p : Option Addr} {A B C : Hp} (h : Ext p A B) (k : Ext p B C) : Ext p A C := ⟨fun a o n e => k.keep a o n (h.keep a o n e), fun a e x => k.hat a e (h.hat a e x)⟩
theorem Ext.of_sub {p : Option Addr} {H H' : Hp} (h : Sub H H') : Ext p H H' := ⟨fun a o _ e => h a o e, fun a _ ⟨x, y, z, e, q⟩ => ⟨x, y, z, h _ _ e, q⟩⟩
theorem Ext.new {p : Option Addr} {H : Hp} {a : Addr} {o : HO} (h : H a = none) : Ext p H (upd H a o) := .of_sub fun b u e => by
  rw [upd_ne (ne_of_none e h)]
  exact e
theorem sub_new {H : Hp} {a : Addr} {o : HO} (h : H a = none) : Sub H (upd H a o) := fun b u e => by
  rw [upd_ne (ne_of_none e h)]
  exact e
theorem Ext.sub {H H' : Hp} (h : Ext none H H') : Sub H H' := fun a o e => h.keep a o (by simp) e
theorem Ext.hid {p : Option Addr} {H H' : Hp} (h : Ext p H H') : Sub (hid p H) (hid p H') := fun a o e => by
  by_cases q : p = some a
  · rw [q, hid_self] at e; cases e
  · rw [hid_at q] at e ⊢
    exact h.keep a o q e
theorem Ext.any {p : Option Addr} {H H' : Hp} (h : Ext none H H') : Ext p H H' := .of_sub h.sub

/-! ### the state: slots that hold data; slots O that hold lists of their own; the draws' list at p -/
abbrev Env := List (Option PyData)
/-- a dict from numbers to data -/
inductive DicD (F : Hp) : List (Key × V) → List (PyData × PyData) → Prop
  | nil : DicD F [] []
  | cons {k : Int} {v : V} {d : PyData} {r : List (Key × V)} {s : List (PyData × PyData)} : Dt F v d → DicD F r s → DicD F ((.inl k, v) :: r) ((.int k, d) :: s)
theorem DicD.mono {F H : Hp} (s : Sub F H) : ∀ {r : List (Key × V)} {q : List (PyData × PyData)}, DicD F r q → DicD H r q
  | _, _, .nil => .nil
  | _, _, .cons h k => .cons (h.mono s) (k.mono s)
def OwnD (F : Hp) (o : HO) (d : PyData) : Prop := (∃ xs ds, o = .lst xs ∧ d = .list ds ∧ DtL F xs ds) ∨ ∃ kvs ps, o = .dK kvs ∧ d = .dict ps ∧ DicD F kvs ps
theorem OwnD.mono {F F' : Hp} {o : HO} {d : PyData} (s : Sub F F') : OwnD F o d → OwnD F' o d
  | .inl ⟨xs, ds, h1, h2, h3⟩ => .inl ⟨xs, ds, h1, h2, h3.mono s⟩
  | .inr ⟨kvs, ps, h1, h2, k⟩ => .inr ⟨kvs, ps, h1, h2, k.mono s⟩
structure Rs (O : List Nat) (p : Option Addr) (F H : Hp) (σ : L2.St) (ρ : Env) : Prop where
  sub : Sub F H
  len : σ.length = ρ.length
  dat : ∀ i d, ρ[i]? = some (some d) → i ∉ O → ∃ v, σ[i]? = some (some v) ∧ Dt F v d
  own : ∀ i d, ρ[i]? = some (some d) → i ∈ O → ∃ a o, σ[i]? = some (some (.ref a)) ∧ H a = some o ∧ F a = none ∧ p ≠ some a ∧ OwnD F o d
  apart : ∀ i j a d e, i ∈ O → j ∈ O → ρ[i]? = some (some d) → ρ[j]? = some (some e) → σ[i]? = some (some (.ref a)) → σ[j]? = some (some (.ref a)) → i = j
  hat : ∀ a, p = some a → F a = none ∧ HatAt H a
  hatS : ∀ a, p = some a → σ[0]? = some (some (.ref a))
  hatO : 0 ∈ O → ∃ a, p = some a
  tups : ∀ a xs, TupA H a xs → TupA F a xs

section
variable {O : List Nat} {p : Option Addr} {F H H' H1 H2 : Hp} {σ : L2.St} {ρ : Env}
theorem Rs.pn (R : Rs O p F H σ ρ) {a : Addr} (h : H a = none) : p ≠ some a := fun e => by
  obtain ⟨_, x, y, z, q, _⟩ := R.hat a e
  rw [q] at h; cases h
theorem Rs.subhid (R : Rs O p F H σ ρ) : Sub F (hid p H) := fun a o e => by
  rw [hid_at]
  · exact R.sub a o e
  · intro q
    rw [(R.hat a q).1] at e; cases e
theorem Rs.sub_grow (R : Rs O p F H σ ρ) (e : Ext p H H') : Sub F (grow F H H') := fun a o h => by
  rw [grow_old (R.sub a o h)]
  exact h
theorem Rs.grow_sub (R : Rs O p F H σ ρ) (e : Ext p H H') : Sub (grow F H H') H' := fun a o h => by
  cases q : H a with
  | none => rw [grow_new q] at h; exact h
  | some u =>
    rw [grow_old q] at h
    exact e.keep a o (fun z => by rw [(R.hat a z).1] at h; cases h) (R.sub a o h)
theorem Rs.grow_hid (R : Rs O p F H σ ρ) (e : Ext p H H') : Sub (grow F H H') (hid p H') := fun a o h => by
  rw [hid_at]
  · exact R.grow_sub e a o h
  · intro q
    obtain ⟨q1, x, y, z, q2, _⟩ := R.hat a q
    rw [grow_old q2, q1] at h; cases h
theorem grow_first (e : Ext p H1 H2) (hp : ∀ a, p = some a → H a ≠ none) : Sub (grow F H H1) (grow F H H2) := fun a o h => by
  cases q : H a with
  | none =>
    rw [grow_new q] at h ⊢
    exact e.keep a o (fun z => hp a z q) h
  | some u =>
    rw [grow_old q] at h ⊢
    exact h
theorem Rs.first (R : Rs O p F H σ ρ) (e : Ext p H1 H2) : Sub (grow F H H1) (grow F H H2) := grow_first e fun a z q => by
  obtain ⟨_, x, y, w, q2, _⟩ := R.hat a z
  rw [q2] at q; cases q
theorem Rs.tup_grow (R : Rs O p F H σ ρ) (e : Ext p H H') (a : Addr) (xs : List V) (h : TupA H' a xs) : TupA (grow F H H') a xs := by
  cases q : H a with
  | none =>
    obtain ⟨o, h, d⟩ := h
    exact ⟨o, by rw [grow_new q]; exact h, d⟩
  | some o =>
    by_cases z : p = some a
    · obtain ⟨x, y, w, q2, _⟩ := e.hat a z (R.hat a z).2
      obtain ⟨_, h, _⟩ := h
      rw [q2] at h; cases h
    · obtain ⟨o', h, d⟩ := h
      rw [e.keep a o z q] at h
      cases h
      obtain ⟨o2, h2, d2⟩ := R.tups a xs ⟨o', q, d⟩
      exact ⟨o2, by rw [grow_old q]; exact h2, d2⟩
theorem TupA.unhid {p : Option Addr} {H : Hp} {a : Addr} {xs : List V} (h : TupA (hid p H) a xs) : TupA H a xs := h.mono (hid_sub _ _)
/-- what is made of tuples alone stands in what is made so far -/
theorem Rs.pur (R : Rs O p F H σ ρ) (e : Ext p H H') {v : V} {d : PyData} (hp : pur d = true) (h : Dt (hid p H') v d) : Dt (grow F H H') v d :=
  Dt.pure (fun a xs q => R.tup_grow e a xs q.unhid) hp h
theorem Rs.purL (R : Rs O p F H σ ρ) (e : Ext p H H') {vs : List V} {ds : List PyData} (hp : purL ds = true) (h : DtL (hid p H') vs ds) : DtL (grow F H H') vs ds :=
  DtL.pure (fun a xs q => R.tup_grow e a xs q.unhid) hp h
/-- the same slots over what has been made since -/
theorem Rs.grown (R : Rs O p F H σ ρ) (e : Ext p H H') : Rs O p (grow F H H') H' σ ρ where
  sub := R.grow_sub e
  len := R.len
  dat := fun i d h k => by
    obtain ⟨v, h1, h2⟩ := R.dat i d h k
    exact ⟨v, h1, h2.mono (R.sub_grow e)⟩
  own := fun i d h k => by
    obtain ⟨a, o, h1, h2, h3, h4, h5⟩ := R.own i d h k
    exact ⟨a, o, h1, e.keep a o h4 h2, by rw [grow_old h2]; exact h3, h4, h5.mono (R.sub_grow e)⟩
  apart := R.apart
  hat := fun a q => by
    obtain ⟨q1, x, y, z, q2, q3⟩ := R.hat a q
    exact ⟨by rw [grow_old q2]; exact q1, e.hat a q ⟨x, y, z, q2, q3⟩⟩
  hatS := R.hatS
  hatO := R.hatO
  tups := fun a xs h => R.tup_grow e a xs h
theorem Rs.grown2 {H3 : Hp} (R : Rs O p F H σ ρ) (ex : Ext p H H2) (ex3 : Ext p H2 H3) : Sub (grow (grow F H H2) H2 H3) (grow F H H3) := fun a o q => by
  cases q0 : H a with
  | none =>
    rw [grow_new q0]
    cases q2 : H2 a with
    | none => rw [grow_new q2] at q; exact q
    | some u2 =>
      rw [grow_old q2, grow_new q0] at q
      exact ex3.keep a o (R.pn q0) q
  | some u0 =>
    rw [grow_old q0]
    cases q2 : H2 a with
    | none =>
      exfalso
      by_cases z : p = some a
      · obtain ⟨x, y, w, q3, _⟩ := ex.hat a z (R.hat a z).2
        rw [q3] at q2; cases q2
      · rw [ex.keep a u0 z q0] at q2; cases q2
    | some u2 =>
      rw [grow_old q2, grow_old q0] at q
      exact q
end
end Kb
set_option Elab.async false
set_option linter.all false
set_option maxRecDepth 100000
/-! D2: readings over data: expressions. -/
namespace Kb
open PySem L2

abbrev DE := Env → (PyData → Prop) → Prop
abbrev DL := Env → (List PyData → Prop) → Prop
abbrev DB := Env → (Bool → Prop) → Prop
/-- a value that stands in what is made so far -/
def eR (O : List Nat) (g : DE) : TE := fun σ H Q => ∃ p F ρ K, Rs O p F H σ ρ ∧ g ρ K ∧ ∀ d, K d → ∀ v H', Ext p H H' → Dt (grow F H H') v d → Q v H'
/-- a value that may be looked at -/
def eV (O : List Nat) (g : DE) : TE := fun σ H Q => ∃ p F ρ K, Rs O p F H σ ρ ∧ g ρ K ∧ ∀ d, K d → ∀ v H', Ext p H H' → Dt (hid p H') v d → Q v H'
/-- a new list -/
def eL (O : List Nat) (g : DL) : TE := fun σ H Q => ∃ p F ρ K, Rs O p F H σ ρ ∧ g ρ K ∧ ∀ ds, K ds → ∀ a xs H', Ext p H H' → H a = none → H' a = some (.lst xs) → DtL (hid (some a) (grow F H H')) xs ds → Q (.ref a) H'
def eAR (O : List Nat) (g : DL) : TA := fun σ H Q => ∃ p F ρ K, Rs O p F H σ ρ ∧ g ρ K ∧ ∀ ds, K ds → ∀ vs H', Ext p H H' → DtL (grow F H H') vs ds → Q vs H'
def eAV (O : List Nat) (g : DL) : TA := fun σ H Q => ∃ p F ρ K, Rs O p F H σ ρ ∧ g ρ K ∧ ∀ ds, K ds → ∀ vs H', Ext p H H' → DtL (hid p H') vs ds → Q vs H'
def eT (O : List Nat) (g : DB) : TT := fun σ H Q => ∃ p F ρ K, Rs O p F H σ ρ ∧ g ρ K ∧ ∀ b, K b → ∀ H', Ext p H H' → Q b H'

/-! ### the words of data -/
def dVar (i : Nat) : DE := fun ρ K => match ρ[i]? with
  | some (some d) => K d
  | _ => False
def dOwn (i : Nat) : DE := fun ρ K => match ρ[i]? with
  | some (some (.list ds)) => K (.list ds)
  | _ => False
def dC (d : PyData) : DE := fun _ K => K d
def dPur (g : DE) : DE := fun ρ K => g ρ fun d => pur d = true ∧ K d
def dLst (g : DL) : DE := fun ρ K => g ρ fun ds => K (.list ds)
def dTup (g : DL) : DE := fun ρ K => g ρ fun ds => ds.length ≤ 100000 ∧ K (.tuple ds)
def dNil : DL := fun _ K => K []
def dCons (g : DE) (h : DL) : DL := fun ρ K => g ρ fun d => h ρ fun ds => K (d :: ds)
def dUn (D : PyData → (PyData → Prop) → Prop) (g : DE) : DE := fun ρ K => g ρ fun d => D d K
def dBi (D : PyData → PyData → (PyData → Prop) → Prop) (g h : DE) : DE := fun ρ K => g ρ fun d => h ρ fun e => D d e K

section
variable {X : Cx} {e e' : Expr} {t : TE} {tt : TT} {O : List Nat} {g h : DE}
theorem imp {t' : TE} (x : PE X e t) (k : ∀ σ H Q, t' σ H Q → t σ H Q) : PE X e t' := ⟨fun pins s σ H Q I q => x.run pins s σ H Q I (k σ H Q q)⟩
theorem impT {t t' : TT} (x : PT X e t) (k : ∀ σ H Q, t' σ H Q → t σ H Q) : PT X e t' := ⟨fun pins s σ H Q I q => x.run pins s σ H Q I (k σ H Q q)⟩
theorem impA {es : List Expr} {t t' : TA} (x : PA X es t) (k : ∀ σ H Q, t' σ H Q → t σ H Q) : PA X es t' := ⟨fun pos pins s σ H Q I q => x.run pos pins s σ H Q I (k σ H Q q)⟩

theorem V_of_R (x : PE X e (eR O g)) : PE X e (eV O g) := imp x fun σ H Q ⟨p, F, ρ, K, R, hg, hk⟩ =>
  ⟨p, F, ρ, K, R, hg, fun d kd v H' ex dt => hk d kd v H' ex (dt.mono (R.grow_hid ex))⟩
theorem R_of_L {g : DL} (x : PE X e (eL O g)) : PE X e (eR O (dLst g)) := imp x fun σ H Q ⟨p, F, ρ, K, R, hg, hk⟩ =>
  ⟨p, F, ρ, fun ds => K (.list ds), R, hg, fun ds kd a xs H' ex hn ha dt => hk _ kd (.ref a) H' ex (.lst (by rw [grow_new hn]; exact ha) (dt.mono (hid_sub _ _)))⟩
theorem V_of_L {g : DL} (x : PE X e (eL O g)) : PE X e (eV O (dLst g)) := V_of_R (R_of_L x)
theorem R_of_V (x : PE X e (eV O g)) : PE X e (eR O (dPur g)) := imp x fun σ H Q ⟨p, F, ρ, K, R, hg, hk⟩ =>
  ⟨p, F, ρ, _, R, hg, fun d kd v H' ex dt => hk d kd.2 v H' ex (R.pur ex kd.1 dt)⟩
theorem r_var {i : Nat} (x : PE X e (tVar i)) (hO : i ∉ O := by decide) : PE X e (eR O (dVar i)) := imp x fun σ H Q ⟨p, F, ρ, K, R, hg, hk⟩ => by
  unfold dVar at hg
  split at hg
  · rename_i d e1
    obtain ⟨v, e2, dt⟩ := R.dat i d e1 hO
    exact ⟨v, e2, hk d hg v H (.refl _ _) (dt.mono (R.sub_grow (.refl _ _)))⟩
  · exact hg.elim
theorem v_own {i : Nat} (x : PE X e (tVar i)) : PE X e (eV O (dOwn i)) := imp x fun σ H Q ⟨p, F, ρ, K, R, hg, hk⟩ => by
  unfold dOwn at hg
  split at hg
  · rename_i ds e1
    by_cases hO : i ∈ O
    · obtain ⟨a, o, e2, ha, _, hp, w⟩ := R.own i _ e1 hO
      rcases w with ⟨xs, ds', rfl, e3, dt⟩ | ⟨kvs, ps, _, e3, _⟩
      · cases e3
        exact ⟨.ref a, e2, hk _ hg _ H (.refl _ _) (.lst (by rw [hid_at hp]; exact ha) (dt.mono R.subhid))⟩
      · cases e3
    · obtain ⟨v, e2, dt⟩ := R.dat i _ e1 hO
      exact ⟨v, e2, hk _ hg v H (.refl _ _) (dt.mono R.subhid)⟩
  · exact hg.elim
theorem r_const {v : V} {d : PyData} (x : PE X e (tC v)) (hd : ∀ H, Dt H v d) : PE X e (eR O (dC d)) := imp x fun σ H Q ⟨p, F, ρ, K, R, hg, hk⟩ => hk d hg v H (.refl _ _) (hd _)
theorem r_int {i j pos} : PE X (.Constant (.int i) j pos) (eR O (dC (.int i))) := r_const pe_int fun _ => .int _
theorem r_bl {b j pos} : PE X (.Constant (.bool b) j pos) (eR O (dC (.bool b))) := r_const pe_bl fun _ => .bl _
theorem r_non {j pos} : PE X (.Constant .none j pos) (eR O (dC .none)) := r_const pe_non fun _ => .non
theorem r_str {z j pos} : PE X (.Constant (.str z) j pos) (eR O (dC (.str z))) := r_const pe_str fun _ => .str _
theorem r_globI {z : Str} {i : Int} {pos} (hg : Gl X z) (hm : ∃ t, X.mg z = some (.int i t)) (hd : (z == ("__debug__" : Str)) = false := by decide) : PE X (.Name z pos) (eR O (dC (.int i))) := by
  obtain ⟨t, hm⟩ := hm
  exact r_const (pe_glob hg hm (show RelV (.int i) (.int i t) from ⟨t, rfl⟩) hd) fun _ => .int _
theorem r_globS {z y : Str} {pos} (hg : Gl X z) (hm : ∃ t, X.mg z = some (.str y t)) (hd : (z == ("__debug__" : Str)) = false := by decide) : PE X (.Name z pos) (eR O (dC (.str y))) := by
  obtain ⟨t, hm⟩ := hm
  exact r_const (pe_glob hg hm (show RelV (.str y) (.str y t) from ⟨t, rfl⟩) hd) fun _ => .str _

/-! ### one operand looked at, a flat answer -/
abbrev Flat (K : PyData → Prop) (Q : VK) (H : Hp) : Prop := ∀ d, K d → ∀ v, (∀ F, Dt F v d) → Q v H
theorem un_S' {r : V → Hp → VK → Prop} {D : PyData → (PyData → Prop) → Prop} (hr : ∀ {p H v d K Q}, Dt (hid p H) v d → D d K → Flat K Q H → r v H Q) {σ : L2.St} {H : Hp} {Q : VK} : eR O (dUn D g) σ H Q → eV O g σ H fun v H1 => r v H1 Q := fun ⟨p, F, ρ, K, R, hg, hk⟩ =>
  ⟨p, F, ρ, _, R, hg, fun d kd v H1 ex dt => hr dt kd fun d' kd' v' hv => hk d' kd' v' H1 ex (hv _)⟩
theorem bi_S' {r : R2} {D : PyData → PyData → (PyData → Prop) → Prop} (hr : ∀ {p H v u d e K Q}, Dt (hid p H) v d → Dt (hid p H) u e → D d e K → Flat K Q H → r v u H Q) {σ : L2.St} {H : Hp} {Q : VK} : eR O (dBi D g h) σ H Q → tOp r (eV O g) (eV O h) σ H Q := fun ⟨p, F, ρ, K, R, hg, hk⟩ =>
  ⟨p, F, ρ, _, R, hg, fun d kd v H1 ex dt => ⟨p, _, ρ, _, R.grown ex, kd, fun d' kd' v' H2 ex2 dt2 => hr (dt.mono ex2.hid) dt2 kd' fun d3 k3 v3 hv => hk d3 k3 v3 H2 (ex.trans ex2) (hv _)⟩⟩
theorem un_S {r : V → Hp → VK → Prop} {D : PyData → (PyData → Prop) → Prop} (x : PE X e (eV O g)) (T : PE X e (eV O g) → PE X e' (fun σ H Q => eV O g σ H fun v H1 => r v H1 Q))
    (hr : ∀ {p H v d K Q}, Dt (hid p H) v d → D d K → Flat K Q H → r v H Q) : PE X e' (eR O (dUn D g)) := imp (T x) fun σ H Q => un_S' hr
theorem bi_S {ea eb : Expr} {r : R2} {D : PyData → PyData → (PyData → Prop) → Prop} (x : PE X ea (eV O g)) (y : PE X eb (eV O h)) (T : PE X ea (eV O g) → PE X eb (eV O h) → PE X e' (tOp r (eV O g) (eV O h)))
    (hr : ∀ {p H v u d e K Q}, Dt (hid p H) v d → Dt (hid p H) u e → D d e K → Flat K Q H → r v u H Q) : PE X e' (eR O (dBi D g h)) := imp (T x y) fun σ H Q => bi_S' hr
/-- a value that is a bool, as a test -/
def dBool (g : DE) : DB := fun ρ K => g ρ fun d => ∃ b, d = .bool b ∧ K b
theorem t_test {t : TE} (x : PT X e (tTest t)) (k : ∀ σ H Q, eR O g σ H Q → t σ H Q) : PT X e (eT O (dBool g)) := impT x fun σ H Q ⟨p, F, ρ, K, R, hg, hk⟩ =>
  k σ H _ ⟨p, F, ρ, _, R, hg, fun d ⟨b, ed, kd⟩ v H1 ex dt => by subst ed; cases dt; exact ⟨b, rfl, hk b kd H1 ex⟩⟩
theorem t_B {t : TE} (x : PT X e (tB t)) (k : ∀ σ H Q, eR O g σ H Q → t σ H Q) : PT X e (eT O (dBool g)) := t_test (t := t) x k
theorem bi_R {ea eb : Expr} {r : R2} {D : PyData → PyData → (PyData → Prop) → Prop} (x : PE X ea (eR O g)) (y : PE X eb (eR O h)) (T : PE X ea (eR O g) → PE X eb (eR O h) → PE X e' (tOp r (eR O g) (eR O h)))
    (hr : ∀ {p F H v u d e K Q}, Sub F H → Dt F v d → Dt F u e → D d e K → (∀ d3, K d3 → ∀ v3 H3, Ext p H H3 → Dt (grow F H H3) v3 d3 → Q v3 H3) → r v u H Q) : PE X e' (eR O (dBi D g h)) := imp (T x y) fun σ H Q ⟨p, F, ρ, K, R, hg, hk⟩ =>
  ⟨p, F, ρ, _, R, hg, fun d kd v H1 ex dt => ⟨p, _, ρ, _, R.grown ex, kd, fun d' kd' v' H2 ex2 dt2 =>
    hr (p := p) (F := grow F H H2) (R.grow_sub (ex.trans ex2)) (dt.mono (R.first ex2)) (dt2.mono (R.grown2 ex ex2)) kd' fun d3 k3 v3 H3 ex3 dt3 =>
      hk d3 k3 v3 H3 ((ex.trans ex2).trans ex3) (dt3.mono (R.grown2 (ex.trans ex2) ex3))⟩⟩
end
end Kb
set_option Elab.async false
set_option linter.all false
set_option maxRecDepth 100000
/-! D3: readings over data: operators and calls of built-ins with flat answers. -/
namespace Kb
open PySem L2

def oI (f : Int → Int → PyData) : PyData → PyData → (PyData → Prop) → Prop := fun x y K => match x, y with
  | .int i, .int j => K (f i j)
  | _, _ => False
def oIC (C : Int → Int → Prop) (f : Int → Int → PyData) : PyData → PyData → (PyData → Prop) → Prop := fun x y K => match x, y with
  | .int i, .int j => C i j ∧ K (f i j)
  | _, _ => False
def oU (f : Int → PyData) : PyData → (PyData → Prop) → Prop := fun x K => match x with
  | .int i => K (f i)
  | _ => False
section
variable {X : Cx} {e ea eb ec : Expr} {O : List Nat} {g h k : DE} {pos : Pos}
theorem op_oI {r : R2} {f : Int → Int → PyData} {f' : Int → Int → V} (hf : ∀ i j H, Dt H (f' i j) (f i j)) {p : Option Addr} {H : Hp} {v u : V} {d e : PyData} {K : PyData → Prop} {Q : VK}
    (dt : Dt (hid p H) v d) (dt2 : Dt (hid p H) u e) (kd : oI f d e K) (q : Flat K Q H) : rI0 f' v u H Q := by
  unfold oI at kd
  split at kd
  · cases dt; cases dt2
    exact ⟨_, _, rfl, rfl, q _ kd _ (hf _ _)⟩
  · exact kd.elim
theorem op_oIC {f : Int → Int → PyData} {f' : Int → Int → V} {C : Int → Int → Prop} (hf : ∀ i j H, Dt H (f' i j) (f i j)) {p : Option Addr} {H : Hp} {v u : V} {d e : PyData} {K : PyData → Prop} {Q : VK}
    (dt : Dt (hid p H) v d) (dt2 : Dt (hid p H) u e) (kd : oIC C f d e K) (q : Flat K Q H) : rI C f' v u H Q := by
  unfold oIC at kd
  split at kd
  · cases dt; cases dt2
    exact ⟨_, _, rfl, rfl, kd.1, q _ kd.2 _ (hf _ _)⟩
  · exact kd.elim
abbrev dAdd := dBi (oI fun i j => .int (i + j))
abbrev dSub := dBi (oI fun i j => .int (i - j))
abbrev dMul := dBi (oIC CMul fun i j => .int (i * j))
abbrev dFdv := dBi (oIC CDiv fun i j => .int (i / j))
abbrev dMod := dBi (oIC (fun _ j => 0 < j) fun i j => .int (i % j))
abbrev dPow := dBi (oIC CPow fun i j => .int (i ^ j.toNat))
theorem r_add (x : PE X ea (eV O g)) (y : PE X eb (eV O h)) : PE X (.BinOp ea .Add eb pos) (eR O (dAdd g h)) := bi_S x y (fun a b => pe_op op_add a b) fun dt dt2 kd q => op_oI (r := rI0 fun i j => .int (i + j)) (fun _ _ _ => .int _) dt dt2 kd q
theorem r_sub (x : PE X ea (eV O g)) (y : PE X eb (eV O h)) : PE X (.BinOp ea .Sub eb pos) (eR O (dSub g h)) := bi_S x y (fun a b => pe_op op_sub a b) fun dt dt2 kd q => op_oI (r := rI0 fun i j => .int (i - j)) (fun _ _ _ => .int _) dt dt2 kd q
theorem r_mul (x : PE X ea (eV O g)) (y : PE X eb (eV O h)) : PE X (.BinOp ea .Mult eb pos) (eR O (dMul g h)) := bi_S x y (fun a b => pe_op op_mul a b) fun dt dt2 kd q => op_oIC (fun _ _ _ => .int _) dt dt2 kd q
theorem r_fdv (x : PE X ea (eV O g)) (y : PE X eb (eV O h)) : PE X (.BinOp ea .FloorDiv eb pos) (eR O (dFdv g h)) := bi_S x y (fun a b => pe_op op_fdiv a b) fun dt dt2 kd q => op_oIC (fun _ _ _ => .int _) dt dt2 kd q
theorem r_mod (x : PE X ea (eV O g)) (y : PE X eb (eV O h)) : PE X (.BinOp ea .Mod eb pos) (eR O (dMod g h)) := bi_S x y (fun a b => pe_op op_mod a b) fun dt dt2 kd q => op_oIC (fun _ _ _ => .int _) dt dt2 kd q
theorem r_pow (x : PE X ea (eV O g)) (y : PE X eb (eV O h)) : PE X (.BinOp ea .Pow eb pos) (eR O (dPow g h)) := bi_S x y (fun a b => pe_op op_pow a b) fun dt dt2 kd q => op_oIC (fun _ _ _ => .int _) dt dt2 kd q
abbrev dNeg := dUn (oU fun i => .int (-i))
theorem r_neg (x : PE X ea (eV O g)) : PE X (.UnaryOp .USub ea pos) (eR O (dNeg g)) := un_S x (fun a => pe_un un_neg a) fun dt kd q => by
  unfold oU at kd
  split at kd
  · cases dt
    exact ⟨_, rfl, q _ kd _ fun _ => .int _⟩
  · exact kd.elim

/-! comparisons -/
abbrev dLt := dBi (oI fun i j => .bool (decide (i < j)))
abbrev dLe := dBi (oI fun i j => .bool (decide (i ≤ j)))
abbrev dGt := dBi (oI fun i j => .bool (decide (j < i)))
abbrev dGe := dBi (oI fun i j => .bool (decide (j ≤ i)))
theorem r_lt (x : PE X ea (eV O g)) (y : PE X eb (eV O h)) : PE X (.Compare ea [.Lt] [eb] pos) (eR O (dLt g h)) := bi_S x y (fun a b => pe_cmpR op_lt a b (nomark _)) fun dt dt2 kd q => op_oI (r := rI0 fun i j => .bl (decide (i < j))) (fun _ _ _ => .bl _) dt dt2 kd q
theorem r_le (x : PE X ea (eV O g)) (y : PE X eb (eV O h)) : PE X (.Compare ea [.LtE] [eb] pos) (eR O (dLe g h)) := bi_S x y (fun a b => pe_cmpR op_le a b (nomark _)) fun dt dt2 kd q => op_oI (r := rI0 fun i j => .bl (decide (i ≤ j))) (fun _ _ _ => .bl _) dt dt2 kd q
theorem r_gt (x : PE X ea (eV O g)) (y : PE X eb (eV O h)) : PE X (.Compare ea [.Gt] [eb] pos) (eR O (dGt g h)) := bi_S x y (fun a b => pe_cmpR op_gt a b (nomark _)) fun dt dt2 kd q => op_oI (r := rI0 fun i j => .bl (decide (j < i))) (fun _ _ _ => .bl _) dt dt2 kd q
theorem r_ge (x : PE X ea (eV O g)) (y : PE X eb (eV O h)) : PE X (.Compare ea [.GtE] [eb] pos) (eR O (dGe g h)) := bi_S x y (fun a b => pe_cmpR op_ge a b (nomark _)) fun dt dt2 kd q => op_oI (r := rI0 fun i j => .bl (decide (j ≤ i))) (fun _ _ _ => .bl _) dt dt2 kd q
mutual
theorem Dt.dp {K : PySem.W.Frag} {H : Hp} : ∀ {v : V} {d : PyData}, d.canLay0 = true → Dt H v d → Dp K H v d
  | _, _, _, .non => .non
  | _, _, _, .bl b => .bl b
  | _, _, _, .int i => .int i
  | _, _, _, .str x => .str x
  | _, _, p, .lst h k => .lst (SqL.of h) (DtL.dp (by rw [PyData.canLay0] at p; exact p) k)
  | _, _, p, .tup h k => .tup h.sq (DtL.dp (by rw [PyData.canLay0] at p; exact p) k)
  | _, _, p, .dic h => by rw [PyData.canLay0] at p; cases p
theorem DtL.dp {K : PySem.W.Frag} {H : Hp} : ∀ {vs : List V} {ds : List PyData}, PyData.canLayAll0 ds = true → DtL H vs ds → DpAll K H vs ds
  | _, _, _, .nil => .nil
  | _, _, p, .cons h k => .cons (Dt.dp (by rw [PyData.canLayAll0] at p; exact (Bool.and_eq_true_iff.mp p).1) h) (DtL.dp (by rw [PyData.canLayAll0] at p; exact (Bool.and_eq_true_iff.mp p).2) k)
end
def oEq : PyData → PyData → (PyData → Prop) → Prop := fun x y K => SeqAt.shaped x = true ∧ SeqAt.shaped y = true ∧ K (.bool (PyData.eqv x y))
def oNe : PyData → PyData → (PyData → Prop) → Prop := fun x y K => SeqAt.shaped x = true ∧ SeqAt.shaped y = true ∧ K (.bool (!PyData.eqv x y))
abbrev dEq := dBi oEq
abbrev dNe := dBi oNe
theorem Dt.up {p : Option Addr} {H : Hp} {v : V} {d : PyData} (h : Dt (hid p H) v d) : Dt H v d := h.mono (hid_sub _ _)
theorem DtL.up {p : Option Addr} {H : Hp} {v : List V} {d : List PyData} (h : DtL (hid p H) v d) : DtL H v d := h.mono (hid_sub _ _)
theorem r_eq (hu : X.A.units + 64 < cLine) (x : PE X ea (eV O g)) (y : PE X eb (eV O h)) : PE X (.Compare ea [.Eq] [eb] pos) (eR O (dEq g h)) := bi_S x y (fun a b => pe_cmpR (op_eqD hu) a b (nomark _)) fun dt dt2 ⟨s1, s2, kd⟩ q =>
  ⟨_, _, dt.up.dp (SeqAt.canLay_of_shaped s1), dt2.up.dp (SeqAt.canLay_of_shaped s2), s1, s2, q _ kd _ fun _ => .bl _⟩
theorem r_ne (hu : X.A.units + 64 < cLine) (x : PE X ea (eV O g)) (y : PE X eb (eV O h)) : PE X (.Compare ea [.NotEq] [eb] pos) (eR O (dNe g h)) := bi_S x y (fun a b => pe_cmpR (op_neD hu) a b (nomark _)) fun dt dt2 ⟨s1, s2, kd⟩ q =>
  ⟨_, _, dt.up.dp (SeqAt.canLay_of_shaped s1), dt2.up.dp (SeqAt.canLay_of_shaped s2), s1, s2, q _ kd _ fun _ => .bl _⟩

theorem t_lt (x : PE X ea (eV O g)) (y : PE X eb (eV O h)) : PT X (.Compare ea [.Lt] [eb] pos) (eT O (dBool (dLt g h))) := t_test (pt_cmpR op_lt x y (nomark _)) fun σ H Q => bi_S' fun dt dt2 kd q => op_oI (r := rI0 fun i j => .bl (decide (i < j))) (fun _ _ _ => .bl _) dt dt2 kd q
theorem t_le (x : PE X ea (eV O g)) (y : PE X eb (eV O h)) : PT X (.Compare ea [.LtE] [eb] pos) (eT O (dBool (dLe g h))) := t_test (pt_cmpR op_le x y (nomark _)) fun σ H Q => bi_S' fun dt dt2 kd q => op_oI (r := rI0 fun i j => .bl (decide (i ≤ j))) (fun _ _ _ => .bl _) dt dt2 kd q
theorem t_gt (x : PE X ea (eV O g)) (y : PE X eb (eV O h)) : PT X (.Compare ea [.Gt] [eb] pos) (eT O (dBool (dGt g h))) := t_test (pt_cmpR op_gt x y (nomark _)) fun σ H Q => bi_S' fun dt dt2 kd q => op_oI (r := rI0 fun i j => .bl (decide (j < i))) (fun _ _ _ => .bl _) dt dt2 kd q
theorem t_ge (x : PE X ea (eV O g)) (y : PE X eb (eV O h)) : PT X (.Compare ea [.GtE] [eb] pos) (eT O (dBool (dGe g h))) := t_test (pt_cmpR op_ge x y (nomark _)) fun σ H Q => bi_S' fun dt dt2 kd q => op_oI (r := rI0 fun i j => .bl (decide (j ≤ i))) (fun _ _ _ => .bl _) dt dt2 kd q
theorem t_eq (hu : X.A.units + 64 < cLine) (x : PE X ea (eV O g)) (y : PE X eb (eV O h)) : PT X (.Compare ea [.Eq] [eb] pos) (eT O (dBool (dEq g h))) := t_test (pt_cmpR (op_eqD hu) x y (nomark _)) fun σ H Q => bi_S' fun dt dt2 ⟨s1, s2, kd⟩ q =>
  ⟨_, _, dt.up.dp (SeqAt.canLay_of_shaped s1), dt2.up.dp (SeqAt.canLay_of_shaped s2), s1, s2, q _ kd _ fun _ => .bl _⟩
theorem t_ne (hu : X.A.units + 64 < cLine) (x : PE X ea (eV O g)) (y : PE X eb (eV O h)) : PT X (.Compare ea [.NotEq] [eb] pos) (eT O (dBool (dNe g h))) := t_test (pt_cmpR (op_neD hu) x y (nomark _)) fun σ H Q => bi_S' fun dt dt2 ⟨s1, s2, kd⟩ q =>
  ⟨_, _, dt.up.dp (SeqAt.canLay_of_shaped s1), dt2.up.dp (SeqAt.canLay_of_shaped s2), s1, s2, q _ kd _ fun _ => .bl _⟩

/-! flat things in a sequence -/
def flatD : PyData → Bool
  | .none => true
  | .bool _ => true
  | .int _ => true
  | .str _ => true
  | _ => false
theorem flat_v {H : Hp} {v : V} {d : PyData} (h : Dt H v d) (f : flatD d = true) : flatV v = true := by cases h <;> first | rfl | cases f
theorem flat_vs {H : Hp} : ∀ {vs : List V} {ds : List PyData}, DtL H vs ds → ds.all flatD = true → vs.all flatV = true
  | _, _, .nil, _ => rfl
  | _, _, .cons h k, f => by
    rw [List.all_cons, Bool.and_eq_true_iff] at f ⊢
    exact ⟨flat_v h f.1, flat_vs k f.2⟩
theorem eqV_eqv {H : Hp} {v u : V} {d e : PyData} (h : Dt H v d) (k : Dt H u e) (f : flatD d = true) (f' : flatD e = true) : eqV v u = PyData.eqv d e := by
  cases h <;> first | (cases k <;> first | (simp [eqV, PyData.eqv]; done) | cases f') | cases f
theorem inV_eqv {H : Hp} {u : V} {e : PyData} (k : Dt H u e) (f' : flatD e = true) : ∀ {vs : List V} {ds : List PyData}, DtL H vs ds → ds.all flatD = true → inV u vs = ds.any fun y => PyData.eqv y e
  | _, _, .nil, _ => rfl
  | _, _, .cons h r, f => by
    rw [List.all_cons, Bool.and_eq_true_iff] at f
    unfold inV
    rw [List.any_cons, List.any_cons, eqV_eqv h k f.1 f']
    congr 1
    exact inV_eqv k f' r f.2
def seqD : PyData → Option (List PyData)
  | .list ds => some ds
  | .tuple ds => some ds
  | _ => none
theorem seq_v {H : Hp} {K : PySem.W.Frag} {v : V} {d : PyData} {ds : List PyData} (h : Dt H v d) (f : seqD d = some ds) : ∃ a xs, v = .ref a ∧ (SqL K H a xs ∨ SqT K H a xs) ∧ DtL H xs ds := by
  cases h with
  | lst h k => cases f; exact ⟨_, _, rfl, .inl (SqL.of h), k⟩
  | tup h k => cases f; exact ⟨_, _, rfl, .inr h.sq, k⟩
  | _ => cases f
def oIn : PyData → PyData → (PyData → Prop) → Prop := fun x y K => ∃ ds, seqD y = some ds ∧ flatD x = true ∧ ds.all flatD = true ∧ K (.bool (ds.any fun z => PyData.eqv z x))
def oNin : PyData → PyData → (PyData → Prop) → Prop := fun x y K => ∃ ds, seqD y = some ds ∧ flatD x = true ∧ ds.all flatD = true ∧ K (.bool (!ds.any fun z => PyData.eqv z x))
abbrev dIn := dBi oIn
abbrev dNin := dBi oNin
theorem r_in (x : PE X ea (eV O g)) (y : PE X eb (eV O h)) (hm : behindInMarks .In eb = false := by rfl) : PE X (.Compare ea [.In] [eb] pos) (eR O (dIn g h)) := bi_S x y (fun a b => pe_cmpR op_in_seq a b hm) fun dt dt2 ⟨ds, e1, f1, f2, kd⟩ q => by
  obtain ⟨a, xs, rfl, hq, dl⟩ := seq_v (K := X.K) dt2.up e1
  refine ⟨a, xs, rfl, hq, flat_v dt f1, flat_vs dl f2, ?_⟩
  rw [inV_eqv dt.up f1 dl f2]
  exact q _ kd _ fun _ => .bl _
theorem r_nin (x : PE X ea (eV O g)) (y : PE X eb (eV O h)) (hm : behindInMarks .NotIn eb = false := by rfl) : PE X (.Compare ea [.NotIn] [eb] pos) (eR O (dNin g h)) := bi_S x y (fun a b => pe_cmpR op_notIn_seq a b hm) fun dt dt2 ⟨ds, e1, f1, f2, kd⟩ q => by
  obtain ⟨a, xs, rfl, hq, dl⟩ := seq_v (K := X.K) dt2.up e1
  refine ⟨a, xs, rfl, hq, flat_v dt f1, flat_vs dl f2, ?_⟩
  rw [inV_eqv dt.up f1 dl f2]
  exact q _ kd _ fun _ => .bl _
theorem t_in (x : PE X ea (eV O g)) (y : PE X eb (eV O h)) (hm : behindInMarks .In eb = false := by rfl) : PT X (.Compare ea [.In] [eb] pos) (eT O (dBool (dIn g h))) := t_test (pt_cmpR op_in_seq x y hm) fun σ H Q => bi_S' fun dt dt2 ⟨ds, e1, f1, f2, kd⟩ q => by
  obtain ⟨a, xs, rfl, hq, dl⟩ := seq_v (K := X.K) dt2.up e1
  refine ⟨a, xs, rfl, hq, flat_v dt f1, flat_vs dl f2, ?_⟩
  rw [inV_eqv dt.up f1 dl f2]
  exact q _ kd _ fun _ => .bl _
theorem t_nin (x : PE X ea (eV O g)) (y : PE X eb (eV O h)) (hm : behindInMarks .NotIn eb = false := by rfl) : PT X (.Compare ea [.NotIn] [eb] pos) (eT O (dBool (dNin g h))) := t_test (pt_cmpR op_notIn_seq x y hm) fun σ H Q => bi_S' fun dt dt2 ⟨ds, e1, f1, f2, kd⟩ q => by
  obtain ⟨a, xs, rfl, hq, dl⟩ := seq_v (K := X.K) dt2.up e1
  refine ⟨a, xs, rfl, hq, flat_v dt f1, flat_vs dl f2, ?_⟩
  rw [inV_eqv dt.up f1 dl f2]
  exact q _ kd _ fun _ => .bl _
def isN : PyData → Bool
  | .none => true
  | _ => false
theorem isN_v {H : Hp} {v : V} {d : PyData} (h : Dt H v d) : decide (v = .non) = isN d := by cases h <;> simp [isN]
abbrev dIsN := dUn fun d K => K (.bool (isN d))
abbrev dNotN := dUn fun d K => K (.bool (!isN d))
theorem r_isN {j pos'} (x : PE X ea (eV O g)) : PE X (.Compare ea [.Is] [.Constant .none j pos'] pos) (eR O (dIsN g)) := un_S (r := fun v H1 Q => Q (.bl (decide (v = .non))) H1) x (fun a => pe_cmp (pc_isN a)) fun dt kd q => by
  rw [isN_v dt]
  exact q _ kd _ fun _ => .bl _
theorem r_notN {j pos'} (x : PE X ea (eV O g)) : PE X (.Compare ea [.IsNot] [.Constant .none j pos'] pos) (eR O (dNotN g)) := un_S (r := fun v H1 Q => Q (.bl (!decide (v = .non))) H1) x (fun a => pe_cmp (pc_notN a)) fun dt kd q => by
  rw [isN_v dt]
  exact q _ kd _ fun _ => .bl _

theorem t_isN {j pos'} (x : PE X ea (eV O g)) : PT X (.Compare ea [.Is] [.Constant .none j pos'] pos) (eT O (dBool (dIsN g))) := t_B (pt_cmp (pc_isN x)) fun σ H Q => un_S' (r := fun v H1 Q => Q (.bl (decide (v = .non))) H1) fun dt kd q => by
  rw [isN_v dt]
  exact q _ kd _ fun _ => .bl _
theorem t_notN {j pos'} (x : PE X ea (eV O g)) : PT X (.Compare ea [.IsNot] [.Constant .none j pos'] pos) (eT O (dBool (dNotN g))) := t_B (pt_cmp (pc_notN x)) fun σ H Q => un_S' (r := fun v H1 Q => Q (.bl (!decide (v = .non))) H1) fun dt kd q => by
  rw [isN_v dt]
  exact q _ kd _ fun _ => .bl _

/-! arguments -/
theorem a_nilV : PA X [] (eAV O dNil) := impA pa_nil fun σ H Q ⟨p, F, ρ, K, R, hg, hk⟩ => hk [] hg [] H (.refl _ _) .nil
theorem a_consV {es : List Expr} {gl : DL} (x : PE X e (eV O g)) (r : PA X es (eAV O gl)) (hs : starEach (e :: es) X.env = (false, eval e X.env) :: starEach es X.env := by rfl) : PA X (e :: es) (eAV O (dCons g gl)) :=
  impA (pa_cons x r hs) fun σ H Q ⟨p, F, ρ, K, R, hg, hk⟩ =>
    ⟨p, F, ρ, _, R, hg, fun d kd v H1 ex dt => ⟨p, _, ρ, _, R.grown ex, kd, fun ds kds vs H2 ex2 dts => hk _ kds (v :: vs) H2 (ex.trans ex2) (.cons (dt.mono ex2.hid) dts)⟩⟩
theorem a_nil : PA X [] (eAR O dNil) := impA pa_nil fun σ H Q ⟨p, F, ρ, K, R, hg, hk⟩ => hk [] hg [] H (.refl _ _) .nil
theorem a_cons {es : List Expr} {gl : DL} (x : PE X e (eR O g)) (r : PA X es (eAR O gl)) (hs : starEach (e :: es) X.env = (false, eval e X.env) :: starEach es X.env := by rfl) : PA X (e :: es) (eAR O (dCons g gl)) :=
  impA (pa_cons x r hs) fun σ H Q ⟨p, F, ρ, K, R, hg, hk⟩ =>
    ⟨p, F, ρ, _, R, hg, fun d kd v H1 ex dt => ⟨p, _, ρ, _, R.grown ex, kd, fun ds kds vs H2 ex2 dts => hk _ kds (v :: vs) H2 (ex.trans ex2) (.cons (dt.mono (R.first ex2)) (dts.mono (R.grown2 ex ex2)))⟩⟩

/-! built-ins by what they are called with -/
def dB (D : List PyData → (PyData → Prop) → Prop) (gl : DL) : DE := fun ρ K => gl ρ fun ds => D ds K
theorem w_S {r : List V → Hp → VK → Prop} {D : List PyData → (PyData → Prop) → Prop} {gl : DL} (x : PE X e (tCB r (eAV O gl)))
    (hr : ∀ {p H vs ds K Q}, DtL (hid p H) vs ds → D ds K → Flat K Q H → r vs H Q) : PE X e (eR O (dB D gl)) := imp x fun σ H Q ⟨p, F, ρ, K, R, hg, hk⟩ =>
  ⟨p, F, ρ, _, R, hg, fun ds kd vs H1 ex dt => hr dt kd fun d' kd' v' hv => hk d' kd' v' H1 ex (hv _)⟩
def bLen : List PyData → (PyData → Prop) → Prop := fun ds K => match ds with
  | [d] => ∃ es, seqD d = some es ∧ K (.int es.length)
  | _ => False
theorem one_of {H : Hp} {vs : List V} {d : PyData} (h : DtL H vs [d]) : ∃ v, vs = [v] ∧ Dt H v d := by
  cases h with
  | cons h k => cases k; exact ⟨_, rfl, h⟩
theorem two_of {H : Hp} {vs : List V} {d e : PyData} (h : DtL H vs [d, e]) : ∃ v u, vs = [v, u] ∧ Dt H v d ∧ Dt H u e := by
  cases h with
  | cons h k =>
    obtain ⟨u, rfl, k2⟩ := one_of k
    exact ⟨_, _, rfl, h, k2⟩
theorem w_len {gl : DL} (x : PE X e (tCB (fun xs H Q => ∃ p ys, xs = [.ref p] ∧ (SqL X.K H p ys ∨ SqT X.K H p ys) ∧ Q (.int ys.length) H) (eAV O gl))) : PE X e (eR O (dB bLen gl)) := w_S x fun dt kd q => by
  unfold bLen at kd
  split at kd
  · obtain ⟨es, e1, kd⟩ := kd
    obtain ⟨v, rfl, dv⟩ := one_of dt
    obtain ⟨a, xs, rfl, hq, dl⟩ := seq_v (K := X.K) dv.up e1
    refine ⟨a, xs, rfl, hq, q _ kd _ fun F => ?_⟩
    rw [dl.length]
    exact .int _
  · exact kd.elim
def bBools (f : List Bool → Bool) : List PyData → (PyData → Prop) → Prop := fun ds K => match ds with
  | [.list es] => ∃ bs : List Bool, es = bs.map .bool ∧ K (.bool (f bs))
  | _ => False
theorem DtL.of_bools {H : Hp} : ∀ {bs : List Bool} {vs : List V}, DtL H vs (bs.map PyData.bool) → vs = bs.map V.bl
  | [], _, .nil => rfl
  | n :: ns, _, .cons h k => by cases h; rw [List.map_cons, DtL.of_bools k]
theorem w_any {gl : DL} (x : PE X e (tCB (rAny X.K) (eAV O gl))) : PE X e (eR O (dB (bBools fun bs => bs.any id) gl)) := w_S x fun dt kd q => by
  unfold bBools at kd
  split at kd
  · obtain ⟨bs, rfl, kd⟩ := kd
    obtain ⟨v, rfl, dv⟩ := one_of dt
    obtain ⟨a, xs, rfl, ha, dl⟩ := dv.up.ref_lst
    rw [dl.of_bools] at ha
    exact ⟨a, bs, rfl, SqL.of ha, q _ kd _ fun _ => .bl _⟩
  · exact kd.elim
theorem w_all {gl : DL} (x : PE X e (tCB (rAll X.K) (eAV O gl))) : PE X e (eR O (dB (bBools fun bs => bs.all id) gl)) := w_S x fun dt kd q => by
  unfold bBools at kd
  split at kd
  · obtain ⟨bs, rfl, kd⟩ := kd
    obtain ⟨v, rfl, dv⟩ := one_of dt
    obtain ⟨a, xs, rfl, ha, dl⟩ := dv.up.ref_lst
    rw [dl.of_bools] at ha
    exact ⟨a, bs, rfl, SqL.of ha, q _ kd _ fun _ => .bl _⟩
  · exact kd.elim
def bInt : List PyData → (PyData → Prop) → Prop := fun ds K => match ds with
  | [.int i] => K (.int i)
  | [.bool b] => K (.int (if b then 1 else 0))
  | _ => False
theorem w_int {gl : DL} (x : PE X e (tCB (fun xs H Q => (∃ i, xs = [.int i] ∧ Q (.int i) H) ∨ ∃ k, xs = [.bl k] ∧ Q (.int (if k then 1 else 0)) H) (eAV O gl))) : PE X e (eR O (dB bInt gl)) := w_S x fun dt kd q => by
  unfold bInt at kd
  split at kd
  · obtain ⟨v, rfl, dv⟩ := one_of dt
    cases dv
    exact .inl ⟨_, rfl, q _ kd _ fun _ => .int _⟩
  · obtain ⟨v, rfl, dv⟩ := one_of dt
    cases dv
    exact .inr ⟨_, rfl, q _ kd _ fun _ => .int _⟩
  · exact kd.elim
def bAbs : List PyData → (PyData → Prop) → Prop := fun ds K => match ds with
  | [.int i] => K (.int (if i < 0 then -i else i))
  | _ => False
theorem w_abs {gl : DL} (x : PE X e (tCB (fun xs H Q => ∃ i, xs = [.int i] ∧ Q (.int (if i < 0 then -i else i)) H) (eAV O gl))) : PE X e (eR O (dB bAbs gl)) := w_S x fun dt kd q => by
  unfold bAbs at kd
  split at kd
  · obtain ⟨v, rfl, dv⟩ := one_of dt
    cases dv
    exact ⟨_, rfl, q _ kd _ fun _ => .int _⟩
  · exact kd.elim
def bTwo (f : Int → Int → Int) : List PyData → (PyData → Prop) → Prop := fun ds K => match ds with
  | [.int i, .int j] => K (.int (f i j))
  | _ => False
theorem w_two {f : Int → Int → Int} {gl : DL} (x : PE X e (tCB (fun xs H Q => ∃ i j, xs = [.int i, .int j] ∧ Q (.int (f i j)) H) (eAV O gl))) : PE X e (eR O (dB (bTwo f) gl)) := w_S x fun dt kd q => by
  unfold bTwo at kd
  split at kd
  · obtain ⟨v, u, rfl, dv, dv2⟩ := two_of dt
    cases dv; cases dv2
    exact ⟨_, _, rfl, q _ kd _ fun _ => .int _⟩
  · exact kd.elim
def bMax : List PyData → (PyData → Prop) → Prop := fun ds K => match ds with
  | [.list es] => ∃ ns : List Int, es = ns.map .int ∧ 0 < ns.length ∧ ∀ m, m ∈ ns → (∀ y, y ∈ ns → y ≤ m) → K (.int m)
  | _ => False
theorem w_max {gl : DL} (x : PE X e (tCB (rMax X.K) (eAV O gl))) : PE X e (eR O (dB bMax gl)) := w_S x fun dt kd q => by
  unfold bMax at kd
  split at kd
  · obtain ⟨ns, rfl, h0, kd⟩ := kd
    obtain ⟨v, rfl, dv⟩ := one_of dt
    obtain ⟨a, xs, rfl, ha, dl⟩ := dv.up.ref_lst
    rw [dl.of_ints] at ha
    exact ⟨a, ns, rfl, SqL.of ha, h0, fun m hm hy => q _ (kd m hm hy) _ fun _ => .int _⟩
  · exact kd.elim
/-! isinstance -/
def tyn : PyData → String
  | .none => "NoneType"
  | .bool _ => "bool"
  | .int _ => "int"
  | .str _ => "str"
  | .list _ => "list"
  | .tuple _ => "tuple"
  | .dict _ => "dict"
def isK (a T : String) : Bool := a == T || (a == "bool" && T == "int")
def isT (T : String) (d : PyData) : Bool := isK (tyn d) T
/-- the built-in types that are asked here -/
inductive Asked : String → Prop
  | t : Asked "tuple"
  | i : Asked "int"
  | b : Asked "bool"
theorem isi_ok {K : PySem.W.Frag} {H : Hp} {v : V} {d : PyData} {T : String} (hT : Asked T) (h : Dt H v d) : ∃ t, TyX K H v t ∧ PySem.W.kitOne K t (.type T) = some (isT T d) := by
  have k : ∀ a, a ∈ ["NoneType", "bool", "int", "str", "list", "tuple", "dict"] → kitB a T = some (isK a T) := by
    cases hT <;> decide +kernel
  cases h with
  | non => exact ⟨_, .base .non, kit_ty (k _ (by simp))⟩
  | bl b => exact ⟨_, .base (.bl b), kit_ty (k _ (by simp))⟩
  | int i => exact ⟨_, .base (.int i), kit_ty (k _ (by simp))⟩
  | str x => exact ⟨_, .base (.str x), kit_ty (k _ (by simp))⟩
  | lst h _ => exact ⟨_, .base (.lst h), kit_ty (k _ (by simp))⟩
  | tup h _ =>
    obtain ⟨o, h, _⟩ := h
    exact ⟨_, .fTuple h, kit_ty (k _ (by simp))⟩
  | dic h => exact ⟨_, .base (.dK h), kit_ty (k _ (by simp))⟩
theorem w_isi {T : String} (hT : Asked T) (x : PE X e (tCB (rIsi X.K) (tCons (eV O g) (tCons (tC (.ty T)) tNil)))) : PE X e (eR O (dUn (fun d K => K (.bool (isT T d))) g)) := imp x fun σ H Q ⟨p, F, ρ, K, R, hg, hk⟩ =>
  ⟨p, F, ρ, _, R, hg, fun d kd v H1 ex dt => by
    obtain ⟨t, h1, h2⟩ := isi_ok (K := X.K) hT dt.up
    exact ⟨v, .ty T, t, .type T, _, rfl, .ty T, h1, h2, hk _ kd _ H1 ex (.bl _)⟩⟩
end
end Kb
set_option Elab.async false
set_option linter.all false
set_option maxRecDepth 100000
/-! D4: readings over data: sequences made, cut, joined, looked into; tests; calls. -/
namespace Kb
open PySem L2

/-- a list whose items stand in what is made so far, or any other value that does -/
def Dw (G Hh : Hp) (v : V) (d : PyData) : Prop := Dt G v d ∨ ∃ a xs ds, v = .ref a ∧ d = .list ds ∧ Hh a = some (.lst xs) ∧ DtL G xs ds
def eW (O : List Nat) (g : DE) : TE := fun σ H Q => ∃ p F ρ K, Rs O p F H σ ρ ∧ g ρ K ∧ ∀ d, K d → ∀ v H', Ext p H H' → Dw (grow F H H') (hid p H') v d → Q v H'
theorem Dw.dt {G Hh : Hp} {v : V} {d : PyData} (s : Sub G Hh) (h : Dw G Hh v d) : Dt Hh v d := by
  rcases h with h | ⟨a, xs, ds, rfl, rfl, h1, h2⟩
  · exact h.mono s
  · exact .lst h1 (h2.mono s)
theorem Dw.mono {G Hh G' Hh' : Hp} {v : V} {d : PyData} (s : Sub G G') (s' : Sub Hh Hh') (h : Dw G Hh v d) : Dw G' Hh' v d := by
  rcases h with h | ⟨a, xs, ds, rfl, rfl, h1, h2⟩
  · exact .inl (h.mono s)
  · exact .inr ⟨a, xs, ds, rfl, rfl, s' _ _ h1, h2.mono s⟩
/-- what a sequence holds -/
theorem Dw.seq {G H : Hp} {p : Option Addr} {K : PySem.W.Frag} {v : V} {d : PyData} {ds : List PyData} (s : Sub G H) (h : Dw G (hid p H) v d) (f : seqD d = some ds) : ∃ a xs, v = .ref a ∧ (SqL K H a xs ∨ SqT K H a xs) ∧ DtL G xs ds := by
  rcases h with h | ⟨a, xs, es, rfl, rfl, h1, h2⟩
  · cases h with
    | lst h k => cases f; exact ⟨_, _, rfl, .inl (SqL.of (s _ _ h)), k⟩
    | tup h k => cases f; exact ⟨_, _, rfl, .inr (h.mono s).sq, k⟩
    | _ => cases f
  · cases f
    exact ⟨a, xs, rfl, .inl (SqL.of (hid_sub _ _ _ _ h1)), h2⟩
theorem Dw.list {G H : Hp} {p : Option Addr} {v : V} {ds : List PyData} (s : Sub G H) (h : Dw G (hid p H) v (.list ds)) : ∃ a xs, v = .ref a ∧ H a = some (.lst xs) ∧ DtL G xs ds := by
  rcases h with h | ⟨a, xs, es, rfl, e, h1, h2⟩
  · obtain ⟨a, xs, rfl, h1, h2⟩ := h.ref_lst
    exact ⟨a, xs, rfl, s _ _ h1, h2⟩
  · cases e
    exact ⟨a, xs, rfl, hid_sub _ _ _ _ h1, h2⟩
section
variable {X : Cx} {e ea eb ec : Expr} {O : List Nat} {g h k : DE} {gl hl : DL} {pos : Pos}
theorem W_of_R (x : PE X e (eR O g)) : PE X e (eW O g) := imp x fun σ H Q ⟨p, F, ρ, K, R, hg, hk⟩ => ⟨p, F, ρ, K, R, hg, fun d kd v H' ex dt => hk d kd v H' ex (.inl dt)⟩
theorem W_of_L (x : PE X e (eL O gl)) : PE X e (eW O (dLst gl)) := W_of_R (R_of_L x)
theorem V_of_W (x : PE X e (eW O g)) : PE X e (eV O g) := imp x fun σ H Q ⟨p, F, ρ, K, R, hg, hk⟩ => ⟨p, F, ρ, K, R, hg, fun d kd v H' ex dt => hk d kd v H' ex (dt.dt (R.grow_hid ex))⟩
theorem w_own {i : Nat} (x : PE X e (tVar i)) : PE X e (eW O (dOwn i)) := imp x fun σ H Q ⟨p, F, ρ, K, R, hg, hk⟩ => by
  unfold dOwn at hg
  split at hg
  · rename_i ds e1
    by_cases hO : i ∈ O
    · obtain ⟨a, o, e2, ha, _, hp, w⟩ := R.own i _ e1 hO
      rcases w with ⟨xs, ds', rfl, e3, dt⟩ | ⟨kvs, ps, _, e3, _⟩
      · cases e3
        exact ⟨.ref a, e2, hk _ hg _ H (.refl _ _) (.inr ⟨a, xs, ds, rfl, rfl, by rw [hid_at hp]; exact ha, dt.mono (R.sub_grow (.refl _ _))⟩)⟩
      · cases e3
    · obtain ⟨v, e2, dt⟩ := R.dat i _ e1 hO
      exact ⟨v, e2, hk _ hg v H (.refl _ _) (.inl (dt.mono (R.sub_grow (.refl _ _))))⟩
  · exact hg.elim
theorem Rs.fresh {p : Option Addr} {F H H1 : Hp} {σ : L2.St} {ρ : Env} (R : Rs O p F H σ ρ) (ex : Ext p H H1) {a : Addr} (h : H1 a = none) : H a = none := by
  cases q : H a with
  | none => rfl
  | some o =>
    by_cases z : p = some a
    · obtain ⟨x, y, w, q3, _⟩ := ex.hat a z (R.hat a z).2
      rw [q3] at h; cases h
    · rw [ex.keep a o z q] at h; cases h
/-- a new tuple, a new list over what is made so far -/
theorem Rs.newT {p : Option Addr} {F H H1 H2 : Hp} {σ : L2.St} {ρ : Env} (R : Rs O p F H σ ρ) (ex : Ext p H H1) {a : Addr} {xs : List V} (h : NwT H1 xs a H2) {ds : List PyData} (dl : DtL (grow F H H1) xs ds) : Ext p H H2 ∧ Dt (grow F H H2) (.ref a) (.tuple ds) := by
  obtain ⟨h, o, d, rfl⟩ := h
  exact ⟨ex.trans (.new h), .tup ⟨o, by rw [grow_new (R.fresh ex h), upd_same], d⟩ (dl.mono (R.first (.new h)))⟩
theorem Rs.newL {p : Option Addr} {F H H1 : Hp} {σ : L2.St} {ρ : Env} (R : Rs O p F H σ ρ) (ex : Ext p H H1) {a : Addr} (h : H1 a = none) {o : HO} {xs : List V} {ds : List PyData} (dl : DtL (grow F H H1) xs ds) : DtL (hid (some a) (grow F H (upd H1 a o))) xs ds :=
  dl.mono fun b u q => by
    have hb : a ≠ b := fun z => by rw [← z, grow_new (R.fresh ex h), h] at q; cases q
    rw [hid_at (by simpa using hb)]
    exact R.first (.new h) b u q
theorem sz {n : Nat} (h : n ≤ 100000) : n ≤ sizeLine := Nat.le_trans h (by decide)
theorem szlt {n : Nat} (h : n ≤ 100000) : n < sizeLine := Nat.lt_of_le_of_lt h (by decide)
theorem r_tup {es : List Expr} {x1} (x : PA X es (eAR O gl)) : PE X (.Tuple es x1 pos) (eR O (dTup gl)) := imp (pe_tupA x) fun σ H Q ⟨p, F, ρ, K, R, hg, hk⟩ =>
  ⟨p, F, ρ, _, R, hg, fun ds kd vs H1 ex dl => ⟨by rw [dl.length]; exact sz kd.1, fun a H2 ha => hk _ kd.2 _ _ (R.newT ex ha dl).1 (R.newT ex ha dl).2⟩⟩
def dDis (gl : DL) : DL := fun ρ K => gl ρ fun ds => ds.length ≤ 100000 ∧ K ds
theorem l_lst {es : List Expr} (x : PA X es (eAR O gl)) : PE X (.List es pos) (eL O (dDis gl)) := imp (pe_lst x) fun σ H Q ⟨p, F, ρ, K, R, hg, hk⟩ =>
  ⟨p, F, ρ, _, R, hg, fun ds kd vs H1 ex dl => ⟨by rw [dl.length]; exact sz kd.1, fun a ha => hk _ kd.2 _ vs _ (ex.trans (.new ha)) (R.fresh ex ha) upd_same (R.newL ex ha dl)⟩⟩
def dStar (g : DE) (gl : DL) : DL := fun ρ K => g ρ fun d => ∃ es, seqD d = some es ∧ gl ρ fun ds => K (es ++ ds)
theorem a_star {es : List Expr} {sp : Pos} (x : PE X e (eW O g)) (r : PA X es (eAR O gl)) (hs : starEach (.Starred e sp :: es) X.env = (true, eval e X.env) :: starEach es X.env := by rfl) : PA X (.Starred e sp :: es) (eAR O (dStar g gl)) :=
  impA (StX.pa_star x r hs) fun σ H Q ⟨p, F, ρ, K, R, hg, hk⟩ =>
    ⟨p, F, ρ, _, R, hg, fun d ⟨es, f, kd⟩ v H1 ex dt => by
      obtain ⟨a, xs, rfl, hq, dl⟩ := dt.seq (K := X.K) (R.grow_sub ex) f
      exact ⟨a, xs, rfl, hq.symm, p, _, ρ, _, R.grown ex, kd, fun ds kds vs H2 ex2 dts => hk _ kds (xs ++ vs) H2 (ex.trans ex2) ((dl.mono (R.first ex2)).append (dts.mono (R.grown2 ex ex2)))⟩⟩

/-! the same items as a tuple, as a new list -/
def bTup : List PyData → (PyData → Prop) → Prop := fun ds K => match ds with
  | [d] => ∃ es, seqD d = some es ∧ K (.tuple es)
  | _ => False
/-- one argument of which the items go on -/
def eA1 (O : List Nat) (g : DE) : TA := tCons (eW O g) tNil
theorem w_tup (x : PE X e (tCB (rTupOf X.K) (tCons (eW O g) tNil))) :
    PE X e (eR O (dUn (fun d K => ∃ es, seqD d = some es ∧ K (.tuple es)) g)) := imp x fun σ H Q ⟨p, F, ρ, K, R, hg, hk⟩ =>
  ⟨p, F, ρ, _, R, hg, fun d ⟨es, f, kd⟩ v H1 ex dt => by
    rcases dt with dt | ⟨a, xs, ds, rfl, rfl, h1, h2⟩
    · cases dt with
      | lst h k =>
        cases f
        exact ⟨_, _, rfl, .inl ⟨SqL.of (R.grow_sub ex _ _ h), fun l H2 hl => hk _ kd _ _ (R.newT ex hl k).1 (R.newT ex hl k).2⟩⟩
      | tup h k =>
        cases f
        exact ⟨_, _, rfl, .inr ⟨(h.mono (R.grow_sub ex)).sq, hk _ kd _ _ ex (.tup h k)⟩⟩
      | _ => cases f
    · cases f
      exact ⟨a, xs, rfl, .inl ⟨SqL.of (hid_sub _ _ _ _ h1), fun l H2 hl => hk _ kd _ _ (R.newT ex hl h2).1 (R.newT ex hl h2).2⟩⟩⟩
def dItems (g : DE) : DL := fun ρ K => g ρ fun d => ∃ es, seqD d = some es ∧ K es
theorem w_list (x : PE X e (tCB (fun xs H Q => ∃ p ys, xs = [.ref p] ∧ (SqL X.K H p ys ∨ SqT X.K H p ys) ∧ ∀ l, H l = none → Q (.ref l) (upd H l (.lst ys))) (tCons (eW O g) tNil))) :
    PE X e (eL O (dItems g)) := imp x fun σ H Q ⟨p, F, ρ, K, R, hg, hk⟩ =>
  ⟨p, F, ρ, _, R, hg, fun d ⟨es, f, kd⟩ v H1 ex dt => by
    obtain ⟨a, xs, rfl, hq, dl⟩ := dt.seq (K := X.K) (R.grow_sub ex) f
    exact ⟨a, xs, rfl, hq, fun l hl => hk _ kd _ xs _ (ex.trans (.new hl)) (R.fresh ex hl) upd_same (R.newL ex hl dl)⟩⟩

/-! an item by its place -/
theorem ix_any : IxR X (fun x y H Q => rIxL X.K x y H Q ∨ rIxT X.K x y H Q) := by
  intro value slice pins s σ H x y v u Q I rx ry h hs
  rcases h with h | h
  · exact ix_list value slice pins s σ H x y v u Q I rx ry h hs
  · exact ix_tup value slice pins s σ H x y v u Q I rx ry h hs
theorem atI_dt {H : Hp} {xs : List V} {ds : List PyData} (dl : DtL H xs ds) {i : Int} {d : PyData} (h : atI ds i = some d) : ∃ v, atI xs i = some v ∧ Dt H v d := by
  unfold atI at h ⊢
  rw [dl.length]
  cases q : ixN ds.length i with
  | none => rw [q] at h; cases h
  | some j =>
    rw [q] at h
    exact dl.get' (i := j) h
def oIx : PyData → PyData → (PyData → Prop) → Prop := fun x y K => ∃ ds i d, seqD x = some ds ∧ y = .int i ∧ atI ds i = some d ∧ K d
abbrev dIx := dBi oIx
theorem r_ix (x : PE X ea (eW O g)) (y : PE X eb (eV O h)) (hs : PlainIx eb) : PE X (.Subscript ea eb pos) (eR O (dIx g h)) := imp (pe_ix ix_any x y hs) fun σ H Q ⟨p, F, ρ, K, R, hg, hk⟩ =>
  ⟨p, F, ρ, _, R, hg, fun d kd v H1 ex dt => ⟨p, _, ρ, _, R.grown ex, kd, fun d2 ⟨ds, i, d3, f, ei, at_, kd3⟩ v2 H2 ex2 dt2 => by
    subst ei
    cases dt2
    obtain ⟨a, xs, rfl, hq, dl⟩ := (dt.mono (R.first ex2) ex2.hid).seq (K := X.K) (R.grow_sub (ex.trans ex2)) f
    obtain ⟨w, hw, dw⟩ := atI_dt dl at_
    have q := hk _ kd3 w H2 (ex.trans ex2) dw
    rcases hq with hq | hq
    · exact .inl ⟨a, xs, i, w, rfl, rfl, hq, hw, q⟩
    · exact .inr ⟨a, xs, i, w, rfl, rfl, hq, hw, q⟩⟩⟩

/-! slices -/
def cutD (xs : List PyData) (lo hi : Option Int) : List PyData := (xs.drop (HT.sIx xs.length 0 lo)).take (HT.sIx xs.length xs.length hi - HT.sIx xs.length 0 lo)
theorem cut_dt {H : Hp} {xs : List V} {ds : List PyData} (dl : DtL H xs ds) (lo hi : Option Int) : DtL H (cutV xs lo hi) (cutD ds lo hi) := by
  unfold cutV cutD
  rw [dl.length]
  exact (dl.drop _).take _
abbrev DO := Env → (Option Int → Prop) → Prop
def eO (O : List Nat) (g : DO) : TO := fun σ H Q => ∃ p F ρ K, Rs O p F H σ ρ ∧ g ρ K ∧ ∀ o, K o → ∀ H', Ext p H H' → Q o H'
def dNo : DO := fun _ K => K none
def dAt (g : DE) : DO := fun ρ K => g ρ fun d => ∃ i, d = .int i ∧ K (some i)
theorem o_no : PO X none (eO O dNo) := ⟨fun pins s σ H Q I ⟨p, F, ρ, K, R, hg, hk⟩ => po_none.run pins s σ H Q I (hk _ hg _ (.refl _ _))⟩
theorem o_at (x : PE X e (eV O g)) : PO X (some e) (eO O (dAt g)) := ⟨fun pins s σ H Q I ⟨p, F, ρ, K, R, hg, hk⟩ => (po_some x).run pins s σ H Q I
  ⟨p, F, ρ, _, R, hg, fun d ⟨i, ed, kd⟩ v H1 ex dt => by subst ed; cases dt; exact ⟨i, rfl, hk _ kd H1 ex⟩⟩⟩
def dCutT (g : DE) (lo hi : DO) : DE := fun ρ K => g ρ fun d => lo ρ fun l => hi ρ fun u => ∃ ds, d = .tuple ds ∧ K (.tuple (cutD ds l u))
def dCutL (g : DE) (lo hi : DO) : DL := fun ρ K => g ρ fun d => lo ρ fun l => hi ρ fun u => ∃ ds, d = .list ds ∧ K (cutD ds l u)
theorem cut_whole (ds : List PyData) {lo hi : Option Int} (h : HT.sIx ds.length 0 lo = 0 ∧ HT.sIx ds.length ds.length hi = ds.length) : cutD ds lo hi = ds := by
  unfold cutD
  rw [h.1, h.2, List.drop_zero, Nat.sub_zero, List.take_length]
theorem r_cut {lo hi : Option Expr} {gl gh : DO} {p2 : Pos} (x : PE X e (eR O g)) (l : PO X lo (eO O gl)) (u : PO X hi (eO O gh)) : PE X (.Subscript e (.Slice lo hi none p2) pos) (eR O (dCutT g gl gh)) := imp (pe_slice sl_cutA x l u) fun σ H Q ⟨p, F, ρ, K, R, hg, hk⟩ =>
  ⟨p, F, ρ, _, R, hg, fun d kd v H1 ex dt => ⟨p, _, ρ, _, R.grown ex, kd, fun l kl H2 ex2 => ⟨p, _, ρ, _, R.grown (ex.trans ex2), kl, fun u ⟨ds, ed, ku⟩ H3 ex3 => by
    subst ed
    obtain ⟨a, xs, rfl, ha, dl⟩ := (dt.mono (R.first (ex2.trans ex3))).ref_tup
    have exx := (ex.trans ex2).trans ex3
    refine ⟨a, xs, rfl, (ha.mono (R.grow_sub exx)).sq, fun w => ?_, fun _ l H4 hl => ?_⟩
    · rw [dl.length] at w
      rw [cut_whole ds w] at ku
      exact hk _ ku _ H3 exx (.tup ha dl)
    · exact hk _ ku _ _ (R.newT exx hl (cut_dt dl _ _)).1 (R.newT exx hl (cut_dt dl _ _)).2⟩⟩⟩
theorem l_cut {lo hi : Option Expr} {gl gh : DO} {p2 : Pos} (x : PE X e (eW O g)) (l : PO X lo (eO O gl)) (u : PO X hi (eO O gh)) : PE X (.Subscript e (.Slice lo hi none p2) pos) (eL O (dCutL g gl gh)) := imp (pe_slice sl_list x l u) fun σ H Q ⟨p, F, ρ, K, R, hg, hk⟩ =>
  ⟨p, F, ρ, _, R, hg, fun d kd v H1 ex dt => ⟨p, _, ρ, _, R.grown ex, kd, fun l kl H2 ex2 => ⟨p, _, ρ, _, R.grown (ex.trans ex2), kl, fun u ⟨ds, ed, ku⟩ H3 ex3 => by
    subst ed
    have exx := (ex.trans ex2).trans ex3
    obtain ⟨a, xs, rfl, ha, dl⟩ := (dt.mono (R.first (ex2.trans ex3)) (ex2.trans ex3).hid).list (R.grow_sub exx)
    exact ⟨a, xs, rfl, SqL.of ha, fun l hl => hk _ ku _ _ _ (exx.trans (.new hl)) (R.fresh exx hl) upd_same (R.newL exx hl (cut_dt dl _ _))⟩⟩⟩⟩

/-! one behind the other -/
def oCat : PyData → PyData → (PyData → Prop) → Prop := fun x y K => match x, y with
  | .tuple ds, .tuple es => ds.length + es.length ≤ 100000 ∧ K (.tuple (ds ++ es))
  | _, _ => False
abbrev dCat := dBi oCat
theorem r_cat (x : PE X ea (eR O g)) (y : PE X eb (eR O h)) : PE X (.BinOp ea .Add eb pos) (eR O (dCat g h)) := imp (pe_op op_joinA x y) fun σ H Q ⟨p, F, ρ, K, R, hg, hk⟩ =>
  ⟨p, F, ρ, _, R, hg, fun d kd v H1 ex dt => ⟨p, _, ρ, _, R.grown ex, kd, fun d2 kd2 v2 H2 ex2 dt2 => by
    unfold oCat at kd2
    split at kd2
    · rename_i ds es
      obtain ⟨hz, kd2⟩ := kd2
      have exx := ex.trans ex2
      obtain ⟨a, xs, rfl, ha, dl⟩ := (dt.mono (R.first ex2)).ref_tup
      obtain ⟨b, ys, rfl, hb, dl2⟩ := (dt2.mono (R.grown2 ex ex2)).ref_tup
      refine ⟨a, b, xs, ys, rfl, rfl, (ha.mono (R.grow_sub exx)).sq, (hb.mono (R.grow_sub exx)).sq, by rw [dl.length, dl2.length]; exact sz hz, fun z => ?_, fun z z2 => ?_, fun _ _ l H4 hl => ?_⟩
      · subst z
        cases dl
        exact hk _ kd2 _ H2 exx (.tup hb dl2)
      · subst z2
        cases dl2
        rw [List.append_nil] at kd2
        exact hk _ kd2 _ H2 exx (.tup ha dl)
      · exact hk _ kd2 _ _ (R.newT exx hl (dl.append dl2)).1 (R.newT exx hl (dl.append dl2)).2
    · exact kd2.elim⟩⟩
def dCatL (g h : DE) : DL := fun ρ K => g ρ fun x => h ρ fun y => match x, y with
  | .list ds, .list es => ds.length + es.length ≤ 100000 ∧ K (ds ++ es)
  | _, _ => False
theorem l_cat (x : PE X ea (eW O g)) (y : PE X eb (eW O h)) : PE X (.BinOp ea .Add eb pos) (eL O (dCatL g h)) := imp (pe_op op_cat x y) fun σ H Q ⟨p, F, ρ, K, R, hg, hk⟩ =>
  ⟨p, F, ρ, _, R, hg, fun d kd v H1 ex dt => ⟨p, _, ρ, _, R.grown ex, kd, fun d2 kd2 v2 H2 ex2 dt2 => by
    split at kd2
    · rename_i ds es
      obtain ⟨hz, kd2⟩ := kd2
      have exx := ex.trans ex2
      obtain ⟨a, xs, rfl, ha, dl⟩ := (dt.mono (R.first ex2) ex2.hid).list (R.grow_sub exx)
      obtain ⟨b, ys, rfl, hb, dl2⟩ := (dt2.mono (R.grown2 ex ex2) (Sub.refl _)).list (R.grow_sub exx)
      exact ⟨a, b, xs, ys, rfl, rfl, ha, hb, by rw [dl.length, dl2.length]; exact sz hz, fun l hl => hk _ kd2 _ _ _ (exx.trans (.new hl)) (R.fresh exx hl) upd_same (R.newL exx hl (dl.append dl2))⟩
    · exact kd2.elim⟩⟩
def dRep (g h : DE) : DL := fun ρ K => g ρ fun x => h ρ fun y => match x, y with
  | .list [d], .int n => 0 ≤ n ∧ n ≤ 100000 ∧ K (List.replicate n.toNat d)
  | _, _ => False
theorem DtL.replicate {H : Hp} {v : V} {d : PyData} (x : Dt H v d) : ∀ n, DtL H (List.replicate n v) (List.replicate n d)
  | 0 => .nil
  | n + 1 => .cons x (DtL.replicate x n)
theorem l_rep (x : PE X ea (eW O g)) (y : PE X eb (eV O h)) : PE X (.BinOp ea .Mult eb pos) (eL O (dRep g h)) := imp (pe_op op_rep x y) fun σ H Q ⟨p, F, ρ, K, R, hg, hk⟩ =>
  ⟨p, F, ρ, _, R, hg, fun d kd v H1 ex dt => ⟨p, _, ρ, _, R.grown ex, kd, fun d2 kd2 v2 H2 ex2 dt2 => by
    split at kd2
    · rename_i d3 n
      obtain ⟨h0, hz, kd2⟩ := kd2
      have exx := ex.trans ex2
      obtain ⟨a, xs, rfl, ha, dl⟩ := (dt.mono (R.first ex2) ex2.hid).list (R.grow_sub exx)
      cases dt2
      obtain ⟨w, rfl, dw⟩ := one_of dl
      refine ⟨a, n, [w], rfl, rfl, ha, by omega, by omega, ?_, fun l hl => ?_⟩
      · show 1 * n.toNat ≤ sizeLine
        rw [Nat.one_mul]
        exact sz (by omega)
      · have e1 : (List.replicate n.toNat [w]).flatten = List.replicate n.toNat w := by
          induction n.toNat with
          | zero => rfl
          | succ m ih => rw [List.replicate_succ, List.flatten_cons, ih, List.replicate_succ]; rfl
        rw [e1]
        exact hk _ kd2 _ _ _ (exx.trans (.new hl)) (R.fresh exx hl) upd_same (R.newL exx hl (DtL.replicate dw _))
    · exact kd2.elim⟩⟩
end
end Kb
set_option Elab.async false
set_option linter.all false
set_option maxRecDepth 100000
/-! D5: readings over data: tests joined, conditional expressions, comparisons with the empty list, calls. -/
namespace Kb
open PySem L2

def dAnd (t u : DB) : DB := fun ρ K => t ρ fun b => if b = true then u ρ K else K false
def dOr (t u : DB) : DB := fun ρ K => t ρ fun b => if b = true then K true else u ρ K
def dNot (t : DB) : DB := fun ρ K => t ρ fun b => K (!b)
def dAndV (g h : DE) : DE := fun ρ K => g ρ fun d => ∃ b, d = .bool b ∧ if b = true then h ρ K else K (.bool false)
def dOrV (g h : DE) : DE := fun ρ K => g ρ fun d => ∃ b, d = .bool b ∧ if b = true then K (.bool true) else h ρ K
abbrev dNotV := dUn fun d K => ∃ b, d = .bool b ∧ K (.bool !b)
def dIf (t : DB) (g h : DE) : DE := fun ρ K => t ρ fun b => if b = true then g ρ K else h ρ K
def dIfL (t : DB) (g h : DL) : DL := fun ρ K => t ρ fun b => if b = true then g ρ K else h ρ K
def dCh (ga gb gc : DE) : DE := fun ρ K => ga ρ fun x => gb ρ fun y => ∃ i j, x = .int i ∧ y = .int j ∧ if i ≤ j then gc ρ (fun z => ∃ k, z = .int k ∧ K (.bool (decide (j < k)))) else K (.bool false)
section
variable {X : Cx} {e ea eb ec : Expr} {O : List Nat} {g h k : DE} {gl hl : DL} {t u : DB} {pos : Pos} {rest : List Expr}
theorem t_and1 (x : PT X ea (eT O t)) : PW X (.BoolOp .And [ea] pos) (eT O t) := pw_and1 x
theorem t_or1 (x : PT X ea (eT O t)) : PW X (.BoolOp .Or [ea] pos) (eT O t) := pw_or1 x
theorem impW {t t' : TT} (x : PW X e t) (k : ∀ σ H Q, t' σ H Q → t σ H Q) : PW X e t' := ⟨fun wh pins s σ H Q I q => x.run wh pins s σ H Q I (k σ H Q q)⟩
theorem t_and (x : PT X ea (eT O t)) (y : PW X (.BoolOp .And (eb :: rest) pos) (eT O u)) : PW X (.BoolOp .And (ea :: eb :: rest) pos) (eT O (dAnd t u)) := impW (pw_and x y) fun σ H Q ⟨p, F, ρ, K, R, hg, hk⟩ =>
  ⟨p, F, ρ, _, R, hg, fun b kb H1 ex => by
    cases b with
    | true => rw [if_pos rfl] at kb ⊢; exact ⟨p, _, ρ, K, R.grown ex, kb, fun c kc H2 ex2 => hk c kc H2 (ex.trans ex2)⟩
    | false => rw [if_neg Bool.false_ne_true] at kb ⊢; exact hk _ kb H1 ex⟩
theorem t_or (x : PT X ea (eT O t)) (y : PW X (.BoolOp .Or (eb :: rest) pos) (eT O u)) : PW X (.BoolOp .Or (ea :: eb :: rest) pos) (eT O (dOr t u)) := impW (pw_or x y) fun σ H Q ⟨p, F, ρ, K, R, hg, hk⟩ =>
  ⟨p, F, ρ, _, R, hg, fun b kb H1 ex => by
    cases b with
    | true => rw [if_pos rfl] at kb ⊢; exact hk _ kb H1 ex
    | false => rw [if_neg Bool.false_ne_true] at kb ⊢; exact ⟨p, _, ρ, K, R.grown ex, kb, fun c kc H2 ex2 => hk c kc H2 (ex.trans ex2)⟩⟩
theorem t_not (x : PT X ea (eT O t)) : PT X (.UnaryOp .Not ea pos) (eT O (dNot t)) := impT (pt_not x) fun σ H Q ⟨p, F, ρ, K, R, hg, hk⟩ => ⟨p, F, ρ, _, R, hg, fun b kb H1 ex => hk _ kb H1 ex⟩
theorem t_val (x : PE X e (eR O g)) (he : ∀ whole, isTrue e X.env whole = (do let v ← whole; standAt e.pos; holding [v] (truthy v)) := by intro _; rfl) : PT X e (eT O (dBool g)) := t_B (pt_val x he) fun σ H Q q => q
/-! as values -/
theorem r_one {op} (x : PE X ea (eR O g)) : PE X (.BoolOp op [ea] pos) (eR O g) := pe_one x
theorem r_and (x : PE X ea (eV O g)) (y : PE X (.BoolOp .And (eb :: rest) pos) (eR O h)) : PE X (.BoolOp .And (ea :: eb :: rest) pos) (eR O (dAndV g h)) := imp (pe_and x y) fun σ H Q ⟨p, F, ρ, K, R, hg, hk⟩ =>
  ⟨p, F, ρ, _, R, hg, fun d ⟨b, ed, kb⟩ v H1 ex dt => by
    subst ed; cases dt
    refine ⟨b, rfl, ?_⟩
    cases b with
    | true => rw [if_pos rfl] at kb ⊢; exact ⟨p, _, ρ, K, R.grown ex, kb, fun d kd v H2 ex2 dt => hk d kd v H2 (ex.trans ex2) (dt.mono (R.grown2 ex ex2))⟩
    | false => rw [if_neg Bool.false_ne_true] at kb ⊢; exact hk _ kb _ H1 ex (.bl _)⟩
theorem r_or (x : PE X ea (eV O g)) (y : PE X (.BoolOp .Or (eb :: rest) pos) (eR O h)) : PE X (.BoolOp .Or (ea :: eb :: rest) pos) (eR O (dOrV g h)) := imp (pe_or x y) fun σ H Q ⟨p, F, ρ, K, R, hg, hk⟩ =>
  ⟨p, F, ρ, _, R, hg, fun d ⟨b, ed, kb⟩ v H1 ex dt => by
    subst ed; cases dt
    refine ⟨b, rfl, ?_⟩
    cases b with
    | true => rw [if_pos rfl] at kb ⊢; exact hk _ kb _ H1 ex (.bl _)
    | false => rw [if_neg Bool.false_ne_true] at kb ⊢; exact ⟨p, _, ρ, K, R.grown ex, kb, fun d kd v H2 ex2 dt => hk d kd v H2 (ex.trans ex2) (dt.mono (R.grown2 ex ex2))⟩⟩
theorem r_not (x : PE X ea (eV O g)) : PE X (.UnaryOp .Not ea pos) (eR O (dNotV g)) := un_S (r := fun v H Q => ∃ c, v = .bl c ∧ Q (.bl (!c)) H) x (fun a => pe_not a) fun dt ⟨b, ed, kd⟩ q => by
  subst ed; cases dt
  exact ⟨b, rfl, q _ kd _ fun _ => .bl _⟩
theorem r_if (c : PT X ec (eT O t)) (x : PE X ea (eR O g)) (y : PE X eb (eR O h)) : PE X (.IfExp ec ea eb pos) (eR O (dIf t g h)) := imp (pe_ifExp c x y) fun σ H Q ⟨p, F, ρ, K, R, hg, hk⟩ =>
  ⟨p, F, ρ, _, R, hg, fun b kb H1 ex => by
    cases b with
    | true => rw [if_pos rfl] at kb ⊢; exact ⟨p, _, ρ, K, R.grown ex, kb, fun d kd v H2 ex2 dt => hk d kd v H2 (ex.trans ex2) (dt.mono (R.grown2 ex ex2))⟩
    | false => rw [if_neg Bool.false_ne_true] at kb ⊢; exact ⟨p, _, ρ, K, R.grown ex, kb, fun d kd v H2 ex2 dt => hk d kd v H2 (ex.trans ex2) (dt.mono (R.grown2 ex ex2))⟩⟩
theorem Rs.hidg {p : Option Addr} {F H H1 H2 : Hp} {σ : L2.St} {ρ : Env} (R : Rs O p F H σ ρ) (ex : Ext p H H1) (ex2 : Ext p H1 H2) (a : Addr) : Sub (hid (some a) (grow (grow F H H1) H1 H2)) (hid (some a) (grow F H H2)) := fun b o q => by
  by_cases z : (some a : Option Addr) = some b
  · rw [z, hid_self] at q; cases q
  · rw [hid_at z] at q ⊢
    exact R.grown2 ex ex2 b o q
theorem l_if (c : PT X ec (eT O t)) (x : PE X ea (eL O gl)) (y : PE X eb (eL O hl)) : PE X (.IfExp ec ea eb pos) (eL O (dIfL t gl hl)) := imp (pe_ifExp c x y) fun σ H Q ⟨p, F, ρ, K, R, hg, hk⟩ =>
  ⟨p, F, ρ, _, R, hg, fun b kb H1 ex => by
    cases b with
    | true => rw [if_pos rfl] at kb ⊢; exact ⟨p, _, ρ, K, R.grown ex, kb, fun d kd a xs H2 ex2 hn ha dt => hk d kd a xs H2 (ex.trans ex2) (R.fresh ex hn) ha (dt.mono (R.hidg ex ex2 a))⟩
    | false => rw [if_neg Bool.false_ne_true] at kb ⊢; exact ⟨p, _, ρ, K, R.grown ex, kb, fun d kd a xs H2 ex2 hn ha dt => hk d kd a xs H2 (ex.trans ex2) (R.fresh ex hn) ha (dt.mono (R.hidg ex ex2 a))⟩⟩
theorem r_chain (x : PE X e (tChain (rI0 fun i j => .bl (decide (i ≤ j))) (rI0 fun i j => .bl (decide (i < j))) (eV O g) (eV O h) (eV O k))) : PE X e (eR O (dCh g h k)) := imp x fun σ H Q ⟨p, F, ρ, K, R, hg, hk⟩ =>
  ⟨p, F, ρ, _, R, hg, fun d kd v H1 ex dt => ⟨p, _, ρ, _, R.grown ex, kd, fun d2 ⟨i, j, e1, e2, kd2⟩ v2 H2 ex2 dt2 => by
    subst e1 e2; cases dt; cases dt2
    refine ⟨i, j, rfl, rfl, decide (i ≤ j), rfl, ?_⟩
    by_cases c : i ≤ j
    · rw [if_pos c] at kd2
      rw [if_pos (decide_eq_true c)]
      exact ⟨p, _, ρ, _, R.grown (ex.trans ex2), kd2, fun d3 ⟨m, e3, kd3⟩ v3 H3 ex3 dt3 => by
        subst e3; cases dt3
        exact ⟨j, m, rfl, rfl, hk _ kd3 _ H3 ((ex.trans ex2).trans ex3) (.bl _)⟩⟩
    · rw [if_neg c] at kd2
      rw [if_neg (by simpa using c)]
      exact hk _ kd2 _ H2 (ex.trans ex2) (.bl _)⟩⟩

/-! a list compared with a written empty one -/
def rEqN (K : PySem.W.Frag) (neg : Bool) : R2 := fun x y H Q => ∃ a b xs, x = .ref a ∧ y = .ref b ∧ SqL K H a xs ∧ SqL K H b [] ∧ a ≠ b ∧ Q (.bl (if neg then !xs.isEmpty else xs.isEmpty)) H
theorem op_eqN (hu : X.A.units + 64 < cLine) : OpR X (compareOp .Eq) (rEqN X.K false) := by
  intro pins s σ H x y v u Q I rx ry h
  obtain ⟨a, b, xs, rfl, rfl, ha, hb, hne, q⟩ := h
  cases xs with
  | nil => exact op_eqD hu pins s σ H _ _ v u Q I rx ry ⟨.list [], .list [], .lst ha .nil, .lst hb .nil, by decide, by decide, q⟩
  | cons z zs =>
    cases rx; cases ry
    obtain ⟨its, r, p1, _⟩ := I.list ha
    obtain ⟨its2, r2, p2, _⟩ := I.list hb
    cases r2
    have hl := r.length
    refine SeqAt.RcAt.lists_lengths p1.isList p2.isList ?_ (by omega) _ _ _ _ ⟨.bl false, H, I, rfl, q⟩
    rw [List.length_cons] at hl
    cases its with
    | nil => cases hl
    | cons => simp
theorem op_neN (hu : X.A.units + 64 < cLine) : OpR X (compareOp .NotEq) (rEqN X.K true) := by
  intro pins s σ H x y v u Q I rx ry h
  obtain ⟨a, b, xs, rfl, rfl, ha, hb, hne, q⟩ := h
  cases xs with
  | nil => exact op_neD hu pins s σ H _ _ v u Q I rx ry ⟨.list [], .list [], .lst ha .nil, .lst hb .nil, by decide, by decide, q⟩
  | cons z zs =>
    cases rx; cases ry
    obtain ⟨its, r, p1, _⟩ := I.list ha
    obtain ⟨its2, r2, p2, _⟩ := I.list hb
    cases r2
    have hl := r.length
    refine SeqAt.RcNeAt.lists_lengths p1.isList p2.isList ?_ (by omega) _ _ _ _ ⟨.bl true, H, I, rfl, q⟩
    rw [List.length_cons] at hl
    cases its with
    | nil => cases hl
    | cons => simp
def dEqN (neg : Bool) (g : DE) : DE := fun ρ K => g ρ fun d => ∃ ds, d = .list ds ∧ K (.bool (if neg then !ds.isEmpty else ds.isEmpty))
theorem empty_iff {H : Hp} {vs : List V} {ds : List PyData} (h : DtL H vs ds) : vs.isEmpty = ds.isEmpty := by cases h <;> rfl
theorem eqN' {neg : Bool} {σ : L2.St} {H : Hp} {Q : VK} : eR O (dEqN neg g) σ H Q → tOp (rEqN X.K neg) (eV O g) (tLst tNil) σ H Q := fun ⟨p, F, ρ, K, R, hg, hk⟩ =>
  ⟨p, F, ρ, _, R, hg, fun d ⟨ds, ed, kd⟩ v H1 ex dt => by
    subst ed
    obtain ⟨a, xs, rfl, ha, dl⟩ := dt.up.ref_lst
    refine ⟨Nat.zero_le _, fun b hb => ⟨a, b, xs, rfl, rfl, SqL.of ?_, SqL.of upd_same, fun z => ?_, ?_⟩⟩
    · rw [upd_ne (fun z => by rw [z, hb] at ha; cases ha)]; exact ha
    · rw [z, hb] at ha; cases ha
    · rw [empty_iff dl]
      exact hk _ kd _ _ (ex.trans (.new hb)) (.bl _)⟩
theorem r_eqN {x1} (hu : X.A.units + 64 < cLine) (x : PE X ea (eV O g)) : PE X (.Compare ea [.Eq] [.List [] x1] pos) (eR O (dEqN false g)) := imp (pe_cmpR (op_eqN hu) x (pe_lst pa_nil) (nomark _)) fun σ H Q => eqN'
theorem r_neN {x1} (hu : X.A.units + 64 < cLine) (x : PE X ea (eV O g)) : PE X (.Compare ea [.NotEq] [.List [] x1] pos) (eR O (dEqN true g)) := imp (pe_cmpR (op_neN hu) x (pe_lst pa_nil) (nomark _)) fun σ H Q => eqN'
theorem t_eqN {x1} (hu : X.A.units + 64 < cLine) (x : PE X ea (eV O g)) : PT X (.Compare ea [.Eq] [.List [] x1] pos) (eT O (dBool (dEqN false g))) := t_test (pt_cmpR (op_eqN hu) x (pe_lst pa_nil) (nomark _)) fun σ H Q => eqN'
theorem t_neN {x1} (hu : X.A.units + 64 < cLine) (x : PE X ea (eV O g)) : PT X (.Compare ea [.NotEq] [.List [] x1] pos) (eT O (dBool (dEqN true g))) := t_test (pt_cmpR (op_neN hu) x (pe_lst pa_nil) (nomark _)) fun σ H Q => eqN'

/-! ### promises -/
abbrev Rl := List PyData → (PyData → Prop) → Prop
abbrev RlL := List PyData → (List PyData → Prop) → Prop
/-- a def that hands back data and changes nothing -/
def Pr (R : Rl) : Sp := fun vs H Q _ => ∃ F ds K, Sub F H ∧ (∀ a xs, TupA H a xs → TupA F a xs) ∧ DtL F vs ds ∧ R ds K ∧ ∀ d, K d → ∀ v H', Ext none H H' → Dt (grow F H H') v d → Q v H'
/-- a def that hands back a new list -/
def PrL (R : RlL) : Sp := fun vs H Q _ => ∃ F ds K, Sub F H ∧ (∀ a xs, TupA H a xs → TupA F a xs) ∧ DtL F vs ds ∧ R ds K ∧ ∀ ds', K ds' → ∀ a xs H', Ext none H H' → H a = none → H' a = some (.lst xs) → DtL (hid (some a) (grow F H H')) xs ds' → Q (.ref a) H'
/-- .. that draws -/
def PrH (R : Rl) : Sp := fun vs H Q _ => ∃ b ws F ds K, vs = .ref b :: ws ∧ HatAt H b ∧ F b = none ∧ Sub F H ∧ (∀ a xs, TupA H a xs → TupA F a xs) ∧ DtL F ws ds ∧ R ds K ∧ ∀ d, K d → ∀ v H', Ext (some b) H H' → Dt (grow F H H') v d → Q v H'
def PrHL (R : RlL) : Sp := fun vs H Q _ => ∃ b ws F ds K, vs = .ref b :: ws ∧ HatAt H b ∧ F b = none ∧ Sub F H ∧ (∀ a xs, TupA H a xs → TupA F a xs) ∧ DtL F ws ds ∧ R ds K ∧ ∀ ds', K ds' → ∀ a xs H', Ext (some b) H H' → H a = none → H' a = some (.lst xs) → DtL (hid (some a) (grow F H H')) xs ds' → Q (.ref a) H'
def dCall (R : Rl) (gl : DL) : DE := fun ρ K => gl ρ fun ds => R ds K
def dCallL (R : RlL) (gl : DL) : DL := fun ρ K => gl ρ fun ds => R ds K
theorem Rs.ofHid {p : Option Addr} {F H : Hp} {σ : L2.St} {ρ : Env} (R : Rs O p F H σ ρ) {H1 : Hp} (ex : Ext p H H1) : ∀ a xs, TupA H1 a xs → TupA (hid p H1) a xs := fun a xs ⟨o, h, d⟩ => by
  refine ⟨o, ?_, d⟩
  rw [hid_at]
  · exact h
  · intro z
    obtain ⟨x, y, w, q2, _⟩ := ex.hat a z (R.hat a z).2
    rw [q2] at h; cases h
theorem r_call {Rr : Rl} {sp : Sp} (hsp : sp = Pr Rr) (x : PE X e (tCall sp [] E0 (eAR O gl))) : PE X e (eR O (dCall Rr gl)) := imp x fun σ H Q ⟨p, F, ρ, K, R, hg, hk⟩ =>
  ⟨p, F, ρ, _, R, hg, fun ds kd vs H1 ex dl => by
    show sp (vs ++ []) H1 Q E0
    rw [List.append_nil, hsp]
    exact ⟨grow F H H1, ds, K, R.grow_sub ex, fun a xs h => R.tup_grow ex a xs h, dl, kd, fun d kd v H2 ex2 dt => hk d kd v H2 (ex.trans ex2.any) (dt.mono (R.grown2 ex ex2.any))⟩⟩
theorem l_call {Rr : RlL} {sp : Sp} (hsp : sp = PrL Rr) (x : PE X e (tCall sp [] E0 (eAR O gl))) : PE X e (eL O (dCallL Rr gl)) := imp x fun σ H Q ⟨p, F, ρ, K, R, hg, hk⟩ =>
  ⟨p, F, ρ, _, R, hg, fun ds kd vs H1 ex dl => by
    show sp (vs ++ []) H1 Q E0
    rw [List.append_nil, hsp]
    exact ⟨grow F H H1, ds, K, R.grow_sub ex, fun a xs h => R.tup_grow ex a xs h, dl, kd, fun d kd a xs H2 ex2 hn ha dt => hk d kd a xs H2 (ex.trans ex2.any) (R.fresh ex hn) ha (dt.mono (R.hidg ex ex2.any a))⟩⟩
/-- with a list of the caller's own handed over, looked at alone -/
theorem r_callV {Rr : Rl} {sp : Sp} (hsp : sp = Pr Rr) (x : PE X e (tCall sp [] E0 (eAV O gl))) : PE X e (eR O (dPur (dCall Rr gl))) := imp x fun σ H Q ⟨p, F, ρ, K, R, hg, hk⟩ =>
  ⟨p, F, ρ, _, R, hg, fun ds kd vs H1 ex dl => by
    show sp (vs ++ []) H1 Q E0
    rw [List.append_nil, hsp]
    refine ⟨hid p H1, ds, _, hid_sub _ _, R.ofHid ex, dl, kd, fun d kd v H2 ex2 dt => hk d kd.2 v H2 (ex.trans ex2.any) (R.pur (ex.trans ex2.any) kd.1 (dt.mono fun a o q => ?_))⟩
    cases q1 : H1 a with
    | none =>
      rw [grow_new q1] at q
      rw [hid_at]
      · exact q
      · intro z
        obtain ⟨x, y, w, q2, _⟩ := ex.hat a z (R.hat a z).2
        rw [q2] at q1; cases q1
    | some u =>
      rw [grow_old q1] at q
      exact ex2.any.hid a o q⟩
/-- a call that draws: the draws' own list stands in slot 0 -/
theorem h_call {Rr : Rl} {sp : Sp} (h0 : 0 ∈ O) (hsp : sp = PrH Rr) (x : PE X e (tCall sp [] E0 (tCons (tVar 0) (eAR O gl)))) : PE X e (eR O (dCall Rr gl)) := imp x fun σ H Q ⟨p, F, ρ, K, R, hg, hk⟩ => by
  obtain ⟨b, hb⟩ := R.hatO h0
  refine ⟨.ref b, R.hatS b hb, p, F, ρ, _, R, hg, fun ds kd ws H1 ex dl => ?_⟩
  show sp (.ref b :: ws ++ []) H1 Q E0
  rw [List.append_nil, hsp]
  refine ⟨b, ws, grow F H H1, ds, K, rfl, ((R.grown ex).hat b hb).2, ((R.grown ex).hat b hb).1, R.grow_sub ex, fun a xs h => R.tup_grow ex a xs h, dl, kd, fun d kd v H2 ex2 dt => ?_⟩
  rw [← hb] at ex2
  exact hk d kd v H2 (ex.trans ex2) (dt.mono (R.grown2 ex ex2))
theorem h_callL {Rr : RlL} {sp : Sp} (h0 : 0 ∈ O) (hsp : sp = PrHL Rr) (x : PE X e (tCall sp [] E0 (tCons (tVar 0) (eAR O gl)))) : PE X e (eL O (dCallL Rr gl)) := imp x fun σ H Q ⟨p, F, ρ, K, R, hg, hk⟩ => by
  obtain ⟨b, hb⟩ := R.hatO h0
  refine ⟨.ref b, R.hatS b hb, p, F, ρ, _, R, hg, fun ds kd ws H1 ex dl => ?_⟩
  show sp (.ref b :: ws ++ []) H1 Q E0
  rw [List.append_nil, hsp]
  refine ⟨b, ws, grow F H H1, ds, K, rfl, ((R.grown ex).hat b hb).2, ((R.grown ex).hat b hb).1, R.grow_sub ex, fun a xs h => R.tup_grow ex a xs h, dl, kd, fun d kd a xs H2 ex2 hn ha dt => ?_⟩
  rw [← hb] at ex2
  exact hk d kd a xs H2 (ex.trans ex2) (R.fresh ex hn) ha (dt.mono (R.hidg ex ex2 a))
/-- with a list of the caller's own, looked at alone -/
theorem h_callV {Rr : Rl} {sp : Sp} (h0 : 0 ∈ O) (hsp : sp = PrH Rr) (x : PE X e (tCall sp [] E0 (tCons (tVar 0) (eAV O gl)))) : PE X e (eR O (dPur (dCall Rr gl))) := imp x fun σ H Q ⟨p, F, ρ, K, R, hg, hk⟩ => by
  obtain ⟨b, hb⟩ := R.hatO h0
  refine ⟨.ref b, R.hatS b hb, p, F, ρ, _, R, hg, fun ds kd ws H1 ex dl => ?_⟩
  show sp (.ref b :: ws ++ []) H1 Q E0
  rw [List.append_nil, hsp]
  refine ⟨b, ws, hid p H1, ds, _, rfl, ((R.grown ex).hat b hb).2, by rw [hb, hid_self], hid_sub _ _, R.ofHid ex, dl, kd, fun d kd v H2 ex2 dt => ?_⟩
  rw [← hb] at ex2
  refine hk d kd.2 v H2 (ex.trans ex2) (R.pur (ex.trans ex2) kd.1 (dt.mono fun a o q => ?_))
  cases q1 : H1 a with
  | none =>
    rw [grow_new q1] at q
    rw [hid_at]
    · exact q
    · intro z
      obtain ⟨x, y, w, q2, _⟩ := ex.hat a z (R.hat a z).2
      rw [q2] at q1; cases q1
  | some u =>
    rw [grow_old q1] at q
    exact ex2.hid a o q
end
end Kb
set_option Elab.async false
set_option linter.all false
set_option maxRecDepth 100000
/-! D6: readings over data: what is walked, targets, list comprehensions. -/
namespace Kb
open PySem L2

/-! ### targets -/
/-- data, or (b) a pair of data of which no more is known -/
def Dk (b : Bool) (H : Hp) (v : V) (d : PyData) : Prop := Dt H v d ∨ (b = true ∧ ∃ a xs ds, v = .ref a ∧ d = .tuple ds ∧ H a = some (.tup xs) ∧ DtL H xs ds)
theorem Dk.mono {b : Bool} {F H : Hp} {v : V} {d : PyData} (s : Sub F H) : Dk b F v d → Dk b H v d
  | .inl h => .inl (h.mono s)
  | .inr ⟨e, a, xs, ds, e1, e2, h, k⟩ => .inr ⟨e, a, xs, ds, e1, e2, s _ _ h, k.mono s⟩
theorem Dk.no {H : Hp} {v : V} {d : PyData} : Dk false H v d → Dt H v d
  | .inl h => h
  | .inr ⟨e, _⟩ => by cases e
theorem Dk.tup {b : Bool} {K : PySem.W.Frag} {F H : Hp} {v : V} {ds : List PyData} (s : Sub F H) (h : Dk b F v (.tuple ds)) : ∃ a xs, v = .ref a ∧ SqT K H a xs ∧ DtL F xs ds := by
  rcases h with h | ⟨_, a, xs, ds', rfl, e, h, k⟩
  · obtain ⟨a, xs, rfl, h, k⟩ := h.ref_tup
    exact ⟨a, xs, rfl, (h.mono s).sq, k⟩
  · cases e
    exact ⟨a, xs, rfl, SqT.of (s _ _ h), k⟩
abbrev DP := PyData → Env → (Env → Prop) → Prop
/-- slots of ts alone are stored, by data that stands in F -/
def TgOk (b : Bool) (O : List Nat) (ts : List Nat) (g : TG) (P : DP) : Prop := ∀ {p F H σ ρ v d K Q}, Rs O p F H σ ρ → Dk b F v d → P d ρ K → (∀ σ' ρ', Rs O p F H σ' ρ' → K ρ' → (∀ vs, (∀ i ∈ ts, i ∈ vs) → wipe σ' vs = wipe σ vs) → (∀ i, i ∈ O → σ'[i]? = σ[i]? ∧ ρ'[i]? = ρ[i]?) → Q σ' H) → g v σ H Q
def pName (j : Nat) : DP := fun d ρ K => K (ρ.set j (some d))
def pTwo (i j : Nat) : DP := fun d ρ K => ∃ a b, d = .tuple [a, b] ∧ K ((ρ.set i (some a)).set j (some b))
def pThree (i j l : Nat) : DP := fun d ρ K => ∃ a b c, d = .tuple [a, b, c] ∧ K (((ρ.set i (some a)).set j (some b)).set l (some c))
theorem wipe_set {σ : L2.St} {i : Nat} {x : Option V} : ∀ {vs : List Nat}, i ∈ vs → wipe (σ.set i x) vs = wipe σ vs
  | [], h => by cases h
  | v :: vs, h => by
    unfold wipe
    by_cases c : i ∈ vs
    · rw [wipe_set c]
    · have e : i = v := by
        rcases List.mem_cons.mp h with e | e
        · exact e
        · exact absurd e c
      subst e
      clear h
      have aux : ∀ (vs : List Nat), i ∉ vs → wipe (σ.set i x) vs = (wipe σ vs).set i x := by
        intro vs
        induction vs with
        | nil => intro _; rfl
        | cons w ws ih =>
          intro hn
          have h1 : w ≠ i := fun z => hn (by rw [z]; exact List.mem_cons_self)
          unfold wipe
          rw [ih fun z => hn (List.mem_cons_of_mem _ z), List.set_comm _ _ (Ne.symm h1)]
      rw [aux vs c, List.set_set]
section
variable {O : List Nat} {p : Option Addr} {F H : Hp} {σ : L2.St} {ρ : Env}
theorem Rs.store (R : Rs O p F H σ ρ) {j : Nat} {v : V} {d : PyData} (hO : j ∉ O) (h0 : j ≠ 0) (dt : Dt F v d) : Rs O p F H (σ.set j (some v)) (ρ.set j (some d)) where
  sub := R.sub
  len := by rw [List.length_set, List.length_set]; exact R.len
  dat := fun i e he hi => by
    by_cases c : j = i
    · subst c
      have hl : j < ρ.length := by
        obtain ⟨q, _⟩ := List.getElem?_eq_some_iff.mp he
        rwa [List.length_set] at q
      rw [List.getElem?_set_self hl] at he
      cases he
      exact ⟨v, List.getElem?_set_self (by rw [R.len]; exact hl), dt⟩
    · rw [List.getElem?_set_ne c] at he ⊢
      exact R.dat i e he hi
  own := fun i e he hi => by
    have c : j ≠ i := fun z => hO (z ▸ hi)
    rw [List.getElem?_set_ne c] at he ⊢
    exact R.own i e he hi
  apart := fun i k a e e' hi hk he he' ha ha' => by
    have c : j ≠ i := fun z => hO (z ▸ hi)
    have c' : j ≠ k := fun z => hO (z ▸ hk)
    rw [List.getElem?_set_ne c] at he ha
    rw [List.getElem?_set_ne c'] at he' ha'
    exact R.apart i k a e e' hi hk he he' ha ha'
  hat := R.hat
  hatS := fun a q => by rw [List.getElem?_set_ne h0]; exact R.hatS a q
  hatO := R.hatO
  tups := R.tups
theorem aside {j : Nat} {σ : L2.St} {ρ : Env} {x : Option V} {y : Option PyData} {i : Nat} (hO : j ∉ O) (hi : i ∈ O) : (σ.set j x)[i]? = σ[i]? ∧ (ρ.set j y)[i]? = ρ[i]? :=
  have h : j ≠ i := fun z => hO (by rw [z]; exact hi)
  ⟨List.getElem?_set_ne h, List.getElem?_set_ne h⟩
theorem tg_name {j : Nat} (hO : j ∉ O := by decide) (h0 : j ≠ 0 := by decide) : TgOk false O [j] (gName j) (pName j) := fun R dt k q =>
  q _ _ (R.store hO h0 dt.no) k (fun vs hv => wipe_set (hv j List.mem_cons_self)) fun i hi => aside hO hi
theorem tg_two {b : Bool} {K : PySem.W.Frag} {i j : Nat} (hO : i ∉ O := by decide) (h0 : i ≠ 0 := by decide) (hO' : j ∉ O := by decide) (h0' : j ≠ 0 := by decide) : TgOk b O [i, j] (gTup K 2 (gCons (gName i) (gCons (gName j) gNil))) (pTwo i j) := by
  intro p F H σ ρ v d Kx Q R dt k q
  obtain ⟨a, b, rfl, k⟩ := k
  obtain ⟨ad, xs, rfl, ha, dl⟩ := dt.tup (K := K) R.sub
  obtain ⟨x, y, rfl, dx, dy⟩ := two_of dl
  exact ⟨ad, [x, y], rfl, ha, rfl, x, [y], rfl, y, [], rfl, rfl, q _ _ ((R.store hO h0 dx).store hO' h0' dy) k (fun vs hv => by
    rw [wipe_set (hv j (by simp)), wipe_set (hv i (by simp))]) fun n hn => ⟨(aside (ρ := ρ) (y := none) hO' hn).1.trans (aside (ρ := ρ) (y := none) hO hn).1, (aside (σ := σ) (x := none) hO' hn).2.trans (aside (σ := σ) (x := none) hO hn).2⟩⟩
theorem three_of {H : Hp} {vs : List V} {d e f : PyData} (h : DtL H vs [d, e, f]) : ∃ v u w, vs = [v, u, w] ∧ Dt H v d ∧ Dt H u e ∧ Dt H w f := by
  cases h with
  | cons h k =>
    obtain ⟨u, w, rfl, k1, k2⟩ := two_of k
    exact ⟨_, _, _, rfl, h, k1, k2⟩
theorem tg_three {b : Bool} {K : PySem.W.Frag} {i j l : Nat} (hO : i ∉ O := by decide) (h0 : i ≠ 0 := by decide) (hO' : j ∉ O := by decide) (h0' : j ≠ 0 := by decide) (hO2 : l ∉ O := by decide) (h02 : l ≠ 0 := by decide) : TgOk b O [i, j, l] (gTup K 3 (gCons (gName i) (gCons (gName j) (gCons (gName l) gNil)))) (pThree i j l) := by
  intro p F H σ ρ v d Kx Q R dt k q
  obtain ⟨a, b, c, rfl, k⟩ := k
  obtain ⟨ad, xs, rfl, ha, dl⟩ := dt.tup (K := K) R.sub
  obtain ⟨x, y, z, rfl, dx, dy, dz⟩ := three_of dl
  exact ⟨ad, [x, y, z], rfl, ha, rfl, x, [y, z], rfl, y, [z], rfl, z, [], rfl, rfl, q _ _ (((R.store hO h0 dx).store hO' h0' dy).store hO2 h02 dz) k (fun vs hv => by
    rw [wipe_set (hv l (by simp)), wipe_set (hv j (by simp)), wipe_set (hv i (by simp))]) fun n hn => ⟨(aside (ρ := ρ) (y := none) hO2 hn).1.trans ((aside (ρ := ρ) (y := none) hO' hn).1.trans (aside (ρ := ρ) (y := none) hO hn).1), (aside (σ := σ) (x := none) hO2 hn).2.trans ((aside (σ := σ) (x := none) hO' hn).2.trans (aside (σ := σ) (x := none) hO hn).2)⟩⟩
end

/-! ### what is walked -/
/-- while G stands n things come, of which the data are ds: they stand in G' or are new -/
structure Yl (b : Bool) (G G' : Hp) (J : It) (ds : List PyData) : Prop where
  go : ∀ i, i < ds.length → ∀ H, Sub G H → J.go i H
  stop : ∀ H, Sub G H → J.stop ds.length H
  yld : ∀ i d, ds[i]? = some d → ∀ H, Sub G H → ∀ x H', J.yld i H x H' → Sub H H' ∧ ∀ F, Sub G' F → Sub F H → Dk b (grow F H H') x d
/-- a walk over things that stand as long as the block runs -/
def eI (b : Bool) (O : List Nat) (g : DL) : TI := fun σ H R => ∃ p F ρ K, Rs O p F H σ ρ ∧ g ρ K ∧ ∀ ds, K ds → ∀ J H' G, Ext p H H' → Sub G (hid p H') → Yl b G (grow F H H') J ds → R J H'
/-- .. over what stands in what is made so far -/
def eIR (b : Bool) (O : List Nat) (g : DL) : TI := fun σ H R => ∃ p F ρ K, Rs O p F H σ ρ ∧ g ρ K ∧ ∀ ds, K ds → ∀ J H', Ext p H H' → Yl b (grow F H H') (grow F H H') J ds → R J H'
theorem impI {X : Cx} {tg e : Expr} {t t' : TI} (x : PI X tg e t) (k : ∀ σ H Q, t' σ H Q → t σ H Q) : PI X tg e t' := ⟨fun pins s σ H Q I q => x.run pins s σ H Q I (k σ H Q q)⟩
theorem sub_refl_grow {F H : Hp} (s : Sub F H) : Sub F (grow F H H) := fun a o h => by rw [grow_old (s a o h)]; exact h
theorem Yl.same {b : Bool} {G G' : Hp} {J : It} {xs : List V} {ds : List PyData} {C : Hp → Prop} (w : Walk J xs.length C (YAt xs)) (hC : ∀ H, Sub G H → C H) (dl : DtL G' xs ds) : Yl b G G' J ds where
  go := fun i hi H s => w.goes i H (by rw [dl.length]; exact hi) (hC H s)
  stop := fun H s => by rw [← dl.length]; exact w.stops H (hC H s)
  yld := fun i d e H s x H' y => by
    have hi : i < xs.length := by rw [dl.length]; exact (List.getElem?_eq_some_iff.mp e).1
    obtain ⟨e1, e2⟩ := w.yields i H x H' hi (hC H s) y
    subst e1
    obtain ⟨d', e3, dt⟩ := dl.get e2
    rw [e] at e3
    cases e3
    exact ⟨Sub.refl _, fun F h1 h2 => .inl ((dt.mono h1).mono (sub_refl_grow h2))⟩
/-- the items beside others, in new pairs -/
theorem Yl.pair {G G' : Hp} {J : It} {n : Nat} {C : Hp → Prop} {fx fy : Nat → Option V} {ds : List PyData} {dx dy : Nat → PyData} (w : Walk J n C (YPair fx fy)) (hC : ∀ H, Sub G H → C H) (hl : ds.length = n)
    (hd : ∀ i, i < n → ds[i]? = some (.tuple [dx i, dy i]) ∧ (∀ v, fx i = some v → Dt G' v (dx i)) ∧ ∀ v, fy i = some v → Dt G' v (dy i)) : Yl true G G' J ds where
  go := fun i hi H s => w.goes i H (by rw [← hl]; exact hi) (hC H s)
  stop := fun H s => by rw [hl]; exact w.stops H (hC H s)
  yld := fun i d e H s x H' y => by
    have hi : i < n := by rw [← hl]; exact (List.getElem?_eq_some_iff.mp e).1
    obtain ⟨T, a, b, rfl, hT, rfl, e1, e2⟩ := w.yields i H x H' hi (hC H s) y
    obtain ⟨e3, f1, f2⟩ := hd i hi
    rw [e] at e3
    cases e3
    refine ⟨sub_new hT, fun F h1 h2 => .inr ⟨rfl, T, [a, b], _, rfl, rfl, by rw [grow_new hT, upd_same], .cons ?_ (.cons ?_ .nil)⟩⟩
    · refine ((f1 a e1).mono h1).mono fun c o q => ?_
      rw [grow_old (h2 c o q)]; exact q
    · refine ((f2 b e2).mono h1).mono fun c o q => ?_
      rw [grow_old (h2 c o q)]; exact q
section
variable {X : Cx} {e tg : Expr} {O : List Nat} {b : Bool} {g : DE} {gl : DL} {pos p' : Pos}
def dSq (g : DE) : DL := fun ρ K => g ρ fun d => ∃ ds, d = .list ds ∧ K ds
def dTq (g : DE) : DL := fun ρ K => g ρ fun d => ∃ ds, d = .tuple ds ∧ K ds
theorem i_tup (x : PE X e (eR O g)) : PI X tg e (eIR b O (dTq g)) := impI (pi_tup x) fun σ H Q ⟨p, F, ρ, K, R, hg, hk⟩ =>
  ⟨p, F, ρ, _, R, hg, fun d ⟨ds, ed, kd⟩ v H1 ex dt => by
    subst ed
    obtain ⟨a, xs, rfl, ha, dl⟩ := dt.ref_tup
    exact ⟨a, rfl, ⟨xs, (ha.mono (R.grow_sub ex)).sq⟩, hk _ kd _ H1 ex (.same walk_tup (fun H s => (ha.mono s).sq) dl)⟩⟩
theorem i_lstR (x : PE X e (eR O g)) : PI X tg e (eIR b O (dSq g)) := impI (pi_list x) fun σ H Q ⟨p, F, ρ, K, R, hg, hk⟩ =>
  ⟨p, F, ρ, _, R, hg, fun d ⟨ds, ed, kd⟩ v H1 ex dt => by
    subst ed
    obtain ⟨a, xs, rfl, ha, dl⟩ := dt.ref_lst
    exact ⟨a, rfl, ⟨xs, SqL.of (R.grow_sub ex _ _ ha)⟩, hk _ kd _ H1 ex (.same walk_list (fun H s => SqL.of (s _ _ ha)) dl)⟩⟩
theorem I_of_R (x : PI X tg e (eIR b O gl)) : PI X tg e (eI b O gl) := impI x fun σ H Q ⟨p, F, ρ, K, R, hg, hk⟩ => ⟨p, F, ρ, K, R, hg, fun ds kd J H1 ex y => hk ds kd J H1 _ ex (R.grow_hid ex) y⟩
theorem i_lst (x : PE X e (eW O g)) : PI X tg e (eI b O (dSq g)) := impI (pi_list x) fun σ H Q ⟨p, F, ρ, K, R, hg, hk⟩ =>
  ⟨p, F, ρ, _, R, hg, fun d ⟨ds, ed, kd⟩ v H1 ex dt => by
    subst ed
    rcases dt with dt | ⟨a, xs, es, rfl, e1, h1, h2⟩
    · obtain ⟨a, xs, rfl, ha, dl⟩ := dt.ref_lst
      exact ⟨a, rfl, ⟨xs, SqL.of (R.grow_sub ex _ _ ha)⟩, hk _ kd _ H1 _ ex (R.grow_hid ex) (.same walk_list (fun H s => SqL.of (s _ _ ha)) dl)⟩
    · cases e1
      exact ⟨a, rfl, ⟨xs, SqL.of (hid_sub _ _ _ _ h1)⟩, hk _ kd _ H1 _ ex (Sub.refl _) (.same walk_list (fun H s => SqL.of (s _ _ h1)) h2)⟩⟩
/-- range(n) -/
def dRg (g : DE) : DL := fun ρ K => g ρ fun d => ∃ n : Int, d = .int n ∧ 0 ≤ n ∧ n ≤ 100000 ∧ K ((List.range n.toNat).map fun i : Nat => PyData.int (i : Int))
theorem Yl.rng {b : Bool} {G G' : Hp} {n : Nat} : Yl b G G' (Itr 0 n) ((List.range n).map fun i : Nat => PyData.int (i : Int)) where
  go := fun i hi H s => by
    have h : i < n := by simpa using hi
    exact h
  stop := fun H s => by
    show n ≤ _
    simp
  yld := fun i d e H s x H' y => by
    obtain ⟨e1, e2⟩ := y
    subst e1 e2
    have hi : i < n := by simpa using (List.getElem?_eq_some_iff.mp e).1
    rw [List.getElem?_map, List.getElem?_range hi] at e
    cases e
    rw [Int.zero_add]
    exact ⟨Sub.refl _, fun F _ _ => .inl (.int _)⟩
theorem i_rng (hg : Gl X "range") (hm : X.mg "range" = none) (x : PE X e (eV O g)) (hs : starEach (e :: []) X.env = (false, eval e X.env) :: starEach [] X.env := by rfl) (hs2 : starEach [e] X.env = [(false, eval e X.env)] := by rfl) : PI X tg (.Call (.Name "range" p') [e] [] pos) (eIR b O (dRg g)) := impI (pi_range1 hg hm (pa_cons x pa_nil hs) hs2) fun σ H Q ⟨p, F, ρ, K, R, hg, hk⟩ =>
  ⟨p, F, ρ, _, R, hg, fun d ⟨n, ed, h0, hn, kd⟩ v H1 ex dt => by
    subst ed
    cases dt
    exact ⟨n, rfl, by omega, by omega, hk _ kd _ H1 ex .rng⟩⟩

/-! ### list comprehensions -/
def wipeE (ρ : Env) : List Nat → Env
  | [] => ρ
  | v :: vs => (wipeE ρ vs).set v none
def lcGo (P : DP) (gt : DB) (ge : DE) (ρ : Env) : List PyData → List PyData → (List PyData → Prop) → Prop
  | [], acc, K => K acc
  | d :: r, acc, K => P d ρ fun ρ2 => gt ρ2 fun b => if b = true then ge ρ2 fun y => lcGo P gt ge ρ r (acc ++ [y]) K else lcGo P gt ge ρ r acc K
def dLc (gi : DL) (P : DP) (gt : DB) (ge : DE) (vs : List Nat) : DL := fun ρ K => gi ρ fun ds => ds.length ≤ 100000 ∧ lcGo P gt ge (wipeE ρ vs) ds [] K
theorem wipeE_len (ρ : Env) : ∀ vs, (wipeE ρ vs).length = ρ.length
  | [] => rfl
  | v :: vs => by unfold wipeE; rw [List.length_set, wipeE_len ρ vs]
theorem wipe_get {σ : L2.St} {i : Nat} : ∀ {vs : List Nat}, i ∉ vs → (wipe σ vs)[i]? = σ[i]?
  | [], _ => rfl
  | v :: vs, h => by
    unfold wipe
    rw [List.getElem?_set_ne (fun e => h (by rw [e]; exact List.mem_cons_self))]
    exact wipe_get fun m => h (List.mem_cons_of_mem _ m)
theorem wipeE_get {ρ : Env} {i : Nat} {d : PyData} : ∀ {vs : List Nat}, (wipeE ρ vs)[i]? = some (some d) → i ∉ vs ∧ ρ[i]? = some (some d)
  | [], h => ⟨by simp, h⟩
  | v :: vs, h => by
    unfold wipeE at h
    by_cases c : v = i
    · subst c
      by_cases c2 : v < (wipeE ρ vs).length
      · rw [List.getElem?_set_self c2] at h; cases h
      · rw [List.getElem?_eq_none (by simpa using c2)] at h; cases h
    · rw [List.getElem?_set_ne c] at h
      obtain ⟨h1, h2⟩ := wipeE_get h
      exact ⟨fun m => (List.mem_cons.mp m).elim (fun e => c e.symm) h1, h2⟩
theorem Rs.wipe {p : Option Addr} {F H : Hp} {σ : L2.St} {ρ : Env} (R : Rs O p F H σ ρ) {vs : List Nat} (h0 : 0 ∉ vs) : Rs O p F H (L2.wipe σ vs) (wipeE ρ vs) where
  sub := R.sub
  len := by rw [wipe_length, wipeE_len]; exact R.len
  dat := fun i e he hi => by
    obtain ⟨h1, h2⟩ := wipeE_get he
    rw [wipe_get h1]
    exact R.dat i e h2 hi
  own := fun i e he hi => by
    obtain ⟨h1, h2⟩ := wipeE_get he
    rw [wipe_get h1]
    exact R.own i e h2 hi
  apart := fun i k a e e' hi hk he he' ha ha' => by
    obtain ⟨h1, h2⟩ := wipeE_get he
    obtain ⟨h3, h4⟩ := wipeE_get he'
    rw [wipe_get h1] at ha
    rw [wipe_get h3] at ha'
    exact R.apart i k a e e' hi hk h2 h4 ha ha'
  hat := R.hat
  hatS := fun a q => by rw [wipe_get h0]; exact R.hatS a q
  hatO := R.hatO
  tups := R.tups
/-- the state beside a new list at D -/
theorem Rs.beside {p : Option Addr} {F H : Hp} {σ : L2.St} {ρ : Env} (R : Rs O p F H σ ρ) {H2 : Hp} (ex : Ext p H H2) {D : Addr} {acc : List V} (hD : H D = none) (h2 : H2 D = some (.lst acc)) : Rs O p (hid (some D) (grow F H H2)) H2 σ ρ where
  sub := (hid_sub _ _).trans (R.grow_sub ex)
  len := R.len
  dat := fun i d h k => by
    obtain ⟨v, h1, h3⟩ := R.dat i d h k
    refine ⟨v, h1, h3.mono fun b o q => ?_⟩
    have hb : some D ≠ some b := fun z => by cases z; rw [R.sub D o q] at hD; cases hD
    rw [hid_at hb]
    exact R.sub_grow ex b o q
  own := fun i d h k => by
    obtain ⟨a, o, h1, h3, h4, h5, h6⟩ := R.own i d h k
    have hb : some D ≠ some a := fun z => by cases z; rw [hD] at h3; cases h3
    refine ⟨a, o, h1, ex.keep a o h5 h3, by rw [hid_at hb, grow_old h3]; exact h4, h5, h6.mono fun b o q => ?_⟩
    have hb : some D ≠ some b := fun z => by cases z; rw [R.sub D o q] at hD; cases hD
    rw [hid_at hb]
    exact R.sub_grow ex b o q
  apart := R.apart
  hat := fun a q => by
    obtain ⟨q1, x, y, z, q2, q3⟩ := R.hat a q
    have hb : some D ≠ some a := fun z => by cases z; rw [hD] at q2; cases q2
    exact ⟨by rw [hid_at hb, grow_old q2]; exact q1, ex.hat a q ⟨x, y, z, q2, q3⟩⟩
  hatS := R.hatS
  hatO := R.hatO
  tups := fun a xs h => by
    have hb : some D ≠ some a := fun z => by
      cases z
      obtain ⟨o, h, _⟩ := h
      rw [h2] at h; cases h
    obtain ⟨o, h3, d⟩ := R.tup_grow ex a xs h
    exact ⟨o, by rw [hid_at hb]; exact h3, d⟩
theorem wipe_wipe (σ : L2.St) : ∀ vs, L2.wipe (L2.wipe σ vs) vs = L2.wipe σ vs := fun vs => by
  refine List.ext_getElem? fun i => ?_
  by_cases c : i ∈ vs
  · have aux : ∀ (σ : L2.St) (vs : List Nat), i ∈ vs → (L2.wipe σ vs)[i]? = if i < σ.length then some none else none := by
      intro σ vs
      induction vs with
      | nil => intro h; cases h
      | cons v vs ih =>
        intro h
        unfold L2.wipe
        by_cases e : v = i
        · subst e
          by_cases l : v < σ.length
          · rw [List.getElem?_set_self (by rw [wipe_length]; exact l), if_pos l]
          · rw [if_neg l, List.getElem?_eq_none (by rw [List.length_set, wipe_length]; omega)]
        · rw [List.getElem?_set_ne e]
          exact ih ((List.mem_cons.mp h).resolve_left fun z => e z.symm)
    rw [aux _ _ c, aux _ _ c, wipe_length]
  · rw [wipe_get c]
theorem lc_imp {wi : TI} {g : TG} {P : DP} {gt : DB} {ge : DE} {vs ts : List Nat} {gi : DL} {tt : TT} {te : TE} (htg : TgOk b O ts g P) (hts : ∀ i ∈ ts, i ∈ vs) (h0 : 0 ∉ vs) (hwi : ∀ σ H R, eI b O gi σ H R → wi σ H R) (htt : ∀ σ H Q, eT O gt σ H Q → tt σ H Q) (hte : ∀ σ H Q, eR O ge σ H Q → te σ H Q) {σ : L2.St} {H : Hp} {Q : VK} : eL O (dLc gi P gt ge vs) σ H Q → tLc wi g tt te vs σ H Q := fun ⟨p, F, ρ, K, R, hg, hk⟩ =>
  hwi σ H _ ⟨p, F, ρ, _, R, hg, fun ds ⟨hz, kd⟩ J H1 G ex hG y => fun D hD => by
    have hHD : H D = none := R.fresh ex hD
    have pD : p ≠ some D := R.pn hHD
    -- the block's state at each turn
    refine ⟨fun i m Hc => m = ds.length - i ∧ i ≤ ds.length ∧ Ext p H1 Hc ∧ ∃ acc accd, Hc D = some (.lst acc) ∧ acc.length ≤ i ∧ DtL (hid (some D) (grow F H Hc)) acc accd ∧ lcGo P gt ge (wipeE ρ vs) (ds.drop i) accd K, ⟨_, rfl, Nat.zero_le _, .new hD, [], [], upd_same, Nat.le_refl _, .nil, kd⟩, ?_⟩
    rintro i m Hc ⟨rfl, hi, ec, acc, accd, hDc, hla, da, kc⟩
    have sG : Sub G Hc := (hG.trans ec.hid).trans (hid_sub _ _)
    by_cases hlt : i < ds.length
    · refine .inr ⟨y.go i hlt Hc sG, fun H' => Ext p H1 H' ∧ ∃ acc accd, H' D = some (.lst acc) ∧ acc.length ≤ i + 1 ∧ DtL (hid (some D) (grow F H H')) acc accd ∧ lcGo P gt ge (wipeE ρ vs) (ds.drop (i + 1)) accd K, fun H' w => ⟨ds.length - (i + 1), by omega, rfl, hlt, w⟩, fun v H3 yv => ?_⟩
      obtain ⟨s3, dt3⟩ := y.yld i ds[i] (List.getElem?_eq_getElem hlt) Hc sG v H3 yv
      have e3 : Ext p H1 H3 := ec.trans (.of_sub s3)
      have exx := ex.trans e3
      rw [List.drop_eq_getElem_cons hlt] at kc
      have kc : P ds[i] (wipeE ρ vs) fun ρ2 => gt ρ2 fun b => if b = true then ge ρ2 fun y => lcGo P gt ge (wipeE ρ vs) (ds.drop (i + 1)) (accd ++ [y]) K else lcGo P gt ge (wipeE ρ vs) (ds.drop (i + 1)) accd K := kc
      have R3 : Rs O p (hid (some D) (grow F H H3)) H3 (L2.wipe σ vs) (wipeE ρ vs) := (R.wipe h0).beside exx hHD (s3 _ _ hDc)
      have dv : Dk b (hid (some D) (grow F H H3)) v ds[i] := by
        have q := dt3 (hid (some D) (grow F H Hc)) (fun b o q => ?_) ((hid_sub _ _).trans (R.grow_sub (ex.trans ec)))
        · refine q.mono fun b o q => ?_
          cases q1 : Hc b with
          | none =>
            rw [grow_new q1] at q
            have hb : some D ≠ some b := fun z => by cases z; rw [hDc] at q1; cases q1
            rw [hid_at hb]
            rw [grow_new (R.fresh (ex.trans ec) q1)]
            exact q
          | some u =>
            rw [grow_old q1] at q
            have hb : some D ≠ some b := fun z => by rw [z, hid_self] at q; cases q
            rw [hid_at hb] at q ⊢
            exact R.first (.of_sub s3) b o q
        · have hb : some D ≠ some b := fun z => by cases z; rw [grow_new hHD, hD] at q; cases q
          rw [hid_at hb]
          exact R.first ec b o q
      refine htg R3 dv kc fun σ2 ρ2 R4 kt hw _ => ⟨(hw vs hts).trans (wipe_wipe σ vs), htt _ _ _ ⟨p, _, ρ2, _, R4, kt, fun b kb H5 e5 => ?_⟩⟩
      have e5' : Ext p H1 H5 := e3.trans e5
      have hD5 : H5 D = some (.lst acc) := e5.keep D _ pD (s3 _ _ hDc)
      have up : ∀ {A B : Hp}, Ext p H1 A → Ext p A B → Sub (hid (some D) (grow F H A)) (hid (some D) (grow F H B)) := fun eA eB b o q => by
        have hb : some D ≠ some b := fun z => by rw [z, hid_self] at q; cases q
        rw [hid_at hb] at q ⊢
        exact R.first eB b o q
      have da5 : DtL (hid (some D) (grow F H H5)) acc accd := da.mono (up ec ((Ext.of_sub s3).trans e5))
      cases b with
      | false =>
        rw [if_neg Bool.false_ne_true] at kb
        refine iteF ?_
        exact ⟨e5', acc, accd, hD5, Nat.le_succ_of_le hla, da5, kb⟩
      | true =>
        rw [if_pos rfl] at kb
        refine iteT ?_
        refine hte _ _ _ ⟨p, _, ρ2, _, R4.grown e5, kb, fun yd ky yv H6 e6 dy => ⟨acc, e6.keep D _ pD hD5, szlt (by omega), ?_, acc ++ [yv], accd ++ [yd], upd_same, by rw [List.length_append]; exact Nat.succ_le_succ hla, ?_, ky⟩⟩
        · have ew := e5'.trans e6
          refine ⟨fun a o hp q => ?_, fun a hp hh => ?_⟩
          · rw [upd_ne (fun c => by rw [c, hD] at q; cases q)]
            exact ew.keep a o hp q
          · obtain ⟨x, y, z, q, r⟩ := ew.hat a hp hh
            exact ⟨x, y, z, by rw [upd_ne (fun c => pD (by rw [hp, c]))]; exact q, r⟩
        · have fin : Sub (hid (some D) (grow F H H6)) (hid (some D) (grow F H (upd H6 D (.lst (acc ++ [yv]))))) := fun b o q => by
            have hb : some D ≠ some b := fun z => by rw [z, hid_self] at q; cases q
            rw [hid_at hb] at q ⊢
            cases q1 : H b with
            | none => rw [grow_new q1] at q ⊢; rw [upd_ne (fun z => hb (by rw [z]))]; exact q
            | some u => rw [grow_old q1] at q ⊢; exact q
          refine (da5.mono ((up e5' e6).trans fin)).append (.cons (dy.mono fun b o q => fin b o ?_) .nil)
          have q := R4.grown2 e5 e6 b o q
          cases q1 : H3 b with
          | none =>
            rw [grow_new q1] at q
            have hb : some D ≠ some b := fun z => by cases z; rw [s3 _ _ hDc] at q1; cases q1
            rw [hid_at hb, grow_new (R.fresh exx q1)]
            exact q
          | some u =>
            rw [grow_old q1] at q
            have hb : some D ≠ some b := fun z => by rw [z, hid_self] at q; cases q
            rw [hid_at hb] at q ⊢
            exact R.first (e5.trans e6) b o q
    · have e1 : i = ds.length := by omega
      subst e1
      rw [List.drop_length] at kc
      exact .inl ⟨y.stop Hc sG, hk accd kc D acc Hc (ex.trans ec) hHD hDc da⟩⟩
/-- one clause; the walk, the tests and the item as they have been read -/
theorem l_lc {g : TG} {P : DP} {gt : DB} {ge : DE} {vs ts : List Nat} {gi : DL} (htg : TgOk b O ts g P) (x : PE X e (tLc (eI b O gi) g (eT O gt) (eR O ge) vs)) (hts : ∀ i ∈ ts, i ∈ vs := by decide) (h0 : 0 ∉ vs := by decide) : PE X e (eL O (dLc gi P gt ge vs)) :=
  imp x fun σ H Q => lc_imp htg hts h0 (fun _ _ _ q => q) (fun _ _ _ q => q) (fun _ _ _ q => q)
def dYes : DB := fun _ K => K true
theorem yes_imp {σ : L2.St} {H : Hp} {Q : Bool → Hp → Prop} : eT O dYes σ H Q → tYes σ H Q := fun ⟨p, F, ρ, K, R, hg, hk⟩ => hk true hg H (.refl _ _)
theorem pts_yes : PTs X [] (eT O dYes) := ⟨fun pins s σ H Q I q => pts_nil.run pins s σ H Q I (yes_imp q)⟩
end
end Kb
set_option Elab.async false
set_option linter.all false
set_option maxRecDepth 100000
/-! D7: readings over data: statements. -/
namespace Kb
open PySem L2

structure DEn where
  nx : Env → Prop
  rt : PyData → Prop
  rl : List PyData → Prop
  bk : Env → Prop := fun _ => False
  ct : Env → Prop := fun _ => False
abbrev DS := DEn → Env → Prop
/-- the state within a call that began with F0 in H0; G: what the loops around walk -/
structure S8 (O : List Nat) (p : Option Addr) (F0 H0 G F H : Hp) (σ : L2.St) (ρ : Env) : Prop where
  rs : Rs O p F H σ ρ
  gF : Sub G F
  f0 : Sub F (grow F0 H0 H)
  ext : Ext p H0 H
  nw : ∀ i a d, i ∈ O → ρ[i]? = some (some d) → σ[i]? = some (some (.ref a)) → H0 a = none
  hat0 : ∀ a, p = some a → HatAt H0 a ∧ F0 a = none
structure Lk (O : List Nat) (p : Option Addr) (F0 H0 G : Hp) (De : DEn) (D : Ends) : Prop where
  nx : ∀ F H σ ρ, S8 O p F0 H0 G F H σ ρ → De.nx ρ → D.nx σ H
  bk : ∀ F H σ ρ, S8 O p F0 H0 G F H σ ρ → De.bk ρ → D.bk σ H
  ct : ∀ F H σ ρ, S8 O p F0 H0 G F H σ ρ → De.ct ρ → D.ct σ H
  rt : ∀ d v H, Ext p H0 H → Dt (grow F0 H0 H) v d → De.rt d → D.rt v H
  rl : ∀ ds a xs H, Ext p H0 H → H0 a = none → H a = some (.lst xs) → DtL (hid (some a) (grow F0 H0 H)) xs ds → De.rl ds → D.rt (.ref a) H
def sS (O : List Nat) (g : DS) : TS := fun D σ H => ∃ p F0 H0 G F ρ De, S8 O p F0 H0 G F H σ ρ ∧ g De ρ ∧ Lk O p F0 H0 G De D

section
variable {O : List Nat} {p : Option Addr} {F0 H0 G F F' H H' : Hp} {σ σ' : L2.St} {ρ ρ' : Env}
theorem S8.old (S : S8 O p F0 H0 G F H σ ρ) {a : Addr} (h : H a = none) : H0 a = none := by
  cases q : H0 a with
  | none => rfl
  | some o =>
    by_cases z : p = some a
    · obtain ⟨x, y, w, q3, _⟩ := S.ext.hat a z (S.hat0 a z).1
      rw [q3] at h; cases h
    · rw [S.ext.keep a o z q] at h; cases h
theorem S8.growF (S : S8 O p F0 H0 G F H σ ρ) (ex : Ext p H H') : Sub (grow F H H') (grow F0 H0 H') := fun a o q => by
  cases q1 : H a with
  | none =>
    rw [grow_new q1] at q
    rw [grow_new (S.old q1)]
    exact q
  | some u =>
    rw [grow_old q1] at q
    have q2 := S.f0 a o q
    cases q3 : H0 a with
    | none =>
      rw [grow_new q3] at q2 ⊢
      exact ex.keep a o (fun z => by rw [(S.rs.hat a z).1] at q; cases q) q2
    | some w =>
      rw [grow_old q3] at q2 ⊢
      exact q2
/-- on to a later state -/
theorem S8.on (S : S8 O p F0 H0 G F H σ ρ) (ex : Ext p H H') (R : Rs O p F' H' σ' ρ') (s1 : Sub F F') (s2 : Sub F' (grow F H H')) (nw : ∀ i a d, i ∈ O → ρ'[i]? = some (some d) → σ'[i]? = some (some (.ref a)) → (∃ e, ρ[i]? = some (some e) ∧ σ[i]? = some (some (.ref a))) ∨ H a = none) : S8 O p F0 H0 G F' H' σ' ρ' where
  rs := R
  gF := S.gF.trans s1
  f0 := s2.trans (S.growF ex)
  ext := S.ext.trans ex
  nw := fun i a d hi h1 h2 => by
    rcases nw i a d hi h1 h2 with ⟨e, h3, h4⟩ | h3
    · exact S.nw i a e hi h3 h4
    · exact S.old h3
  hat0 := S.hat0
theorem S8.same (S : S8 O p F0 H0 G F H σ ρ) (ex : Ext p H H') : S8 O p F0 H0 G (grow F H H') H' σ ρ := S.on ex (S.rs.grown ex) (S.rs.sub_grow ex) (Sub.refl _) fun i a d hi h1 h2 => .inl ⟨d, h1, h2⟩
theorem S8.weak {G' : Hp} (S : S8 O p F0 H0 G F H σ ρ) (s : Sub G' G) : S8 O p F0 H0 G' F H σ ρ := ⟨S.rs, s.trans S.gF, S.f0, S.ext, S.nw, S.hat0⟩
theorem S8.at (S : S8 O p F0 H0 G F H σ ρ) : S8 O p F0 H0 F F H σ ρ := ⟨S.rs, Sub.refl _, S.f0, S.ext, S.nw, S.hat0⟩

/-! ### what goes into a slot -/
def SlotOk (O : List Nat) (F' H H' : Hp) (j : Nat) (v : V) (d : PyData) : Prop := (j ∉ O ∧ Dt F' v d) ∨ (j ∈ O ∧ ∃ a o, v = .ref a ∧ H a = none ∧ H' a = some o ∧ F' a = none ∧ OwnD F' o d)
theorem Rs.storeO (R : Rs O p F H σ ρ) {j : Nat} {a : Addr} {o : HO} {d : PyData} (h0 : j ≠ 0) (hj : j ∈ O) (h1 : H a = some o) (h2 : F a = none) (h3 : p ≠ some a) (h4 : OwnD F o d) (h5 : ∀ i e, i ∈ O → i ≠ j → ρ[i]? = some (some e) → σ[i]? ≠ some (some (.ref a))) : Rs O p F H (σ.set j (some (.ref a))) (ρ.set j (some d)) where
  sub := R.sub
  len := by rw [List.length_set, List.length_set]; exact R.len
  dat := fun i e he hi => by
    have c : j ≠ i := fun z => hi (z ▸ hj)
    rw [List.getElem?_set_ne c] at he ⊢
    exact R.dat i e he hi
  own := fun i e he hi => by
    by_cases c : j = i
    · subst c
      have hl : j < ρ.length := by
        obtain ⟨q, _⟩ := List.getElem?_eq_some_iff.mp he
        rwa [List.length_set] at q
      rw [List.getElem?_set_self hl] at he
      cases he
      exact ⟨a, o, List.getElem?_set_self (by rw [R.len]; exact hl), h1, h2, h3, h4⟩
    · rw [List.getElem?_set_ne c] at he ⊢
      exact R.own i e he hi
  apart := fun i k b e e' hi hk he he' hb hb' => by
    by_cases c : j = i
    · subst c
      by_cases c2 : j = k
      · exact c2
      · exfalso
        rw [List.getElem?_set_ne c2] at he' hb'
        have hl : j < σ.length := by
          obtain ⟨q, _⟩ := List.getElem?_eq_some_iff.mp hb
          rwa [List.length_set] at q
        rw [List.getElem?_set_self hl] at hb
        cases hb
        exact h5 k e' hk (fun z => c2 z.symm) he' hb'
    · rw [List.getElem?_set_ne c] at he hb
      by_cases c2 : j = k
      · subst c2
        exfalso
        have hl : j < σ.length := by
          obtain ⟨q, _⟩ := List.getElem?_eq_some_iff.mp hb'
          rwa [List.length_set] at q
        rw [List.getElem?_set_self hl] at hb'
        cases hb'
        exact h5 i e hi (fun z => c z.symm) he hb
      · rw [List.getElem?_set_ne c2] at he' hb'
        exact R.apart i k b e e' hi hk he he' hb hb'
  hat := R.hat
  hatS := fun a q => by rw [List.getElem?_set_ne h0]; exact R.hatS a q
  hatO := R.hatO
  tups := R.tups
/-- a slot is stored -/
theorem S8.put (S : S8 O p F0 H0 G F H σ ρ) (ex : Ext p H H') (R : Rs O p F' H' σ ρ) (s1 : Sub F F') (s2 : Sub F' (grow F H H')) {j : Nat} {v : V} {d : PyData} (h0 : j ≠ 0) (k : SlotOk O F' H H' j v d) : S8 O p F0 H0 G F' H' (σ.set j (some v)) (ρ.set j (some d)) := by
  rcases k with ⟨hj, dt⟩ | ⟨hj, a, o, rfl, ha, ho, hF, ow⟩
  · refine S.on ex (R.store hj h0 dt) s1 s2 fun i b e hi h1 h2 => .inl ?_
    have c : j ≠ i := fun z => hj (z ▸ hi)
    rw [List.getElem?_set_ne c] at h1 h2
    exact ⟨e, h1, h2⟩
  · refine S.on ex (R.storeO h0 hj ho hF (S.rs.pn ha) ow fun i e hi hij h1 h2 => ?_) s1 s2 fun i b e hi h1 h2 => ?_
    · obtain ⟨b, u, e1, e2, _⟩ := S.rs.own i e h1 hi
      rw [e1] at h2
      cases h2
      rw [ha] at e2; cases e2
    · by_cases c : j = i
      · subst c
        have hl : j < σ.length := by
          obtain ⟨q, _⟩ := List.getElem?_eq_some_iff.mp h2
          rwa [List.length_set] at q
        rw [List.getElem?_set_self hl] at h2
        cases h2
        exact .inr ha
      · rw [List.getElem?_set_ne c] at h1 h2
        exact .inl ⟨e, h1, h2⟩
end
/-- a value that goes into slot j -/
def eS (O : List Nat) (j : Nat) (g : DE) : TE := fun σ H Q => ∃ p F ρ K, Rs O p F H σ ρ ∧ g ρ K ∧ ∀ d, K d → ∀ v H' F', Ext p H H' → Rs O p F' H' σ ρ → Sub F F' → Sub F' (grow F H H') → SlotOk O F' H H' j v d → Q v H'
section
variable {X : Cx} {e ea eb : Expr} {st : Stmt} {rest sts stt stf : List Stmt} {O : List Nat} {g h : DE} {gl hl : DL} {gs hs : DS} {t : DB} {pos : Pos} {i j : Nat}
theorem S_imp_R (hj : j ∉ O := by decide) {σ : L2.St} {H : Hp} {Q : VK} : eS O j g σ H Q → eR O g σ H Q := fun ⟨p, F, ρ, K, R, hg, hk⟩ =>
  ⟨p, F, ρ, K, R, hg, fun d kd v H1 ex dt => hk d kd v H1 _ ex (R.grown ex) (R.sub_grow ex) (Sub.refl _) (.inl ⟨hj, dt⟩)⟩
theorem hid_self_sub {a : Option Addr} {A : Hp} : Sub (hid a A) A := hid_sub a A
theorem S_imp_L (hj : j ∈ O := by decide) {σ : L2.St} {H : Hp} {Q : VK} : eS O j (dLst gl) σ H Q → eL O gl σ H Q := fun ⟨p, F, ρ, K, R, hg, hk⟩ =>
  ⟨p, F, ρ, _, R, hg, fun ds kd a xs H1 ex hn ha dl => hk _ kd (.ref a) H1 (hid (some a) (grow F H H1)) ex (R.beside ex hn ha) (fun b o q => by
    rw [hid_at (fun z => by cases z; rw [R.sub a o q] at hn; cases hn)]
    exact R.sub_grow ex b o q) (hid_sub _ _) (.inr ⟨hj, a, _, rfl, hn, ha, hid_self, .inl ⟨xs, ds, rfl, rfl, dl⟩⟩)⟩
theorem S_of_R (x : PE X e (eR O g)) (hj : j ∉ O := by decide) : PE X e (eS O j g) := imp x fun σ H Q => S_imp_R hj
theorem S_of_L (x : PE X e (eL O gl)) (hj : j ∈ O := by decide) : PE X e (eS O j (dLst gl)) := imp x fun σ H Q => S_imp_L hj
def dDict : DE := fun _ K => K (.dict [])
theorem S_dict (hj : j ∈ O := by decide) : PE X (.Dict [] [] pos) (eS O j dDict) := imp pe_dnewK fun σ H Q ⟨p, F, ρ, K, R, hg, hk⟩ => fun a ha => by
  have ex : Ext p H (upd H a (.dK [])) := .new ha
  have R' : Rs O p (hid (some a) (grow F H (upd H a (.dK [])))) (upd H a (.dK [])) σ ρ := by
    have hF : ∀ b o, F b = some o → some a ≠ some b := fun b o q z => by cases z; rw [R.sub a o q] at ha; cases ha
    exact {
      sub := (hid_sub _ _).trans (R.grow_sub ex)
      len := R.len
      dat := fun i d h k => by
        obtain ⟨v, h1, h3⟩ := R.dat i d h k
        exact ⟨v, h1, h3.mono fun b o q => by rw [hid_at (hF b o q)]; exact R.sub_grow ex b o q⟩
      own := fun i d h k => by
        obtain ⟨b, o, h1, h3, h4, h5, h6⟩ := R.own i d h k
        have hb : some a ≠ some b := fun z => by cases z; rw [ha] at h3; cases h3
        exact ⟨b, o, h1, ex.keep b o h5 h3, by rw [hid_at hb, grow_old h3]; exact h4, h5, h6.mono fun b o q => by rw [hid_at (hF b o q)]; exact R.sub_grow ex b o q⟩
      apart := R.apart
      hat := fun b q => by
        obtain ⟨q1, x, y, z, q2, q3⟩ := R.hat b q
        have hb : some a ≠ some b := fun z => by cases z; rw [ha] at q2; cases q2
        exact ⟨by rw [hid_at hb, grow_old q2]; exact q1, ex.hat b q ⟨x, y, z, q2, q3⟩⟩
      hatS := R.hatS
      hatO := R.hatO
      tups := fun b xs h => by
        have hb : some a ≠ some b := fun z => by
          cases z
          obtain ⟨o, h, _⟩ := h
          rw [upd_same] at h; cases h
        obtain ⟨o, h3, d⟩ := R.tup_grow ex b xs h
        exact ⟨o, by rw [hid_at hb]; exact h3, d⟩ }
  exact hk _ hg (.ref a) _ _ ex R' (fun b o q => by
    rw [hid_at (fun z => by cases z; rw [R.sub a o q] at ha; cases ha)]
    exact R.sub_grow ex b o q) (hid_sub _ _) (.inr ⟨hj, a, _, rfl, ha, upd_same, hid_self, (.inr ⟨[], [], rfl, rfl, .nil⟩)⟩)

/-! ### statements -/
theorem impS {t t' : TS} (x : PS X st t) (k : ∀ D σ H, t' D σ H → t D σ H) : PS X st t' := ⟨fun pins s σ H D I q => x.run pins s σ H D I (k D σ H q)⟩
theorem impSs {t t' : TS} (x : PSs X sts t) (k : ∀ D σ H, t' D σ H → t D σ H) : PSs X sts t' := ⟨fun pins s σ H D I q => x.run pins s σ H D I (k D σ H q)⟩
def dSeq (g h : DS) : DS := fun D ρ => g { D with nx := h D } ρ
theorem s_cons (x : PS X st (sS O gs)) (y : PSs X rest (sS O hs)) : PSs X (st :: rest) (sS O (dSeq gs hs)) := impSs (pss_cons x y) fun D σ H ⟨p, F0, H0, G, F, ρ, De, S, hg, L⟩ =>
  ⟨p, F0, H0, G, F, ρ, { De with nx := hs De }, S, hg, ⟨fun F H σ ρ S' q => ⟨p, F0, H0, G, F, ρ, De, S', q, L⟩, L.bk, L.ct, L.rt, L.rl⟩⟩
theorem s_one (x : PS X st (sS O gs)) : PSs X [st] (sS O gs) := pss_one x
def dSkip : DS := fun D ρ => D.nx ρ
theorem s_nil : PSs X [] (sS O dSkip) := impSs pss_nil fun D σ H ⟨p, F0, H0, G, F, ρ, De, S, hg, L⟩ => L.nx _ _ _ _ S hg
def dFail : DS := fun _ _ => False
theorem s_fail : PS X st (sS O dFail) := impS ps_never fun D σ H ⟨p, F0, H0, G, F, ρ, De, S, hg, L⟩ => hg
theorem ss_fail : PSs X sts (sS O dFail) := impSs pss_never fun D σ H ⟨p, F0, H0, G, F, ρ, De, S, hg, L⟩ => hg
def dIfS (t : DB) (g h : DS) : DS := fun D ρ => t ρ fun b => if b = true then g D ρ else h D ρ
theorem s_if (c : PT X e (eT O t)) (x : PSs X stt (sS O gs)) (y : PSs X stf (sS O hs)) : PS X (.If e stt stf pos) (sS O (dIfS t gs hs)) := impS (ps_if c x y) fun D σ H ⟨p, F0, H0, G, F, ρ, De, S, hg, L⟩ =>
  ⟨p, F, ρ, _, S.rs, hg, fun b kb H1 ex => by
    cases b with
    | true => rw [if_pos rfl] at kb ⊢; exact ⟨p, F0, H0, G, _, ρ, De, S.same ex, kb, L⟩
    | false => rw [if_neg Bool.false_ne_true] at kb ⊢; exact ⟨p, F0, H0, G, _, ρ, De, S.same ex, kb, L⟩⟩
def dRet (g : DE) : DS := fun D ρ => g ρ D.rt
theorem s_ret (x : PE X e (eR O g)) : PS X (.Return (some e) pos) (sS O (dRet g)) := impS (ps_ret x) fun D σ H ⟨p, F0, H0, G, F, ρ, De, S, hg, L⟩ =>
  ⟨p, F, ρ, _, S.rs, hg, fun d kd v H1 ex dt => L.rt d v H1 (S.ext.trans ex) (dt.mono (S.growF ex)) kd⟩
def dRetL (g : DL) : DS := fun D ρ => g ρ D.rl
theorem S8.ret_list {p : Option Addr} {F0 H0 G F H H' : Hp} {σ : L2.St} {ρ : Env} (S : S8 O p F0 H0 G F H σ ρ) (ex : Ext p H H') {a : Addr} : Sub (hid (some a) (grow F H H')) (hid (some a) (grow F0 H0 H')) := fun b o q => by
  have hb : some a ≠ some b := fun z => by rw [z, hid_self] at q; cases q
  rw [hid_at hb] at q ⊢
  exact S.growF ex b o q
theorem s_retL (x : PE X e (eL O gl)) : PS X (.Return (some e) pos) (sS O (dRetL gl)) := impS (ps_ret x) fun D σ H ⟨p, F0, H0, G, F, ρ, De, S, hg, L⟩ =>
  ⟨p, F, ρ, _, S.rs, hg, fun ds kd a xs H1 ex hn ha dl => L.rl ds a xs H1 (S.ext.trans ex) (S.old hn) ha (dl.mono (S.ret_list ex)) kd⟩
/-- a list of its own is handed back -/
def dOwnL (i : Nat) : DL := fun ρ K => match ρ[i]? with
  | some (some (.list ds)) => K ds
  | _ => False
theorem s_retO (x : PE X e (tVar i)) (hi : i ∈ O := by decide) : PS X (.Return (some e) pos) (sS O (dRetL (dOwnL i))) := impS (ps_ret x) fun D σ H ⟨p, F0, H0, G, F, ρ, De, S, hg, L⟩ => by
  unfold dRetL dOwnL at hg
  split at hg
  · rename_i ds e1
    obtain ⟨a, o, e2, ha, hF, hp, w⟩ := S.rs.own i _ e1 hi
    rcases w with ⟨xs, ds', rfl, e3, dt⟩ | ⟨kvs, ps, _, e3, _⟩
    · cases e3
      refine ⟨.ref a, e2, L.rl ds a xs H S.ext (S.nw i a _ hi e1 e2) ha (dt.mono fun b o q => ?_) hg⟩
      rw [hid_at (fun z => by cases z; rw [hF] at q; cases q)]
      exact S.f0 b o q
    · cases e3
  · exact hg.elim
def dSet (j : Nat) (g : DE) : DS := fun D ρ => g ρ fun d => D.nx (ρ.set j (some d))
theorem s_set {te : TE} (x : PS X st (tAsg te (gName j))) (k : ∀ σ H Q, eS O j g σ H Q → te σ H Q) (h0 : j ≠ 0 := by decide) : PS X st (sS O (dSet j g)) := impS x fun D σ H ⟨p, F0, H0, G, F, ρ, De, S, hg, L⟩ =>
  k σ H _ ⟨p, F, ρ, _, S.rs, hg, fun d kd v H1 F1 ex R s1 s2 sl => L.nx F1 H1 _ _ (S.put ex R s1 s2 h0 sl) kd⟩
def dPar (i j : Nat) (g h : DE) : DS := fun D ρ => g ρ fun d => h ρ fun e => D.nx ((ρ.set i (some d)).set j (some e))
theorem SlotOk.keep {p : Option Addr} {F F1 F2 H H1 H2 : Hp} {σ : L2.St} {ρ : Env} (R : Rs O p F H σ ρ) (ex : Ext p H H1) (R1 : Rs O p F1 H1 σ ρ) (ex2 : Ext p H1 H2) (s1 : Sub F1 F2) (s2 : Sub F2 (grow F1 H1 H2)) {v : V} {d : PyData} (k : SlotOk O F1 H H1 j v d) : SlotOk O F2 H H2 j v d := by
  rcases k with ⟨hj, dt⟩ | ⟨hj, a, o, rfl, ha, ho, hF, ow⟩
  · exact .inl ⟨hj, dt.mono s1⟩
  · refine .inr ⟨hj, a, o, rfl, ha, ex2.keep a o (R.pn ha) ho, ?_, ow.mono s1⟩
    cases q : F2 a with
    | none => rfl
    | some u =>
      have q2 := s2 a u q
      rw [grow_old ho, hF] at q2
      cases q2
theorem sub_via {p : Option Addr} {F F1 F2 H H1 H2 : Hp} {σ : L2.St} {ρ : Env} (R : Rs O p F H σ ρ) (ex : Ext p H H1) (ex2 : Ext p H1 H2) (s1 : Sub F1 (grow F H H1)) (s2 : Sub F2 (grow F1 H1 H2)) : Sub F2 (grow F H H2) := fun a o q => by
  have q2 := s2 a o q
  refine R.grown2 ex ex2 a o ?_
  cases q1 : H1 a with
  | none => rw [grow_new q1] at q2 ⊢; exact q2
  | some u => rw [grow_old q1] at q2 ⊢; exact s1 a o q2
/-- two slots are stored, the first then the second, at once -/
theorem S8.put2 {p : Option Addr} {F0 H0 G F F1 F2 H H1 H2 : Hp} {σ : L2.St} {ρ : Env} (S : S8 O p F0 H0 G F H σ ρ) (ex : Ext p H H1) (R1 : Rs O p F1 H1 σ ρ) (s1 : Sub F F1) (s2 : Sub F1 (grow F H H1)) (ex2 : Ext p H1 H2) (R2 : Rs O p F2 H2 σ ρ) (s3 : Sub F1 F2) (s4 : Sub F2 (grow F1 H1 H2))
    {v w : V} {d e : PyData} (hi : i ≠ 0) (hj : j ≠ 0) (k1 : SlotOk O F1 H H1 i v d) (k2 : SlotOk O F2 H1 H2 j w e) : S8 O p F0 H0 G F2 H2 ((σ.set i (some v)).set j (some w)) ((ρ.set i (some d)).set j (some e)) := by
  have Sa : S8 O p F0 H0 G F2 H2 (σ.set i (some v)) (ρ.set i (some d)) := S.put (ex.trans ex2) R2 (s1.trans s3) (sub_via S.rs ex ex2 s2 s4) hi (k1.keep S.rs ex R1 ex2 s3 s4)
  rcases k2 with ⟨hjO, dt⟩ | ⟨hjO, a, o, rfl, ha, ho, hF, ow⟩
  · refine Sa.on (Ext.refl _ _) (Sa.rs.store hjO hj dt) (Sub.refl _) (Sa.rs.sub_grow (Ext.refl _ _)) fun k b u hk h1 h2 => .inl ?_
    have c : j ≠ k := fun z => hjO (z ▸ hk)
    rw [List.getElem?_set_ne c] at h1 h2
    exact ⟨u, h1, h2⟩
  · have Sb : S8 O p F0 H0 G F1 H1 (σ.set i (some v)) (ρ.set i (some d)) := S.put ex R1 s1 s2 hi k1
    exact { rs := Sa.rs.storeO hj hjO ho hF (Sb.rs.pn ha) ow fun k u hk hkj h1 h2 => by
              obtain ⟨b, z, e1, e2, _⟩ := Sb.rs.own k u h1 hk
              rw [e1] at h2
              cases h2
              rw [ha] at e2; cases e2
            gF := Sa.gF
            f0 := Sa.f0
            ext := Sa.ext
            nw := fun k b u hk h1 h2 => by
              by_cases c : j = k
              · subst c
                have hl : j < (σ.set i (some v)).length := by
                  obtain ⟨q, _⟩ := List.getElem?_eq_some_iff.mp h2
                  rwa [List.length_set] at q
                rw [List.getElem?_set_self hl] at h2
                cases h2
                exact Sb.old ha
              · rw [List.getElem?_set_ne c] at h1 h2
                exact Sa.nw k b u hk h1 h2
            hat0 := Sa.hat0 }
theorem s_par {ta : TA} (x : PS X st (tPar i j ta)) (k : ∀ σ H R, tCons (eS O i g) (tCons (eS O j h) tNil) σ H R → ta σ H R) (hi : i ≠ 0 := by decide) (hj : j ≠ 0 := by decide) : PS X st (sS O (dPar i j g h)) := impS x fun D σ H ⟨p, F0, H0, G, F, ρ, De, S, hg, L⟩ =>
  k σ H _ ⟨p, F, ρ, _, S.rs, hg, fun d kd v H1 F1 ex R1 s1 s2 k1 => ⟨p, F1, ρ, _, R1, kd, fun e ke w H2 F2 ex2 R2 s3 s4 k2 => ⟨v, w, rfl, L.nx F2 H2 _ _ (S.put2 ex R1 s1 s2 ex2 R2 s3 s4 hi hj k1 k2) ke⟩⟩⟩
theorem s_par2 {ta : TA} {K : PySem.W.Frag} (x : PS X st (tAsg (tTupA ta) (gTup K 2 (gCons (gName i) (gCons (gName j) gNil))))) (k : ∀ σ H R, tCons (eS O i g) (tCons (eS O j h) tNil) σ H R → ta σ H R) (hi : i ≠ 0 := by decide) (hj : j ≠ 0 := by decide) : PS X st (sS O (dPar i j g h)) := impS x fun D σ H ⟨p, F0, H0, G, F, ρ, De, S, hg, L⟩ =>
  k σ H _ ⟨p, F, ρ, _, S.rs, hg, fun d kd v H1 F1 ex R1 s1 s2 k1 => ⟨p, F1, ρ, _, R1, kd, fun e ke w H2 F2 ex2 R2 s3 s4 k2 => ⟨by show 2 ≤ sizeLine; decide, fun q H3 nt => by
    have S2 := S.put2 ex R1 s1 s2 ex2 R2 s3 s4 hi hj k1 k2
    obtain ⟨hq, o, od, rfl⟩ := nt
    have ta : TupA (upd H2 q (.frz o (.tup [v, w]))) q [v, w] := ⟨o, upd_same, od⟩
    exact ⟨q, [v, w], rfl, ta.sq, rfl, v, [w], rfl, w, [], rfl, rfl, L.nx _ _ _ _ (S2.same (.new hq)) ke⟩⟩⟩⟩
/-- into a target of several names -/
theorem S8.put3 {p : Option Addr} {F0 H0 G F F' H H' : Hp} {σ σ' : L2.St} {ρ ρ' : Env} (S : S8 O p F0 H0 G F H σ ρ) (ex : Ext p H H') (R : Rs O p F' H' σ' ρ') (s1 : Sub F F') (s2 : Sub F' (grow F H H')) (k : ∀ i, i ∈ O → σ'[i]? = σ[i]? ∧ ρ'[i]? = ρ[i]?) : S8 O p F0 H0 G F' H' σ' ρ' :=
  S.on ex R s1 s2 fun i a d hi h1 h2 => .inl ⟨d, by rw [← (k i hi).2]; exact h1, by rw [← (k i hi).1]; exact h2⟩
def dTg (g : DE) (P : DP) : DS := fun D ρ => g ρ fun d => P d ρ D.nx
theorem s_tg {te : TE} {tg : TG} {P : DP} {b : Bool} {ts : List Nat} (x : PS X st (tAsg te tg)) (htg : TgOk b O ts tg P) (k : ∀ σ H Q, eR O g σ H Q → te σ H Q) : PS X st (sS O (dTg g P)) := impS x fun D σ H ⟨p, F0, H0, G, F, ρ, De, S, hg, L⟩ =>
  k σ H _ ⟨p, F, ρ, _, S.rs, hg, fun d kd v H1 ex dt => htg (S.rs.grown ex) (.inl dt) kd fun σ2 ρ2 R2 k2 _ hO => L.nx _ _ _ _ (S.put3 ex R2 (S.rs.sub_grow ex) (Sub.refl _) hO) k2⟩

/-! ### for -/
def fGo (P : DP) (gb : DS) (D : DEn) : List PyData → Env → Prop
  | [], ρ => D.nx ρ
  | d :: r, ρ => P d ρ fun ρ2 => gb { D with nx := fGo P gb D r, ct := fGo P gb D r, bk := D.nx } ρ2
def dFor (gi : DL) (P : DP) (gb : DS) : DS := fun D ρ => gi ρ fun ds => fGo P gb D ds ρ
theorem s_forW {tg e : Expr} {body : List Stmt} {wi : TI} {g : TG} {P : DP} {b : Bool} {ts : List Nat} {gi : DL} {gb : DS} (x : PS X (.For tg e body [] pos) (tFor wi g (sS O gb))) (htg : TgOk b O ts g P) (k : ∀ σ H R, eIR b O gi σ H R → wi σ H R) : PS X (.For tg e body [] pos) (sS O (dFor gi P gb)) := impS x fun D σ H ⟨p, F0, H0, G, F, ρ, De, S, hg, L⟩ =>
  k σ H _ ⟨p, F, ρ, _, S.rs, hg, fun ds kd J H1 ex y => by
    refine ⟨fun i m σ2 H2 => m = ds.length - i ∧ i ≤ ds.length ∧ ∃ F2 ρ2, S8 O p F0 H0 (grow F H H1) F2 H2 σ2 ρ2 ∧ fGo P gb De (ds.drop i) ρ2, ⟨_, rfl, Nat.zero_le _, _, ρ, (S.same ex).at, kd⟩, ?_⟩
    rintro i m σ2 H2 ⟨rfl, hi, F2, ρ2, S2, k2⟩
    have sG : Sub (grow F H H1) H2 := S2.gF.trans S2.rs.sub
    have sw : Sub G (grow F H H1) := S.gF.trans (S.rs.sub_grow ex)
    by_cases hlt : i < ds.length
    · refine .inr ⟨y.go i hlt H2 sG, fun σ3 H3 => ∃ F3 ρ3, S8 O p F0 H0 (grow F H H1) F3 H3 σ3 ρ3 ∧ fGo P gb De (ds.drop (i + 1)) ρ3, fun σ3 H3 w => ⟨ds.length - (i + 1), by omega, rfl, hlt, w⟩, fun v H3 yv => ?_⟩
      obtain ⟨s3, dt3⟩ := y.yld i ds[i] (List.getElem?_eq_getElem hlt) H2 sG v H3 yv
      rw [List.drop_eq_getElem_cons hlt] at k2
      have e3 : Ext p H2 H3 := .of_sub s3
      have S3 := S2.same e3
      refine htg S3.rs (dt3 F2 S2.gF S2.rs.sub) k2 fun σ4 ρ4 R4 k4 _ hO => ⟨p, F0, H0, grow F H H1, _, ρ4, _, S3.put3 (Ext.refl _ _) R4 (Sub.refl _) (S3.rs.sub_grow (Ext.refl _ _)) hO, k4, ?_⟩
      exact ⟨fun F H σ ρ S q => ⟨F, ρ, S, q⟩, fun F H σ ρ S q => L.nx F H σ ρ (S.weak sw) q, fun F H σ ρ S q => ⟨F, ρ, S, q⟩, L.rt, L.rl⟩
    · have e1 : i = ds.length := by omega
      subst e1
      rw [List.drop_length] at k2
      exact .inl ⟨y.stop H2 sG, L.nx _ _ _ _ (S2.weak sw) k2⟩⟩
theorem s_for {tg e : Expr} {body : List Stmt} {g : TG} {P : DP} {b : Bool} {ts : List Nat} {gi : DL} {gb : DS} (hp : PySem.PassesOwn (model X.prog X.w) X.A X.env X.xe) (hc : X.calm = true) (hi : PI X tg e (eIR b O gi)) (hg : PG X tg g) (htg : TgOk b O ts g P) (hb : PSs X body (sS O gb)) (hs : ∀ x, foldedSetIterable e X.env x = pure x := by intro _; rfl) : PS X (.For tg e body [] pos) (sS O (dFor gi P gb)) :=
  s_forW (ps_for hp hc hi hg hb hs) htg fun _ _ _ q => q
def dBrk : DS := fun D ρ => D.bk ρ
theorem s_brk : PS X (.Break pos) (sS O dBrk) := impS ps_break fun D σ H ⟨p, F0, H0, G, F, ρ, De, S, hg, L⟩ => L.bk _ _ _ _ S hg

/-! ### while -/
def dWhile (t : DB) (gb : DS) : DS := fun D ρ => ∃ W : Nat → Env → Prop, (∃ m, W m ρ) ∧ ∀ m ρ, W m ρ → t ρ fun b => if b = true then gb { D with nx := fun ρ' => ∃ m', m' < m ∧ W m' ρ', ct := fun ρ' => ∃ m', m' < m ∧ W m' ρ', bk := D.nx } ρ else D.nx ρ
theorem s_while {e : Expr} {body : List Stmt} {t : DB} {gb : DS} (hp : PySem.PassesOwn (model X.prog X.w) X.A X.env X.xe) (hc : PT X e (eT O t)) (hb : PSs X body (sS O gb)) : PS X (.While e body [] pos) (sS O (dWhile t gb)) := impS (ps_while hp hc hb) fun D σ H ⟨p, F0, H0, G, F, ρ, De, S, ⟨W, ⟨m0, w0⟩, turn⟩, L⟩ => by
  refine ⟨fun m σ2 H2 => ∃ F2 ρ2, S8 O p F0 H0 G F2 H2 σ2 ρ2 ∧ W m ρ2, ⟨m0, F, ρ, S, w0⟩, ?_⟩
  rintro m σ2 H2 ⟨F2, ρ2, S2, w2⟩
  refine ⟨p, F2, ρ2, _, S2.rs, turn m ρ2 w2, fun b kb H3 ex => ?_⟩
  cases b with
  | false => rw [if_neg Bool.false_ne_true] at kb ⊢; exact L.nx _ _ _ _ (S2.same ex) kb
  | true =>
    rw [if_pos rfl] at kb ⊢
    refine ⟨fun σ4 H4 => ∃ F4 ρ4, S8 O p F0 H0 G F4 H4 σ4 ρ4 ∧ ∃ m', m' < m ∧ W m' ρ4, fun σ4 H4 ⟨F4, ρ4, S4, m', hm, w4⟩ => ⟨m', hm, F4, ρ4, S4, w4⟩, p, F0, H0, G, _, ρ2, _, S2.same ex, kb, ?_⟩
    exact ⟨fun F H σ ρ S q => ⟨F, ρ, S, q⟩, L.nx, fun F H σ ρ S q => ⟨F, ρ, S, q⟩, L.rt, L.rl⟩

/-! ### lists of its own, changed -/
/-- an own list's content is another -/
theorem S8.own_set {p : Option Addr} {F0 H0 G F H : Hp} {σ : L2.St} {ρ : Env} (S : S8 O p F0 H0 G F H σ ρ) {i : Nat} {a : Addr} {o o' : HO} {d d' : PyData} (hi : i ∈ O) (h0 : i ≠ 0) (h1 : ρ[i]? = some (some d)) (h2 : σ[i]? = some (some (.ref a))) (h3 : H a = some o) (h4 : F a = none) (h5 : p ≠ some a) (ow : OwnD F o' d') (ht : ∀ ob xs, o' ≠ .frz ob (.tup xs)) : S8 O p F0 H0 G F (upd H a o') σ (ρ.set i (some d')) := by
  have ha0 := S.nw i a d hi h1 h2
  have hne : ∀ b u, F b = some u → b ≠ a := fun b u q z => by rw [z, h4] at q; cases q
  have hli : i < ρ.length := (List.getElem?_eq_some_iff.mp h1).1
  exact {
    rs := {
      sub := fun b u q => by rw [upd_ne (hne b u q)]; exact S.rs.sub b u q
      len := by rw [List.length_set]; exact S.rs.len
      dat := fun k e he hk => by
        have c : i ≠ k := fun z => hk (z ▸ hi)
        rw [List.getElem?_set_ne c] at he
        exact S.rs.dat k e he hk
      own := fun k e he hk => by
        by_cases c : i = k
        · subst c
          rw [List.getElem?_set_self hli] at he
          cases he
          exact ⟨a, o', h2, upd_same, h4, h5, ow⟩
        · rw [List.getElem?_set_ne c] at he
          obtain ⟨b, u, e1, e2, e3, e4, e5⟩ := S.rs.own k e he hk
          have hb : b ≠ a := fun z => by
            subst z
            exact c (S.rs.apart i k b d e hi hk h1 he h2 e1)
          exact ⟨b, u, e1, by rw [upd_ne hb]; exact e2, e3, e4, e5⟩
      apart := fun k l b e e' hk hl he he' hb hb' => by
        have nn : ∀ n x, (ρ.set i (some d'))[n]? = some (some x) → ∃ y, ρ[n]? = some (some y) := fun n x hx => by
          by_cases c : i = n
          · subst c; exact ⟨d, h1⟩
          · rw [List.getElem?_set_ne c] at hx; exact ⟨x, hx⟩
        obtain ⟨y, hy⟩ := nn k e he
        obtain ⟨y', hy'⟩ := nn l e' he'
        exact S.rs.apart k l b y y' hk hl hy hy' hb hb'
      hat := fun b q => by
        obtain ⟨q1, x, y, z, q2, q3⟩ := S.rs.hat b q
        refine ⟨q1, x, y, z, ?_, q3⟩
        rw [upd_ne (fun c => h5 (by rw [q, c]))]
        exact q2
      hatS := S.rs.hatS
      hatO := S.rs.hatO
      tups := fun b xs ⟨ob, q, od⟩ => by
        by_cases c : b = a
        · rw [c, upd_same] at q
          exact absurd (Option.some.inj q) (ht ob xs)
        · rw [upd_ne c] at q
          exact S.rs.tups b xs ⟨ob, q, od⟩ }
    gF := S.gF
    f0 := fun b u q => by
      have q2 := S.f0 b u q
      cases q3 : H0 b with
      | none => rw [grow_new q3] at q2 ⊢; rw [upd_ne (hne b u q)]; exact q2
      | some w => rw [grow_old q3] at q2 ⊢; exact q2
    ext := ⟨fun b u n q => by rw [upd_ne (fun c => by rw [c, ha0] at q; cases q)]; exact S.ext.keep b u n q, fun b n hh => by
      obtain ⟨x, y, z, q, r⟩ := S.ext.hat b n hh
      exact ⟨x, y, z, by rw [upd_ne (fun c => h5 (by rw [n, c]))]; exact q, r⟩⟩
    nw := fun k b e hk he hb => by
      by_cases c : i = k
      · subst c
        rw [h2] at hb; cases hb
        exact ha0
      · rw [List.getElem?_set_ne c] at he
        exact S.nw k b e hk he hb
    hat0 := S.hat0 }
/-- the state of an own list -/
theorem S8.own_at {p : Option Addr} {F0 H0 G F H : Hp} {σ : L2.St} {ρ : Env} (S : S8 O p F0 H0 G F H σ ρ) {i : Nat} {ds : List PyData} (hi : i ∈ O) (h1 : ρ[i]? = some (some (.list ds))) : ∃ a xs, σ[i]? = some (some (.ref a)) ∧ H a = some (.lst xs) ∧ F a = none ∧ p ≠ some a ∧ DtL F xs ds := by
  obtain ⟨a, o, e2, ha, hF, hp, w⟩ := S.rs.own i _ h1 hi
  rcases w with ⟨xs, ds', rfl, e3, dt⟩ | ⟨kvs, ps, _, e3, _⟩
  · cases e3; exact ⟨a, xs, e2, ha, hF, hp, dt⟩
  · cases e3
theorem S8.own_list {p : Option Addr} {F0 H0 G F H : Hp} {σ : L2.St} {ρ : Env} (S : S8 O p F0 H0 G F H σ ρ) {i : Nat} {a : Addr} {xs xs' : List V} {ds ds' : List PyData} (hi : i ∈ O) (h0 : i ≠ 0) (h1 : ρ[i]? = some (some (.list ds))) (h2 : σ[i]? = some (some (.ref a))) (h3 : H a = some (.lst xs)) (h4 : F a = none) (h5 : p ≠ some a) (dt : DtL F xs' ds') : S8 O p F0 H0 G F (upd H a (.lst xs')) σ (ρ.set i (some (.list ds'))) :=
  S.own_set hi h0 h1 h2 h3 h4 h5 (.inl ⟨xs', ds', rfl, rfl, dt⟩) (fun _ _ => by intro z; cases z)
/-! a.append(e), a.extend(e), a.pop(e), a.append(b.pop(e)), a[e] = e', a a list of its own -/
def lstAt (i : Nat) (ρ : Env) (K : List PyData → Prop) : Prop := match ρ[i]? with
  | some (some (.list ds)) => K ds
  | _ => False
theorem lstAt_of {i : Nat} {ρ : Env} {K : List PyData → Prop} (h : lstAt i ρ K) : ∃ ds, ρ[i]? = some (some (.list ds)) ∧ K ds := by
  unfold lstAt at h
  split at h
  · exact ⟨_, by assumption, h⟩
  · exact h.elim
theorem tyL {K : PySem.W.Frag} {H : Hp} {a : Addr} {xs : List V} (h : H a = some (.lst xs)) : tyV K "list" (.ref a) H := .inl ⟨rfl, xs, SqL.of h⟩
def dApp (i : Nat) (g : DE) : DS := fun D ρ => lstAt i ρ fun ds => g ρ fun d => ds.length < 100000 ∧ D.nx (ρ.set i (some (.list (ds ++ [d]))))
theorem s_app (x : PS X st (tDrop (tBM X.K "list" rAppend (tVar i) (tCons (eR O g) tNil)))) (hi : i ∈ O := by decide) (h0 : i ≠ 0 := by decide) : PS X st (sS O (dApp i g)) := impS x fun D σ H ⟨p, F0, H0, G, F, ρ, De, S, hg, L⟩ => by
  obtain ⟨ds, e1, hg⟩ := lstAt_of hg
  obtain ⟨a, xs, e2, ha, hF, hp, dt⟩ := S.own_at hi e1
  refine ⟨.ref a, e2, tyL ha, p, F, ρ, _, S.rs, hg, fun d kd v H1 ex dv => ?_⟩
  have ha1 := ex.keep a _ hp ha
  have S1 := S.same ex
  refine ⟨a, xs, v, rfl, rfl, ha1, szlt (by rw [dt.length]; exact Nat.le_of_lt kd.1), L.nx _ _ _ _ (S1.own_list hi h0 e1 e2 ha1 ?_ hp ((dt.mono (S.rs.sub_grow ex)).append (.cons dv .nil))) kd.2⟩
  rw [grow_old ha]; exact hF
def dExt (i : Nat) (gl : DL) : DS := fun D ρ => lstAt i ρ fun ds => gl ρ fun es => ds.length + es.length ≤ 100000 ∧ D.nx (ρ.set i (some (.list (ds ++ es))))
theorem s_ext (x : PS X st (tDrop (tBM X.K "list" rExtend (tVar i) (tCons (eL O gl) tNil)))) (hi : i ∈ O := by decide) (h0 : i ≠ 0 := by decide) : PS X st (sS O (dExt i gl)) := impS x fun D σ H ⟨p, F0, H0, G, F, ρ, De, S, hg, L⟩ => by
  obtain ⟨ds, e1, hg⟩ := lstAt_of hg
  obtain ⟨a, xs, e2, ha, hF, hp, dt⟩ := S.own_at hi e1
  refine ⟨.ref a, e2, tyL ha, p, F, ρ, _, S.rs, hg, fun es kd b ys H1 ex hn hb dl => ?_⟩
  have ha1 := ex.keep a _ hp ha
  have S1 := S.same ex
  refine ⟨a, b, xs, ys, rfl, rfl, ha1, hb, by rw [dt.length, dl.length]; exact sz kd.1, L.nx _ _ _ _ (S1.own_list hi h0 e1 e2 ha1 ?_ hp ((dt.mono (S.rs.sub_grow ex)).append (dl.mono (hid_sub _ _)))) kd.2⟩
  rw [grow_old ha]; exact hF
theorem seqIx {k n : Nat} (h : k < n) : PySem.seqIndex? (k : Int) n = some k := by
  rw [PySem.seqIndex_of (Int.natCast_nonneg k) (by omega), Int.toNat_natCast]
def dPop (j : Nat) (g : DE) : DS := fun D ρ => lstAt j ρ fun es => g ρ fun d => ∃ (k : Nat), d = .int (k : Int) ∧ k < es.length ∧ k ≤ 100000 ∧ D.nx (ρ.set j (some (.list (es.eraseIdx k))))
theorem s_pop (x : PS X st (tDrop (tBM X.K "list" rPopAt (tVar j) (tCons (eR O g) tNil)))) (hj : j ∈ O := by decide) (h0 : j ≠ 0 := by decide) : PS X st (sS O (dPop j g)) := impS x fun D σ H ⟨p, F0, H0, G, F, ρ, De, S, hg, L⟩ => by
  obtain ⟨es, e1, hg⟩ := lstAt_of hg
  obtain ⟨a, xs, e2, ha, hF, hp, dt⟩ := S.own_at hj e1
  refine ⟨.ref a, e2, tyL ha, p, F, ρ, _, S.rs, hg, fun d ⟨k, ed, hk, hk2, kd⟩ v H1 ex dv => ?_⟩
  subst ed
  cases dv
  have ha1 := ex.keep a _ hp ha
  have S1 := S.same ex
  obtain ⟨w, hw, dw⟩ := dt.get' (List.getElem?_eq_getElem hk)
  refine ⟨a, xs, (k : Int), k, w, rfl, rfl, ha1, by omega, by omega, seqIx (by rw [dt.length]; exact hk), hw, L.nx _ _ _ _ (S1.own_list hj h0 e1 e2 ha1 ?_ hp ((dt.mono (S.rs.sub_grow ex)).eraseIdx k)) kd⟩
  rw [grow_old ha]; exact hF
def dAppPop (i j : Nat) (g : DE) : DS := fun D ρ => lstAt i ρ fun ds => lstAt j ρ fun es => g ρ fun d => ∃ (k : Nat) (e : PyData), d = .int (k : Int) ∧ es[k]? = some e ∧ k ≤ 100000 ∧ ds.length < 100000 ∧ D.nx ((ρ.set j (some (.list (es.eraseIdx k)))).set i (some (.list (ds ++ [e]))))
theorem s_appPop (x : PS X st (tDrop (tBM X.K "list" rAppend (tVar i) (tCons (tBM X.K "list" rPopAt (tVar j) (tCons (eR O g) tNil)) tNil)))) (hi : i ∈ O := by decide) (hj : j ∈ O := by decide) (hij : i ≠ j := by decide) (h0 : i ≠ 0 := by decide) (h1 : j ≠ 0 := by decide) : PS X st (sS O (dAppPop i j g)) := impS x fun D σ H ⟨p, F0, H0, G, F, ρ, De, S, hg, L⟩ => by
  obtain ⟨ds, e1, hg⟩ := lstAt_of hg
  obtain ⟨es, e3, hg⟩ := lstAt_of hg
  obtain ⟨a, xs, e2, ha, hF, hp, dt⟩ := S.own_at hi e1
  obtain ⟨b, ys, e4, hb, hF2, hp2, dt2⟩ := S.own_at hj e3
  have hab : a ≠ b := fun z => by subst z; exact hij (S.rs.apart i j a _ _ hi hj e1 e3 e2 e4)
  refine ⟨.ref a, e2, tyL ha, .ref b, e4, tyL hb, p, F, ρ, _, S.rs, hg, fun d ⟨k, e, ed, hk, hk2, hz, kd⟩ v H1 ex dv => ?_⟩
  subst ed
  cases dv
  have ha1 := ex.keep a _ hp ha
  have hb1 := ex.keep b _ hp2 hb
  have S1 := S.same ex
  obtain ⟨w, hw, dw⟩ := dt2.get' hk
  have hkl : k < ys.length := (List.getElem?_eq_some_iff.mp hw).1
  have g2 : grow F H H1 b = none := by rw [grow_old hb]; exact hF2
  have g1 : grow F H H1 a = none := by rw [grow_old ha]; exact hF
  have S2 := S1.own_list hj h1 e3 e4 hb1 g2 hp2 ((dt2.mono (S.rs.sub_grow ex)).eraseIdx k)
  have ha2 : upd H1 b (.lst (ys.eraseIdx k)) a = some (.lst xs) := by rw [upd_ne hab]; exact ha1
  refine ⟨b, ys, (k : Int), k, w, rfl, rfl, hb1, by omega, by omega, seqIx hkl, hw, ?_⟩
  refine ⟨a, xs, w, rfl, rfl, ha2, szlt (by rw [dt.length]; exact Nat.le_of_lt hz), L.nx _ _ _ _ (S2.own_list hi h0 (by rw [List.getElem?_set_ne (Ne.symm hij)]; exact e1) e2 ha2 g1 hp ((dt.append (.cons dw .nil)).mono (S.rs.sub_grow ex))) kd⟩
def dSetI (i : Nat) (gi ge : DE) : DS := fun D ρ => lstAt i ρ fun ds => ge ρ fun d => gi ρ fun n => ∃ k : Nat, n = .int (k : Int) ∧ k < ds.length ∧ D.nx (ρ.set i (some (.list (ds.set k d))))
theorem s_setI {gi ge : DE} {te : TE} (x : PS X st (tAsg te (gSub (tVar i) (eR O gi) rSetL))) (k : ∀ σ H Q, eR O ge σ H Q → te σ H Q) (hi : i ∈ O := by decide) (h0 : i ≠ 0 := by decide) : PS X st (sS O (dSetI i gi ge)) := impS x fun D σ H ⟨p, F0, H0, G, F, ρ, De, S, hg, L⟩ => by
  obtain ⟨ds, e1, hg⟩ := lstAt_of hg
  obtain ⟨a, xs, e2, ha, hF, hp, dt⟩ := S.own_at hi e1
  refine k σ H _ ⟨p, F, ρ, _, S.rs, hg, fun d kd v H1 ex dv => ⟨.ref a, e2, p, _, ρ, _, S.rs.grown ex, kd, fun n ⟨m, en, hm, kd⟩ u H2 ex2 du => ?_⟩⟩
  subst en
  cases du
  have exx := ex.trans ex2
  have ha2 := exx.keep a _ hp ha
  have S1 := S.same exx
  refine ⟨a, xs, (m : Int), m, rfl, rfl, ha2, ?_, L.nx _ _ _ _ (S1.own_list hi h0 e1 e2 ha2 ?_ hp ((dt.mono (S.rs.sub_grow exx)).set (dv.mono (S.rs.first ex2)) m)) kd⟩
  · unfold ixN
    rw [if_pos (Int.natCast_nonneg m), if_pos (by rw [dt.length]; omega), Int.toNat_natCast]
  · rw [grow_old ha]; exact hF

/-! ### a dict of its own -/
def isI (d : PyData) (k : Int) : Bool := match d with
  | .int i => decide (i = k)
  | _ => false
def valP (ps : List (PyData × PyData)) (k : Int) : Option PyData := (ps.find? fun p => isI p.1 k).map (·.2)
def putP (ps : List (PyData × PyData)) (k : Int) (d : PyData) : List (PyData × PyData) := if (ps.any fun p => isI p.1 k) = true then ps.map (fun p => if isI p.1 k = true then (p.1, d) else p) else ps ++ [(.int k, d)]
def dicAt (i : Nat) (ρ : Env) (K : List (PyData × PyData) → Prop) : Prop := match ρ[i]? with
  | some (some (.dict ps)) => K ps
  | _ => False
theorem dicAt_of {i : Nat} {ρ : Env} {K : List (PyData × PyData) → Prop} (h : dicAt i ρ K) : ∃ ps, ρ[i]? = some (some (.dict ps)) ∧ K ps := by
  unfold dicAt at h
  split at h
  · exact ⟨_, by assumption, h⟩
  · exact h.elim
theorem DicD.length {F : Hp} : ∀ {r : List (Key × V)} {q : List (PyData × PyData)}, DicD F r q → r.length = q.length
  | _, _, .nil => rfl
  | _, _, .cons h k => by rw [List.length_cons, List.length_cons, k.length]
theorem key_is {i k : Int} : decide ((Sum.inl i : Key) = .inl k) = isI (.int i) k := by
  unfold isI
  by_cases h : i = k
  · subst h; simp
  · simp [h]
theorem DicD.val {F : Hp} {k : Int} : ∀ {r : List (Key × V)} {q : List (PyData × PyData)} {d : PyData}, DicD F r q → valP q k = some d → ∃ v, valV r (.inl k) = some v ∧ Dt F v d
  | _, _, _, .nil, h => by cases h
  | _, _, _, .cons (k := i) (v := v) h t, e => by
    unfold valP at e
    unfold valV
    rw [List.find?_cons] at e ⊢
    rw [key_is]
    cases q : isI (.int i) k with
    | true => rw [q] at e; cases e; exact ⟨v, rfl, h⟩
    | false =>
      rw [q] at e
      obtain ⟨w, h1, h2⟩ := t.val (k := k) (by unfold valP; exact e)
      exact ⟨w, h1, h2⟩
theorem DicD.any {F : Hp} {k : Int} : ∀ {r : List (Key × V)} {q : List (PyData × PyData)}, DicD F r q → (r.any fun kv => decide (kv.1 = .inl k)) = q.any fun p => isI p.1 k
  | _, _, .nil => rfl
  | _, _, .cons h t => by rw [List.any_cons, List.any_cons, key_is, t.any]
theorem DicD.map {F : Hp} {k : Int} {v : V} {d : PyData} (x : Dt F v d) : ∀ {r : List (Key × V)} {q : List (PyData × PyData)}, DicD F r q → DicD F (r.map fun kv => if kv.1 = .inl k then (kv.1, v) else kv) (q.map fun p => if isI p.1 k = true then (p.1, d) else p)
  | _, _, .nil => .nil
  | _, _, .cons (k := i) h t => by
    rw [List.map_cons, List.map_cons]
    have e := key_is (i := i) (k := k)
    by_cases c : i = k
    · subst c
      rw [if_pos rfl, if_pos (by rw [← e]; simp)]
      exact .cons x (t.map x)
    · rw [if_neg (by simpa using c), if_neg (by rw [← e]; simpa using c)]
      exact .cons h (t.map x)
theorem DicD.put {F : Hp} {k : Int} {v : V} {d : PyData} (x : Dt F v d) {r : List (Key × V)} {q : List (PyData × PyData)} (h : DicD F r q) : DicD F (putK r (.inl k) v) (putP q k d) := by
  unfold putK putP
  rw [h.any]
  by_cases c : (q.any fun p => isI p.1 k) = true
  · rw [if_pos c, if_pos c]; exact h.map x
  · rw [if_neg c, if_neg c]
    clear c
    induction h with
    | nil => exact .cons x .nil
    | cons h t ih => exact .cons h ih
def dPut (i : Nat) (gi ge : DE) : DS := fun D ρ => dicAt i ρ fun ps => ge ρ fun d => gi ρ fun n => ∃ k : Int, n = .int k ∧ ps.length < 100000 ∧ D.nx (ρ.set i (some (.dict (putP ps k d))))
theorem S8.own_dic {p : Option Addr} {F0 H0 G F H : Hp} {σ : L2.St} {ρ : Env} (S : S8 O p F0 H0 G F H σ ρ) {i : Nat} {ps : List (PyData × PyData)} (hi : i ∈ O) (h1 : ρ[i]? = some (some (.dict ps))) : ∃ a kvs, σ[i]? = some (some (.ref a)) ∧ H a = some (.dK kvs) ∧ F a = none ∧ p ≠ some a ∧ DicD F kvs ps := by
  obtain ⟨a, o, e2, ha, hF, hp, w⟩ := S.rs.own i _ h1 hi
  rcases w with ⟨xs, ds', _, e3, dt⟩ | ⟨kvs, ps, rfl, e3, dt⟩
  · cases e3
  · cases e3; exact ⟨a, kvs, e2, ha, hF, hp, dt⟩
theorem s_put {gi ge : DE} (x : PS X st (sDPut (tVar i) (eR O gi) (eR O ge))) (hi : i ∈ O := by decide) (h0 : i ≠ 0 := by decide) : PS X st (sS O (dPut i gi ge)) := impS x fun D σ H ⟨p, F0, H0, G, F, ρ, De, S, hg, L⟩ => by
  obtain ⟨ps, e1, hg⟩ := dicAt_of hg
  obtain ⟨a, kvs, e2, ha, hF, hp, dt⟩ := S.own_dic hi e1
  refine ⟨p, F, ρ, _, S.rs, hg, fun d kd v H1 ex dv => ⟨.ref a, e2, p, _, ρ, _, S.rs.grown ex, kd, fun n ⟨k, en, hz, kd⟩ u H2 ex2 du => ?_⟩⟩
  subst en
  cases du
  have exx := ex.trans ex2
  have ha2 := exx.keep a _ hp ha
  have S1 := S.same exx
  refine ⟨a, _, rfl, DPut.k (k := .inl k) ha2 (szlt (by rw [dt.length]; exact Nat.le_of_lt hz)), L.nx _ _ _ _ (S1.own_set hi h0 e1 e2 ha2 ?_ hp (.inr ⟨_, _, rfl, rfl, (dt.mono (S.rs.sub_grow exx)).put (dv.mono (S.rs.first ex2))⟩) (fun _ _ => by intro z; cases z)) kd⟩
  rw [grow_old ha]; exact hF
def dDGet (i : Nat) (gi : DE) : DE := fun ρ K => gi ρ fun n => dicAt i ρ fun ps => ∃ (k : Int) (d : PyData), n = .int k ∧ valP ps k = some d ∧ K d
theorem r_dget (x : PE X e (tDGet (tVar i) (eR O g))) (hi : i ∈ O := by decide) : PE X e (eR O (fun ρ K => dicAt i ρ fun _ => dDGet i g ρ K)) := imp x fun σ H Q ⟨p, F, ρ, K, R, hg, hk⟩ => by
  obtain ⟨ps, e1, hg⟩ := dicAt_of hg
  obtain ⟨a, o, e2, ha, hF, hp, w⟩ := R.own i _ e1 hi
  rcases w with ⟨xs, ds', _, e3, dt⟩ | ⟨kvs, ps, rfl, e3, dt⟩
  · cases e3
  · cases e3
    refine ⟨.ref a, e2, p, F, ρ, _, R, hg, fun n kn u H1 ex du => ?_⟩
    unfold dicAt at kn
    rw [e1] at kn
    obtain ⟨k, d, en, hv, kd⟩ := kn
    subst en
    cases du
    obtain ⟨v, h1, h2⟩ := dt.val hv
    exact ⟨a, v, rfl, .inl ⟨kvs, .inl k, .inl (ex.keep a _ hp ha), rfl, h1.symm⟩, hk d kd v H1 ex (h2.mono (R.sub_grow ex))⟩
end
end Kb
set_option Elab.async false
set_option linter.all false
set_option maxRecDepth 100000
set_option maxHeartbeats 1000000
/-! E1: what is walked: a list or a tuple, numbered. -/
namespace Kb
open PySem PySem.Spec PyProof.Rows L2

/-- the tuple at a, each item in a new pair -/
def IteT (K : PySem.W.Frag) (a : Addr) : It :=
  ⟨fun i H => ∃ (xs : List V) (x : V), SqT K H a xs ∧ xs[i]? = some x, fun i H v H' => ∃ T x, v = .ref T ∧ H T = none ∧ H' = upd H T (.tup [.int (i : Nat), x]) ∧ ∀ xs, SqT K H a xs → xs[i]? = some x, fun i H => ∃ xs : List V, SqT K H a xs ∧ xs.length ≤ i⟩
theorem turn_enumT {P : Program} {w : World} {K : PySem.W.Frag} {elts : List Expr} {kk : Nat} {tpos : Pos} (a e it : Addr) :
    Turn P w K (.Tuple elts kk tpos) (IteT K a) [e, it] e (fun i h => (∃ old, IsEnum h e it ((i : Nat) : Int) old) ∧ h.IsTupleIter it a i ∧ e ≠ it) where
  mem := by simp
  obj := fun i h st b hb => by
    obtain ⟨⟨old, he⟩, ⟨o, ho, hc, hd⟩, _⟩ := st
    have e' : b = e ∨ b = it := by simpa using hb
    rcases e' with z | z
    · rw [z]; exact ⟨_, he, fun v q => nomatch q⟩
    · rw [z]; exact ⟨o, ho, fun v q => by rw [hd] at q; cases q⟩
  keep := fun i h h' st k => let ⟨⟨old, he⟩, hi, hne⟩ := st; ⟨⟨old, k e (by simp) _ he⟩, hi.at fun o q => k it (by simp) o q, hne⟩
  item := by
    intro X hP hw hK hc i pins s σ H E I hf st hg
    subst hP hw hK
    obtain ⟨⟨old, he⟩, hit, hne⟩ := st
    obtain ⟨xs, x, hq, hx⟩ := hg
    obtain ⟨its, rv, p, hz⟩ := I.tuple hq
    obtain ⟨u, hu, ru⟩ := rv.get hx
    have hel : e < s.heap.objs.size := Heap.lt_size he
    have hil : it < s.heap.objs.size := by obtain ⟨_, q, _⟩ := hit; exact Heap.lt_size q
    have hae : a ≠ e := fun z => by
      obtain ⟨o, q, c, _⟩ := p
      rw [z, he] at q; cases q; exact absurd (Value.type.inj c) (by decide)
    have hai : a ≠ it := fun z => by
      obtain ⟨o, q, c, _⟩ := p
      obtain ⟨o2, q2, c2, _⟩ := hit
      rw [z, q2] at q; cases q; rw [c2] at c; exact absurd (Value.type.inj c) (by decide)
    have hil2 : i < its.toArray.size := by
      have := (List.getElem?_eq_some_iff.mp hu).1
      simpa using this
    refine wpAny_pyNext_enum_itemD (Draws.tuple (prog := X.prog) (w := X.w) (A := X.A.in1) (I.ok.hd hc) it a hai its.toArray) he ⟨hit, p⟩ hil2 hne (by simp [hne, Ne.symm hae]) fun x' h' tk hP' ho hit' hT hsz hk => ?_
    have ex : x' = u := by
      have : its[i]? = some x' := by simpa using hP'
      rw [hu] at this
      exact (Option.some.inj this).symm
    subst ex
    refine ⟨_, rfl, wpAny_letOwnedTupleGo_enum (s := { s with heap := h', toks := tk + 1 }) ho fun h'' he' sb => ?_⟩
    have hT2 : h''.get? s.heap.objs.size = some { cls := .type "tuple", data := .seq #[.int i tk, x'] } := (sb.2 _ (Nat.ne_of_gt hel)).trans hT
    have new : ObjOk X.prog X.w (upd H s.heap.objs.size (.tup [.int (i : Nat), x])) h'' s.heap.objs.size (.tup [.int (i : Nat), x]) :=
      ⟨by show 2 ≤ sizeLine; decide, [.int i tk, x'], .cons ⟨_, rfl⟩ (.cons ru .nil), ⟨_, hT2, rfl, _, rfl⟩⟩
    have I1 : Inv X pins σ (upd H s.heap.objs.size (.tup [.int (i : Nat), x])) { s with heap := h'', toks := tk + 1 } :=
      I.turnedNew (ch := [e, it]) (fun b ob hb q => (sb.2 b (fun z => hb (by simp [z]))).trans (hk b ob (fun z => hb (by simp [z])) (fun z => hb (by simp [z])) q)) hf (Nat.le_refl _) new
    refine ⟨.ref s.heap.objs.size, _, I1, rfl, ⟨_, x, rfl, I.hok.fresh (Nat.le_refl _), rfl, fun ys hy => by rw [I.tuple_inj hy hq]; exact hx⟩, ⟨⟨x', ?_⟩, hit'.1.at fun o q => (sb.2 it (Ne.symm hne)).trans q, hne⟩, fun b hb => ?_⟩
    · have e1 : ((i + 1 : Nat) : Int) = (i : Int) + 1 := by omega
      rw [e1]; exact he'
    · have hb' : b < s.heap.objs.size := by
        have e' : b = e ∨ b = it := by simpa using hb
        rcases e' with z | z
        · rw [z]; exact hel
        · rw [z]; exact hil
      rw [upd_ne (Nat.ne_of_lt hb')]
      exact (hf b hb).1
  done := by
    intro X hP hw hK hc i pins s σ H E I hf st hg
    subst hP hw hK
    obtain ⟨⟨old, he⟩, hit, hne⟩ := st
    obtain ⟨xs, hq, hx⟩ := hg
    obtain ⟨its, rv, p, hz⟩ := I.tuple hq
    obtain ⟨f0, f1, f2, f3, f4, f5⟩ := hf it (by simp)
    have hl := rv.length
    have hai : a ≠ it := fun z => by
      obtain ⟨o, q, c, _⟩ := p
      obtain ⟨o2, q2, c2, _⟩ := hit
      rw [z, q2] at q; cases q; rw [c2] at c; exact absurd (Value.type.inj c) (by decide)
    have hT : s.TypeIs (.ref e) "enumerate" := ⟨_, he, rfl⟩
    unfold pyNext
    refine wpAny_bind (wpAny_attempt (wpAny_callSpecial?_slot (name := Str.ofString "__next__") hT F.slot_enumerate_next
      (wpAny_call_entry F.slot_enumerate_next hT F.entry_enumerate_next ?_ (F.args_enumerate_next_1 _))))
    show wpAny _ _ (field (.ref e) 2 >>= _) _ _ _
    refine wpAny_bind (wpAny_field he rfl (x := .ref it) rfl ?_)
    refine wpAny_bind (wpAny_nextOf_tuple_end (I.ok.hd hc) hit p (by simp; omega) fun h' x he' hx' => ?_)
    obtain ⟨o, ho, hc'⟩ := hx'
    refine wpAny_bind (wpAny_isInstance (T := "StopIteration") (b := true) ⟨o, ho, hc'⟩ isSubtype_stop ?_)
    exact wpAny_pure ⟨rfl, I.turned (t' := s.toks) (fun b o hb q => he' b o hb q) f0 f1 f3 f4 f5⟩
  self := fun A i s Q E st h => let ⟨⟨_, he⟩, _⟩ := st; wpAny_pyIter_enum he h
theorem meets_enumerate_newT {v : Value} {o : Obj} {H : Heap → Prop} (B : Begins v o H) :
    Meets (Builtin.«enumerate.__new__» ⟨[.type "enumerate", v], []⟩) (fun _ R s => H s.heap ∧
      R (.ok (.ret (.ref (s.heap.push o).objs.size))) { s with heap := (s.heap.push o).push { cls := .type "enumerate", data := .fields #[.none, .bool false, .ref s.heap.objs.size, rawInt 0, .none, .none] } }) :=
  .of_wp fun prog w A R s h => by
    obtain ⟨hp, g, d, tk, os⟩ := s; obtain ⟨h1, h⟩ := h
    have hsub := sub_enumerate
    have q1 : ∀ {A' : Around} {E : Value → Shared → Prop} {Q : Value → Shared → Prop}, Q (.ref hp.objs.size) ⟨hp.push o, g, d, tk, os⟩ → wpAny (model prog w) A' (pyIter v) Q E ⟨hp, g, d, tk, os⟩ :=
      fun q => B.iter prog w _ _ ⟨hp, g, d, tk, os⟩ _ h1 q
    wp_walk using q1
    refine wpAny_stack_any fun st => wpAny_pure ?_
    split
    · rename_i c _ _ _ _ _
      cases (c == Value.type "enumerate")
      · wp_walk using q1
        exact ⟨_, rfl, h⟩
      · wp_walk using q1
        exact ⟨_, rfl, h⟩
    · wp_walk using q1
      exact ⟨_, rfl, h⟩
section
variable {prog : Program} {w : World} {A : Around} {E : Value → Shared → Prop} {s : Shared}
theorem enum_begins0 {v : Value} {o : Obj} {H : Heap → Prop} {Q : Value → Shared → Prop} (B : Begins v o H) (h1 : H s.heap)
    (h : ∀ h', IsEnum h' (s.heap.objs.size + 1) s.heap.objs.size 0 .none → h'.get? s.heap.objs.size = some o → h'.objs.size = s.heap.objs.size + 2 →
      (∀ b o, s.heap.get? b = some o → h'.get? b = some o) → Q (.ref (s.heap.objs.size + 1)) { s with heap := h' }) :
    wpAny (model prog w) A (call (.type "enumerate") [v]) Q E s := by
  refine callType_new F.called_enumerate (by decide) (F.typeCall_enumerate_1 _) (F.newCall_enumerate_1 _) (fun obj => F.args_object_init_2 obj _) F.entry_enumerate_new
    (meets_enumerate_newT B) ⟨h1, ?_⟩
  have hz : (s.heap.push o).objs.size = s.heap.objs.size + 1 := Heap.size_push ..
  show _ ∧ _
  rw [hz]
  have he : IsEnum ((s.heap.push o).push { cls := .type "enumerate", data := .fields #[.none, .bool false, .ref s.heap.objs.size, rawInt 0, .none, .none] }) (s.heap.objs.size + 1) s.heap.objs.size 0 .none := by
    have := Heap.get?_push_size (s.heap.push o) (o := { cls := .type "enumerate", data := .fields #[.none, .bool false, .ref s.heap.objs.size, rawInt 0, .none, .none] }) rfl
    rw [hz] at this; exact this
  refine ⟨⟨_, he, rfl⟩, h _ he (Heap.get?_push_of_some _ (Heap.get?_push_size _ B.free)) (by rw [Heap.size_push, hz]) fun b o x => Heap.get?_push_of_some _ (Heap.get?_push_of_some _ x)⟩
end
def iEnumS (K : PySem.W.Frag) (ta : TA) : TI := fun σ H R => ta σ H fun vs H1 => ∃ a xs, vs = [.ref a] ∧ ((SqL K H1 a xs ∧ R (Ite K a) H1) ∨ (SqT K H1 a xs ∧ R (IteT K a) H1))
theorem pi_enumS {X : Cx} {e : Expr} {ta : TA} {p pos tpos : Pos} {elts : List Expr} {kk : Nat} (hg : Gl X "enumerate") (hm : X.mg "enumerate" = none) (ha : PA X [e] ta) (hs : starEach [e] X.env = [(false, eval e X.env)] := by rfl) :
    PI X (.Tuple elts kk tpos) (.Call (.Name "enumerate" p) [e] [] pos) (iEnumS X.K ta) := by
  refine ⟨fun pins s σ H R I h => ?_⟩
  refine Call_ (ld_blt I hg hm boot_enumerate (PyProof.Rows.callWith_type1 (thn (ha.run pos pins s σ H _ I h) fun us s1 ⟨vs, H1, I1, r1, q1⟩ => ?_) hs rfl))
  obtain ⟨a, xs, ex, q1⟩ := q1
  subst ex
  cases r1 with
  | cons r rr =>
    cases rr
    cases r
    have fr : ∀ b ∈ [s1.heap.objs.size + 1, s1.heap.objs.size], FpOk X pins H1 b := fun b hb => by
      have e' : b = s1.heap.objs.size + 1 ∨ b = s1.heap.objs.size := by simpa using hb
      have hle : s1.heap.objs.size ≤ b := by
        rcases e' with z | z
        · rw [z]; exact Nat.le_add_right _ _
        · rw [z]; exact Nat.le_refl _
      exact I1.fpOk hle (I1.hok.fresh hle)
    rcases q1 with ⟨hq, q⟩ | ⟨hq, q⟩
    · obtain ⟨its, rv, p', hz⟩ := I1.list hq
      refine call_enumerate_list p'.isList fun h' he hit hsz hk => wpAny_pyIter_enum he ?_
      have I2 : Inv X pins σ H1 { s1 with heap := h' } := I1.kept (t' := s1.toks) hk
      exact ⟨s1.heap.objs.size + 1, [s1.heap.objs.size + 1, s1.heap.objs.size], _, _, H1, rfl, I2, turn_enum a (s1.heap.objs.size + 1) s1.heap.objs.size, ⟨⟨.none, he⟩, hit, Nat.succ_ne_self _⟩, fr, q⟩
    · obtain ⟨its, rv, p', hz⟩ := I1.tuple hq
      refine enum_begins0 (begins_tuple a its.toArray) p' fun h' he hit hsz hk => wpAny_pyIter_enum he ?_
      have I2 : Inv X pins σ H1 { s1 with heap := h' } := I1.kept (t' := s1.toks) hk
      exact ⟨s1.heap.objs.size + 1, [s1.heap.objs.size + 1, s1.heap.objs.size], _, _, H1, rfl, I2, turn_enumT a (s1.heap.objs.size + 1) s1.heap.objs.size, ⟨⟨.none, he⟩, ⟨_, hit, rfl, rfl⟩, Nat.succ_ne_self _⟩, fr, q⟩
/-- a list or a tuple -/
def iSeq (K : PySem.W.Frag) (tl : TE) : TI := fun σ H R => tl σ H fun x H1 => ∃ a xs, x = .ref a ∧ ((SqL K H1 a xs ∧ R (Itl K a) H1) ∨ (SqT K H1 a xs ∧ R (Itt K a) H1))
theorem pi_seq {X : Cx} {tg l : Expr} {tl : TE} (hl : PE X l tl) : PI X tg l (iSeq X.K tl) := by
  refine ⟨fun pins s σ H R I h => ?_⟩
  refine thn (hl.run pins s σ H _ I h) fun v s1 ⟨x, H1, I1, r1, q1⟩ => ?_
  obtain ⟨a, xs, e, q1⟩ := q1
  subst e
  cases r1
  have fr : ∀ b ∈ [s1.heap.objs.size], FpOk X pins H1 b := fun b hb => by
    have e : b = s1.heap.objs.size := by simpa using hb
    subst e
    exact I1.fpOk (Nat.le_refl _) (I1.hok.fresh (Nat.le_refl _))
  rcases q1 with ⟨hq, q⟩ | ⟨hq, q⟩
  · obtain ⟨its, rv, p, hz⟩ := I1.list hq
    refine wpAny_pyIter_list p.isList ?_
    exact ⟨s1.heap.objs.size, [s1.heap.objs.size], _, _, H1, rfl, I1.kept (t' := s1.toks) fun b o e => Heap.get?_push_of_some _ e, turn_list a _, ⟨_, Heap.get?_push_size _ rfl, rfl, rfl⟩, fr, q⟩
  · obtain ⟨its, rv, p, hz⟩ := I1.tuple hq
    refine wpAny_pyIter_tuple (show s1.heap.IsTuple a its.toArray from p) ?_
    exact ⟨s1.heap.objs.size, [s1.heap.objs.size], _, _, H1, rfl, I1.kept (t' := s1.toks) fun b o e => Heap.get?_push_of_some _ e, turn_tuple a _, ⟨_, Heap.get?_push_size _ rfl, rfl, rfl⟩, fr, q⟩

/-! ### read over data -/
section
variable {X : Cx} {e e2 tg : Expr} {O : List Nat} {b : Bool} {g h : DE} {gl : DL} {pos p' : Pos}
/-- the items of a list or tuple -/
def dIt (g : DE) : DL := fun ρ K => g ρ fun d => ∃ ds, seqD d = some ds ∧ K ds
theorem i_seqR (x : PE X e (eR O g)) : PI X tg e (eIR b O (dIt g)) := impI (pi_seq x) fun σ H Q ⟨p, F, ρ, K, R, hg, hk⟩ =>
  ⟨p, F, ρ, _, R, hg, fun d ⟨ds, ed, kd⟩ v H1 ex dt => by
    cases dt with
    | lst ha dl =>
      cases ed
      exact ⟨_, _, rfl, .inl ⟨SqL.of (R.grow_sub ex _ _ ha), hk _ kd _ H1 ex (.same walk_list (fun H s => SqL.of (s _ _ ha)) dl)⟩⟩
    | tup ha dl =>
      cases ed
      exact ⟨_, _, rfl, .inr ⟨(ha.mono (R.grow_sub ex)).sq, hk _ kd _ H1 ex (.same walk_tup (fun H s => (ha.mono s).sq) dl)⟩⟩
    | _ => cases ed⟩
theorem i_seq (x : PE X e (eW O g)) : PI X tg e (eI b O (dIt g)) := impI (pi_seq x) fun σ H Q ⟨p, F, ρ, K, R, hg, hk⟩ =>
  ⟨p, F, ρ, _, R, hg, fun d ⟨ds, ed, kd⟩ v H1 ex dt => by
    rcases dt with dt | ⟨a, xs, es, rfl, rfl, h1, h2⟩
    · cases dt with
      | lst ha dl =>
        cases ed
        exact ⟨_, _, rfl, .inl ⟨SqL.of (R.grow_sub ex _ _ ha), hk _ kd _ H1 _ ex (R.grow_hid ex) (.same walk_list (fun H s => SqL.of (s _ _ ha)) dl)⟩⟩
      | tup ha dl =>
        cases ed
        exact ⟨_, _, rfl, .inr ⟨(ha.mono (R.grow_sub ex)).sq, hk _ kd _ H1 _ ex (R.grow_hid ex) (.same walk_tup (fun H s => (ha.mono s).sq) dl)⟩⟩
      | _ => cases ed
    · cases ed
      exact ⟨a, xs, rfl, .inl ⟨SqL.of (hid_sub _ _ _ _ h1), hk _ kd _ H1 _ ex (Sub.refl _) (.same walk_list (fun H s => SqL.of (s _ _ h1)) h2)⟩⟩⟩
/-- numbered -/
def numD (i : Nat) : List PyData → List PyData
  | [] => []
  | d :: r => .tuple [.int (i : Int), d] :: numD (i + 1) r
theorem numD_len : ∀ {ds : List PyData} {i : Nat}, (numD i ds).length = ds.length
  | [], _ => rfl
  | d :: r, i => by unfold numD; rw [List.length_cons, List.length_cons, numD_len]
theorem numD_get : ∀ {ds : List PyData} {i j : Nat} {d : PyData}, ds[j]? = some d → (numD i ds)[j]? = some (.tuple [.int ((i + j : Nat) : Int), d])
  | [], _, _, _, h => by cases h
  | d :: r, i, 0, _, h => by cases h; rfl
  | d :: r, i, j + 1, e, h => by
    unfold numD
    rw [List.getElem?_cons_succ] at h ⊢
    rw [numD_get h]
    have : i + 1 + j = i + (j + 1) := by omega
    rw [this]
theorem walk_enumT {K : PySem.W.Frag} {a : Addr} {xs : List V} : Walk (IteT K a) xs.length (fun H => SqT K H a xs) (YPair (fun i => if i < xs.length then some (V.int ((i : Nat) : Int)) else none) (fun i => xs[i]?)) where
  goes := fun i H hi h => ⟨xs, xs[i], h, List.getElem?_eq_getElem hi⟩
  stops := fun H h => ⟨xs, h, Nat.le_refl _⟩
  yields := fun i H v H' hi h y => by
    obtain ⟨T, x, e, hT, e2, q⟩ := y
    exact ⟨T, _, x, e, hT, e2, if_pos hi, q xs h⟩
theorem walk_enumL {K : PySem.W.Frag} {a : Addr} {xs : List V} : Walk (Ite K a) xs.length (fun H => SqL K H a xs) (YPair (fun i => if i < xs.length then some (V.int ((i : Nat) : Int)) else none) (fun i => xs[i]?)) where
  goes := fun i H hi h => ⟨xs, xs[i], h, List.getElem?_eq_getElem hi⟩
  stops := fun H h => ⟨xs, h, Nat.le_refl _⟩
  yields := fun i H v H' hi h y => by
    obtain ⟨T, x, e, hT, e2, q⟩ := y
    exact ⟨T, _, x, e, hT, e2, if_pos hi, q xs h⟩
theorem Yl.num {G G' : Hp} {J : It} {xs : List V} {ds : List PyData} {C : Hp → Prop} (w : Walk J xs.length C (YPair (fun i => if i < xs.length then some (V.int ((i : Nat) : Int)) else none) (fun i => xs[i]?))) (hC : ∀ H, Sub G H → C H) (dl : DtL G' xs ds) : Yl true G G' J (numD 0 ds) :=
  .pair (dx := fun i => .int (i : Int)) (dy := fun i => (ds[i]?).getD .none) w hC (by rw [numD_len, dl.length]) fun i hi => by
    have hi2 : i < ds.length := by rw [← dl.length]; exact hi
    refine ⟨?_, fun v e => ?_, fun v e => ?_⟩
    · rw [numD_get (List.getElem?_eq_getElem hi2), List.getElem?_eq_getElem hi2, Nat.zero_add]; rfl
    · rw [if_pos hi] at e; cases e; exact .int _
    · obtain ⟨d, e2, dt⟩ := dl.get e
      rw [e2]; exact dt
def dNum (g : DE) : DL := fun ρ K => g ρ fun d => ∃ ds, seqD d = some ds ∧ K (numD 0 ds)
theorem i_numR {elts : List Expr} {kk : Nat} {tpos : Pos} (hg : Gl X "enumerate") (hm : X.mg "enumerate" = none) (x : PE X e (eR O g)) (hs : starEach (e :: []) X.env = (false, eval e X.env) :: starEach [] X.env := by rfl) (hs2 : starEach [e] X.env = [(false, eval e X.env)] := by rfl) : PI X (.Tuple elts kk tpos) (.Call (.Name "enumerate" p') [e] [] pos) (eIR true O (dNum g)) := impI (pi_enumS hg hm (pa_cons x pa_nil hs) hs2) fun σ H Q ⟨p, F, ρ, K, R, hg, hk⟩ =>
  ⟨p, F, ρ, _, R, hg, fun d ⟨ds, ed, kd⟩ v H1 ex dt => by
    cases dt with
    | lst ha dl =>
      cases ed
      exact ⟨_, _, rfl, .inl ⟨SqL.of (R.grow_sub ex _ _ ha), hk _ kd _ H1 ex (.num walk_enumL (fun H s => SqL.of (s _ _ ha)) dl)⟩⟩
    | tup ha dl =>
      cases ed
      exact ⟨_, _, rfl, .inr ⟨(ha.mono (R.grow_sub ex)).sq, hk _ kd _ H1 ex (.num walk_enumT (fun H s => (ha.mono s).sq) dl)⟩⟩
    | _ => cases ed⟩
theorem i_num {elts : List Expr} {kk : Nat} {tpos : Pos} (hg : Gl X "enumerate") (hm : X.mg "enumerate" = none) (x : PE X e (eW O g)) (hs : starEach (e :: []) X.env = (false, eval e X.env) :: starEach [] X.env := by rfl) (hs2 : starEach [e] X.env = [(false, eval e X.env)] := by rfl) : PI X (.Tuple elts kk tpos) (.Call (.Name "enumerate" p') [e] [] pos) (eI true O (dNum g)) := impI (pi_enumS hg hm (pa_cons x pa_nil hs) hs2) fun σ H Q ⟨p, F, ρ, K, R, hg, hk⟩ =>
  ⟨p, F, ρ, _, R, hg, fun d ⟨ds, ed, kd⟩ v H1 ex dt => by
    rcases dt with dt | ⟨a, xs, es, rfl, rfl, h1, h2⟩
    · cases dt with
      | lst ha dl =>
        cases ed
        exact ⟨_, _, rfl, .inl ⟨SqL.of (R.grow_sub ex _ _ ha), hk _ kd _ H1 _ ex (R.grow_hid ex) (.num walk_enumL (fun H s => SqL.of (s _ _ ha)) dl)⟩⟩
      | tup ha dl =>
        cases ed
        exact ⟨_, _, rfl, .inr ⟨(ha.mono (R.grow_sub ex)).sq, hk _ kd _ H1 _ ex (R.grow_hid ex) (.num walk_enumT (fun H s => (ha.mono s).sq) dl)⟩⟩
      | _ => cases ed
    · cases ed
      exact ⟨a, xs, rfl, .inl ⟨SqL.of (hid_sub _ _ _ _ h1), hk _ kd _ H1 _ ex (Sub.refl _) (.num walk_enumL (fun H s => SqL.of (s _ _ h1)) h2)⟩⟩⟩
/-- two tuples side by side -/
def zipD : List PyData → List PyData → List PyData
  | d :: r, e :: s => .tuple [d, e] :: zipD r s
  | _, _ => []
theorem zipD_len : ∀ {ds es : List PyData}, (zipD ds es).length = min ds.length es.length
  | [], es => by unfold zipD; simp
  | d :: r, [] => by unfold zipD; simp
  | d :: r, e :: s => by unfold zipD; rw [List.length_cons, zipD_len, List.length_cons, List.length_cons]; omega
theorem zipD_get : ∀ {ds es : List PyData} {j : Nat} {d e : PyData}, ds[j]? = some d → es[j]? = some e → (zipD ds es)[j]? = some (.tuple [d, e])
  | [], _, _, _, _, h, _ => by cases h
  | _ :: _, [], _, _, _, _, h => by cases h
  | d :: r, e :: s, 0, _, _, h, h' => by cases h; cases h'; rfl
  | d :: r, e :: s, j + 1, _, _, h, h' => by
    unfold zipD
    rw [List.getElem?_cons_succ] at h h' ⊢
    exact zipD_get h h'
def dZip (g h : DE) : DL := fun ρ K => g ρ fun d => h ρ fun e => ∃ ds es, d = .tuple ds ∧ e = .tuple es ∧ K (zipD ds es)
end
end Kb
set_option Elab.async false
set_option linter.all false
set_option maxRecDepth 100000
/-! E2: zip of two tuples, a loop over a list of its own, calls and promises. -/
namespace Kb
open PySem PySem.Spec PyProof.Rows L2
section
variable {X : Cx} {e e2 tg : Expr} {O : List Nat} {b : Bool} {g h : DE} {gl : DL} {pos p' : Pos}
theorem walk_zipT {K : PySem.W.Frag} {a b : Addr} {xs ys : List V} {n : Nat} (hn : n = min xs.length ys.length) : Walk (RZ.ItzT K a b) n (fun H => SqT K H a xs ∧ SqT K H b ys) (YPair (fun i => xs[i]?) (fun i => ys[i]?)) := by
  subst hn
  refine ⟨fun i _ hi q => ?_, fun _ q => ⟨xs, ys, q.1, q.2, by omega⟩, fun i H v H' _ q y => ?_⟩
  · have h1 : i < xs.length := by omega
    have h2 : i < ys.length := by omega
    exact ⟨xs, ys, xs[i], ys[i], q.1, q.2, by simp [h1], by simp [h2]⟩
  · obtain ⟨T, x, z, h1, h2, h3, h4, h5⟩ := y
    exact ⟨T, x, z, h1, h2, h3, h4 xs q.1, h5 ys q.2⟩
theorem i_zip {elts : List Expr} {kk : Nat} {tpos : Pos} (hg : Gl X "zip") (hm : X.mg "zip" = none) (x : PE X e (eR O g)) (y : PE X e2 (eR O h)) (hs1 : starEach (e :: [e2]) X.env = (false, eval e X.env) :: starEach [e2] X.env := by rfl) (hs2 : starEach (e2 :: []) X.env = (false, eval e2 X.env) :: starEach [] X.env := by rfl)
    (hpl : (backTo pos (starEach [e2] X.env)).any (·.1) = false := by rfl) : PI X (.Tuple elts kk tpos) (.Call (.Name "zip" p') [e, e2] [] pos) (eIR true O (dZip g h)) := impI (RZ.pi_zipA hg hm (pa_cons x (pa_cons y pa_nil hs2) hs1) hs1 hpl) fun σ H Q ⟨p, F, ρ, K, R, hg, hk⟩ =>
  ⟨p, F, ρ, _, R, hg, fun d kd v H1 ex dt => ⟨p, _, ρ, _, R.grown ex, kd, fun d2 ⟨ds, es, ed, ed2, kd3⟩ v2 H2 ex2 dt2 => by
    subst ed ed2
    obtain ⟨a, xs, rfl, ha, dl⟩ := (dt.mono (R.first ex2)).ref_tup
    obtain ⟨b, ys, rfl, hb, dl2⟩ := (dt2.mono (R.grown2 ex ex2)).ref_tup
    have exx := ex.trans ex2
    refine ⟨a, b, xs, ys, rfl, .inr ⟨(ha.mono (R.grow_sub exx)).sq, (hb.mono (R.grow_sub exx)).sq, hk _ kd3 _ H2 exx ?_⟩⟩
    refine .pair (n := min xs.length ys.length) (C := fun H => SqT X.K H a xs ∧ SqT X.K H b ys) (dx := fun i => (ds[i]?).getD .none) (dy := fun i => (es[i]?).getD .none) (walk_zipT rfl) (fun H s => ⟨(ha.mono s).sq, (hb.mono s).sq⟩) (by rw [zipD_len, dl.length, dl2.length]) fun i hi => ?_
    have h1 : i < ds.length := by rw [← dl.length]; omega
    have h2 : i < es.length := by rw [← dl2.length]; omega
    refine ⟨?_, fun v e => ?_, fun v e => ?_⟩
    · rw [zipD_get (List.getElem?_eq_getElem h1) (List.getElem?_eq_getElem h2), List.getElem?_eq_getElem h1, List.getElem?_eq_getElem h2]; rfl
    · obtain ⟨d, e2, dt⟩ := dl.get e
      rw [e2]; exact dt
    · obtain ⟨d, e2, dt⟩ := dl2.get e
      rw [e2]; exact dt⟩⟩

/-! ### a loop over a list of its own, which the loop does not change: it stands among the data while the loop runs -/
theorem Rs.lent {p : Option Addr} {F H : Hp} {σ : L2.St} {ρ : Env} (R : Rs O p F H σ ρ) {j : Nat} (hj : j ∈ O) (h0 : j ≠ 0) {a : Addr} {xs : List V} {ds : List PyData} (h1 : ρ[j]? = some (some (.list ds))) (h2 : σ[j]? = some (some (.ref a))) (h3 : H a = some (.lst xs)) (h4 : F a = none) (h5 : p ≠ some a) (dl : DtL F xs ds) : Rs (O.filter (· ≠ j)) p (upd F a (.lst xs)) H σ ρ where
  sub := fun b o q => by
    by_cases c : b = a
    · subst c; rw [upd_same] at q; cases q; exact h3
    · rw [upd_ne c] at q; exact R.sub b o q
  len := R.len
  dat := fun i d he hi => by
    have s : Sub F (upd F a (.lst xs)) := sub_new h4
    by_cases c : i = j
    · subst c
      rw [h1] at he
      cases he
      exact ⟨.ref a, h2, .lst upd_same (dl.mono s)⟩
    · obtain ⟨v, e1, dt⟩ := R.dat i d he fun m => hi (List.mem_filter.mpr ⟨m, by simpa using c⟩)
      exact ⟨v, e1, dt.mono s⟩
  own := fun i d he hi => by
    obtain ⟨m1, m2⟩ := List.mem_filter.mp hi
    obtain ⟨b, o, e1, e2, e3, e4, e5⟩ := R.own i d he m1
    have hij : i ≠ j := by simpa using m2
    have hb : b ≠ a := fun z => by
      subst z
      exact hij (R.apart i j b d _ m1 hj he h1 e1 h2)
    exact ⟨b, o, e1, e2, by rw [upd_ne hb]; exact e3, e4, e5.mono (sub_new h4)⟩
  apart := fun i k b d e hi hk => R.apart i k b d e (List.mem_filter.mp hi).1 (List.mem_filter.mp hk).1
  hat := fun b q => ⟨by rw [upd_ne (fun c => h5 (by rw [q, c]))]; exact (R.hat b q).1, (R.hat b q).2⟩
  hatS := R.hatS
  hatO := fun m => R.hatO (List.mem_filter.mp m).1
  tups := fun b ys h => by
    obtain ⟨o, q, od⟩ := R.tups b ys h
    exact ⟨o, by rw [upd_ne (fun c => by subst c; rw [h4] at q; cases q)]; exact q, od⟩
theorem Rs.back {p : Option Addr} {F H : Hp} {σ : L2.St} {ρ : Env} {j : Nat} (R : Rs (O.filter (· ≠ j)) p F H σ ρ) (h0 : j ≠ 0) : Rs O p F H σ (ρ.set j none) where
  sub := R.sub
  len := by rw [List.length_set]; exact R.len
  dat := fun i d he hi => by
    by_cases c : j = i
    · subst c
      have hl : j < ρ.length := by
        obtain ⟨q, _⟩ := List.getElem?_eq_some_iff.mp he
        rwa [List.length_set] at q
      rw [List.getElem?_set_self hl] at he; cases he
    · rw [List.getElem?_set_ne c] at he
      exact R.dat i d he fun m => hi (List.mem_filter.mp m).1
  own := fun i d he hi => by
    by_cases c : j = i
    · subst c
      have hl : j < ρ.length := by
        obtain ⟨q, _⟩ := List.getElem?_eq_some_iff.mp he
        rwa [List.length_set] at q
      rw [List.getElem?_set_self hl] at he; cases he
    · rw [List.getElem?_set_ne c] at he
      exact R.own i d he (List.mem_filter.mpr ⟨hi, by simpa using Ne.symm c⟩)
  apart := fun i k b d e hi hk he he' => by
    have nj : ∀ i x, (ρ.set j none)[i]? = some (some x) → ρ[i]? = some (some x) ∧ i ≠ j := fun i x hx => by
      by_cases c : j = i
      · subst c
        have hl : j < ρ.length := by
          obtain ⟨q, _⟩ := List.getElem?_eq_some_iff.mp hx
          rwa [List.length_set] at q
        rw [List.getElem?_set_self hl] at hx; cases hx
      · rw [List.getElem?_set_ne c] at hx
        exact ⟨hx, Ne.symm c⟩
    obtain ⟨y, n1⟩ := nj i d he
    obtain ⟨y', n2⟩ := nj k e he'
    exact R.apart i k b d e (List.mem_filter.mpr ⟨hi, by simpa using n1⟩) (List.mem_filter.mpr ⟨hk, by simpa using n2⟩) y y'
  hat := R.hat
  hatS := R.hatS
  hatO := fun m => R.hatO (List.mem_filter.mpr ⟨m, by simpa using Ne.symm h0⟩)
  tups := R.tups
def oGo (j : Nat) (P : DP) (gb : DS) (D : DEn) : List PyData → Env → Prop := fGo P gb { D with nx := fun ρ => D.nx (ρ.set j none), bk := fun ρ => D.bk (ρ.set j none), ct := fun ρ => D.ct (ρ.set j none) }
def dForO (j : Nat) (P : DP) (gb : DS) : DS := fun D ρ => lstAt j ρ fun ds => oGo j P gb D ds ρ
theorem S8.lent {p : Option Addr} {F0 H0 G F H : Hp} {σ : L2.St} {ρ : Env} (S : S8 O p F0 H0 G F H σ ρ) {j : Nat} (hj : j ∈ O) (h0 : j ≠ 0) {a : Addr} {xs : List V} {ds : List PyData} (h1 : ρ[j]? = some (some (.list ds))) (h2 : σ[j]? = some (some (.ref a))) (h3 : H a = some (.lst xs)) (h4 : F a = none) (h5 : p ≠ some a) (dl : DtL F xs ds) : S8 (O.filter (· ≠ j)) p F0 H0 G (upd F a (.lst xs)) H σ ρ where
  rs := S.rs.lent hj h0 h1 h2 h3 h4 h5 dl
  gF := S.gF.trans (sub_new h4)
  f0 := fun b o q => by
    by_cases c : b = a
    · subst c
      rw [upd_same] at q; cases q
      rw [grow_new (S.nw j b _ hj h1 h2)]; exact h3
    · rw [upd_ne c] at q; exact S.f0 b o q
  ext := S.ext
  nw := fun i b d hi => S.nw i b d (List.mem_filter.mp hi).1
  hat0 := S.hat0
theorem S8.back {p : Option Addr} {F0 H0 G F H : Hp} {σ : L2.St} {ρ : Env} {j : Nat} (S : S8 (O.filter (· ≠ j)) p F0 H0 G F H σ ρ) (h0 : j ≠ 0) : S8 O p F0 H0 G F H σ (ρ.set j none) where
  rs := S.rs.back h0
  gF := S.gF
  f0 := S.f0
  ext := S.ext
  nw := fun i b d hi he => by
    by_cases c : j = i
    · subst c
      have hl : j < ρ.length := by
        obtain ⟨q, _⟩ := List.getElem?_eq_some_iff.mp he
        rwa [List.length_set] at q
      rw [List.getElem?_set_self hl] at he; cases he
    · rw [List.getElem?_set_ne c] at he
      exact S.nw i b d (List.mem_filter.mpr ⟨hi, by simpa using Ne.symm c⟩) he
  hat0 := S.hat0
theorem s_forO {j : Nat} {body : List Stmt} {g : TG} {P : DP} {ts : List Nat} {gb : DS} (hp : PySem.PassesOwn (model X.prog X.w) X.A X.env X.xe) (hc : X.calm = true) (hi : PE X e (tVar j)) (hg : PG X tg g) (htg : TgOk false (O.filter (· ≠ j)) ts g P) (hb : PSs X body (sS (O.filter (· ≠ j)) gb)) (hj : j ∈ O := by decide) (h0 : j ≠ 0 := by decide) (hs : ∀ x, foldedSetIterable e X.env x = pure x := by intro _; rfl) : PS X (.For tg e body [] pos) (sS O (dForO j P gb)) := impS (ps_for hp hc (pi_list hi) hg hb hs) fun D σ H ⟨p, F0, H0, G, F, ρ, De, S, hd, L⟩ => by
  obtain ⟨ds, e1, hd⟩ := lstAt_of hd
  obtain ⟨a, xs, e2, ha, hF, hp2, dt⟩ := S.own_at hj e1
  refine ⟨.ref a, e2, a, rfl, ⟨xs, SqL.of ha⟩, ?_⟩
  have S0 := S.lent hj h0 e1 e2 ha hF hp2 dt
  have y : Yl false (upd F a (.lst xs)) (upd F a (.lst xs)) (Itl X.K a) ds := .same walk_list (fun H s => SqL.of (s _ _ upd_same)) (dt.mono (sub_new hF))
  refine ⟨fun i m σ2 H2 => m = ds.length - i ∧ i ≤ ds.length ∧ ∃ F2 ρ2, S8 (O.filter (· ≠ j)) p F0 H0 (upd F a (.lst xs)) F2 H2 σ2 ρ2 ∧ oGo j P gb De (ds.drop i) ρ2, ⟨_, rfl, Nat.zero_le _, _, ρ, S0.at, hd⟩, ?_⟩
  rintro i m σ2 H2 ⟨rfl, hi, F2, ρ2, S2, k2⟩
  have sG : Sub (upd F a (.lst xs)) H2 := S2.gF.trans S2.rs.sub
  have sw : Sub G (upd F a (.lst xs)) := S.gF.trans (sub_new hF)
  by_cases hlt : i < ds.length
  · refine .inr ⟨y.go i hlt H2 sG, fun σ3 H3 => ∃ F3 ρ3, S8 (O.filter (· ≠ j)) p F0 H0 (upd F a (.lst xs)) F3 H3 σ3 ρ3 ∧ oGo j P gb De (ds.drop (i + 1)) ρ3, fun σ3 H3 w => ⟨ds.length - (i + 1), by omega, rfl, hlt, w⟩, fun v H3 yv => ?_⟩
    obtain ⟨s3, dt3⟩ := y.yld i ds[i] (List.getElem?_eq_getElem hlt) H2 sG v H3 yv
    rw [List.drop_eq_getElem_cons hlt] at k2
    have e3 : Ext p H2 H3 := .of_sub s3
    have S3 := S2.same e3
    refine htg S3.rs (dt3 F2 S2.gF S2.rs.sub) k2 fun σ4 ρ4 R4 k4 _ hO => ⟨p, F0, H0, upd F a (.lst xs), _, ρ4, _, S3.put3 (Ext.refl _ _) R4 (Sub.refl _) (S3.rs.sub_grow (Ext.refl _ _)) hO, k4, ?_⟩
    exact ⟨fun F H σ ρ S q => ⟨F, ρ, S, q⟩, fun F H σ ρ S q => L.nx F H σ _ ((S.weak sw).back h0) q, fun F H σ ρ S q => ⟨F, ρ, S, q⟩, L.rt, L.rl⟩
  · have e1 : i = ds.length := by omega
    subst e1
    rw [List.drop_length] at k2
    exact .inl ⟨y.stop H2 sG, L.nx _ _ _ _ ((S2.weak sw).back h0) k2⟩

/-! ### defs by name -/
def Cal (P : Program) (w : World) (K : PySem.W.Frag) (mg : Str → Option Value) (base : Heap) (k : Nat) (x : Str) (sp : Sp) : Prop := ∃ (f : Addr) (fd : FuncData) (ps : List Str), FnOk P w K mg base CX0 k f fd ps sp ∧ mg x = some (.ref f) ∧ PySem.W.keepIn K (.ref f) = true ∧ Binds K fd ps []
theorem pe_cal {x : Str} {p pos : Pos} {es : List Expr} {k j : Nat} {sp : Sp} {t : TA} (c : Cal X.prog X.w X.K X.mg X.base k x sp) (hr : Room j X.A) (hk : k ≤ j) (hg : Gl X x) (ha : PA X (e :: es) t)
    (hdb : (x == ("__debug__" : Str)) = false := by decide) (he : starEach (e :: es) X.env = (false, eval e X.env) :: starEach es X.env := by rfl) (hpl : (backTo pos (starEach es X.env)).any (·.1) = false := by rfl) :
    PE X (.Call (.Name x p) (e :: es) [] pos) (tCall sp [] E0 t) := by
  obtain ⟨f, fd, ps, F, hm, kp, b⟩ := c
  exact pe_call F (hr.mono hk) hg hm kp b .nil pass0 ha hdb he hpl

/-! ### entries -/
def startE (n : Nat) (ds : List PyData) : Env := ds.map some ++ List.replicate (n - ds.length) none
theorem start_get {N : List Str} {vs : List V} {i : Nat} {v : V} (h : vs[i]? = some v) : (start N vs)[i]? = some (some v) := by
  unfold L2.start
  obtain ⟨hl, _⟩ := List.getElem?_eq_some_iff.mp h
  rw [List.getElem?_append_left (by rw [List.length_map]; exact hl), List.getElem?_map, h]
  rfl
theorem startE_get {n : Nat} {ds : List PyData} {i : Nat} {d : PyData} (h : (startE n ds)[i]? = some (some d)) : ds[i]? = some d := by
  unfold startE at h
  by_cases c : i < ds.length
  · rw [List.getElem?_append_left (by rw [List.length_map]; exact c), List.getElem?_map] at h
    cases q : ds[i]? with
    | none => rw [q] at h; cases h
    | some e => rw [q] at h; cases h; rfl
  · rw [List.getElem?_append_right (by rw [List.length_map]; omega), List.getElem?_replicate] at h
    split at h <;> cases h
theorem ent_rs {N : List Str} {F H : Hp} {vs : List V} {ds : List PyData} (hs : Sub F H) (ht : ∀ a xs, TupA H a xs → TupA F a xs) (dl : DtL F vs ds) (hO : ∀ i ∈ O, ds.length ≤ i) (hz : 0 ∉ O) : Rs O none F H (start N vs) (startE N.length ds) where
  sub := hs
  len := by unfold L2.start startE; rw [List.length_append, List.length_append, List.length_map, List.length_map, List.length_replicate, List.length_replicate, dl.length]
  dat := fun i d he hi => by
    obtain ⟨v, e, dt⟩ := dl.get' (startE_get he)
    exact ⟨v, start_get e, dt⟩
  own := fun i d he hi => by
    have h1 := (List.getElem?_eq_some_iff.mp (startE_get he)).1
    exact absurd (hO i hi) (by omega)
  apart := fun i j a d e hi hj he => by
    have h1 := (List.getElem?_eq_some_iff.mp (startE_get he)).1
    exact absurd (hO i hi) (by omega)
  hat := fun a q => by cases q
  hatS := fun a q => by cases q
  hatO := fun q => absurd q hz
  tups := ht
def hE0 : Hp := fun _ => none
theorem ent {N : List Str} {R : Rl} {g : DS} (hO : ∀ i ∈ O, 0 < i) (h : ∀ ds K, R ds K → (∀ i ∈ O, ds.length ≤ i) ∧ g { nx := fun _ => K .none, rt := K, rl := fun _ => False } (startE N.length ds)) (vs : List V) (H : Hp) (Q : VK) (E : XK) (q : Pr R vs H Q E) : sS O g { nx := fun _ H' => Q .non H', rt := Q } (start N vs) H := by
  obtain ⟨F, ds, K, hs, ht, dl, hr, hk⟩ := q
  obtain ⟨h1, h2⟩ := h ds K hr
  have R := ent_rs (N := N) hs ht dl h1 fun z => Nat.lt_irrefl 0 (hO 0 z)
  exact ⟨none, F, H, hE0, F, _, _, ⟨R, fun _ _ z => (nomatch (show none = some _ from z)), R.sub_grow (.refl _ _), .refl _ _, fun i a d hi he => by
    have h3 := (List.getElem?_eq_some_iff.mp (startE_get he)).1
    exact absurd (h1 i hi) (by omega), fun a z => nomatch z⟩, h2, ⟨fun F' H' σ ρ S q => hk .none q .non H' S.ext .non, fun _ _ _ _ _ q => q, fun _ _ _ _ _ q => q, fun d v H' ex dt q => hk d q v H' ex dt, fun _ _ _ _ _ _ _ _ q => q.elim⟩⟩
theorem entL {N : List Str} {R : RlL} {g : DS} (hO : ∀ i ∈ O, 0 < i) (h : ∀ ds K, R ds K → (∀ i ∈ O, ds.length ≤ i) ∧ g { nx := fun _ => False, rt := fun _ => False, rl := K } (startE N.length ds)) (vs : List V) (H : Hp) (Q : VK) (E : XK) (q : PrL R vs H Q E) : sS O g { nx := fun _ H' => Q .non H', rt := Q } (start N vs) H := by
  obtain ⟨F, ds, K, hs, ht, dl, hr, hk⟩ := q
  obtain ⟨h1, h2⟩ := h ds K hr
  have R := ent_rs (N := N) hs ht dl h1 fun z => Nat.lt_irrefl 0 (hO 0 z)
  exact ⟨none, F, H, hE0, F, _, _, ⟨R, fun _ _ z => (nomatch (show none = some _ from z)), R.sub_grow (.refl _ _), .refl _ _, fun i a d hi he => by
    have h3 := (List.getElem?_eq_some_iff.mp (startE_get he)).1
    exact absurd (h1 i hi) (by omega), fun a z => nomatch z⟩, h2, ⟨fun F' H' σ ρ S q => q.elim, fun _ _ _ _ _ q => q, fun _ _ _ _ _ q => q, fun _ _ _ _ _ q => q.elim, fun ds a xs H' ex hn ha dl q => hk ds q a xs H' ex hn ha dl⟩⟩
def startH (n : Nat) (ds : List PyData) : Env := none :: startE (n - 1) ds
theorem start_cons {N : List Str} {v : V} {vs : List V} : start N (v :: vs) = some v :: (vs.map some ++ List.replicate (N.length - (vs.length + 1)) none) := rfl
theorem entH_rs {N : List Str} {F H : Hp} {b : Addr} {ws : List V} {ds : List PyData} (hb : HatAt H b) (hF : F b = none) (hs : Sub F H) (ht : ∀ a xs, TupA H a xs → TupA F a xs) (dl : DtL F ws ds) (hO : ∀ i ∈ O, i = 0 ∨ ds.length + 1 ≤ i) : Rs O (some b) F H (start N (.ref b :: ws)) (startH N.length ds) where
  sub := hs
  len := by rw [start_cons]; unfold startH startE; rw [List.length_cons, List.length_cons, List.length_append, List.length_append, List.length_map, List.length_map, List.length_replicate, List.length_replicate, dl.length]; omega
  dat := fun i d he hi => by
    cases i with
    | zero => cases he
    | succ i =>
      have h2 : (startE (N.length - 1) ds)[i]? = some (some d) := he
      obtain ⟨v, e, dt⟩ := dl.get' (startE_get h2)
      refine ⟨v, start_get ?_, dt⟩
      exact e
  own := fun i d he hi => by
    cases i with
    | zero => cases he
    | succ i =>
      have h2 : (startE (N.length - 1) ds)[i]? = some (some d) := he
      have h1 := (List.getElem?_eq_some_iff.mp (startE_get h2)).1
      have := hO (i + 1) hi
      omega
  apart := fun i j a d e hi hj he => by
    cases i with
    | zero => cases he
    | succ i =>
      have h2 : (startE (N.length - 1) ds)[i]? = some (some d) := he
      have h1 := (List.getElem?_eq_some_iff.mp (startE_get h2)).1
      have := hO (i + 1) hi
      omega
  hat := fun a q => by cases q; exact ⟨hF, hb⟩
  hatS := fun a q => by cases q; rfl
  hatO := fun _ => ⟨b, rfl⟩
  tups := ht
theorem entH_nw {n : Nat} {ds : List PyData} (hO : ∀ i ∈ O, i = 0 ∨ ds.length + 1 ≤ i) {i : Nat} {d : PyData} (hi : i ∈ O) (he : (startH n ds)[i]? = some (some d)) : False := by
  cases i with
  | zero => cases he
  | succ i =>
    have h2 : (startE (n - 1) ds)[i]? = some (some d) := he
    have h1 := (List.getElem?_eq_some_iff.mp (startE_get h2)).1
    have := hO (i + 1) hi
    omega
theorem entH {N : List Str} {R : Rl} {g : DS} (h : ∀ ds K, R ds K → (∀ i ∈ O, i = 0 ∨ ds.length + 1 ≤ i) ∧ g { nx := fun _ => K .none, rt := K, rl := fun _ => False } (startH N.length ds)) (vs : List V) (H : Hp) (Q : VK) (E : XK) (q : PrH R vs H Q E) : sS O g { nx := fun _ H' => Q .non H', rt := Q } (start N vs) H := by
  obtain ⟨b, ws, F, ds, K, rfl, hb, hF, hs, ht, dl, hr, hk⟩ := q
  obtain ⟨h1, h2⟩ := h ds K hr
  have R := entH_rs (N := N) hb hF hs ht dl h1
  exact ⟨some b, F, H, hE0, F, _, _, ⟨R, fun _ _ z => (nomatch (show none = some _ from z)), R.sub_grow (.refl _ _), .refl _ _, fun i a d hi he => (entH_nw h1 hi he).elim, fun a z => by cases z; exact ⟨hb, hF⟩⟩, h2, ⟨fun F' H' σ ρ S q => hk .none q .non H' S.ext .non, fun _ _ _ _ _ q => q, fun _ _ _ _ _ q => q, fun d v H' ex dt q => hk d q v H' ex dt, fun _ _ _ _ _ _ _ _ q => q.elim⟩⟩
theorem entHL {N : List Str} {R : RlL} {g : DS} (h : ∀ ds K, R ds K → (∀ i ∈ O, i = 0 ∨ ds.length + 1 ≤ i) ∧ g { nx := fun _ => False, rt := fun _ => False, rl := K } (startH N.length ds)) (vs : List V) (H : Hp) (Q : VK) (E : XK) (q : PrHL R vs H Q E) : sS O g { nx := fun _ H' => Q .non H', rt := Q } (start N vs) H := by
  obtain ⟨b, ws, F, ds, K, rfl, hb, hF, hs, ht, dl, hr, hk⟩ := q
  obtain ⟨h1, h2⟩ := h ds K hr
  have R := entH_rs (N := N) hb hF hs ht dl h1
  exact ⟨some b, F, H, hE0, F, _, _, ⟨R, fun _ _ z => (nomatch (show none = some _ from z)), R.sub_grow (.refl _ _), .refl _ _, fun i a d hi he => (entH_nw h1 hi he).elim, fun a z => by cases z; exact ⟨hb, hF⟩⟩, h2, ⟨fun F' H' σ ρ S q => q.elim, fun _ _ _ _ _ q => q, fun _ _ _ _ _ q => q, fun _ _ _ _ _ q => q.elim, fun ds a xs H' ex hn ha dl q => hk ds q a xs H' ex hn ha dl⟩⟩
theorem len_pr {R : Rl} {n : Nat} (h : ∀ ds K, R ds K → ds.length = n) (vs : List V) (H : Hp) (Q : VK) (E : XK) (q : Pr R vs H Q E) : vs.length = n := by
  obtain ⟨F, ds, K, hs, ht, dl, hr, hk⟩ := q
  rw [dl.length]; exact h ds K hr
theorem len_prL {R : RlL} {n : Nat} (h : ∀ ds K, R ds K → ds.length = n) (vs : List V) (H : Hp) (Q : VK) (E : XK) (q : PrL R vs H Q E) : vs.length = n := by
  obtain ⟨F, ds, K, hs, ht, dl, hr, hk⟩ := q
  rw [dl.length]; exact h ds K hr
theorem len_prH {R : Rl} {n : Nat} (h : ∀ ds K, R ds K → ds.length = n) (vs : List V) (H : Hp) (Q : VK) (E : XK) (q : PrH R vs H Q E) : vs.length = n + 1 := by
  obtain ⟨b, ws, F, ds, K, rfl, hb, hF, hs, ht, dl, hr, hk⟩ := q
  rw [List.length_cons, dl.length, h ds K hr]
theorem len_prHL {R : RlL} {n : Nat} (h : ∀ ds K, R ds K → ds.length = n) (vs : List V) (H : Hp) (Q : VK) (E : XK) (q : PrHL R vs H Q E) : vs.length = n + 1 := by
  obtain ⟨b, ws, F, ds, K, rfl, hb, hF, hs, ht, dl, hr, hk⟩ := q
  rw [List.length_cons, dl.length, h ds K hr]
end
end Kb
set_option Elab.async false
set_option linter.all false
set_option maxRecDepth 100000
set_option maxHeartbeats 1000000
/-! E3: sorted, of lists, tuples, dicts and sets whose items are ints or tuples of ints. -/
namespace Kb
open PySem PySem.Spec PyProof.Rows L2
open PySem.W
def AllTup (ds : List PyData) : Prop := ∀ d ∈ ds, ∃ xs, d = .tuple xs
section
variable {prog : Program} {w : World} {A : Around} {s : Shared} {E : Value → Shared → Prop}
/-- t < u by the type's own slot, as a sort asks it -/
theorem oneLt_tups {xs ys : List PyData} {a b : Value} {as bs : List Addr} {Q : Bool → Shared → Prop} (ra : Reads s.heap a (.tuple xs) as) (rb : Reads s.heap b (.tuple ys) bs) (h : alike (.tuple xs) (.tuple ys) = true)
    (hu : A.units + min (PyData.tuple xs).depth (PyData.tuple ys).depth < cLine) (hq : Q (dataLt (.tuple xs) (.tuple ys)) s) : wpAny (model prog w) A (oneLt' true a b) Q E s := by
  have hal : PySem.W.alikeAll xs ys = true := by simpa [alike] using h
  cases ra with
  | @tuple l o vs n _ as₁ h1 h2 h3 h4 =>
    cases rb with
    | @tuple l' o' vs' n' _ bs₁ k1 k2 k3 k4 =>
      have n1 : vs.size = xs.length := by simpa using SeqAt.ReadsAll.length _ _ _ h4
      have n2 : vs'.size = ys.length := by simpa using SeqAt.ReadsAll.length _ _ _ k4
      rw [PySem.W.dataLt_tuple, ← PySem.W.firstLt_toks xs ys hal, ← n1, ← n2] at hq
      obtain ⟨cls, dd, data, sl⟩ := o
      obtain ⟨cls2, dd2, data2, sl2⟩ := o'
      simp only at h2 h3 k2 k3
      subst h2 h3 k2 k3
      rw [oneLt'_eq]
      simp only [if_true]
      refine wpAny_bind (wpAny_cRoomFor (SeqAt.room_here hu) ?_)
      refine wpAny_bind (wpAny_callSpecialIfBound?_slot (T := "tuple") ⟨_, h1, rfl⟩ PySem.F.slot_tuple_lt (call_meets PySem.F.slot_tuple_lt ⟨_, h1, rfl⟩ PySem.F.entry_tuple_lt (PySem.F.args_tuple_lt_2 _ _)
        (SeqAt.tuple_ltAt l l' vs vs' n n' dd dd2 sl sl2 (SeqAt.pairEq xs ys) fun j => dataLt (xs.getD j .none) (ys.getD j .none)) ⟨h1, k1, fun j j1 j2 => ?_, fun j j1 j2 hj => ?_, ?_⟩))
      · have := PySem.W.eqAt_alikeAll xs ys A.in1 s vs.toList vs'.toList _ _ h4 k4 hal (SeqAt.room_in hu) j (by simpa using j1) (by simpa using j2)
        simpa using this
      · have := PySem.W.rcLt_alikeAll xs ys A.in1 s vs.toList vs'.toList _ _ h4 k4 hal (SeqAt.room_in hu) j (by simpa using j1) (by simpa using j2) hj
        simpa using this
      · exact wpAny_truthy_bool hq
theorem srt_kind {vs : List Value} {M : Model} {Q : SortKind → Shared → Prop} {v₀ : Value} (h2 : 2 ≤ vs.length) (h0 : vs.head? = some v₀) (he : ∃ (a : Addr) (o : Obj) (n : Nat), v₀ = .ref a ∧ s.heap.get? a = some o ∧ o.cls = .type "tuple" ∧ o.data = .seq #[] n)
    (ht : ∀ v ∈ vs, ∃ (a : Addr) (o : Obj) (xs : Array Value) (n : Nat), v = .ref a ∧ s.heap.get? a = some o ∧ o.cls = .type "tuple" ∧ o.data = .seq xs n) (h : Q oneType' s) : wpAny M A (keyKind' vs.toArray) Q E s := by
  have look : ∀ v ∈ vs, Looks M s.heap (typeOf v) (Value.type "tuple") := fun v hv => by
    obtain ⟨a, o, xs, n, rfl, ho, hc, _⟩ := ht v hv
    show Looks M s.heap (typeOf (Value.ref _)) (Value.type "tuple")
    exact hc ▸ (Looks.ld ho).andThen .now
  have firsts : ∀ (l : List Value), (∀ v ∈ l, v ∈ vs) → ∀ {Q : List (Option Value) → Shared → Prop} {E : Value → Shared → Prop}, (∀ fs : List (Option Value), fs.length = l.length → (∀ v, l.head? = some v → v = v₀ → fs.head? = some none) → Q fs s) → wpAny M A (l.mapM firstOfTuple') Q E s := by
    intro l
    induction l with
    | nil => intro _ Q E q; rw [List.mapM_nil]; exact wpAny_pure (q [] rfl fun v e => nomatch e)
    | cons v l ih =>
      intro hl Q E q
      rw [List.mapM_cons]
      obtain ⟨a, o, xs, n, rfl, ho, hc, hd⟩ := ht v (hl v List.mem_cons_self)
      rw [kas_first_eq]
      refine wpAny_bind (wpAny_bind ((look _ (hl _ List.mem_cons_self)).here ?_))
      rw [if_neg (by decide)]
      refine wpAny_bind (listItems_at ho hd (wpAny_pure ?_))
      refine wpAny_bind (ih (fun v hv => hl v (List.mem_cons_of_mem _ hv)) fun fs h1 _ => wpAny_pure (q _ (by rw [List.length_cons, List.length_cons, h1]) fun v e1 e2 => ?_))
      have e3 : v = .ref a := by simpa using e1.symm
      obtain ⟨a', o', n', e4, ho', _, hd'⟩ := he
      rw [← e2, e3] at e4
      cases e4
      rw [ho] at ho'
      cases ho'
      rw [hd] at hd'
      cases hd'
      rfl
  rw [keyKind'_eq, List.mapM_toArray, map_eq_pure_bind]
  refine wpAny_bind (wpAny_bind (firsts vs (fun v hv => hv) fun fs h1 hfs => wpAny_pure ?_))
  have h3 := hfs v₀ h0 rfl
  have hb : (fs.toArray[0]?.bind id).isSome = false := by
    rw [List.getElem?_toArray, ← List.head?_eq_getElem?, h3]; rfl
  have hall : (fs.toArray.all fun x => x.isSome) = false := by
    cases fs with
    | nil => cases h3
    | cons f fs =>
      cases h3
      simp
  rw [if_neg (by rw [hall]; decide), if_neg (by rw [hb]; decide)]
  rw [oneTypeOnly'_eq, List.mapM_toArray, map_eq_pure_bind]
  refine wpAny_bind (wpAny_bind (wpAny_bind (kas_mapM (r := Value.type "tuple") _ (fun v hv Q' hq => (look v hv).here hq) (wpAny_pure ?_))))
  have hall2 : ((List.map (fun _ => Value.type "tuple") vs).toArray.all fun x => x == Value.type "tuple") = true := by
    simp only [List.all_toArray, List.all_map, List.all_eq_true]
    intro _ _
    rfl
  have h00 : (List.map (fun _ => Value.type "tuple") vs).toArray[0]? = some (Value.type "tuple") := by
    cases vs with
    | nil => simp at h2
    | cons v vs => simp
  rw [h00]
  simp only [hall2, if_true]
  exact wpAny_pure (wpAny_pure h)
/-- tuples of alike things: none empty, or the first of them -/
def Srt2 (ds : List PyData) : Prop := Sortable ds ∨ (AllTup ds ∧ ds.head? = some (.tuple []))
theorem sorts2 {vs : List Value} {ds : List PyData} (e : EachIs (fun v d => Reads s.heap v d []) vs ds) (hal : AllAlike ds) (hk : Srt2 ds) (hu : ∀ d, d ∈ ds → A.units + d.depth < cLine) : SortsAt prog w A s (dataKind s.heap ds) vs := by
  have e' : EachIs (fun v d => ∃ as, Reads s.heap v d as) vs ds := e.mono fun _ _ r => ⟨[], r⟩
  rcases hk with hk | ⟨ht, h0⟩
  · exact .data e' hal hk hu
  · have room : ∀ {d d' : PyData}, d ∈ ds → A.units + min d.depth d'.depth < cLine := fun {d d'} hd => Nat.lt_of_le_of_lt (Nat.add_le_add_left (Nat.min_le_left _ _) _) (hu d hd)
    refine ⟨fun v hv => ?_, oneType', ?_, fun h2 E Q hq => ?_⟩
    · obtain ⟨d, hd, as, r⟩ := e'.left v hv
      exact ⟨_, dataKind_some hal hd r⟩
    · intro E x y a b Q ha hb hq
      obtain ⟨d, as, hd, ra, rfl⟩ := dataKind_inv ha
      obtain ⟨d', as', hd', rb, rfl⟩ := dataKind_inv hb
      obtain ⟨xs, rfl⟩ := ht d hd
      obtain ⟨ys, rfl⟩ := ht d' hd'
      rw [keyLt'_oneType]
      exact oneLt_tups ra rb (hal _ hd _ hd') (room hd) hq
    · have tup : ∀ v ∈ vs, ∃ (a : Addr) (o : Obj) (xs : Array Value) (n : Nat), v = .ref a ∧ s.heap.get? a = some o ∧ o.cls = .type "tuple" ∧ o.data = .seq xs n := fun v hv => by
        obtain ⟨d, hd, r⟩ := e.left v hv
        obtain ⟨xs, rfl⟩ := ht d hd
        cases r with
        | tuple h1 h2 h3 h4 => exact ⟨_, _, _, _, rfl, h1, h2, h3⟩
      cases e with
      | nil => cases h0
      | cons r t =>
        have h0' := Option.some.inj h0
        subst h0'
        cases r with
        | tuple h1 h2' h3 h4 =>
          rename_i xs n
          have hx : xs = #[] := by
            cases q : xs.toList with
            | nil => exact Array.toList_inj.mp q
            | cons f fr => rw [q] at h4; cases h4
          subst hx
          exact srt_kind h2 rfl ⟨_, _, _, rfl, h1, h2', h3⟩ tup hq
end
end Kb
set_option Elab.async false
set_option linter.all false
set_option maxRecDepth 100000
set_option maxHeartbeats 1000000
/-! E4: sorted, over what collects to values that read as alike data. -/
namespace Kb
open PySem PySem.Spec PyProof.Rows L2
open PySem.W

def Keeps (h h' : Heap) : Prop := ∀ b o, h.get? b = some o → h'.get? b = some o
section
variable {prog : Program} {w : World} {A : Around} {s : Shared} {E : Value → Shared → Prop} {β : Type}
theorem sorted_src {r : Addr} {U : List Value → List β → Prop} {R : Value → β → Prop} {enc : β → PyData} {Q : Value → Shared → Prop}
    (coll : ∀ {R' : List Value → Shared → Prop} {E' : Value → Shared → Prop}, (∀ (s1 : Shared) (us : List Value) (bs : List β), Keeps s.heap s1.heap → s1.gens = s.gens → s1.os = s.os → U us bs → R' us s1) → wpAny (model prog w) A.in1 (collect (.ref r)) R' E' s)
    (hU : ∀ us bs, U us bs → EachIs R us bs ∧ (∀ h', Keeps s.heap h' → EachIs (fun v b => Reads h' v (enc b) []) us bs) ∧ AllAlike (bs.map enc) ∧ Srt2 (bs.map enc) ∧ us.length ≤ sizeLine ∧ ∀ b ∈ bs, (enc b).depth ≤ 8) (hu : A.units + 16 < cLine)
    (h : ∀ (us : List Value) (bs : List β) (s1 : Shared) (h' : Heap) (out : List Value) (c : Nat), U us bs → Keeps s.heap s1.heap → s1.gens = s.gens → s1.os = s.os → Keeps s1.heap h' → h'.get? s1.heap.objs.size = some (seqObj "list" (List.toArray out) c) → out.length = bs.length → EachIs R out (bs.mergeSort (dataLe false enc)) → Q (.ref s1.heap.objs.size) { s1 with heap := h' }) :
    wpAny (model prog w) A (call (.builtin "sorted") [.ref r]) Q E s := by
  refine Calls.call_function_entry PyProof.Rows.kind_sorted PyProof.Rows.plain_sorted PyProof.Rows.entry_sorted (PyProof.Rows.args_sorted1 _) ?_
  unfold Builtin.«sorted»
  refine wpAny_bind (m := checkCount "sorted" 1 1 _) (wpAny_pure ?_)
  refine wpAny_bind (coll fun s1 us bs hk hgn hos hu' => ?_)
  obtain ⟨h', gn, dr, tk, os⟩ := s1
  replace hk : Keeps s.heap h' := hk
  replace hgn : gn = s.gens := hgn
  replace hos : os = s.os := hos
  obtain ⟨e, er, hal, hs2, hz, hdp⟩ := hU us bs hu'
  refine wpAny_bind (wpAny_newList ?_ hz)
  have hoL : (h'.push (seqObj "list" us.toArray 0)).get? h'.objs.size = some (seqObj "list" us.toArray 0) := Heap.get?_push_size _ rfl
  show wpAny _ _ _ _ _ ⟨h'.push (seqObj "list" us.toArray 0), gn, dr, tk, os⟩
  have keep : Keeps s.heap (sortingHeap (h'.push (seqObj "list" us.toArray 0)) h'.objs.size us) := fun b o q =>
    sortingHeap_old (Nat.ne_of_lt (Heap.lt_size (hk b o q))) (Heap.get?_push_of_some _ (hk b o q))
  have er' := er _ keep
  have S : SortsAt prog w A.in1.in1 ⟨sortingHeap (h'.push (seqObj "list" us.toArray 0)) h'.objs.size us, gn, dr, tk, os⟩ (dataKind (sortingHeap (h'.push (seqObj "list" us.toArray 0)) h'.objs.size us) (bs.map enc)) us :=
    sorts2 (s := ⟨sortingHeap (h'.push (seqObj "list" us.toArray 0)) h'.objs.size us, gn, dr, tk, os⟩) (each_map (R := fun v d => Reads _ v d []) enc er') hal hs2 fun d hd => by
      obtain ⟨b, hb, rfl⟩ := List.mem_map.mp hd
      have := hdp b hb
      show A.units + 1 + 1 + _ < _
      omega
  refine wpAny_bind (wpAny_holding (wpAny_call_entry PyProof.Rows.slot_list_sort ⟨_, hoL, rfl⟩ PyProof.Rows.entry_list_sort
    (list_sort_vals (s := ⟨h'.push (seqObj "list" us.toArray 0), gn, dr, tk, os⟩) hoL S hz ⟨_, rfl, ?_⟩) (PyProof.Rows.args_list_sort _)))
  obtain ⟨c, hc⟩ := PyProof.Rows.sortedHeap_at (vs := us) (out := (sortVals (dataKind (sortingHeap (h'.push (seqObj "list" us.toArray 0)) h'.objs.size us) (bs.map enc)) false us us).toArray) hoL
  refine wpAny_pure ⟨_, rfl, h us bs ⟨h', gn, dr, tk, os⟩ _ _ c hu' hk hgn hos (fun b o q => ?_) hc (by rw [sortVals_length false rfl]; exact e.length) (sortVals_data (h' := sortingHeap (h'.push (seqObj "list" us.toArray 0)) h'.objs.size us) false e (er'.mono fun _ _ q => ⟨[], q⟩) hal)⟩
  have hlt : b < h'.objs.size := Heap.lt_size q
  show (sortedHeap (h'.push (seqObj "list" us.toArray 0)) h'.objs.size us _).get? b = some o
  rw [PyProof.Rows.sortedHeap_old (Nat.ne_of_lt hlt) (by rw [size_push']; exact Nat.lt_succ_of_lt hlt)]
  exact Heap.get?_push_of_some _ q
end
end Kb
set_option Elab.async false
set_option linter.all false
set_option maxRecDepth 100000
set_option maxHeartbeats 1000000
/-! E5: sorted of lists and tuples of ints, of tuples of ints: as rules, read over data. -/
namespace Kb
open PySem PySem.Spec PyProof.Rows L2
open PySem.W

abbrev TI2 := V × List Int
def encT (b : TI2) : PyData := .tuple (b.2.map .int)
def TB (K : PySem.W.Frag) (H : Hp) (bs : List TI2) : Prop := ∀ b ∈ bs, ∃ t, b.1 = .ref t ∧ SqT K H t (b.2.map V.int)
theorem reads_ints {h : Heap} : ∀ {us : List Value} {ns : List Int}, IntsAre us ns → ReadsAll h us (ns.map PyData.int) []
  | _, _, .nil => .nil
  | _, _, .cons n t r => .cons (as := []) (.int n t) (reads_ints r)
theorem tb_each {X : Cx} {pins : List (Addr × Obj)} {σ : L2.St} {H : Hp} {s : Shared} (I : Inv X pins σ H s) : ∀ {bs : List TI2} {us : List Value}, TB X.K H bs → Vals (bs.map (·.1)) us → EachIs (fun v (b : TI2) => RelV b.1 v) us bs ∧ ∀ h', Keeps s.heap h' → EachIs (fun v b => Reads h' v (encT b) []) us bs
  | [], _, _, .nil => ⟨.nil, fun _ _ => .nil⟩
  | b :: bs, _, ht, .cons r rs => by
    obtain ⟨h1, h2⟩ := tb_each I (fun c hc => ht c (List.mem_cons_of_mem _ hc)) rs
    refine ⟨.cons r h1, fun h' hk => .cons ?_ (h2 h' hk)⟩
    obtain ⟨t, e, hq⟩ := ht b List.mem_cons_self
    obtain ⟨b1, b2⟩ := b
    have e : b1 = .ref t := e
    subst e
    cases r
    obtain ⟨its, rv, ⟨o, ho, hc, n, hd⟩, _⟩ := I.tuple hq
    exact .tuple (hk _ _ ho) hc hd (reads_ints (by simpa using rv.ints))
theorem each_vals : ∀ {us : List Value} {bs : List TI2}, EachIs (fun v (b : TI2) => RelV b.1 v) us bs → Vals (bs.map (·.1)) us
  | _, _, .nil => .nil
  | _, _, .cons r t => .cons r (each_vals t)
theorem alike_encT {bs : List TI2} : AllAlike (bs.map encT) := .of fun b b' => by
  show alike (.tuple _) (.tuple _) = true
  simpa [alike] using alike_ints b.2 b'.2
theorem depth_encT (b : TI2) : (encT b).depth ≤ 8 := by
  unfold encT
  rw [PyData.depth, depth_ints]
  omega
theorem srt2_encT {bs : List TI2} (h : (∀ b ∈ bs, b.2 ≠ []) ∨ (bs.map (·.2)).head? = some []) : Srt2 (bs.map encT) := by
  rcases h with h | h
  · refine .inl (.inl fun d hd => ?_)
    obtain ⟨b, hb, rfl⟩ := List.mem_map.mp hd
    unfold encT
    have := h b hb
    cases q : b.2 with
    | nil => exact absurd q this
    | cons x r => exact ⟨_, _, rfl⟩
  · refine .inr ⟨fun d hd => ?_, ?_⟩
    · obtain ⟨b, hb, rfl⟩ := List.mem_map.mp hd
      exact ⟨_, rfl⟩
    · cases bs with
      | nil => cases h
      | cons b bs =>
        have h' : b.2 = [] := Option.some.inj h
        show some (encT b) = _
        unfold encT
        rw [h']; rfl
theorem srtT_pw {bs : List TI2} : (bs.mergeSort (dataLe false encT)).Pairwise (fun a b => ¬ b.2 < a.2) := by
  refine (sort_pairwise (sortLe_total _ false _) bs).imp fun {a b} h => ?_
  have h : dataLe false encT a b = true := h
  rw [dataLe_eq] at h
  have h2 : (!dataLt (encT b) (encT a)) = true := h
  unfold encT at h2
  rw [dataLt_tuple] at h2
  have h3 : (!rowLt (b.2.map .int) (a.2.map .int)) = true := h2
  rw [dataLt_ints] at h3
  simpa using h3
/-- the items of a list or tuple, told for collect -/
theorem coll_seq {X : Cx} {pins : List (Addr × Obj)} {σ : L2.St} {H : Hp} {s : Shared} {r : Addr} {xs : List V} {A : Around} (I : Inv X pins σ H s) (hq : SqL X.K H r xs ∨ SqT X.K H r xs) {R' : List Value → Shared → Prop} {E' : Value → Shared → Prop} (h : ∀ (h' : Heap) (us : List Value), Keeps s.heap h' → Vals xs us → us.length ≤ sizeLine → R' us { s with heap := h' }) : wpAny (model X.prog X.w) A (collect (.ref r)) R' E' s := by
  rcases hq with hq | hq
  · obtain ⟨its, rv, pl, hz⟩ := I.list hq
    obtain ⟨o, ho, hc, n, hd⟩ := pl.isList
    have hl : its.length ≤ sizeLine := by rw [← rv.length]; exact hz
    refine wpAny_collect_seq r (.inl rfl) ho hc hd (fun h' hk => ?_) (by simpa using hl)
    exact h h' its hk rv hl
  · obtain ⟨its, rv, ⟨o, ho, hc, n, hd⟩, hz⟩ := I.tuple hq
    have hl : its.length ≤ sizeLine := by rw [← rv.length]; exact hz
    refine wpAny_collect_seq r (.inr rfl) ho hc hd (fun h' hk => ?_) (by simpa using hl)
    exact h h' its hk rv hl
/-- the end: the new list is tracked -/
theorem fin_list {X : Cx} {pins : List (Addr × Obj)} {σ : L2.St} {H : Hp} {s s1 : Shared} {Q : VK} {h' : Heap} {c : Nat} {ys : List V} {out : List Value} (I : Inv X pins σ H s) (k1 : Keeps s.heap s1.heap) (hg : s1.gens = s.gens) (hs : s1.os = s.os) (k2 : Keeps s1.heap h') (ho : h'.get? s1.heap.objs.size = some (seqObj "list" (List.toArray out) c)) (rv : Vals ys out) (hz : ys.length ≤ sizeLine)
    (q : ∀ p, H p = none → Q (.ref p) (upd H p (.lst ys))) : EP X pins σ Q (.ref s1.heap.objs.size) { s1 with heap := h' } := by
  have I1 : Inv X pins σ H s1 := I.call' (ch := []) hs (Un.kept k1) (I.hok.kept k1) (by rw [hg]; exact I.bare) fun _ z => nomatch z
  exact ⟨.ref s1.heap.objs.size, _, I1.laid (t' := s1.toks) k2 (Nat.le_refl _) (show ObjOk X.prog X.w _ _ _ (.lst ys) from ⟨hz, out, c, rv, ho⟩), rfl, q _ (I1.hok.fresh (Nat.le_refl _))⟩
def rSortTs (K : PySem.W.Frag) : List V → Hp → VK → Prop := fun vs H Q => ∃ (r : Addr) (bs : List TI2), vs = [.ref r] ∧ (SqL K H r (bs.map (·.1)) ∨ SqT K H r (bs.map (·.1))) ∧ TB K H bs ∧ ((∀ b ∈ bs, b.2 ≠ []) ∨ (bs.map (·.2)).head? = some []) ∧
  ∀ (zs : List TI2) p, zs.Perm bs → zs.Pairwise (fun a b => ¬ b.2 < a.2) → H p = none → Q (.ref p) (upd H p (.lst (zs.map (·.1))))
theorem cr_sortTs {X : Cx} (hu : X.A.units + 64 < cLine) : CallR X (.builtin "sorted") (rSortTs X.K) := by
  intro pins s σ H xs us Q I r h
  obtain ⟨a, bs, rfl, hq, ht, hk, q⟩ := h
  rw [Vals.ref1 r]
  have hlen : bs.length ≤ sizeLine := by
    rcases hq with hq | hq
    · obtain ⟨its, rv, _, hz⟩ := I.list hq
      simpa using hz
    · obtain ⟨its, rv, _, hz⟩ := I.tuple hq
      simpa using hz
  refine sorted_src (β := TI2) (U := fun us bs' => bs' = bs ∧ Vals (bs.map (·.1)) us ∧ us.length ≤ sizeLine) (R := fun v b => RelV b.1 v) (enc := encT)
    (fun {R' E'} k => coll_seq I hq fun h' us hk rv hl => k { s with heap := h' } us bs hk rfl rfl ⟨rfl, rv, hl⟩) (fun us bs' ⟨e, rv, hl⟩ => ?_) (by omega) fun us bs' s1 h' out c ⟨e, rv, hl⟩ k1 g1 o1 k2 ho hlo ho2 => ?_
  · subst e
    obtain ⟨e1, e2⟩ := tb_each I ht rv
    exact ⟨e1, e2, alike_encT, srt2_encT hk, hl, fun b _ => depth_encT b⟩
  · subst e
    exact fin_list I k1 g1 o1 k2 ho (each_vals ho2) (by rw [List.length_map, List.length_mergeSort]; exact hlen) fun p hp => q _ p (List.mergeSort_perm _ _) srtT_pw hp
/-- ints, in a list or a tuple -/
def rSortIs (K : PySem.W.Frag) : List V → Hp → VK → Prop := fun vs H Q => ∃ (r : Addr) (ns : List Int), vs = [.ref r] ∧ (SqL K H r (ns.map V.int) ∨ SqT K H r (ns.map V.int)) ∧ ∀ (ms : List Int) p, ms.Perm ns → ms.Pairwise (· ≤ ·) → H p = none → Q (.ref p) (upd H p (.lst (ms.map V.int)))
theorem int_each {h : Heap} : ∀ {us : List Value} {ns : List Int}, IntsAre us ns → EachIs (fun v (n : Int) => RelV (.int n) v) us ns ∧ EachIs (fun v (n : Int) => Reads h v (.int n) []) us ns
  | _, _, .nil => ⟨.nil, .nil⟩
  | _, _, .cons n t r => by
    obtain ⟨h1, h2⟩ := int_each (h := h) r
    exact ⟨.cons ⟨t, rfl⟩ h1, .cons (.int n t) h2⟩
theorem each_ints : ∀ {us : List Value} {ns : List Int}, EachIs (fun v (n : Int) => RelV (.int n) v) us ns → Vals (ns.map V.int) us
  | _, _, .nil => .nil
  | _, _, .cons r t => .cons r (each_ints t)
theorem cr_sortIs {X : Cx} (hu : X.A.units + 64 < cLine) : CallR X (.builtin "sorted") (rSortIs X.K) := by
  intro pins s σ H xs us Q I r h
  obtain ⟨a, ns, rfl, hq, q⟩ := h
  rw [Vals.ref1 r]
  have hlen : ns.length ≤ sizeLine := by
    rcases hq with hq | hq
    · obtain ⟨its, rv, _, hz⟩ := I.list hq
      simpa using hz
    · obtain ⟨its, rv, _, hz⟩ := I.tuple hq
      simpa using hz
  refine sorted_src (β := Int) (U := fun us bs' => bs' = ns ∧ Vals (ns.map V.int) us ∧ us.length ≤ sizeLine) (R := fun v n => RelV (.int n) v) (enc := PyData.int)
    (fun {R' E'} k => coll_seq I hq fun h' us hk rv hl => k { s with heap := h' } us ns hk rfl rfl ⟨rfl, rv, hl⟩) (fun us bs' ⟨e, rv, hl⟩ => ?_) (by omega) fun us bs' s1 h' out c ⟨e, rv, hl⟩ k1 g1 o1 k2 ho hlo ho2 => ?_
  · subst e
    refine ⟨(int_each (h := s.heap) rv.ints).1, fun h' _ => (int_each rv.ints).2, .of fun b b' => by simp [alike], Or.inl (Sortable.others (enc := PyData.int) fun b => And.intro (fun z => PyData.noConfusion z) (fun xs z => PyData.noConfusion z)), hl, fun b _ => ?_⟩
    rw [PyData.depth]
    omega
  · subst e
    refine fin_list I k1 g1 o1 k2 ho (each_ints ho2) (by rw [List.length_map, List.length_mergeSort]; exact hlen) fun p hp => q _ p (List.mergeSort_perm _ _) ?_ hp
    refine (sort_pairwise (sortLe_total _ false _) bs').imp fun {a b} h => ?_
    have h : dataLe false PyData.int a b = true := h
    have e := dataLe_int (β := Int) fun n => n
    rw [e] at h
    simpa using h

/-! ### over data -/
abbrev intsD (m : List Int) : PyData := .tuple (m.map .int)
section
variable {X : Cx} {e : Expr} {O : List Nat} {g : DE}
theorem tb_of {H G : Hp} {K : PySem.W.Frag} (s : Sub G H) : ∀ {xs : List V} {ms : List (List Int)}, DtL G xs (ms.map intsD) → TB K H (xs.zip ms) ∧ (xs.zip ms).map (·.1) = xs ∧ (xs.zip ms).map (·.2) = ms
  | [], [], _ => ⟨fun b hb => (nomatch hb), rfl, rfl⟩
  | [], _ :: _, h => by cases h
  | _ :: _, [], h => by cases h
  | x :: xs, m :: ms, h => by
    cases h with
    | cons h k =>
      obtain ⟨h1, h2, h3⟩ := tb_of (K := K) s k
      refine ⟨fun b hb => ?_, by rw [List.zip_cons_cons, List.map_cons, h2], by rw [List.zip_cons_cons, List.map_cons, h3]⟩
      rcases List.mem_cons.mp hb with rfl | hb
      · obtain ⟨a, ys, e, ha, dl⟩ := h.ref_tup
        rw [dl.of_ints] at ha
        exact ⟨a, e, (ha.mono s).sq⟩
      · exact h1 b hb
theorem of_tb {G : Hp} {xs : List V} {ms : List (List Int)} (h : DtL G xs (ms.map intsD)) {zs : List TI2} (hz : zs.Perm (xs.zip ms)) : DtL G (zs.map (·.1)) ((zs.map (·.2)).map intsD) := by
  have all : ∀ z ∈ zs, Dt G z.1 (intsD z.2) := fun z hm => by
    have hm := hz.mem_iff.mp hm
    clear hz
    induction xs generalizing ms with
    | nil => cases hm
    | cons x xs ih =>
      cases ms with
      | nil => cases hm
      | cons m ms =>
        cases h with
        | cons h k =>
          rcases List.mem_cons.mp hm with rfl | hm
          · exact h
          · exact ih k hm
  clear hz h
  induction zs with
  | nil => exact .nil
  | cons z zs ih => exact .cons (all z List.mem_cons_self) (ih fun y hy => all y (List.mem_cons_of_mem _ hy))
def dSortT (g : DE) : DL := fun ρ K => g ρ fun d => ∃ ms : List (List Int), seqD d = some (ms.map intsD) ∧ ((∀ m ∈ ms, m ≠ []) ∨ ms.head? = some []) ∧ ∀ ms' : List (List Int), ms'.Perm ms → ms'.Pairwise (fun a b => ¬ b < a) → K (ms'.map intsD)
theorem w_sortT (x : PE X e (tCB (rSortTs X.K) (tCons (eW O g) tNil))) : PE X e (eL O (dSortT g)) := imp x fun σ H Q ⟨p, F, ρ, K, R, hg, hk⟩ =>
  ⟨p, F, ρ, _, R, hg, fun d ⟨ms, f, hn, kd⟩ v H1 ex dt => by
    obtain ⟨a, xs, rfl, hq, dl⟩ := dt.seq (K := X.K) (R.grow_sub ex) f
    obtain ⟨h1, h2, h3⟩ := tb_of (K := X.K) (R.grow_sub ex) dl
    refine ⟨a, xs.zip ms, rfl, by rw [h2]; exact hq, h1, ?_, fun zs l pz pw hl => ?_⟩
    · rw [h3]
      rcases hn with hn | hn
      · refine .inl fun b hb => hn _ ?_
        rw [← h3]
        exact List.mem_map.mpr ⟨b, hb, rfl⟩
      · exact .inr hn
    · have e3 : (zs.map (·.2)).Perm ms := by rw [← h3]; exact pz.map _
      exact hk _ (kd _ e3 (List.pairwise_map.mpr pw)) _ _ _ (ex.trans (.new hl)) (R.fresh ex hl) upd_same (R.newL ex hl (of_tb dl pz))⟩
def dSortI (g : DE) : DL := fun ρ K => g ρ fun d => ∃ ns : List Int, seqD d = some (ns.map .int) ∧ ∀ ms : List Int, ms.Perm ns → ms.Pairwise (· ≤ ·) → K (ms.map .int)
theorem w_sortI (x : PE X e (tCB (rSortIs X.K) (tCons (eW O g) tNil))) : PE X e (eL O (dSortI g)) := imp x fun σ H Q ⟨p, F, ρ, K, R, hg, hk⟩ =>
  ⟨p, F, ρ, _, R, hg, fun d ⟨ns, f, kd⟩ v H1 ex dt => by
    obtain ⟨a, xs, rfl, hq, dl⟩ := dt.seq (K := X.K) (R.grow_sub ex) f
    rw [dl.of_ints] at hq
    exact ⟨a, ns, rfl, hq, fun ms l pm pw hl => hk _ (kd ms pm pw) _ _ _ (ex.trans (.new hl)) (R.fresh ex hl) upd_same (.ints _)⟩⟩
end
end Kb
set_option Elab.async false
set_option linter.all false
set_option maxRecDepth 100000
set_option maxHeartbeats 2000000
/-! E6: dict comprehensions of one clause and of two, whatever the dict's keys are. -/
namespace Kb
open PySem PySem.Spec PyProof.Rows L2

/-- how an item goes into the dict at D -/
abbrev Stp := Addr → V → V → Hp → Hp → Prop
def StpOk (Y : Cx) (st : Stp) : Prop := ∀ (pins : List (Addr × Obj)) (s : Shared) (σ : L2.St) (H H' : Hp) (D : Addr) (y v : V) (u r : Value) (E : Value → Shared → Prop) (Q : Unit → Shared → Prop), Inv Y pins σ H s → st D y v H H' → RelV y u → RelV v r → (∀ s', Inv Y pins σ H' s' → Q () s') → wpAny (model Y.prog Y.w) Y.A (dictSet D u r) Q E s
/-- the dict as it is at first -/
def NwOk (X : Cx) (o0 : Addr → HO) : Prop := ∀ (pins : List (Addr × Obj)) (s : Shared) (σ : L2.St) (H : Hp), Inv X pins σ H s → Inv X pins σ (upd H s.heap.objs.size (o0 s.heap.objs.size)) { s with heap := s.heap.push { cls := .type "dict", data := .dict #[] } }

/-- one clause -/
def tD1 (o0 : Addr → HO) (st : Stp) (wi : TI) (g : TG) (tt : TT) (tk tv : TE) (vs : List Nat) : TE := fun σ H Q => wi σ H fun J H1 => ∀ D, H1 D = none → ∃ W : Nat → Nat → Hp → Prop, (∃ m, W 0 m (upd H1 D (o0 D))) ∧ ∀ i m H, W i m H →
  (J.stop i H ∧ Q (.ref D) H) ∨ (J.go i H ∧ ∃ Nx : Hp → Prop, (∀ H', Nx H' → ∃ m', m' < m ∧ W (i + 1) m' H') ∧ ∀ x H', J.yld i H x H' → g x (wipe σ vs) H' fun σ2 H2 => wipe σ2 vs = wipe σ vs ∧ tt σ2 H2 fun b H3 =>
    if b = true then tk σ2 H3 fun y H4 => tv σ2 H4 fun z H5 => ∃ H6, st D y z H5 H6 ∧ Nx H6 else Nx H3)
/-- two clauses, no tests -/
def tD2 (o0 : Addr → HO) (st : Stp) (wi : TI) (g : TG) (wi1 : TI) (g1 : TG) (tk tv : TE) (vs vs1 : List Nat) : TE := fun σ H Q => wi σ H fun J H1 => ∀ D, H1 D = none → ∃ W : Nat → Nat → Hp → Prop, (∃ m, W 0 m (upd H1 D (o0 D))) ∧ ∀ i m H, W i m H →
  (J.stop i H ∧ Q (.ref D) H) ∨ (J.go i H ∧ ∃ Nx : Hp → Prop, (∀ H', Nx H' → ∃ m', m' < m ∧ W (i + 1) m' H') ∧ ∀ x H', J.yld i H x H' → g x (wipe σ vs) H' fun σ2 H2 => wipe σ2 vs = wipe σ vs ∧
    wi1 σ2 H2 fun J1 H4 => ∃ W1 : Nat → Nat → Hp → Prop, (∃ m, W1 0 m H4) ∧ ∀ j k H, W1 j k H →
      (J1.stop j H ∧ Nx H) ∨ (J1.go j H ∧ ∃ Ny : Hp → Prop, (∀ H', Ny H' → ∃ k', k' < k ∧ W1 (j + 1) k' H') ∧ ∀ x H', J1.yld j H x H' → g1 x (wipe σ2 vs1) H' fun σ3 H5 => wipe σ3 vs1 = wipe σ2 vs1 ∧
        tk σ3 H5 fun y H6 => tv σ3 H6 fun z H7 => ∃ H8, st D y z H7 H8 ∧ Ny H8))

section
variable {X : Cx}
/-- what a block of a comprehension is set up with -/
theorem open_block {pins : List (Addr × Obj)} {σ : L2.St} {H2 : Hp} {s2 : Shared} {scope : Scope} {own : List (Str × Nat)} {o0 : Addr → HO} {fp : List Addr} {tg : Expr} {J : It} {it : Addr} {tn : Nat → Heap → Prop}
    (hN : X.N.Nodup) (ok : BlkOk X.N X.env.scope scope own) (h0 : NwOk X o0) (I2 : Inv X pins σ H2 s2) (T : Turn X.prog X.w X.K tg J fp it tn) (st2 : tn 0 s2.heap) (f2 : ∀ b ∈ fp, FpOk X pins H2 b) :
    ∃ s3 : Shared, s3 = { s2 with heap := s2.heap.push { cls := .type "dict", data := .dict #[] } } ∧ Inv X pins σ (upd H2 s2.heap.objs.size (o0 s2.heap.objs.size)) s3 ∧ tn 0 s3.heap ∧
      ∀ b ∈ fp, FpOk X pins (upd H2 s2.heap.objs.size (o0 s2.heap.objs.size)) b ∧ b < s3.heap.objs.size := by
  refine ⟨_, rfl, h0 _ _ _ _ I2, T.keep _ _ _ st2 (fun b _ o z => Heap.get?_push_of_some _ z), fun b hb => ?_⟩
  obtain ⟨o, z, _⟩ := T.obj _ _ st2 b hb
  have small := Heap.lt_size z
  obtain ⟨y1, y2⟩ := f2 b hb
  exact ⟨⟨by rw [upd_ne (Nat.ne_of_lt small)]; exact y1, y2⟩, by show b < (s2.heap.push _).objs.size; rw [Heap.size_push]; exact Nat.lt_succ_of_lt small⟩
theorem d1_core {pins : List (Addr × Obj)} {s : Shared} {σ : L2.St} {H : Hp} {Q : VK} {kx vx tg iter : Expr} {ifs : List Expr} {scope : Scope} {own : List (Str × Nat)} {pos pos' : Pos} {o0 : Addr → HO} {st : Stp} {wi : TI} {g : TG} {tt : TT} {tk tv : TE} {use : Option (Value → Sem Unit)} {Qf : Value → Shared → Prop}
    (hc : X.calm = true) (hN : X.N.Nodup) (I : Inv X pins σ H s) (hi : PI X tg iter wi) (ok : BlkOk X.N X.env.scope scope own) (h0 : NwOk X o0)
    (hg : ∀ (s : Shared) (H : Hp) (C : Addr) (cl : List (Str × Addr)) (fp : List Addr), PG (X.blk s H scope (compEnvC scope cl C X.env) fp) tg g)
    (ht : ∀ (s : Shared) (H : Hp) (C : Addr) (cl : List (Str × Addr)) (fp : List Addr), PTs (X.blk s H scope (compEnvC scope cl C X.env) fp) ifs tt)
    (hk : ∀ (s : Shared) (H : Hp) (C : Addr) (cl : List (Str × Addr)) (fp : List Addr), PE (X.blk s H scope (compEnvC scope cl C X.env) fp) kx tk)
    (he : ∀ (s : Shared) (H : Hp) (C : Addr) (cl : List (Str × Addr)) (fp : List Addr), PE (X.blk s H scope (compEnvC scope cl C X.env) fp) vx tv)
    (hst : ∀ (s : Shared) (H : Hp) (ce : PySem.Env) (fp : List Addr), StpOk (X.blk s H scope ce fp) st) (hs : ∀ x, foldedSetIterable iter X.env x = pure x)
    (h : tD1 o0 st wi g tt tk tv (own.map (·.2)) σ H Q)
    (done : ∀ D C s' m H', Inv X pins σ H' s' → Q (.ref D) H' → s'.heap.Ns C m → FpOk X pins H' C → compPost (model X.prog X.w) X.A X.xe use Qf (.ref D) C (.ok .next) s') :
    wpAny (model X.prog X.w) X.A (comprehension (.DictComp kx vx [⟨tg, iter, ifs, 0⟩] scope pos) scope X.env pos' newDict false (eval iter X.env) use) Qf X.xe s := by
  have cells : ∀ y ∈ scope.names, y.2 = .free → ∃ c, X.env.cells.lookup y.1 = some c := fun y hy z => (ok.free y hy z).elim (fun k => I.ok.has _ (.inl k)) fun k => I.ok.has _ (.inr k)
  refine wpAny_comprehension_free (use := use) rfl hs (closure_ok cells) ok.kind (fun y hy z => by rw [ok.uniq y hy, z]) (thn (hi.run pins s σ H _ I h) fun xv s1 hx => thn hx fun itv s2 h2 => ?_)
  obtain ⟨it, fp, tn, J, H2, rfl, I2, T, st2, f2, q⟩ := h2
  refine wpAny_newObj_type (newEnv_comp ?_)
  obtain ⟨s3, e3, I3, st3, f3⟩ := open_block hN ok h0 I2 T st2 f2
  have hDn : H2 s2.heap.objs.size = none := I2.hok.fresh (Nat.le_refl _)
  obtain ⟨W, ⟨m0, w0⟩, turn⟩ := q _ hDn
  rw [← e3]
  generalize s2.heap.objs.size = D at *
  have I4 := block_start I3 ok hN f3
  have nofp : ∀ b ∈ fp, upd H2 D (o0 D) b = none := fun b hb => (f3 b hb).1.1
  have pG := hg s3 (upd H2 D (o0 D)) s3.heap.objs.size (cellsFrom (s3.heap.objs.size + 1) scope.names (cloFrom X.env.cells scope.names [])) fp
  have pT := ht s3 (upd H2 D (o0 D)) s3.heap.objs.size (cellsFrom (s3.heap.objs.size + 1) scope.names (cloFrom X.env.cells scope.names [])) fp
  have pK := hk s3 (upd H2 D (o0 D)) s3.heap.objs.size (cellsFrom (s3.heap.objs.size + 1) scope.names (cloFrom X.env.cells scope.names [])) fp
  have pV := he s3 (upd H2 D (o0 D)) s3.heap.objs.size (cellsFrom (s3.heap.objs.size + 1) scope.names (cloFrom X.env.cells scope.names [])) fp
  show codeAny _ _ (.compStart (.DictComp kx vx [⟨tg, iter, ifs, 0⟩] scope pos) 0 (.ref it) (.ref D) (compEnvC scope (cellsFrom (s3.heap.objs.size + 1) scope.names (cloFrom X.env.cells scope.names [])) s3.heap.objs.size X.env))
    (compPost (model X.prog X.w) X.A X.xe use Qf (.ref D) s3.heap.objs.size) { s3 with heap := pushCells (s3.heap.push { cls := .type "dict", data := .dict #[] }) scope.names }
  have cL : (compEnvC scope (cellsFrom (s3.heap.objs.size + 1) scope.names (cloFrom X.env.cells scope.names [])) s3.heap.objs.size X.env).locals = s3.heap.objs.size := rfl
  generalize compEnvC scope (cellsFrom (s3.heap.objs.size + 1) scope.names (cloFrom X.env.cells scope.names [])) s3.heap.objs.size X.env = ce at *
  generalize upd H2 D (o0 D) = H3 at *
  have st4 : tn 0 (pushCells (s3.heap.push { cls := .type "dict", data := .dict #[] }) scope.names) := T.keep _ _ _ st3 fun b _ o z => pushCells_keeps _ _ _ _ (Heap.get?_push_of_some _ z)
  generalize hs4 : ({ s3 with heap := pushCells (s3.heap.push { cls := .type "dict", data := .dict #[] }) scope.names } : Shared) = s4 at I4 ⊢
  replace st4 : tn 0 s4.heap := by rw [← hs4]; exact st4
  have foot : ∀ {σ' : L2.St} {H' : Hp} {s' : Shared}, Inv (X.blk s3 H3 scope ce fp) [] σ' H' s' → (∀ b ∈ fp, H' b = none) → ∀ b ∈ fp, FpOk (X.blk s3 H3 scope ce fp) [] H' b := fun {σ' H' s'} I' hn b hb =>
    ⟨hn b hb, (I'.ok.exf b hb).1, I'.ok.exfs b hb, .inl hb, fun x c z => (I'.ok.exf b hb).2 x c z, fun p hp => absurd (show p ∈ ([] : List (Addr × Obj)) ++ [] from hp) (by simp)⟩
  have all : codeAny (model X.prog X.w) X.A (.compLoop (.DictComp kx vx [⟨tg, iter, ifs, 0⟩] scope pos) 0 (.ref it) (.ref D) ce) (compPost (model X.prog X.w) X.A X.xe use Qf (.ref D) s3.heap.objs.size) s4 := by
    refine compLoop_anyD (fun n s' => ∃ i H', Inv (X.blk s3 H3 scope ce fp) [] (wipe σ (own.map (·.2))) H' s' ∧ tn i s'.heap ∧ (∀ b ∈ fp, H' b = none) ∧ W i n H') ?_ m0 ⟨0, H3, I4, st4, nofp, w0⟩
    rintro n s5 ⟨i, H5, I5, st5, n5, w5⟩
    rcases turn i n H5 w5 with ⟨halt, qq⟩ | ⟨go, Nx, hNx, step⟩
    · refine thnF (T.done (X.blk s3 H3 scope ce fp) rfl rfl rfl hc i [] s5 _ H5 (fun _ _ => False) I5 (foot I5 n5) st5 halt) fun r s6 ⟨er, I6⟩ => ?_
      subst er
      have I7 : Inv X pins σ H5 s6 := I3.call' (ch := fp) I6.os I6.base I6.hok I6.bare fun b hb => let ⟨_, y1, y2, y3, y4, y5⟩ := (f3 b hb).1; ⟨y3, y1, y4, y5⟩
      have bare : H5 ce.locals = none := I6.free
      obtain ⟨m, names, _⟩ := I6.loc
      replace names : s6.heap.Ns ce.locals m := names
      rw [cL] at bare names
      exact done D s3.heap.objs.size s6 m H5 I7 qq names (I3.fpOk (Nat.le_refl _) bare)
    · refine thnF (T.item (X.blk s3 H3 scope ce fp) rfl rfl rfl hc i [] s5 _ H5 (fun _ _ => False) I5 (foot I5 n5) st5 go) fun r s6 ⟨u, er, h6⟩ => ?_
      subst er
      refine thnF h6 fun _ s7 ⟨x, H7, I7, r7, y7, st7, n7⟩ => ?_
      have J7 := I7.pinned (foot I7 n7) (T.obj _ _ st7)
      refine thnF (pG.run _ s7 _ H7 x u _ J7 r7 (step x H7 y7)) fun _ s8 ⟨σ8, H8, I8, hw8, q8⟩ => thnF (pT.run _ s8 σ8 H8 _ I8 q8) fun b s9 ⟨H9, I9, q9⟩ => ?_
      have next : ∀ {s' : Shared} {H' : Hp}, Inv (X.blk s3 H3 scope ce fp) ([] ++ pinsAt fp s7.heap) σ8 H' s' → Nx H' → ∃ m, m < n ∧ ∃ i H', Inv (X.blk s3 H3 scope ce fp) [] (wipe σ (own.map (·.2))) H' s' ∧ tn i s'.heap ∧ (∀ b ∈ fp, H' b = none) ∧ W i m H' := fun {s' H'} I' nx => by
        obtain ⟨m', hm, w'⟩ := hNx H' nx
        have pinned : ∀ b ∈ fp, ∀ o, s7.heap.get? b = some o → s'.heap.get? b = some o ∧ H' b = none := fun b hb o z =>
          let y := I'.pin (b, o) (List.mem_append_right _ (List.mem_append_right _ (mem_pinsAt hb z))); ⟨y.1, y.2.1⟩
        refine ⟨m', hm, i + 1, H', (I'.unpinned (pins := [])).weak (by rw [← hw8, wipe_length]) (fun j v z => ?_), T.keep _ _ _ st7 fun b hb o z => (pinned b hb o z).1, fun b hb => ?_, w'⟩
        · rw [← hw8] at z; exact (wipe_some z).1
        · obtain ⟨o, z, _⟩ := T.obj _ _ st7 b hb
          exact (pinned b hb o z).2
      cases b with
      | false =>
        rw [if_neg Bool.false_ne_true] at q9
        exact next I9 q9
      | true =>
        rw [if_pos rfl] at q9
        refine thnF (pK.run _ s9 σ8 H9 _ I9 q9) fun z s10 ⟨yk, H10, I10, r10, q10⟩ => thnF (pV.run _ s10 σ8 H10 _ I10 q10) fun z2 s11 ⟨yv, H11, I11, r11, H12, hset, nx⟩ => ?_
        exact hst s3 H3 ce fp _ s11 σ8 H11 H12 D yk yv z z2 _ _ I11 hset r10 r11 fun s12 I12 => next I12 nx
  exact codeAny_compStart_dict all (T.self X.A 0 _ _ _ st4 all)
theorem pe_d1 {kx vx tg iter : Expr} {ifs : List Expr} {scope : Scope} {own : List (Str × Nat)} {pos : Pos} {o0 : Addr → HO} {st : Stp} {wi : TI} {g : TG} {tt : TT} {tk tv : TE} (hc : X.calm = true) (hN : X.N.Nodup) (hi : PI X tg iter wi) (ok : BlkOk X.N X.env.scope scope own) (h0 : NwOk X o0)
    (hg : ∀ (s : Shared) (H : Hp) (C : Addr) (cl : List (Str × Addr)) (fp : List Addr), PG (X.blk s H scope (compEnvC scope cl C X.env) fp) tg g)
    (ht : ∀ (s : Shared) (H : Hp) (C : Addr) (cl : List (Str × Addr)) (fp : List Addr), PTs (X.blk s H scope (compEnvC scope cl C X.env) fp) ifs tt)
    (hk : ∀ (s : Shared) (H : Hp) (C : Addr) (cl : List (Str × Addr)) (fp : List Addr), PE (X.blk s H scope (compEnvC scope cl C X.env) fp) kx tk)
    (he : ∀ (s : Shared) (H : Hp) (C : Addr) (cl : List (Str × Addr)) (fp : List Addr), PE (X.blk s H scope (compEnvC scope cl C X.env) fp) vx tv)
    (hst : ∀ (s : Shared) (H : Hp) (ce : PySem.Env) (fp : List Addr), StpOk (X.blk s H scope ce fp) st) (hs : ∀ x, foldedSetIterable iter X.env x = pure x := by intro _; rfl) :
    PE X (.DictComp kx vx [⟨tg, iter, ifs, 0⟩] scope pos) (tD1 o0 st wi g tt tk tv (own.map (·.2))) := by
  refine ⟨fun pins s σ H Q I h => ?_⟩
  rw [arm_eval_DictComp]
  refine d1_core hc hN I hi ok h0 hg ht hk he hst hs h fun D C s' m H' I' q names f => ⟨m, names, fun h'' sb => ?_⟩
  obtain ⟨y0, y1, y2, y3, y4, y5⟩ := f
  exact ⟨.ref D, H', I'.turned (t' := s'.toks) (fun b o hb z => (sb.2 b hb).trans z) y0 y1 y3 y4 y5, rfl, q⟩
end
end Kb
set_option Elab.async false
set_option linter.all false
set_option maxRecDepth 100000
set_option maxHeartbeats 2000000
/-! E7: dict comprehensions of two clauses. -/
namespace Kb
open PySem PySem.Spec PyProof.Rows L2

abbrev DC2 (kx vx t0 i0 t1 i1 : Expr) (scope : Scope) (pos : Pos) : Expr := .DictComp kx vx [⟨t0, i0, [], 0⟩, ⟨t1, i1, [], 0⟩] scope pos
theorem turn0_eq (kx vx t0 i0 t1 i1 : Expr) (scope : Scope) (pos : Pos) (it acc : Value) (env : PySem.Env) : compTurn (DC2 kx vx t0 i0 t1 i1 scope pos) 0 it acc env = (do
    standAt i0.pos
    match ← pyNext it with
    | none => pure (.done .next)
    | some v =>
      letOwnedTupleGo t0 it v
      assign t0 env v
      let mut ok := true
      for c in ([] : List Expr) do if ok then ok ← isTrue c env (eval c env)
      if ok then
        let x ← eval i1 env
        standAt i1.pos
        let x ← foldedSetIterable i1 env x
        let _ ← runOwn (.compStart (DC2 kx vx t0 i0 t1 i1 scope pos) 1 (← holding [x] (pyIter x)) acc env) env
      again (.compLoop (DC2 kx vx t0 i0 t1 i1 scope pos) 0 it acc env)) := by rfl
theorem turn1_eq (kx vx t0 i0 t1 i1 : Expr) (scope : Scope) (pos : Pos) (it : Value) (D : Addr) (env : PySem.Env) : compTurn (DC2 kx vx t0 i0 t1 i1 scope pos) 1 it (.ref D) env = (do
    standAt i1.pos
    match ← pyNext it with
    | none => pure (.done .next)
    | some v =>
      letOwnedTupleGo t1 it v
      assign t1 env v
      let mut ok := true
      for c in ([] : List Expr) do if ok then ok ← isTrue c env (eval c env)
      if ok then
        (do
          let kv ← eval kx env
          let vv ← holding [kv] (eval vx env)
          standAt { kx.pos with endLine := vx.pos.endLine, endCol := vx.pos.endCol }
          holding [kv, vv] (dictSet D kv vv))
      again (.compLoop (DC2 kx vx t0 i0 t1 i1 scope pos) 1 it (.ref D) env)) := by rfl
section
variable {prog : Program} {w : World} {A : Around} {R : Result → Shared → Prop} {s : Shared} {kx vx t0 i0 t1 i1 : Expr} {scope : Scope} {pos : Pos} {it acc : Value} {D : Addr} {env : PySem.Env}
abbrev Bad (prog : Program) (w : World) (A : Around) (env : PySem.Env) (R : Result → Shared → Prop) : Value → Shared → Prop := notedBy (model prog w) A env fun e s' => R (.error e) s'
theorem loop_out (hs : ∀ x, foldedSetIterable i1 env x = pure x) (I : Nat → Shared → Prop)
    (turn : ∀ n s, I n s → wpAny (model prog w) A (pyNext it) (fun r s₁ => match r with
      | none => R (.ok .next) s₁
      | some v => wpAny (model prog w) A (letOwnedTupleGo t0 it v) (fun _ s₁' => wpAny (model prog w) A (assign t0 env v) (fun _ s₂ => wpAny (model prog w) A (eval i1 env) (fun x s₄ => wpAny (model prog w) A (pyIter x) (fun it1 s₅ =>
          codeAny (model prog w) A (.compStart (DC2 kx vx t0 i0 t1 i1 scope pos) 1 it1 acc env) (fun r s' => match r with
            | .ok _ => ∃ m, m < n ∧ I m s'
            | .error _ => False) s₅) (Bad prog w A env R) s₄) (Bad prog w A env R) s₂) (Bad prog w A env R) s₁') (Bad prog w A env R) s₁) (Bad prog w A env R) s)
    (n : Nat) (h : I n s) : codeAny (model prog w) A (.compLoop (DC2 kx vx t0 i0 t1 i1 scope pos) 0 it acc env) R s := by
  refine codeAny_loop rfl I (fun n s hI => ?_) n h
  show wpAny _ A ((compTurn (DC2 kx vx t0 i0 t1 i1 scope pos) 0 it acc env).onRaise (fun x => do noteFrame x env; theTreesLotGoes x)) _ _ s
  refine wpAny_noted ?_
  rw [turn0_eq]
  refine wpAny_bind (wpAny_standAt (wpAny_bind (wpAny_mono (turn n s hI) (fun r s₁ h₁ => ?_) fun _ _ z => z)))
  match r, h₁ with
  | none, h₁ => exact wpAny_pure h₁
  | some v, h₁ =>
    refine wpAny_bind (wpAny_mono h₁ (fun _ s₁' h₂ => wpAny_bind (wpAny_mono h₂ (fun _ s₂ h₃ => ?_) fun _ _ z => z)) fun _ _ z => z)
    refine wpAny_bind (m := forIn ([] : List Expr) true _) (wpAny_pure ?_)
    show wpAny (model prog w) A (eval i1 env >>= _) _ _ s₂
    refine wpAny_bind (wpAny_mono h₃ (fun x s₄ h₄ => ?_) fun _ _ z => z)
    refine wpAny_bind (wpAny_standAt (wpAny_bind (wpAny_of_eq (hs x) (wpAny_bind (wpAny_holding (wpAny_mono h₄ (fun it1 s₅ h₅ => wpAny_bind (wpAny_runOwn ?_)) fun _ _ z => z))))))
    rw [Around.mark_none]
    refine codeAny_mono h₅ fun r s' hr => ?_
    match r, hr with
    | .ok f, hr => first | exact wpAny_pure ⟨rfl, hr⟩ | exact wpAny_bind (wpAny_pure (wpAny_pure ⟨rfl, hr⟩))
    | .error e, hr => exact hr.elim
theorem loop_in (I : Nat → Shared → Prop)
    (turn : ∀ n s, I n s → wpAny (model prog w) A (pyNext it) (fun r s₁ => match r with
      | none => R (.ok .next) s₁
      | some v => wpAny (model prog w) A (letOwnedTupleGo t1 it v) (fun _ s₁' => wpAny (model prog w) A (assign t1 env v) (fun _ s₂ => wpAny (model prog w) A (eval kx env) (fun kv s₄ => wpAny (model prog w) A (eval vx env) (fun vv s₅ =>
          wpAny (model prog w) A (dictSet D kv vv) (fun _ s₆ => ∃ m, m < n ∧ I m s₆) (Bad prog w A env R) s₅) (Bad prog w A env R) s₄) (Bad prog w A env R) s₂) (Bad prog w A env R) s₁') (Bad prog w A env R) s₁) (Bad prog w A env R) s)
    (n : Nat) (h : I n s) : codeAny (model prog w) A (.compLoop (DC2 kx vx t0 i0 t1 i1 scope pos) 1 it (.ref D) env) R s := by
  refine codeAny_loop rfl I (fun n s hI => ?_) n h
  show wpAny _ A ((compTurn (DC2 kx vx t0 i0 t1 i1 scope pos) 1 it (.ref D) env).onRaise (fun x => do noteFrame x env; theTreesLotGoes x)) _ _ s
  refine wpAny_noted ?_
  rw [turn1_eq]
  refine wpAny_bind (wpAny_standAt (wpAny_bind (wpAny_mono (turn n s hI) (fun r s₁ h₁ => ?_) fun _ _ z => z)))
  match r, h₁ with
  | none, h₁ => exact wpAny_pure h₁
  | some v, h₁ =>
    refine wpAny_bind (wpAny_mono h₁ (fun _ s₁' h₂ => wpAny_bind (wpAny_mono h₂ (fun _ s₂ h₃ => ?_) fun _ _ z => z)) fun _ _ z => z)
    refine wpAny_bind (m := forIn ([] : List Expr) true _) (wpAny_pure ?_)
    exact wpAny_bind (wpAny_bind (wpAny_mono h₃ (fun kv s₄ h₄ => wpAny_bind (wpAny_holding (wpAny_mono h₄ (fun vv s₅ h₅ => wpAny_bind (wpAny_standAt (wpAny_holding (wpAny_mono h₅ (fun _ s₆ h₆ => wpAny_pure ⟨rfl, h₆⟩) fun _ _ z => z)))) fun _ _ z => z))) fun _ _ z => z))
theorem start_in (h0 : codeAny (model prog w) A (.compLoop (DC2 kx vx t0 i0 t1 i1 scope pos) 1 it acc env) R s)
    (h : wpAny (model prog w) A (pyIter it) (fun it' s' => codeAny (model prog w) A (.compLoop (DC2 kx vx t0 i0 t1 i1 scope pos) 1 it' acc env) R s') (Bad prog w A env R) s) :
    codeAny (model prog w) A (.compStart (DC2 kx vx t0 i0 t1 i1 scope pos) 1 it acc env) R s := by
  refine codeAny_of_tree ?_
  show wpAny _ _ ((compStart (DC2 kx vx t0 i0 t1 i1 scope pos) 1 it acc env).onRaise (fun x => do noteFrame x env; standAt theWindowsPlace)) _ _ s
  refine wpAny_notedAt ?_
  unfold compStart
  show wpAny _ _ (ask >>= _) _ _ s
  refine wpAny_bind (wpAny_askSetting (wpAny_ite ?_))
  split
  · first
      | exact wpAny_bind (wpAny_pure (wpAny_pure (And.intro rfl h0)))
      | exact wpAny_pure (And.intro rfl h0)
  · first
      | exact wpAny_bind (wpAny_rule (wpAny_bind (wpAny_standAt (wpAny_bind (wpAny_mono h (fun it' s' z => wpAny_pure (And.intro rfl z)) fun _ _ z => z)))))
      | (refine wpAny_bind (wpAny_rule ?_); show wpAny _ _ (standAt i1.pos >>= _) _ _ s; exact wpAny_bind (wpAny_standAt (wpAny_bind (wpAny_mono h (fun it' s' z => wpAny_pure (And.intro rfl z)) fun _ _ z => z))))
end
section
variable {X : Cx}
theorem d2_core {pins : List (Addr × Obj)} {s : Shared} {σ : L2.St} {H : Hp} {Q : VK} {kx vx tg iter tg1 iter1 : Expr} {scope : Scope} {own : List (Str × Nat)} {vs1 : List Nat} {pos pos' : Pos} {o0 : Addr → HO} {st : Stp} {wi wi1 : TI} {g g1 : TG} {tk tv : TE} {use : Option (Value → Sem Unit)} {Qf : Value → Shared → Prop}
    (hc : X.calm = true) (hN : X.N.Nodup) (I : Inv X pins σ H s) (hi : PI X tg iter wi) (ok : BlkOk X.N X.env.scope scope own) (hv : ∀ i ∈ vs1, i ∈ own.map (·.2)) (h0 : NwOk X o0)
    (hg : ∀ (s : Shared) (H : Hp) (C : Addr) (cl : List (Str × Addr)) (fp : List Addr), PG (X.blk s H scope (compEnvC scope cl C X.env) fp) tg g)
    (hi1 : ∀ (s : Shared) (H : Hp) (C : Addr) (cl : List (Str × Addr)) (fp : List Addr), PI (X.blk s H scope (compEnvC scope cl C X.env) fp) tg1 iter1 wi1)
    (hg1 : ∀ (s : Shared) (H : Hp) (C : Addr) (cl : List (Str × Addr)) (fp : List Addr), PG (X.blk s H scope (compEnvC scope cl C X.env) fp) tg1 g1)
    (hk : ∀ (s : Shared) (H : Hp) (C : Addr) (cl : List (Str × Addr)) (fp : List Addr), PE (X.blk s H scope (compEnvC scope cl C X.env) fp) kx tk)
    (he : ∀ (s : Shared) (H : Hp) (C : Addr) (cl : List (Str × Addr)) (fp : List Addr), PE (X.blk s H scope (compEnvC scope cl C X.env) fp) vx tv)
    (hst : ∀ (s : Shared) (H : Hp) (ce : PySem.Env) (fp : List Addr), StpOk (X.blk s H scope ce fp) st) (hs : ∀ x, foldedSetIterable iter X.env x = pure x) (hs1 : ∀ env x, foldedSetIterable iter1 env x = pure x)
    (h : tD2 o0 st wi g wi1 g1 tk tv (own.map (·.2)) vs1 σ H Q)
    (done : ∀ D C s' m H', Inv X pins σ H' s' → Q (.ref D) H' → s'.heap.Ns C m → FpOk X pins H' C → compPost (model X.prog X.w) X.A X.xe use Qf (.ref D) C (.ok .next) s') :
    wpAny (model X.prog X.w) X.A (comprehension (DC2 kx vx tg iter tg1 iter1 scope pos) scope X.env pos' newDict false (eval iter X.env) use) Qf X.xe s := by
  have cells : ∀ y ∈ scope.names, y.2 = .free → ∃ c, X.env.cells.lookup y.1 = some c := fun y hy z => (ok.free y hy z).elim (fun k => I.ok.has _ (.inl k)) fun k => I.ok.has _ (.inr k)
  refine wpAny_comprehension_free (use := use) rfl hs (closure_ok cells) ok.kind (fun y hy z => by rw [ok.uniq y hy, z]) (thn (hi.run pins s σ H _ I h) fun xv s1 hx => thn hx fun itv s2 h2 => ?_)
  obtain ⟨it, fp, tn, J, H2, rfl, I2, T, st2, f2, q⟩ := h2
  refine wpAny_newObj_type (newEnv_comp ?_)
  obtain ⟨s3, e3, I3, st3, f3⟩ := open_block hN ok h0 I2 T st2 f2
  have hDn : H2 s2.heap.objs.size = none := I2.hok.fresh (Nat.le_refl _)
  obtain ⟨W, ⟨m0, w0⟩, turn⟩ := q _ hDn
  rw [← e3]
  generalize s2.heap.objs.size = D at *
  have I4 := block_start I3 ok hN f3
  have nofp : ∀ b ∈ fp, upd H2 D (o0 D) b = none := fun b hb => (f3 b hb).1.1
  have pG := hg s3 (upd H2 D (o0 D)) s3.heap.objs.size (cellsFrom (s3.heap.objs.size + 1) scope.names (cloFrom X.env.cells scope.names [])) fp
  have pI1 := hi1 s3 (upd H2 D (o0 D)) s3.heap.objs.size (cellsFrom (s3.heap.objs.size + 1) scope.names (cloFrom X.env.cells scope.names [])) fp
  have pG1 := hg1 s3 (upd H2 D (o0 D)) s3.heap.objs.size (cellsFrom (s3.heap.objs.size + 1) scope.names (cloFrom X.env.cells scope.names [])) fp
  have pK := hk s3 (upd H2 D (o0 D)) s3.heap.objs.size (cellsFrom (s3.heap.objs.size + 1) scope.names (cloFrom X.env.cells scope.names [])) fp
  have pV := he s3 (upd H2 D (o0 D)) s3.heap.objs.size (cellsFrom (s3.heap.objs.size + 1) scope.names (cloFrom X.env.cells scope.names [])) fp
  show codeAny _ _ (.compStart (DC2 kx vx tg iter tg1 iter1 scope pos) 0 (.ref it) (.ref D) (compEnvC scope (cellsFrom (s3.heap.objs.size + 1) scope.names (cloFrom X.env.cells scope.names [])) s3.heap.objs.size X.env))
    (compPost (model X.prog X.w) X.A X.xe use Qf (.ref D) s3.heap.objs.size) { s3 with heap := pushCells (s3.heap.push { cls := .type "dict", data := .dict #[] }) scope.names }
  have cL : (compEnvC scope (cellsFrom (s3.heap.objs.size + 1) scope.names (cloFrom X.env.cells scope.names [])) s3.heap.objs.size X.env).locals = s3.heap.objs.size := rfl
  generalize compEnvC scope (cellsFrom (s3.heap.objs.size + 1) scope.names (cloFrom X.env.cells scope.names [])) s3.heap.objs.size X.env = ce at *
  generalize upd H2 D (o0 D) = H3 at *
  have st4 : tn 0 (pushCells (s3.heap.push { cls := .type "dict", data := .dict #[] }) scope.names) := T.keep _ _ _ st3 fun b _ o z => pushCells_keeps _ _ _ _ (Heap.get?_push_of_some _ z)
  generalize hs4 : ({ s3 with heap := pushCells (s3.heap.push { cls := .type "dict", data := .dict #[] }) scope.names } : Shared) = s4 at I4 ⊢
  replace st4 : tn 0 s4.heap := by rw [← hs4]; exact st4
  have foot : ∀ {σ' : L2.St} {H' : Hp} {s' : Shared}, Inv (X.blk s3 H3 scope ce fp) [] σ' H' s' → (∀ b ∈ fp, H' b = none) → ∀ b ∈ fp, FpOk (X.blk s3 H3 scope ce fp) [] H' b := fun {σ' H' s'} I' hn b hb =>
    ⟨hn b hb, (I'.ok.exf b hb).1, I'.ok.exfs b hb, .inl hb, fun x c z => (I'.ok.exf b hb).2 x c z, fun p hp => absurd (show p ∈ ([] : List (Addr × Obj)) ++ [] from hp) (by simp)⟩
  have all : codeAny (model X.prog X.w) X.A (.compLoop (DC2 kx vx tg iter tg1 iter1 scope pos) 0 (.ref it) (.ref D) ce) (compPost (model X.prog X.w) X.A X.xe use Qf (.ref D) s3.heap.objs.size) s4 := by
    refine loop_out (hs1 ce) (fun n s' => ∃ i H', Inv (X.blk s3 H3 scope ce fp) [] (wipe σ (own.map (·.2))) H' s' ∧ tn i s'.heap ∧ (∀ b ∈ fp, H' b = none) ∧ W i n H') ?_ m0 ⟨0, H3, I4, st4, nofp, w0⟩
    rintro n s5 ⟨i, H5, I5, st5, n5, w5⟩
    rcases turn i n H5 w5 with ⟨halt, qq⟩ | ⟨go, Nx, hNx, step⟩
    · refine thnF (T.done (X.blk s3 H3 scope ce fp) rfl rfl rfl hc i [] s5 _ H5 (fun _ _ => False) I5 (foot I5 n5) st5 halt) fun r s6 ⟨er, I6⟩ => ?_
      subst er
      have I7 : Inv X pins σ H5 s6 := I3.call' (ch := fp) I6.os I6.base I6.hok I6.bare fun b hb => let ⟨_, y1, y2, y3, y4, y5⟩ := (f3 b hb).1; ⟨y3, y1, y4, y5⟩
      have bare : H5 ce.locals = none := I6.free
      obtain ⟨m, names, _⟩ := I6.loc
      replace names : s6.heap.Ns ce.locals m := names
      rw [cL] at bare names
      exact done D s3.heap.objs.size s6 m H5 I7 qq names (I3.fpOk (Nat.le_refl _) bare)
    · refine thnF (T.item (X.blk s3 H3 scope ce fp) rfl rfl rfl hc i [] s5 _ H5 (fun _ _ => False) I5 (foot I5 n5) st5 go) fun r s6 ⟨u, er, h6⟩ => ?_
      subst er
      refine thnF h6 fun _ s7 ⟨x, H7, I7, r7, y7, st7, n7⟩ => ?_
      have J7 := I7.pinned (foot I7 n7) (T.obj _ _ st7)
      refine thnF (pG.run _ s7 _ H7 x u _ J7 r7 (step x H7 y7)) fun _ s8 ⟨σ8, H8, I8, hw8, q8⟩ => ?_
      have next : ∀ {σ9 : L2.St} {s' : Shared} {H' : Hp}, Inv (X.blk s3 H3 scope ce fp) ([] ++ pinsAt fp s7.heap) σ9 H' s' → (wipe σ (own.map (·.2))).length = σ9.length → (∀ (j : Nat) v, (wipe σ (own.map (·.2)))[j]? = some (some v) → σ9[j]? = some (some v)) → Nx H' →
          ∃ m, m < n ∧ ∃ i H', Inv (X.blk s3 H3 scope ce fp) [] (wipe σ (own.map (·.2))) H' s' ∧ tn i s'.heap ∧ (∀ b ∈ fp, H' b = none) ∧ W i m H' := fun {σ9 s' H'} I' hl hk nx => by
        obtain ⟨m', hm, w'⟩ := hNx H' nx
        have pinned : ∀ b ∈ fp, ∀ o, s7.heap.get? b = some o → s'.heap.get? b = some o ∧ H' b = none := fun b hb o z =>
          let y := I'.pin (b, o) (List.mem_append_right _ (List.mem_append_right _ (mem_pinsAt hb z))); ⟨y.1, y.2.1⟩
        refine ⟨m', hm, i + 1, H', (I'.unpinned (pins := [])).weak hl hk, T.keep _ _ _ st7 fun b hb o z => (pinned b hb o z).1, fun b hb => ?_, w'⟩
        obtain ⟨o, z, _⟩ := T.obj _ _ st7 b hb
        exact (pinned b hb o z).2
      have l8 : (wipe σ (own.map (·.2))).length = σ8.length := by rw [← hw8, wipe_length]
      have k8 : ∀ (j : Nat) v, (wipe σ (own.map (·.2)))[j]? = some (some v) → (wipe σ8 vs1)[j]? = some (some v) := fun j v z => by
        rw [← hw8] at z
        obtain ⟨z1, z2⟩ := wipe_some z
        rw [wipe_out fun y => z2 (hv j y)]
        exact z1
      refine thnF (pI1.run _ s8 σ8 H8 _ I8 q8) fun xv s10 hx => thnF hx fun itv s11 h11 => ?_
      obtain ⟨it1, fp1, tn1, J1, H11, rfl, I11, T1, st11, f11, W1, ⟨m1, w1⟩, turn1⟩ := h11
      have foot1 : ∀ {H' : Hp}, (∀ b ∈ fp1, H' b = none) → ∀ b ∈ fp1, FpOk (X.blk s3 H3 scope ce fp) ([] ++ pinsAt fp s7.heap) H' b := fun hn b hb => ⟨hn b hb, (f11 b hb).2⟩
      have inner : codeAny (model X.prog X.w) X.A (.compLoop (DC2 kx vx tg iter tg1 iter1 scope pos) 1 (.ref it1) (.ref D) ce)
          (fun r s' => match r with
            | .ok _ => ∃ m, m < n ∧ ∃ i H', Inv (X.blk s3 H3 scope ce fp) [] (wipe σ (own.map (·.2))) H' s' ∧ tn i s'.heap ∧ (∀ b ∈ fp, H' b = none) ∧ W i m H'
            | .error _ => False) s11 := by
        refine loop_in (fun k s' => ∃ j H', Inv (X.blk s3 H3 scope ce fp) ([] ++ pinsAt fp s7.heap) (wipe σ8 vs1) H' s' ∧ tn1 j s'.heap ∧ (∀ b ∈ fp1, H' b = none) ∧ W1 j k H') ?_ m1 ⟨0, H11, I11.weak (wipe_length _ _) (fun j v z => (wipe_some z).1), st11, fun b hb => (f11 b hb).1, w1⟩
        rintro k s12 ⟨j, H12, I12, st12, n12, w12⟩
        rcases turn1 j k H12 w12 with ⟨halt1, nx1⟩ | ⟨go1, Ny, hNy, step1⟩
        · refine thnF (T1.done (X.blk s3 H3 scope ce fp) rfl rfl rfl hc j _ s12 (wipe σ8 vs1) H12 (fun _ _ => False) I12 (foot1 n12) st12 halt1) fun r s13 ⟨er, I13⟩ => ?_
          subst er
          exact next I13 (l8.trans (wipe_length σ8 vs1).symm) k8 nx1
        · refine thnF (T1.item (X.blk s3 H3 scope ce fp) rfl rfl rfl hc j _ s12 (wipe σ8 vs1) H12 (fun _ _ => False) I12 (foot1 n12) st12 go1) fun r s13 ⟨u1, er, h13⟩ => ?_
          subst er
          refine thnF h13 fun _ s14 ⟨x1, H14, I14, r14, y14, st14, n14⟩ => ?_
          have J14 := I14.pinned (foot1 n14) (T1.obj _ _ st14)
          refine thnF (pG1.run _ s14 (wipe σ8 vs1) H14 x1 u1 _ J14 r14 (step1 x1 H14 y14)) fun _ s15 ⟨σ15, H15, I15, hw15, q15⟩ => ?_
          have next1 : ∀ {s' : Shared} {H' : Hp}, Inv (X.blk s3 H3 scope ce fp) (([] ++ pinsAt fp s7.heap) ++ pinsAt fp1 s14.heap) σ15 H' s' → Ny H' → ∃ m, m < k ∧ ∃ j H', Inv (X.blk s3 H3 scope ce fp) ([] ++ pinsAt fp s7.heap) (wipe σ8 vs1) H' s' ∧ tn1 j s'.heap ∧ (∀ b ∈ fp1, H' b = none) ∧ W1 j m H' := fun {s' H'} I' nx => by
            obtain ⟨m', hm, w'⟩ := hNy H' nx
            have pinned : ∀ b ∈ fp1, ∀ o, s14.heap.get? b = some o → s'.heap.get? b = some o ∧ H' b = none := fun b hb o z =>
              let y := I'.pin (b, o) (List.mem_append_right _ (List.mem_append_right _ (mem_pinsAt hb z))); ⟨y.1, y.2.1⟩
            refine ⟨m', hm, j + 1, H', I'.unpinned.weak (by rw [← hw15, wipe_length]) (fun j v z => by rw [← hw15] at z; exact (wipe_some z).1), T1.keep _ _ _ st14 fun b hb o z => (pinned b hb o z).1, fun b hb => ?_, w'⟩
            obtain ⟨o, z, _⟩ := T1.obj _ _ st14 b hb
            exact (pinned b hb o z).2
          refine thnF (pK.run _ s15 σ15 H15 _ I15 q15) fun z s16 ⟨yk, H16, I16, r16, q16⟩ => thnF (pV.run _ s16 σ15 H16 _ I16 q16) fun z2 s17 ⟨yv, H17, I17, r17, H18, hset, ny⟩ => ?_
          exact hst s3 H3 ce fp _ s17 σ15 H17 H18 D yk yv z z2 _ _ I17 hset r16 r17 fun s18 I18 => next1 I18 ny
      exact start_in inner (T1.self X.A 0 _ _ _ st11 inner)
  exact codeAny_compStart_dict all (T.self X.A 0 _ _ _ st4 all)
theorem pe_d2 {kx vx tg iter tg1 iter1 : Expr} {scope : Scope} {own : List (Str × Nat)} {vs1 : List Nat} {pos : Pos} {o0 : Addr → HO} {st : Stp} {wi wi1 : TI} {g g1 : TG} {tk tv : TE} (hc : X.calm = true) (hN : X.N.Nodup) (hi : PI X tg iter wi) (ok : BlkOk X.N X.env.scope scope own) (hv : ∀ i ∈ vs1, i ∈ own.map (·.2)) (h0 : NwOk X o0)
    (hg : ∀ (s : Shared) (H : Hp) (C : Addr) (cl : List (Str × Addr)) (fp : List Addr), PG (X.blk s H scope (compEnvC scope cl C X.env) fp) tg g)
    (hi1 : ∀ (s : Shared) (H : Hp) (C : Addr) (cl : List (Str × Addr)) (fp : List Addr), PI (X.blk s H scope (compEnvC scope cl C X.env) fp) tg1 iter1 wi1)
    (hg1 : ∀ (s : Shared) (H : Hp) (C : Addr) (cl : List (Str × Addr)) (fp : List Addr), PG (X.blk s H scope (compEnvC scope cl C X.env) fp) tg1 g1)
    (hk : ∀ (s : Shared) (H : Hp) (C : Addr) (cl : List (Str × Addr)) (fp : List Addr), PE (X.blk s H scope (compEnvC scope cl C X.env) fp) kx tk)
    (he : ∀ (s : Shared) (H : Hp) (C : Addr) (cl : List (Str × Addr)) (fp : List Addr), PE (X.blk s H scope (compEnvC scope cl C X.env) fp) vx tv)
    (hst : ∀ (s : Shared) (H : Hp) (ce : PySem.Env) (fp : List Addr), StpOk (X.blk s H scope ce fp) st) (hs : ∀ x, foldedSetIterable iter X.env x = pure x := by intro _; rfl) (hs1 : ∀ env x, foldedSetIterable iter1 env x = pure x := by intro _ _; rfl) :
    PE X (DC2 kx vx tg iter tg1 iter1 scope pos) (tD2 o0 st wi g wi1 g1 tk tv (own.map (·.2)) vs1) := by
  refine ⟨fun pins s σ H Q I h => ?_⟩
  rw [arm_eval_DictComp]
  refine d2_core hc hN I hi ok hv h0 hg hi1 hg1 hk he hst hs hs1 h fun D C s' m H' I' q names f => ⟨m, names, fun h'' sb => ?_⟩
  obtain ⟨y0, y1, y2, y3, y4, y5⟩ := f
  exact ⟨.ref D, H', I'.turned (t' := s'.toks) (fun b o hb z => (sb.2 b hb).trans z) y0 y1 y3 y4 y5, rfl, q⟩
end
end Kb
set_option Elab.async false
set_option linter.all false
set_option maxRecDepth 100000
set_option maxHeartbeats 2000000
/-! E8: dicts whose keys are tuples of ints, sets of such tuples: made, listed, sorted. -/
namespace Kb
open PySem PySem.Spec PyProof.Rows L2
open PySem.W

abbrev TA2 := Addr × List Int
def rowT (p : TA2) : List Int × Addr × Value := (p.2, p.1, .bool true)
/-- the dict at a: each of the tuples with True -/
def DT0 (P : Program) (w : World) (h : Heap) (a : Addr) (L : List TA2) : Prop :=
  (a == sysModules) = false ∧ ∃ (o : Obj) (es : Array DictEntry) (ep : Nat), h.get? a = some o ∧ o.ExactDict ∧ o.data = .dict es ep ∧ es.toList = (L.map rowT).map (entryOfKey (tupleKind (intKind P w))) ∧ ((L.map rowT).map (·.1)).Nodup
def DTO (P : Program) (w : World) (a : Addr) (L : List TA2) : HO := .ext fun h => DT0 P w h a L
theorem dto_ok {P : Program} {w : World} {H : Hp} {h : Heap} {a : Addr} {L : List TA2} (R : DT0 P w h a L) : ObjOk P w H h a (DTO P w a L) := by
  have ⟨h0, o, es, ep, ho, r⟩ := R
  refine ⟨R, ⟨o, ho⟩, fun h1 h2 p k => ?_⟩
  have ⟨y0, o', es', ep', ho', r'⟩ := p
  exact ⟨y0, o', es', ep', k o' ho', r'⟩
theorem dt0_full {P : Program} {w : World} {h : Heap} {a : Addr} {L : List TA2} (R : DT0 P w h a L) (ht : ∀ p ∈ L, IsT P w h p.2 p.1) : h.DictOfH (tupleKind (intKind P w)) a (L.map rowT) := by
  obtain ⟨_, o, es, ep, ho, hx, hd, he, hn⟩ := R
  refine ⟨o, es, ep, ho, hx, hd, he, fun x hm => ?_, hn⟩
  obtain ⟨p, hp, rfl⟩ := List.mem_map.mp hm
  exact ht p hp
/-- in its place, or at the end -/
def putT (L : List TA2) (b : Addr) (k : List Int) : List TA2 := if k ∈ L.map (·.2) then L else L ++ [(b, k)]
theorem stored_put {L : List TA2} {b : Addr} {k : List Int} : storedH (L.map rowT) k b (.bool true) = (putT L b k).map rowT := by
  have e1 : ∀ L : List TA2, (atKey (L.map rowT) k).isSome = decide (k ∈ L.map (·.2)) := by
    intro L
    induction L with
    | nil => rfl
    | cons p L ih =>
      unfold atKey at ih ⊢
      rw [List.map_cons, List.find?_cons]
      by_cases c : p.2 = k
      · subst c; simp [rowT]
      · have c2 : decide ((rowT p).1 = k) = false := decide_eq_false c
        rw [c2]
        rw [ih, List.map_cons]
        have : ¬ k = p.2 := fun z => c z.symm
        simp [List.mem_cons, this]
  have e2 : ∀ L : List TA2, (L.map rowT).map (putAt k (.bool true)) = L.map rowT := by
    intro L
    induction L with
    | nil => rfl
    | cons p L ih =>
      rw [List.map_cons, List.map_cons, ih]
      congr 1
      unfold putAt rowT
      split <;> rfl
  unfold storedH putT
  rw [e1 L]
  by_cases c : k ∈ L.map (·.2)
  · rw [if_pos (decide_eq_true c), if_pos c, e2]
  · rw [if_neg (by rw [decide_eq_false c]; decide), if_neg c, List.map_append]
    rfl
def stT (P : Program) (w : World) (K : PySem.W.Frag) : Stp := fun D y z H H' => ∃ (L : List TA2) (b : Addr) (k : List Int), y = .ref b ∧ z = .bl true ∧ H D = some (DTO P w D L) ∧ (∀ p ∈ L, SqT K H p.1 (p.2.map V.int)) ∧ SqT K H b (k.map V.int) ∧ L.length < 100000 ∧ H' = upd H D (DTO P w D (putT L b k))
theorem stT_ok {X Y : Cx} (hP : Y.prog = X.prog) (hw : Y.w = X.w) (hK : Y.K = X.K) (hu : Y.A.units < cLine) : StpOk Y (stT X.prog X.w X.K) := by
  intro pins s σ H H' D y v u r E Q I h ry rv q
  rw [← hP, ← hw, ← hK] at h
  obtain ⟨L, b, k, rfl, rfl, hD, hL, hb, hz, rfl⟩ := h
  cases ry
  cases rv
  have R0 : DT0 Y.prog Y.w s.heap D L := (I.hok D _ hD).1
  refine wpAny_dictSet_heap (knd := tupleKind (intKind Y.prog Y.w)) (hsz := by rw [List.length_map]; exact sz (Nat.le_of_lt hz)) hu (I.isT hb) (dt0_full R0 fun p hp => I.isT (hL p hp)) fun h' dd' hs => q _ ?_
  rw [stored_put] at dd'
  obtain ⟨o, es, ep, ho, hx, hd, he, _, hn⟩ := dd'
  exact d_write I (by rw [hD]; exact True.intro) hs ⟨o, ho⟩ (dto_ok ⟨R0.1, o, es, ep, ho, hx, hd, he, hn⟩)
theorem nwT_ok {X : Cx} : NwOk X (fun D => DTO X.prog X.w D []) := fun pins s σ H I =>
  I.laid (t' := s.toks) (fun b o e => Heap.get?_push_of_some _ e) (Nat.le_refl _) (dto_ok ⟨beq_eq_false_iff_ne.mpr (Ne.symm (Nat.ne_of_lt I.big)), _, #[], 0, Heap.get?_push_size _ rfl, ⟨rfl, rfl, rfl⟩, rfl, rfl, List.nodup_nil⟩)
/-- ints as keys, True as value -/
def stI : Stp := fun D y z H H' => ∃ (kvs : List (L2.Key × V)) (k : Int), y = .int k ∧ H D = some (.dK kvs) ∧ kvs.length < 100000 ∧ H' = upd H D (.dK (putK kvs (.inl k) z))
theorem stI_ok {Y : Cx} : StpOk Y stI := by
  intro pins s σ H H' D y v u r E Q I h ry rv q
  obtain ⟨kvs, k, rfl, hD, hz, rfl⟩ := h
  exact d_dictSet (k := .inl k) I hD (szlt (Nat.le_of_lt hz)) ry rv q
theorem nwI_ok {X : Cx} : NwOk X (fun _ => .dK []) := fun pins s σ H I =>
  I.laid (t' := s.toks) (fun b o e => Heap.get?_push_of_some _ e) (Nat.le_refl _) (dk_empty s.heap I.big)

/-! ### its keys -/
theorem src_raw {prog : Program} {w : World} {d : Addr} {es : Array DictEntry} {ep : Nat} (lo : (d == sysModules) = false) : KdlSrc prog w "dict" d d es.size (fun i v => ∃ hi : i < es.size, v = es[i].key) (fun h => h.DictRaw d es ep) where
  type := fun _ hm => hm.typeIs
  there := fun _ ⟨_, ho, _⟩ => ⟨Heap.lt_size ho, Heap.lt_size ho⟩
  keep := fun _ _ hm hk => hm.at fun o e => hk d (.inl rfl) o e
  notList := by decide
  notTuple := by decide
  hint := fun _ _ _ _ hm hq => kdl_hint_dict hm.typeIs hq
  iter := fun _ s hh hm => by
    obtain ⟨o, ho, _⟩ := id hm
    exact ⟨_, _, fun _ _ hq => wpAny_pyIter_dict_raw lo hm hq, Walks.rawKeys hh _ d (Nat.ne_of_lt (Heap.lt_size ho)) es ep, ⟨⟨_, Heap.get?_push_size _ rfl, rfl, rfl⟩, hm.at fun o e => Heap.get?_push_of_some _ e⟩⟩
theorem keys_are {P : Program} {w : World} {L : List TA2} {es : Array DictEntry} (he : es.toList = (L.map rowT).map (entryOfKey (tupleKind (intKind P w)))) {acc : Array Value} (ha : ItemsOf (fun i v => ∃ hi : i < es.size, v = es[i].key) acc es.size) : acc.toList = L.map fun p => Value.ref p.1 := by
  have hl : es.size = L.length := by rw [← Array.length_toList, he, List.length_map, List.length_map]
  refine List.ext_getElem? fun i => ?_
  by_cases c : i < es.size
  · have hi : i < acc.size := by rw [ha.1]; exact c
    have e1 : acc[i]? = some acc[i] := Array.getElem?_eq_getElem hi
    obtain ⟨h2, e2⟩ := ha.2 i acc[i] e1
    have hiL : i < L.length := by rw [← hl]; exact c
    have e3 : es.toList[i]? = some (entryOfKey (tupleKind (intKind P w)) (rowT L[i])) := by rw [he, List.getElem?_map, List.getElem?_map, List.getElem?_eq_getElem hiL]; rfl
    have e4 : es.toList[i]? = some es[i] := by rw [Array.getElem?_toList, Array.getElem?_eq_getElem c]
    rw [e4] at e3
    rw [Array.getElem?_toList, e1, e2, Option.some.inj e3, List.getElem?_map, List.getElem?_eq_getElem hiL]
    rfl
  · rw [List.getElem?_eq_none (by rw [Array.length_toList, ha.1]; omega), List.getElem?_eq_none (by rw [List.length_map, ← hl]; omega)]
theorem vals_refs : ∀ (L : List TA2), Vals (L.map fun p => V.ref p.1) (L.map fun p => Value.ref p.1)
  | [] => .nil
  | p :: L => .cons rfl (vals_refs L)
def rListDT (P : Program) (w : World) : List V → Hp → VK → Prop := fun vs H Q => ∃ (r : Addr) (L : List TA2), vs = [.ref r] ∧ H r = some (DTO P w r L) ∧ L.length ≤ 100000 ∧ ∀ l, H l = none → Q (.ref l) (upd H l (.lst (L.map fun p => V.ref p.1)))
theorem cr_listDT {X : Cx} (hc : X.calm = true) : CallR X (.type "list") (rListDT X.prog X.w) := by
  intro pins s σ H xs us Q I r h
  obtain ⟨a, L, rfl, ha, hz, q⟩ := h
  rw [Vals.ref1 r]
  obtain ⟨lo, o, es, ep, ho, hx, hd, he, hn⟩ := (show DT0 X.prog X.w s.heap a L from (I.hok a _ ha).1)
  have hl : es.size = L.length := by rw [← Array.length_toList, he, List.length_map, List.length_map]
  refine kdl_call (src_raw (es := es) (ep := ep) lo) (I.ok.hd hc) ⟨o, ho, hx, hd⟩ (by rw [hl]; exact sz hz) fun h' tk acc c k hg hi => ?_
  have hk := keys_are he hi
  refine ⟨.ref s.heap.objs.size, _, I.laid (t' := tk) k (Nat.le_refl _) (show ObjOk X.prog X.w _ h' _ (.lst (L.map fun p => V.ref p.1)) from ⟨by rw [List.length_map]; exact sz hz, acc.toList, c, by rw [hk]; exact vals_refs L, hg⟩), rfl, q _ (I.hok.fresh (Nat.le_refl _))⟩
def tbL (L : List TA2) : List TI2 := L.map fun q => (V.ref q.1, q.2)
theorem tbL_vals {L : List TA2} : Vals ((tbL L).map (·.1)) (L.map fun p => Value.ref p.1) := by
  unfold tbL
  rw [List.map_map]
  exact vals_refs L
theorem tbL_tb {K : PySem.W.Frag} {H : Hp} {L : List TA2} (h : ∀ p ∈ L, SqT K H p.1 (p.2.map V.int)) : TB K H (tbL L) := fun b hb => by
  obtain ⟨p, hp, rfl⟩ := List.mem_map.mp hb
  exact ⟨p.1, rfl, h p hp⟩
def SortT (B : Nat → Prop) (ob : Addr → List TA2 → HO) (K : PySem.W.Frag) : List V → Hp → VK → Prop := fun vs H Q => ∃ (r : Addr) (L : List TA2), vs = [.ref r] ∧ H r = some (ob r L) ∧ (∀ p ∈ L, SqT K H p.1 (p.2.map V.int)) ∧ B L.length ∧ (∀ p ∈ L, p.2 ≠ []) ∧
  ∀ (zs : List TI2) p, zs.Perm (tbL L) → (L.map (·.2)).Nodup → zs.Pairwise (fun a b => ¬ b.2 < a.2) → H p = none → Q (.ref p) (upd H p (.lst (zs.map (·.1))))
theorem sortT_end {X : Cx} {pins : List (Addr × Obj)} {σ : L2.St} {H : Hp} {s : Shared} {r : Addr} {Q : VK} (I : Inv X pins σ H s) (hu : X.A.units + 64 < cLine) {L : List TA2} (hk : ∀ p ∈ L, SqT X.K H p.1 (p.2.map V.int)) (hz : L.length ≤ 100000) (hn : ∀ p ∈ L, p.2 ≠ [])
    (coll : ∀ {R' : List Value → Shared → Prop} {E' : Value → Shared → Prop}, (∀ (s1 : Shared) (L1 : List TA2), Keeps s.heap s1.heap → s1.gens = s.gens → s1.os = s.os → L1.Perm L → R' (L1.map fun p => Value.ref p.1) s1) → wpAny (model X.prog X.w) X.A.in1 (collect (.ref r)) R' E' s)
    (q : ∀ (zs : List TI2) p, zs.Perm (tbL L) → zs.Pairwise (fun a b => ¬ b.2 < a.2) → H p = none → Q (.ref p) (upd H p (.lst (zs.map (·.1))))) : wpAny (model X.prog X.w) X.A (call (.builtin "sorted") [.ref r]) (EP X pins σ Q) X.xe s := by
  refine sorted_src (β := TI2) (U := fun us bs => ∃ L1 : List TA2, L1.Perm L ∧ bs = tbL L1 ∧ us = L1.map fun p => Value.ref p.1) (R := fun v b => RelV b.1 v) (enc := encT)
    (fun {R' E'} k => coll fun s1 L1 k1 g1 o1 pm => k s1 _ _ k1 g1 o1 ⟨L1, pm, rfl, rfl⟩) (fun us bs ⟨L1, pm, e1, e2⟩ => ?_) (by omega) fun us bs s1 h' out c ⟨L1, pm, e1, e2⟩ k1 g1 o1 k2 ho hlo ho2 => ?_
  · subst e1 e2
    obtain ⟨y1, y2⟩ := tb_each I (tbL_tb fun p hp => hk p (pm.mem_iff.mp hp)) tbL_vals
    refine ⟨y1, y2, alike_encT, srt2_encT (.inl fun b hb => ?_), by rw [List.length_map, pm.length_eq]; exact sz hz, fun b _ => depth_encT b⟩
    obtain ⟨p, hp, rfl⟩ := List.mem_map.mp hb
    exact hn p (pm.mem_iff.mp hp)
  · subst e1
    refine fin_list I k1 g1 o1 k2 ho (each_vals ho2) ?_ fun p hp => q _ p ((List.mergeSort_perm _ _).trans (pm.map _)) srtT_pw hp
    rw [List.length_map, List.length_mergeSort]
    unfold tbL
    rw [List.length_map, pm.length_eq]
    exact sz hz
theorem cr_sortDT {X : Cx} (hc : X.calm = true) (hu : X.A.units + 64 < cLine) : CallR X (.builtin "sorted") (SortT (· ≤ 100000) (DTO X.prog X.w) X.K) := by
  intro pins s σ H xs us Q I r h
  obtain ⟨a, L, rfl, ha, hk, hz, hn, q⟩ := h
  rw [Vals.ref1 r]
  obtain ⟨lo, o, es, ep, ho, hx, hd, he, hnd⟩ := (show DT0 X.prog X.w s.heap a L from (I.hok a _ ha).1)
  have hl : es.size = L.length := by rw [← Array.length_toList, he, List.length_map, List.length_map]
  refine sortT_end I hu hk hz hn (fun {R' E'} k => ?_) fun zs p pm pw hp => q zs p pm (by simpa [rowT, List.map_map, Function.comp_def] using hnd) pw hp
  refine kdu_collect (A := X.A.in1) (src_raw (es := es) (ep := ep) lo) (I.ok.hd hc) ⟨o, ho, hx, hd⟩ (by rw [hl]; exact sz hz) fun h' tk acc k1 hi => ?_
  rw [keys_are he hi]
  exact k { s with heap := h', toks := tk } L k1 rfl rfl (List.Perm.refl _)
theorem perm_map_ex {α β : Type} {f : α → β} : ∀ {us ys : List β}, us.Perm ys → ∀ L : List α, ys = L.map f → ∃ L' : List α, L'.Perm L ∧ us = L'.map f := by
  intro us ys h
  induction h with
  | nil => intro L e; exact ⟨L, .refl _, e⟩
  | cons x h ih =>
    intro L e
    cases L with
    | nil => cases e
    | cons a L =>
      rw [List.map_cons] at e
      obtain ⟨e1, e2⟩ := List.cons.inj e
      obtain ⟨L', h1, h2⟩ := ih L e2
      exact ⟨a :: L', h1.cons a, by rw [List.map_cons, ← h2, e1]⟩
  | swap x y l =>
    intro L e
    match L, e with
    | a :: b :: L, e =>
      rw [List.map_cons, List.map_cons] at e
      obtain ⟨e1, e2⟩ := List.cons.inj e
      obtain ⟨e3, e4⟩ := List.cons.inj e2
      exact ⟨b :: a :: L, .swap _ _ _, by rw [List.map_cons, List.map_cons, ← e4, e1, e3]⟩
  | trans h1 h2 ih1 ih2 =>
    intro L e
    obtain ⟨M2, p2, e2⟩ := ih2 L e
    obtain ⟨L1, p1, e1⟩ := ih1 M2 e2
    exact ⟨L1, p1.trans p2, e1⟩
theorem cr_sortST {X : Cx} (hc : X.calm = true) (hu : X.A.units + 64 < cLine) : CallR X (.builtin "sorted") (SortT (fun _ => True) (SetTO X.prog X.w) X.K) := by
  intro pins s σ H xs us Q I r h
  obtain ⟨a, L, rfl, ha, hk, hz, hn, q⟩ := h
  rw [Vals.ref1 r]
  have R0 : SetT0 X.prog X.w s.heap a L := (I.hok a _ ha).1
  obtain ⟨es, ep, t, R⟩ := R0.full fun p hp => I.isT (hk p hp)
  obtain ⟨o, ho, hex, hd⟩ := R.ob
  have hsz := R.size
  have hfew := R.few
  refine sortT_end I hu hk (by omega) hn (fun {R' E'} k => ?_) fun zs p pm pw hp => q zs p pm R.nd pw hp
  refine collect_set (A := X.A.in1) (I.ok.hd hc) ⟨o, ho, hex.1, hd⟩ R.fits (by unfold scanBound; omega) R.tab.ris R.led fun s1 vs k1 _ g1 o1 pm => ?_
  have hes : es.toList.map (·.2) = L.map fun q => Value.ref q.1 := by
    rw [R.rows]
    unfold L2.rowsOf
    rw [List.map_map] <;> rfl
  rw [hes] at pm
  obtain ⟨L1, p1, rfl⟩ := perm_map_ex pm L rfl
  exact k s1 L1 k1 g1 o1 p1
end Kb
set_option Elab.async false
set_option linter.all false
set_option maxRecDepth 100000
set_option maxHeartbeats 4000000
/-! E9: sets of ints out of lists and tuples: sorted, counted. -/
namespace Kb
open PySem PySem.Spec PyProof.Rows L2

section
variable {P : Program} {w : World} {A : Around} {E : Value → Shared → Prop} {s : Shared}
set_option maxHeartbeats 8000000 in
/-- set(l), l a list of ints -/
theorem set_of_list {l : Addr} {items : Array Value} (ns : List Int) {Q : Value → Shared → Prop} (hh : A.handled = none) (hl : s.heap.IsList l items) (hit : IntsAre items.toList ns) (hb : ns.length + 1 < scanBound)
    (h : ∀ (h' : Heap) (tk c : Nat), SetR w h' s.heap.objs.size (fun j => decide (j ∈ ns)) c → Keeps s.heap h' → Q (.ref s.heap.objs.size) { s with heap := h', toks := tk }) : wpAny (model P w) A (call (.type "set") [.ref l]) Q E s := by
  have hisz : items.size = ns.length := by
    have q := IntsAre.length hit
    rwa [Array.length_toList] at q
  obtain ⟨c, tl, hmro⟩ := F.called_set.mro
  have hmade := F.called_set.made
  have hsub := F.called_set.sub
  refine wpAny_call (codeAny_of_tree ?_)
  show wpAny _ _ (callAny (.type "set") _) _ _ _
  refine wpAny_pure ⟨Code.quiet_builtin _ (by decide +kernel), codeAny_builtin F.entry_type_call ?_⟩
  rw [Around.under_plain (weight_type_call_type "set" [.ref l] []) rfl]
  have h1 := F.called_set.notType
  have h2 := F.called_set.canCreate
  have hct := F.typeCall_set_1 (.ref l)
  repeat (any_goals (first | assumption | wp_step))
  refine codeAny_mono (code_set_led1 (.ref l) (E := E) (Q₁ := fun obj s₁ => obj = .ref s.heap.objs.size ∧ s₁ = { s with heap := s.heap.push { cls := .type "set", dict := none, data := .set #[] 0 (.fresh 0 0 (!w.params.followText "set-order")) } }) ⟨rfl, rfl⟩) fun r s₁ hr => ?_
  cases r with
  | error e => exact hr
  | ok fl =>
    cases fl with
    | ret obj =>
      obtain ⟨rfl, rfl⟩ := hr
      have hS : (s.heap.push { cls := .type "set", dict := none, data := .set #[] 0 (.fresh 0 0 (!w.params.followText "set-order")) }).get? s.heap.objs.size = some { cls := .type "set", dict := none, data := .set #[] 0 (.fresh 0 0 (!w.params.followText "set-order")) } := Heap.get?_push_size _ rfl
      have hT : Shared.TypeIs { s with heap := s.heap.push { cls := .type "set", dict := none, data := .set #[] 0 (.fresh 0 0 (!w.params.followText "set-order")) } } (.ref s.heap.objs.size) "set" := ⟨_, hS, rfl⟩
      have hli := F.called_set.init.lookup
      have hbi := F.called_set.init.bind (.ref s.heap.objs.size)
      repeat (any_goals (first | assumption | wp_step))
      refine codeAny_mono (codeAny_call_builtin (R := wants (fun r s₂ => r = .none ∧ ∃ h' tk c, s₂ = { s with heap := h', toks := tk } ∧ SetR w h' s.heap.objs.size (fun j => decide (j ∈ ns)) c ∧ Keeps s.heap h') E) F.called_set.init.plain F.entry_set_init (check_set_init_1 hT ?_)) fun r₂ s₂ hr₂ => ?_
      · obtain ⟨⟨ocls, odict, odata, oslots⟩, hol, hcl, nl, hdl⟩ := hl
        simp only at hcl hdl
        subst hcl; subst hdl
        have hol' : (s.heap.push { cls := .type "set", dict := none, data := .set #[] 0 (.fresh 0 0 (!w.params.followText "set-order")) }).get? l = some { cls := .type "list", dict := odict, data := .seq items nl, slots := oslots } := Heap.get?_push_of_some _ hol
        have hsls := F.sub_list_set
        have hslf := F.sub_list_frozenset
        have hne : (Value.type "list" == Value.type "dict") = false := by decide
        have hl1 : (s.heap.push { cls := .type "set", dict := none, data := .set #[] 0 (.fresh 0 0 (!w.params.followText "set-order")) }).IsList l items := ⟨_, hol', rfl, nl, rfl⟩
        unfold Builtin.«set.__init__» noKeywords Builtin.Frozenset.updateFrom
        generalize hPI : pyIter = PI
        wp_walk
        subst hPI
        refine wpAny_pyIter_list hl1 ?_
        refine wpAny_bind (wpAny_runValue ?_)
        have hlS : l < s.heap.objs.size := Heap.lt_size hol
        have hh3 : A.in1.in1.in1.handled = none := by simp [hh]
        have hneI : l ≠ (s.heap.push { cls := .type "set", dict := none, data := .set #[] 0 (.fresh 0 0 (!w.params.followText "set-order")) }).objs.size := by
          rw [Heap.size_push]; exact Nat.ne_of_lt (Nat.lt_succ_of_lt hlS)
        have hSf : s.heap.objs.size ∉ [(s.heap.push { cls := .type "set", dict := none, data := .set #[] 0 (.fresh 0 0 (!w.params.followText "set-order")) }).objs.size, l] := by
          rw [Heap.size_push]; simp only [List.mem_cons, List.mem_singleton, List.not_mem_nil, or_false, not_or]
          exact ⟨Nat.ne_of_lt (Nat.lt_succ_self _), Nat.ne_of_gt hlS⟩
        have hval : ∀ (i : Nat) (v : Value), items[i]? = some v → ∃ k t, ns[i]? = some k ∧ v = .int k t := fun i v hv => by
          have hi : i < ns.length := by rw [← hisz]; exact (Array.getElem?_eq_some_iff.mp hv).1
          obtain ⟨t, e⟩ := PyProof.Rows.IntsAre.int_at hit i v (by rw [Array.getElem?_toList]; exact hv)
          refine ⟨ns[i], t, List.getElem?_eq_getElem hi, ?_⟩
          rw [e, List.getD_eq_getElem?_getD, List.getElem?_eq_getElem hi] <;> rfl
        refine set_update_ints ((Walks.list hh3 _ l hneI items).toS) s.heap.objs.size
          hSf ns hisz hb hval (items.size - 0) 0 _ (by omega) (Nat.zero_le _)
          ⟨⟨_, Heap.get?_push_size _ rfl, rfl, rfl⟩, (hl1.push _)⟩ ⟨0, Nat.le_refl 0, setR_new_at (Heap.get?_push_of_some _ hS)⟩ ?hR
        case hR =>
          intro s' c' hm hc' hS'
          obtain ⟨h', g2, d', tk', os'⟩ := s'
          have eg : g2 = s.gens := hm.gens
          have ed : d' = s.drawn := hm.drawn
          have eo : os' = s.os := hm.os
          subst eg; subst ed; subst eo
          show wpAny _ _ _ _ _ _
          refine wpAny_pure ?_
          show wpAny _ _ (ret Value.none) _ _ _
          refine wpAny_pure ⟨rfl, h', tk', c', rfl, hS', fun b o e => ?_⟩
          have hb0 : b < s.heap.objs.size := Heap.lt_size e
          refine hm.heap b o ?_ (Heap.get?_push_of_some _ (Heap.get?_push_of_some _ e))
          rw [Heap.size_push]
          simp only [List.mem_cons, List.mem_singleton, List.not_mem_nil, or_false, not_or]
          exact ⟨Nat.ne_of_lt hb0, Nat.ne_of_lt (Nat.lt_succ_of_lt hb0)⟩
      · cases r₂ with
        | error e => exact hr₂
        | ok fl₂ =>
          cases fl₂ with
          | ret r =>
            obtain ⟨rfl, h', tk, c', rfl, hS', hk'⟩ := hr₂
            repeat (any_goals (first | assumption | wp_step))
            exact h _ _ _ hS' hk'
          | _ => exact hr₂.elim
    | _ => exact hr.elim
end
end Kb
set_option Elab.async false
set_option linter.all false
set_option maxRecDepth 100000
set_option maxHeartbeats 1000000
/-! E10: sets and dicts read over data. -/
namespace Kb
open PySem PySem.Spec PyProof.Rows L2

theorem nodup_len {α : Type} [DecidableEq α] : ∀ {l m : List α}, l.Nodup → (∀ x ∈ l, x ∈ m) → l.length ≤ m.length
  | [], _, _, _ => Nat.zero_le _
  | x :: l, m, hn, hs => by
    obtain ⟨h1, h2⟩ := List.nodup_cons.mp hn
    have hx := hs x List.mem_cons_self
    have h3 := nodup_len (m := m.erase x) h2 fun y hy => (List.mem_erase_of_ne (fun (z : y = x) => h1 (by rw [← z]; exact hy))).mpr (hs y (List.mem_cons_of_mem _ hy))
    rw [List.length_erase_of_mem hx] at h3
    have := List.length_pos_of_mem hx
    rw [List.length_cons]
    omega
/-! ### sets of ints -/
def rSetI (K : PySem.W.Frag) (w : World) : List V → Hp → VK → Prop := fun vs H Q => ∃ (r : Addr) (ns : List Int), vs = [.ref r] ∧ (SqL K H r (ns.map V.int) ∨ SqT K H r (ns.map V.int)) ∧ ns.length < 64 ∧ ∀ p c, H p = none → Q (.ref p) (upd H p (SetO w p (fun j => decide (j ∈ ns)) c))
theorem cr_setI {X : Cx} (hc : X.calm = true) : CallR X (.type "set") (rSetI X.K X.w) := by
  intro pins s σ H xs us Q I r h
  obtain ⟨a, ns, rfl, hq, hz, q⟩ := h
  rw [Vals.ref1 r]
  have hb : ns.length + 1 < scanBound := by unfold scanBound; omega
  have fin : ∀ (h' : Heap) (tk c : Nat), SetR X.w h' s.heap.objs.size (fun j => decide (j ∈ ns)) c → Keeps s.heap h' → EP X pins σ Q (.ref s.heap.objs.size) { s with heap := h', toks := tk } := fun h' tk c R k =>
    ⟨.ref s.heap.objs.size, _, I.laid (t' := tk) k (Nat.le_refl _) (setO_new R), rfl, q _ c (I.hok.fresh (Nat.le_refl _))⟩
  rcases hq with hq | hq
  · obtain ⟨its, rv, pl, _⟩ := I.list hq
    exact set_of_list ns (I.ok.hd hc) pl.isList (by simpa using rv.ints) hb fin
  · obtain ⟨its, rv, pl, _⟩ := I.tuple hq
    exact call_set_tupI ns (I.ok.hd hc) pl (by simpa using rv.ints) hb fun h' tk c R _ k => fin h' tk c R k
/-- strictly rising, the same members -/
def rSrtSet (w : World) : List V → Hp → VK → Prop := fun vs H Q => ∃ (a : Addr) (ns : List Int) (n : Nat), vs = [V.ref a] ∧ H a = some (SetO w a (fun j => decide (j ∈ ns)) n) ∧ ns.length < 64 ∧
  ∀ (ms : List Int) (p : Addr), ms.Pairwise (· < ·) → (∀ k : Int, k ∈ ms ↔ k ∈ ns) → H p = none → Q (.ref p) (upd H p (.lst (ms.map V.int)))
theorem setR_card {w : World} {h : Heap} {a : Addr} {ns : List Int} {n : Nat} (R : SetR w h a (fun j => decide (j ∈ ns)) n) : n ≤ ns.length := by
  obtain ⟨o, es, ep, t, _, _, _, _, hn, hS, _, _, hz, _⟩ := R
  rw [← hz, ← Array.length_toList, ← List.length_map (f := keyOf)]
  refine nodup_len hn fun k hk => ?_
  have := (hS k).mpr hk
  simpa using this
theorem cr_srtSet {X : Cx} (hc : X.calm = true) : CallR X (.builtin "sorted") (rSrtSet X.w) := by
  intro pins s σ H vs us Q I r h
  obtain ⟨a, ns, n, rfl, ha, hz, q⟩ := h
  refine cr_sortedSet hc pins s σ H _ us Q I r ⟨a, _, n, rfl, ha, Nat.lt_of_le_of_lt (setR_card (setO_get I ha)) hz, fun ms p hp hm _ hH => q ms p hp (fun k => ?_) hH⟩
  rw [hm k]
  simp
/-! ### each once, in the order in which they come -/
def dedS {α : Type} [DecidableEq α] (acc : List α) (x : α) : List α := if x ∈ acc then acc else acc ++ [x]
def dedL {α : Type} [DecidableEq α] (l : List α) : List α := l.foldl dedS []
theorem ded_first (ns : List Int) : firstMet (fun i => ns.getD i 0) ns.length = dedL ns := by
  unfold firstMet dedL
  have e : (List.range ns.length).map (fun i => ns.getD i 0) = ns := by
    refine List.ext_getElem? fun i => ?_
    rw [List.getElem?_map]
    by_cases c : i < ns.length
    · rw [List.getElem?_range c, List.getElem?_eq_getElem c]
      simp [List.getD_eq_getElem?_getD, c]
    · rw [List.getElem?_eq_none (by simpa using c), List.getElem?_eq_none (by simpa using c)]; rfl
  rw [e]
  have f : ∀ (l acc : List Int), l.foldl step_dedup acc = l.foldl dedS acc := by
    intro l
    induction l with
    | nil => intro _; rfl
    | cons x l ih =>
      intro acc
      rw [List.foldl_cons, List.foldl_cons, ih]
      congr 1
      unfold step_dedup dedS
      by_cases c : x ∈ acc
      · rw [if_pos c, if_pos]
        exact List.any_eq_true.mpr ⟨x, c, by simp⟩
      · rw [if_neg c, if_neg]
        intro z
        obtain ⟨y, hy, e⟩ := List.any_eq_true.mp z
        exact c (by rw [← eq_of_beq e]; exact hy)
  exact f ns []
def tLenSet (K : PySem.W.Frag) (ta : TE) : TE := fun σ H Q => ta σ H fun x H1 => ∃ (l : Addr) (ns : List Int), x = .ref l ∧ SqL K H1 l (ns.map V.int) ∧ ns.length ≤ 4000 ∧ Q (.int ((dedL ns).length : Nat)) H1
theorem pe_lenSet {X : Cx} {a : Expr} {ta : TE} {p p2 q pos : Pos} (hc : X.calm = true) (hg : Gl X "len") (hm : X.mg "len" = none) (hg2 : Gl X "set") (hm2 : X.mg "set" = none) (ha : PE X a ta)
    (na : starEach [a] X.env = (false, eval a X.env) :: starEach [] X.env := by rfl) : PE X (.Call (.Name "len" p) [.Call (.Name "set" p2) [a] [] q] [] pos) (tLenSet X.K ta) := by
  refine ⟨fun pins s σ H Q I h => ?_⟩
  refine Call_ (ld_blt I hg hm PySem.boot_len ?_)
  refine PyProof.Rows.callWith_builtin1 (PyProof.Rows.args_cons ?_ rfl) rfl rfl
  refine Call_ (ld_blt I hg2 hm2 PyProof.Rows.boot_set ?_)
  refine PyProof.Rows.callWith_type1 (PyProof.Rows.args_cons (thn (ha.run pins s σ H _ I h) fun v s1 ⟨x, H1, I1, r1, q1⟩ => PyProof.Rows.args_nil ?_) na) na rfl
  obtain ⟨l, ns, rfl, hq, hl, q1⟩ := q1
  cases r1
  obtain ⟨its, r, pl, hz⟩ := I1.list hq
  have hlen : its.toArray.size = ns.length := by rw [List.size_toArray, ← r.length, List.length_map]
  refine PySem.call_set_list (I1.ok.hd hc) pl.isList (ns := ns) (by simpa using r.ints) (by rw [hlen]; unfold scanBound; omega) fun h' tk hS hk => PyProof.Rows.args_nil ?_
  rw [hlen, ded_first] at hS
  obtain ⟨o, es, ep, t, ho, hex, hd, _, _, _, hf, hn⟩ := hS
  have I2 : Inv X pins σ H1 { s1 with heap := h', toks := tk } := I1.kept fun b o e => hk b o (Heap.lt_size e) e
  have hle : (dedL ns).length ≤ ns.length := by rw [← ded_first]; exact firstMet_length_le _ _
  exact call_len_set ho hex hd hf (by rw [hn]; omega) ⟨.int ((dedL ns).length : Nat), H1, I2.tok _, ⟨_, by rw [hn]⟩, q1⟩

/-! ### read over data -/
section
variable {X : Cx} {e : Expr} {O : List Nat} {g : DE} {P : Program} {w : World}
abbrev DM := Env → (List (List Int) → Prop) → Prop
abbrev DI := Env → (List Int → Prop) → Prop
/-- an object with those ints as its members, in that order if it keeps one -/
def eOI (O : List Nat) (ob : Addr → List Int → HO → Prop) (g : DI) : TE := fun σ H Q => ∃ p F ρ K, Rs O p F H σ ρ ∧ g ρ K ∧ ∀ ns, K ns → ∀ r o H', Ext p H H' → H r = none → H' r = some o → ob r ns o → Q (.ref r) H'
/-- .. those tuples of ints -/
def eOT (O : List Nat) (ob : Addr → List TA2 → HO) (g : DM) : TE := fun σ H Q => ∃ p F ρ K, Rs O p F H σ ρ ∧ g ρ K ∧ ∀ ms, K ms → ∀ r L H', Ext p H H' → H r = none → H' r = some (ob r L) → L.map (·.2) = ms → (∀ q ∈ L, Dt (grow F H H') (.ref q.1) (intsD q.2)) → Q (.ref r) H'
def obSet (w : World) (r : Addr) (ns : List Int) (o : HO) : Prop := ∃ n, o = SetO w r (fun j => decide (j ∈ ns)) n
def obDic (_ : Addr) (ns : List Int) (o : HO) : Prop := ∃ kvs : List (L2.Key × V), o = .dK kvs ∧ kvs.map (·.1) = ns.map Sum.inl
def dSetOf (g : DE) : DI := fun ρ K => g ρ fun d => ∃ ns : List Int, seqD d = some (ns.map .int) ∧ ns.length < 64 ∧ K ns
theorem w_setI (x : PE X e (tCB (rSetI X.K w) (tCons (eW O g) tNil))) : PE X e (eOI O (obSet w) (dSetOf g)) := imp x fun σ H Q ⟨p, F, ρ, K, R, hg, hk⟩ =>
  ⟨p, F, ρ, _, R, hg, fun d ⟨ns, f, hz, kd⟩ v H1 ex dt => by
    obtain ⟨a, xs, rfl, hq, dl⟩ := dt.seq (K := X.K) (R.grow_sub ex) f
    rw [dl.of_ints] at hq
    exact ⟨a, ns, rfl, hq, hz, fun l c hl => hk ns kd l _ _ (ex.trans (.new hl)) (R.fresh ex hl) upd_same ⟨c, rfl⟩⟩⟩
/-- rising, each once -/
def dSrtSet (g : DI) : DL := fun ρ K => g ρ fun ns => ns.length < 64 ∧ ∀ ms : List Int, ms.Pairwise (· < ·) → (∀ k : Int, k ∈ ms ↔ k ∈ ns) → K (ms.map .int)
theorem w_srtSet {g : DI} (x : PE X e (tCB (rSrtSet w) (tCons (eOI O (obSet w) g) tNil))) : PE X e (eL O (dSrtSet g)) := imp x fun σ H Q ⟨p, F, ρ, K, R, hg, hk⟩ =>
  ⟨p, F, ρ, _, R, hg, fun ns ⟨hz, kd⟩ r o H1 ex hn ho ⟨n, eo⟩ => by
    subst eo
    exact ⟨r, ns, n, rfl, ho, hz, fun ms l h1 h2 hl => hk _ (kd ms h1 h2) _ _ _ (ex.trans (.new hl)) (R.fresh ex hl) upd_same (.ints _)⟩⟩
def rSrtDic : List V → Hp → VK → Prop := fun xs H Q => ∃ (a : Addr) (kvs : List (L2.Key × V)) (ks : List Int), xs = [.ref a] ∧ Rd H a (.dK kvs) ∧ kvs.map (·.1) = ks.map Sum.inl ∧ ks.length < 64 ∧
    ∀ (ys : List Int) (p : Addr), ys.Perm ks → ys.Pairwise (· ≤ ·) → H p = none → Q (.ref p) (upd H p (.lst (ys.map V.int)))
theorem cr_srtDic (hc : X.calm = true) : CallR X (.builtin "sorted") rSrtDic := call_sortedDI hc
def dSrtDic (g : DI) : DL := fun ρ K => g ρ fun ns => ns.length < 64 ∧ ∀ ms : List Int, ms.Perm ns → ms.Pairwise (· ≤ ·) → K (ms.map .int)
theorem w_srtDic {g : DI} (x : PE X e (tCB rSrtDic (tCons (eOI O obDic g) tNil))) : PE X e (eL O (dSrtDic g)) := imp x fun σ H Q ⟨p, F, ρ, K, R, hg, hk⟩ =>
  ⟨p, F, ρ, _, R, hg, fun ns ⟨hz, kd⟩ r o H1 ex hn ho ⟨kvs, eo, hkv⟩ => by
    subst eo
    exact ⟨r, kvs, ns, rfl, .inl ho, hkv, hz, fun ms l h1 h2 hl => hk _ (kd ms h1 h2) _ _ _ (ex.trans (.new hl)) (R.fresh ex hl) upd_same (.ints _)⟩⟩
def dLenSet (g : DE) : DE := fun ρ K => g ρ fun d => ∃ ns : List Int, d = .list (ns.map .int) ∧ ns.length ≤ 4000 ∧ K (.int ((dedL ns).length : Nat))
theorem w_lenSet (x : PE X e (tLenSet X.K (eW O g))) : PE X e (eR O (dLenSet g)) := imp x fun σ H Q ⟨p, F, ρ, K, R, hg, hk⟩ =>
  ⟨p, F, ρ, _, R, hg, fun d ⟨ns, ed, hz, kd⟩ v H1 ex dt => by
    subst ed
    obtain ⟨a, xs, rfl, ha, dl⟩ := dt.list (R.grow_sub ex)
    rw [dl.of_ints] at ha
    exact ⟨a, ns, rfl, SqL.of ha, hz, hk _ kd _ H1 ex (.int _)⟩⟩
/-- sets of tuples -/
theorem refs_tups {G : Hp} : ∀ {xs : List V} {ms : List (List Int)}, DtL G xs (ms.map intsD) → ∃ ks : List TA2, ks.map (fun p => V.ref p.1) = xs ∧ ks.map (·.2) = ms ∧ ∀ p ∈ ks, Dt G (.ref p.1) (intsD p.2)
  | [], [], _ => ⟨[], rfl, rfl, fun p hp => nomatch hp⟩
  | [], _ :: _, h => by cases h
  | _ :: _, [], h => by cases h
  | x :: xs, m :: ms, h => by
    cases h with
    | cons h k =>
      obtain ⟨ks, h1, h2, h3⟩ := refs_tups k
      obtain ⟨a, ys, e, ha, dl⟩ := h.ref_tup
      subst e
      refine ⟨(a, m) :: ks, by rw [List.map_cons, h1], by rw [List.map_cons, h2], fun p hp => ?_⟩
      rcases List.mem_cons.mp hp with rfl | hp
      · exact h
      · exact h3 p hp
theorem sqT_ints {K : PySem.W.Frag} {G H : Hp} {a : Addr} {m : List Int} (s : Sub G H) (h : Dt G (.ref a) (intsD m)) : SqT K H a (m.map V.int) := by
  obtain ⟨b, ys, e, ha, dl⟩ := h.ref_tup
  cases e
  rw [dl.of_ints] at ha
  exact (ha.mono s).sq
def dSetT (g : DE) : DM := fun ρ K => g ρ fun d => ∃ ms : List (List Int), seqD d = some (ms.map intsD) ∧ (∃ ds, d = .list ds) ∧ ms.length < 64 ∧ ∀ ms' : List (List Int), (∀ m, m ∈ ms' ↔ m ∈ ms) → K ms'
theorem w_setT (x : PE X e (tCB (rSetOfT X.K P w) (tCons (eW O g) tNil))) : PE X e (eOT O (SetTO P w) (dSetT g)) := imp x fun σ H Q ⟨p, F, ρ, K, R, hg, hk⟩ =>
  ⟨p, F, ρ, _, R, hg, fun d ⟨ms, ed, ⟨ds, el⟩, hz, kd⟩ v H1 ex dt => by
    subst el
    cases ed
    obtain ⟨a, xs, rfl, ha, dl⟩ := dt.list (R.grow_sub ex)
    obtain ⟨ks, h1, h2, h3⟩ := refs_tups dl
    subst h1 h2
    refine ⟨a, ks, rfl, SqL.of ha, fun p hp => sqT_ints (R.grow_sub ex) (h3 p hp), by simpa using hz, fun l L hl hs hc => ?_⟩
    refine hk _ (kd (L.map (·.2)) fun m => ⟨fun hm => ?_, fun hm => ?_⟩) l L _ (ex.trans (.new hl)) (R.fresh ex hl) upd_same rfl fun q hq => (h3 q (hs q hq)).mono (R.first (.new hl))
    · obtain ⟨p, hp, rfl⟩ := List.mem_map.mp hm
      exact List.mem_map.mpr ⟨p, hs p hp, rfl⟩
    · obtain ⟨p, hp, rfl⟩ := List.mem_map.mp hm
      exact hc p hp⟩
/-- sorted: each once, rising -/
def dSrtM (B : Nat → Prop) (g : DM) : DL := fun ρ K => g ρ fun ms => B ms.length ∧ (∀ m ∈ ms, m ≠ []) ∧ ∀ ms' : List (List Int), ms'.Perm ms → ms.Nodup → ms'.Pairwise (fun a b => ¬ b < a) → K (ms'.map intsD)
theorem w_srtM {B : Nat → Prop} {ob : Addr → List TA2 → HO} {g : DM} (x : PE X e (tCB (SortT B ob X.K) (tCons (eOT O ob g) tNil))) : PE X e (eL O (dSrtM B g)) := imp x fun σ H Q ⟨p, F, ρ, K, R, hg, hk⟩ =>
  ⟨p, F, ρ, _, R, hg, fun ms ⟨hB, hne, kd⟩ r L H1 ex hn ho e1 dt => by
    subst e1
    refine ⟨r, L, rfl, ho, fun p hp => sqT_ints (R.grow_sub ex) (dt p hp), by simpa using hB, fun p hp => hne _ (List.mem_map.mpr ⟨p, hp, rfl⟩), fun zs l pm nd pw hl => ?_⟩
    have e3 : (zs.map (·.2)).Perm (L.map (·.2)) := by
      have := pm.map (·.2)
      unfold tbL at this
      rwa [List.map_map] at this
    refine hk _ (kd _ e3 nd (List.pairwise_map.mpr pw)) _ _ _ (ex.trans (.new hl)) (R.fresh ex hl) upd_same (R.newL ex hl ?_)
    have all : ∀ z ∈ zs, Dt (grow F H H1) z.1 (intsD z.2) := fun z hz => by
      obtain ⟨q, hq, rfl⟩ := List.mem_map.mp (pm.mem_iff.mp hz)
      exact dt q hq
    clear pm pw e3
    induction zs with
    | nil => exact .nil
    | cons z zs ih => exact .cons (all z List.mem_cons_self) (ih fun y hy => all y (List.mem_cons_of_mem _ hy))⟩
theorem refsL {G : Hp} : ∀ {L : List TA2}, (∀ q ∈ L, Dt G (.ref q.1) (intsD q.2)) → DtL G (L.map fun p => V.ref p.1) ((L.map (·.2)).map intsD)
  | [], _ => .nil
  | q :: L, h => .cons (h q List.mem_cons_self) (refsL fun y hy => h y (List.mem_cons_of_mem _ hy))
/-- list(d) -/
def dListM (g : DM) : DL := fun ρ K => g ρ fun ms => ms.length ≤ 100000 ∧ K (ms.map intsD)
theorem w_listM {g : DM} (x : PE X e (tCB (rListDT P w) (tCons (eOT O (DTO P w) g) tNil))) : PE X e (eL O (dListM g)) := imp x fun σ H Q ⟨p, F, ρ, K, R, hg, hk⟩ =>
  ⟨p, F, ρ, _, R, hg, fun ms ⟨hz, kd⟩ r L H1 ex hn ho e1 dt => by
    subst e1
    exact ⟨r, L, rfl, ho, by simpa using hz, fun l hl => hk _ kd _ _ _ (ex.trans (.new hl)) (R.fresh ex hl) upd_same (R.newL ex hl (refsL dt))⟩⟩
end
end Kb
set_option Elab.async false
set_option linter.all false
set_option maxRecDepth 100000
set_option maxHeartbeats 1000000
/-! E11: the least of a list of int tuples; dict comprehensions and list comprehensions of two clauses, read over data. -/
namespace Kb
open PySem PySem.Spec PyProof.Rows L2

/-! ### min -/
theorem minD_tups (x : List Int) : ∀ xs : List (List Int), PySem.W.minD (intsD x) (xs.map intsD) = intsD (xs.foldl (fun a y => if y < a then y else a) x) := by
  intro xs
  unfold PySem.W.minD
  induction xs generalizing x with
  | nil => rfl
  | cons y xs ih =>
    rw [List.map_cons, List.foldl_cons, List.foldl_cons, ← ih]
    congr 1
    rw [PySem.W.dataLt_tuple]
    show (if PySem.W.rowLt (y.map .int) (x.map .int) = true then _ else _) = _
    rw [PySem.W.dataLt_ints]
    by_cases c : y < x
    · rw [if_pos (decide_eq_true c), if_pos c]
    · rw [if_neg (by simpa using c), if_neg c]
theorem least_of (x : List Int) : ∀ xs : List (List Int), ∀ y ∈ x :: xs, ¬ y < xs.foldl (fun a y => if y < a then y else a) x := by
  intro xs
  induction xs generalizing x with
  | nil =>
    intro y hy
    rw [List.mem_singleton.mp hy]
    exact List.lt_irrefl _
  | cons z xs ih =>
    intro y hy
    rw [List.foldl_cons]
    rcases List.mem_cons.mp hy with rfl | hy
    · by_cases c : z < y
      · rw [if_pos c]
        intro h
        exact ih z z List.mem_cons_self (List.lt_trans c h)
      · rw [if_neg c]
        exact ih y y List.mem_cons_self
    · rcases List.mem_cons.mp hy with rfl | hy
      · by_cases c : y < x
        · rw [if_pos c]
          exact ih y y List.mem_cons_self
        · rw [if_neg c]
          intro h
          have h2 := ih x x List.mem_cons_self
          exact absurd h (List.not_lt.mpr (List.le_trans (List.not_lt.mp h2) (List.not_lt.mp c)))
      · exact ih _ y (List.mem_cons_of_mem _ hy)
def rMinT (K : PySem.W.Frag) : List V → Hp → VK → Prop := fun vs H Q => ∃ (r : Addr) (bs : List TI2), vs = [.ref r] ∧ SqL K H r (bs.map (·.1)) ∧ TB K H bs ∧ bs ≠ [] ∧ ∀ b ∈ bs, (∀ c ∈ bs, ¬ c.2 < b.2) → Q b.1 H
theorem readsAll_of {h : Heap} : ∀ {us : List Value} {bs : List TI2}, PySem.W.EachIs (fun v b => Reads h v (encT b) []) us bs → ReadsAll h us (bs.map encT) []
  | _, _, .nil => .nil
  | _, _, .cons r t => .cons (as := []) r (readsAll_of t)
theorem each_at {R : Value → TI2 → Prop} : ∀ {us : List Value} {bs : List TI2} {i : Nat} {v : Value}, PySem.W.EachIs R us bs → us[i]? = some v → ∃ b, bs[i]? = some b ∧ R v b
  | _, _, 0, _, .cons r _, e => by cases e; exact ⟨_, rfl, r⟩
  | _, _, i + 1, _, .cons _ t, e => each_at (i := i) t e
theorem cr_minT {X : Cx} (hc : X.calm = true) (hu : X.A.units + 64 < cLine) : CallR X (.builtin "min") (rMinT X.K) := by
  intro pins s σ H xs us Q I r h
  obtain ⟨a, bs, rfl, hq, ht, hne, q⟩ := h
  rw [Vals.ref1 r]
  obtain ⟨its, rv, pl, hz⟩ := I.list hq
  obtain ⟨e1, e2⟩ := tb_each I ht rv
  have e3 := e2 s.heap fun _ _ z => z
  cases bs with
  | nil => exact absurd rfl hne
  | cons b bs =>
    have hd : PyData.depthAll ((b :: bs).map encT) ≤ 8 := by
      have : ∀ l : List TI2, PyData.depthAll (l.map encT) ≤ 8 := by
        intro l
        induction l with
        | nil => simp [PyData.depthAll]
        | cons c l ih =>
          rw [List.map_cons, PyData.depthAll]
          have := depth_encT c
          omega
      exact this _
    refine PySem.W.min_list_data (x := encT b) (xs := bs.map encT) (as := []) (I.ok.hd hc) pl.isList (by simpa using readsAll_of e3) ⟨?_, ?_⟩ (by have := hd; rw [List.map_cons] at this; omega) fun i v h' tk as hv hr hk => ?_
    · exact alike_encT (bs := b :: bs)
    · intro d hd
      obtain ⟨c, _, rfl⟩ := List.mem_map.mp (show d ∈ (b :: bs).map encT from hd)
      intro z
      cases z
    · have hv' : its[i]? = some v := by simpa using hv
      obtain ⟨c, hc1, hc2⟩ := each_at e1 hv'
      obtain ⟨c', hc3, hc4⟩ := each_at (e2 h' hk) hv'
      rw [hc1] at hc3
      cases hc3
      have hm : c ∈ b :: bs := List.mem_of_getElem? hc1
      have em : PySem.W.minD (encT b) (bs.map encT) = encT (V.non, (bs.map (·.2)).foldl (fun a y => if y < a then y else a) b.2) := by
        have := minD_tups b.2 (bs.map (·.2))
        rw [List.map_map] at this
        exact this
      rw [em] at hr
      have eq := PySem.W.alike_unique _ _ _ _ _ (by show PySem.W.alike (.tuple _) (.tuple _) = true; simpa [PySem.W.alike] using PySem.W.alike_ints c.2 _) hc4 hr
      have eq2 : c.2 = (bs.map (·.2)).foldl (fun a y => if y < a then y else a) b.2 := by
        have eq : PyData.tuple (c.2.map .int) = PyData.tuple (((bs.map (·.2)).foldl (fun a y => if y < a then y else a) b.2).map .int) := eq
        injection eq with eq
        exact (List.map_inj_right fun x y z => by injection z).mp eq
      exact ⟨c.1, H, I.kept (t' := tk) hk, hc2, q c hm fun d hd => by
        rw [eq2]
        refine least_of b.2 (bs.map (·.2)) d.2 ?_
        exact List.mem_map.mpr ⟨d, hd, rfl⟩⟩
section
variable {X : Cx} {e : Expr} {O : List Nat} {g : DE}
def dMinT (g : DE) : DE := fun ρ K => g ρ fun d => ∃ ms : List (List Int), d = .list (ms.map intsD) ∧ ms ≠ [] ∧ ∀ m ∈ ms, (∀ m' ∈ ms, ¬ m' < m) → K (intsD m)
theorem w_minT (x : PE X e (tCB (rMinT X.K) (tCons (eW O g) tNil))) : PE X e (eR O (dMinT g)) := imp x fun σ H Q ⟨p, F, ρ, K, R, hg, hk⟩ =>
  ⟨p, F, ρ, _, R, hg, fun d ⟨ms, ed, hne, kd⟩ v H1 ex dt => by
    subst ed
    obtain ⟨a, xs, rfl, ha, dl⟩ := dt.list (R.grow_sub ex)
    obtain ⟨h1, h2, h3⟩ := tb_of (K := X.K) (R.grow_sub ex) dl
    refine ⟨a, xs.zip ms, rfl, by rw [h2]; exact SqL.of ha, h1, fun z => hne (by rw [← h3, z]; rfl), fun b hb hmin => ?_⟩
    have dz := of_tb dl (List.Perm.refl (xs.zip ms))
    have hbm : b.2 ∈ ms := by rw [← h3]; exact List.mem_map.mpr ⟨b, hb, rfl⟩
    refine hk _ (kd b.2 hbm fun m' hm' => ?_) b.1 H1 ex ?_
    · rw [← h3] at hm'
      obtain ⟨c, hc, rfl⟩ := List.mem_map.mp hm'
      exact hmin c hc
    · obtain ⟨i, hi, e⟩ := List.getElem_of_mem hb
      have g1 : ((xs.zip ms).map (·.1))[i]? = some b.1 := by rw [List.getElem?_map, List.getElem?_eq_getElem hi, e]; rfl
      obtain ⟨d, g2, g3⟩ := dz.get g1
      rw [List.getElem?_map, List.getElem?_map, List.getElem?_eq_getElem hi, e] at g2
      cases g2
      exact g3⟩
end
end Kb
set_option Elab.async false
set_option linter.all false
set_option maxRecDepth 100000
set_option maxHeartbeats 1000000
/-! E12: comprehensions of dicts, of two clauses, read over data. -/
namespace Kb
open PySem PySem.Spec PyProof.Rows L2

section
variable {O : List Nat} {b : Bool} {p : Option Addr} {F H H1 H2 Hc H3 G : Hp} {σ : L2.St} {ρ : Env} {D : Addr} {o : HO} {J : It} {ds : List PyData} {i : Nat} {v : V}
/-- the state beside a new object at D that is no tuple of ours -/
theorem Rs.besideG (R : Rs O p F H σ ρ) (ex : Ext p H H2) (hD : H D = none) (h2 : H2 D = some o) (ht : ∀ ob xs, o ≠ .frz ob (.tup xs)) : Rs O p (hid (some D) (grow F H H2)) H2 σ ρ where
  sub := (hid_sub _ _).trans (R.grow_sub ex)
  len := R.len
  dat := fun i d h k => by
    obtain ⟨v, h1, h3⟩ := R.dat i d h k
    refine ⟨v, h1, h3.mono fun b o q => ?_⟩
    rw [hid_at (show some D ≠ some b from fun z => by cases z; rw [R.sub D o q] at hD; cases hD)]
    exact R.sub_grow ex b o q
  own := fun i d h k => by
    obtain ⟨a, u, h1, h3, h4, h5, h6⟩ := R.own i d h k
    have hb : some D ≠ some a := fun z => by cases z; rw [hD] at h3; cases h3
    refine ⟨a, u, h1, ex.keep a u h5 h3, by rw [hid_at hb, grow_old h3]; exact h4, h5, h6.mono fun b o q => ?_⟩
    rw [hid_at (show some D ≠ some b from fun z => by cases z; rw [R.sub D o q] at hD; cases hD)]
    exact R.sub_grow ex b o q
  apart := R.apart
  hat := fun a q => by
    obtain ⟨q1, x, y, z, q2, q3⟩ := R.hat a q
    have hb : some D ≠ some a := fun z => by cases z; rw [hD] at q2; cases q2
    exact ⟨by rw [hid_at hb, grow_old q2]; exact q1, ex.hat a q ⟨x, y, z, q2, q3⟩⟩
  hatS := R.hatS
  hatO := R.hatO
  tups := fun a xs h => by
    have hb : some D ≠ some a := fun z => by
      cases z
      obtain ⟨ob, h, _⟩ := h
      rw [h2] at h
      exact ht ob xs (Option.some.inj h)
    obtain ⟨ob, h3, d⟩ := R.tup_grow ex a xs h
    exact ⟨ob, by rw [hid_at hb]; exact h3, d⟩
theorem hid_up (R : Rs O p F H σ ρ) (e : Ext p H1 H2) : Sub (hid (some D) (grow F H H1)) (hid (some D) (grow F H H2)) := fun b o q => by
  have hb : some D ≠ some b := fun z => by rw [z, hid_self] at q; cases q
  rw [hid_at hb] at q ⊢
  exact R.first e b o q
theorem yl_at (R : Rs O p F H σ ρ) (ex : Ext p H H1) (hD : H1 D = none) (ec : Ext p H1 Hc) (hDc : Hc D = some o) (hG : Sub G (hid p H1)) (y : Yl b G (grow F H H1) J ds) (hlt : i < ds.length) (yv : J.yld i Hc v H3) : Sub Hc H3 ∧ Dk b (hid (some D) (grow F H H3)) v ds[i] := by
  have hHD : H D = none := R.fresh ex hD
  have sG : Sub G Hc := (hG.trans ec.hid).trans (hid_sub _ _)
  obtain ⟨s3, dt3⟩ := y.yld i ds[i] (List.getElem?_eq_getElem hlt) Hc sG v H3 yv
  refine ⟨s3, ?_⟩
  have q := dt3 (hid (some D) (grow F H Hc)) (fun b o q => ?_) ((hid_sub _ _).trans (R.grow_sub (ex.trans ec)))
  · refine q.mono fun b o q => ?_
    cases q1 : Hc b with
    | none =>
      rw [grow_new q1] at q
      rw [hid_at (show some D ≠ some b from fun z => by cases z; rw [hDc] at q1; cases q1), grow_new (R.fresh (ex.trans ec) q1)]
      exact q
    | some u =>
      rw [grow_old q1] at q
      exact hid_up R (.of_sub s3) b o q
  · rw [hid_at (show some D ≠ some b from fun z => by cases z; rw [grow_new hHD, hD] at q; cases q)]
    exact R.first ec b o q
theorem hid_write (R : Rs O p F H σ ρ) (hHD : H D = none) {o : HO} : Sub (hid (some D) (grow F H H1)) (hid (some D) (grow F H (upd H1 D o))) := fun b u q => by
  have hb : some D ≠ some b := fun z => by rw [z, hid_self] at q; cases q
  rw [hid_at hb] at q ⊢
  cases q1 : H b with
  | none => rw [grow_new q1] at q ⊢; rw [upd_ne (fun z => hb (by rw [z]))]; exact q
  | some w => rw [grow_old q1] at q ⊢; exact q
theorem ext_write (ew : Ext p H1 H2) (hD : H1 D = none) (pD : p ≠ some D) {o : HO} : Ext p H1 (upd H2 D o) := by
  refine ⟨fun a u hp q => ?_, fun a hp hh => ?_⟩
  · rw [upd_ne (fun c => by rw [c, hD] at q; cases q)]
    exact ew.keep a u hp q
  · obtain ⟨x, y, z, q, r⟩ := ew.hat a hp hh
    exact ⟨x, y, z, by rw [upd_ne (fun c => pD (by rw [hp, c]))]; exact q, r⟩
end
section
variable {X : Cx} {e : Expr} {O : List Nat} {P : Program} {w : World} {gi : DL} {vs vs1 : List Nat} {i j : Nat}
theorem ded_snoc {α : Type} [DecidableEq α] (l : List α) (x : α) : dedL (l ++ [x]) = dedS (dedL l) x := by
  unfold dedL
  rw [List.foldl_append]
  rfl
theorem dto_ne {P : Program} {w : World} {D : Addr} {L : List TA2} : ∀ ob xs, DTO P w D L ≠ .frz ob (.tup xs) := fun _ _ z => by
  have z' : HO.ext _ = HO.frz _ _ := z
  cases z'
/-- {x: True for x in ..}, the x tuples of ints -/
def dKeysT (j : Nat) (gi : DL) : DM := fun ρ K => j < ρ.length ∧ gi ρ fun ds => ∃ ms : List (List Int), ds = ms.map intsD ∧ ms.length ≤ 100000 ∧ K (dedL ms)
theorem w_d1T (x : PE X e (tD1 (fun D => DTO P w D []) (stT P w X.K) (eI false O gi) (gName j) tYes (tVar j) (tC (.bl true)) vs)) (hj : j ∈ vs := by decide) (h0 : 0 ∉ vs := by decide) : PE X e (eOT O (DTO P w) (dKeysT j gi)) := imp x fun σ H Q ⟨p, F, ρ, K, R, ⟨hjl, hg⟩, hk⟩ =>
  ⟨p, F, ρ, _, R, hg, fun ds ⟨ms, eds, hz, kd⟩ J H1 G ex hG y => fun D hD => by
    subst eds
    have hHD : H D = none := R.fresh ex hD
    have pD : p ≠ some D := R.pn hHD
    have lm : (ms.map intsD).length = ms.length := List.length_map ..
    refine ⟨fun i m Hc => m = ms.length - i ∧ i ≤ ms.length ∧ Ext p H1 Hc ∧ ∃ L : List TA2, Hc D = some (DTO P w D L) ∧ L.length ≤ i ∧ L.map (·.2) = dedL (ms.take i) ∧ ∀ q ∈ L, Dt (hid (some D) (grow F H Hc)) (.ref q.1) (intsD q.2), ⟨_, rfl, Nat.zero_le _, .new hD, [], upd_same, Nat.le_refl _, rfl, fun q hq => nomatch hq⟩, ?_⟩
    rintro i m Hc ⟨rfl, hi, ec, L, hDc, hLi, hLm, dL⟩
    have sG : Sub G Hc := (hG.trans ec.hid).trans (hid_sub _ _)
    by_cases hlt : i < ms.length
    · refine .inr ⟨y.go i (by rw [lm]; exact hlt) Hc sG, fun H' => Ext p H1 H' ∧ ∃ L : List TA2, H' D = some (DTO P w D L) ∧ L.length ≤ i + 1 ∧ L.map (·.2) = dedL (ms.take (i + 1)) ∧ ∀ q ∈ L, Dt (hid (some D) (grow F H H')) (.ref q.1) (intsD q.2), fun H' q => ⟨ms.length - (i + 1), by omega, rfl, hlt, q⟩, fun v H3 yv => ?_⟩
      obtain ⟨s3, dv⟩ := yl_at R ex hD ec hDc hG y (by rw [lm]; exact hlt) yv
      have ei : (ms.map intsD)[i]'(by rw [lm]; exact hlt) = intsD ms[i] := List.getElem_map ..
      rw [ei] at dv
      have dv := dv.no
      obtain ⟨bd, ys, rfl, hb, dl⟩ := dv.ref_tup
      have e3 : Ext p H1 H3 := ec.trans (.of_sub s3)
      have sub3 : Sub (hid (some D) (grow F H H3)) H3 := (hid_sub _ _).trans (R.grow_sub (ex.trans e3))
      have hD3 : H3 D = some (DTO P w D L) := s3 _ _ hDc
      refine ⟨(wipe_set hj).trans (wipe_wipe σ vs), ?_⟩
      unfold tYes
      try simp only [if_true]
      refine ⟨.ref bd, List.getElem?_set_self (by rw [wipe_length, R.len]; exact hjl), upd H3 D (DTO P w D (putT L bd ms[i])), ⟨L, bd, ms[i], rfl, rfl, hD3, fun q hq => sqT_ints sub3 ((dL q hq).mono (hid_up R (.of_sub s3))), sqT_ints sub3 (.tup hb dl), by omega, rfl⟩, ext_write e3 hD pD, putT L bd ms[i], upd_same, ?_, ?_, fun q hq => ?_⟩
      · unfold putT
        split
        · omega
        · rw [List.length_append]; exact Nat.succ_le_succ hLi
      · rw [List.take_succ, List.getElem?_eq_getElem hlt]
        show _ = dedL (ms.take i ++ [ms[i]])
        rw [ded_snoc, ← hLm]
        unfold putT dedS
        split
        · rfl
        · rw [List.map_append]; rfl
      · have dq : Dt (hid (some D) (grow F H H3)) (.ref q.1) (intsD q.2) := by
          unfold putT at hq
          split at hq
          · exact (dL q hq).mono (hid_up R (.of_sub s3))
          · rcases List.mem_append.mp hq with hq | hq
            · exact (dL q hq).mono (hid_up R (.of_sub s3))
            · rw [List.mem_singleton.mp hq]
              exact .tup hb dl
        exact dq.mono (hid_write R hHD)
    · have e1 : i = ms.length := by omega
      subst e1
      rw [List.take_length] at hLm
      have sL := y.stop Hc sG
      rw [lm] at sL
      exact .inl ⟨sL, hk _ kd D L Hc (ex.trans ec) hHD hDc hLm fun q hq => (dL q hq).mono (hid_sub _ _)⟩⟩
/-- keys of a dict of ints that gets one more -/
theorem put_keys {kvs : List (L2.Key × V)} {ns : List Int} {k : Int} {v : V} (h : kvs.map (·.1) = ns.map Sum.inl) : (putK kvs (.inl k) v).map (·.1) = (dedS ns k).map Sum.inl ∧ (putK kvs (.inl k) v).length ≤ kvs.length + 1 := by
  have hany : (kvs.any fun kv => decide (kv.1 = .inl k)) = decide (k ∈ ns) := by
    have e : (kvs.any fun kv => decide (kv.1 = .inl k)) = (kvs.map (·.1)).any fun x => decide (x = Sum.inl k) := by rw [List.any_map]; rfl
    rw [e, h, List.any_map]
    clear e h
    induction ns with
    | nil => rfl
    | cons n ns ih =>
      rw [List.any_cons, ih]
      by_cases c : n = k
      · subst c; simp
      · have c2 : ¬ k = n := fun z => c z.symm
        simp [c, c2]
  refine ⟨?_, length_putK kvs _ _⟩
  unfold putK dedS
  rw [hany]
  by_cases c : k ∈ ns
  · rw [if_pos (decide_eq_true c), if_pos c, List.map_map, ← h]
    refine List.map_congr_left fun x hx => ?_
    show (if x.1 = .inl k then (x.1, v) else x).1 = x.1
    split <;> rfl
  · rw [if_neg (by simpa using c), if_neg c, List.map_append, List.map_append, h]
    rfl
/-- {x: True for l in .. for x in l}, the l tuples of ints -/
def dKeysI (i j : Nat) (gi : DL) : DI := fun ρ K => i < ρ.length ∧ j < ρ.length ∧ gi ρ fun ds => ∃ ms : List (List Int), ds = ms.map intsD ∧ ms.flatten.length < 100000 ∧ K (dedL ms.flatten)
theorem flat_take {α : Type} (ms : List (List α)) (i : Nat) (h : i < ms.length) : (ms.take (i + 1)).flatten = (ms.take i).flatten ++ ms[i] := by
  rw [List.take_succ, List.getElem?_eq_getElem h, List.flatten_append]
  simp
theorem flat_le {α : Type} (ms : List (List α)) (i : Nat) (h : i < ms.length) (j : Nat) : ((ms.take i).flatten ++ ms[i].take j).length ≤ ms.flatten.length := by
  have e : ms.flatten = (ms.take (i + 1)).flatten ++ (ms.drop (i + 1)).flatten := by rw [← List.flatten_append, List.take_append_drop]
  rw [e, flat_take ms i h, List.length_append, List.length_append, List.length_append, List.length_take]
  omega
theorem ded_len {α : Type} [DecidableEq α] (l : List α) : (dedL l).length ≤ l.length := by
  unfold dedL
  have : ∀ (l acc : List α), (l.foldl dedS acc).length ≤ acc.length + l.length := by
    intro l
    induction l with
    | nil => intro acc; exact Nat.le_refl _
    | cons x l ih =>
      intro acc
      rw [List.foldl_cons, List.length_cons]
      have h1 := ih (dedS acc x)
      have h2 : (dedS acc x).length ≤ acc.length + 1 := by
        unfold dedS
        split
        · omega
        · rw [List.length_append]; exact Nat.le_refl _
      omega
  simpa using this l []
theorem w_d2I (x : PE X e (tD2 (fun _ => .dK []) stI (eI false O gi) (gName i) (iSeq X.K (tVar i)) (gName j) (tVar j) (tC (.bl true)) vs vs1)) (hi : i ∈ vs := by decide) (hj : j ∈ vs1 := by decide) : PE X e (eOI O obDic (dKeysI i j gi)) := imp x fun σ H Q ⟨p, F, ρ, K, R, ⟨hil, hjl, hg⟩, hk⟩ =>
  ⟨p, F, ρ, _, R, hg, fun ds ⟨ms, eds, hz, kd⟩ J H1 G ex hG y => fun D hD => by
    subst eds
    have hHD : H D = none := R.fresh ex hD
    have pD : p ≠ some D := R.pn hHD
    have lm : (ms.map intsD).length = ms.length := List.length_map ..
    refine ⟨fun i m Hc => m = ms.length - i ∧ i ≤ ms.length ∧ Ext p H1 Hc ∧ ∃ kvs : List (L2.Key × V), Hc D = some (.dK kvs) ∧ kvs.map (·.1) = (dedL (ms.take i).flatten).map Sum.inl, ⟨_, rfl, Nat.zero_le _, .new hD, [], upd_same, rfl⟩, ?_⟩
    rintro i' m Hc ⟨rfl, hi', ec, kvs, hDc, hkv⟩
    have sG : Sub G Hc := (hG.trans ec.hid).trans (hid_sub _ _)
    by_cases hlt : i' < ms.length
    · refine .inr ⟨y.go i' (by rw [lm]; exact hlt) Hc sG, fun H' => Ext p H1 H' ∧ ∃ kvs : List (L2.Key × V), H' D = some (.dK kvs) ∧ kvs.map (·.1) = (dedL (ms.take (i' + 1)).flatten).map Sum.inl, fun H' q => ⟨ms.length - (i' + 1), by omega, rfl, hlt, q⟩, fun v H3 yv => ?_⟩
      obtain ⟨s3, dv⟩ := yl_at R ex hD ec hDc hG y (by rw [lm]; exact hlt) yv
      have ei : (ms.map intsD)[i']'(by rw [lm]; exact hlt) = intsD ms[i'] := List.getElem_map ..
      rw [ei] at dv
      have dv := dv.no
      obtain ⟨bd, ys, rfl, hb, dl⟩ := dv.ref_tup
      rw [dl.of_ints] at hb
      have e3 : Ext p H1 H3 := ec.trans (.of_sub s3)
      have sub3 : Sub (hid (some D) (grow F H H3)) H3 := (hid_sub _ _).trans (R.grow_sub (ex.trans e3))
      have tb3 : TupA H3 bd (ms[i'].map V.int) := hb.mono sub3
      have hD3 : H3 D = some (.dK kvs) := s3 _ _ hDc
      refine ⟨(wipe_set hi).trans (wipe_wipe σ vs), ?_⟩
      refine ⟨.ref bd, List.getElem?_set_self (by rw [wipe_length, R.len]; exact hil), bd, ms[i'].map V.int, rfl, .inr ⟨tb3.sq, ?_⟩⟩
      have li : (ms[i'].map V.int).length = ms[i'].length := List.length_map ..
      refine ⟨fun k m H' => m = ms[i'].length - k ∧ k ≤ ms[i'].length ∧ Ext p H1 H' ∧ TupA H' bd (ms[i'].map V.int) ∧ ∃ kvs : List (L2.Key × V), H' D = some (.dK kvs) ∧ kvs.map (·.1) = (dedL ((ms.take i').flatten ++ ms[i'].take k)).map Sum.inl, ⟨_, rfl, Nat.zero_le _, e3, tb3, kvs, hD3, by rw [List.take_zero, List.append_nil]; exact hkv⟩, ?_⟩
      rintro k m H' ⟨rfl, hk', e', tb', kvs', hD', hkv'⟩
      have sq' : SqT X.K H' bd (ms[i'].map V.int) := tb'.sq
      by_cases hlk : k < ms[i'].length
      · refine .inr ⟨⟨_, .int ms[i'][k], sq', by rw [List.getElem?_map, List.getElem?_eq_getElem hlk]; rfl⟩, fun H' => Ext p H1 H' ∧ TupA H' bd (ms[i'].map V.int) ∧ ∃ kvs : List (L2.Key × V), H' D = some (.dK kvs) ∧ kvs.map (·.1) = (dedL ((ms.take i').flatten ++ ms[i'].take (k + 1))).map Sum.inl, fun H' q => ⟨ms[i'].length - (k + 1), by omega, rfl, hlk, q⟩, fun x H4 yx => ?_⟩
        obtain ⟨rfl, yx⟩ := yx
        have ex4 : x = .int ms[i'][k] := by
          have := yx _ sq'
          rw [List.getElem?_map, List.getElem?_eq_getElem hlk] at this
          exact (Option.some.inj this).symm
        subst ex4
        have keys := put_keys (k := ms[i'][k]) (v := .bl true) hkv'
        refine ⟨(wipe_set hj).trans (wipe_wipe _ vs1), .int ms[i'][k], List.getElem?_set_self (by rw [wipe_length, List.length_set, wipe_length, R.len]; exact hjl), _, ⟨kvs', ms[i'][k], rfl, hD', ?_, rfl⟩, ext_write e' hD pD, ?_, _, upd_same, ?_⟩
        · have h1 : kvs'.length = (dedL ((ms.take i').flatten ++ ms[i'].take k)).length := by
            have := congrArg List.length hkv'
            rwa [List.length_map, List.length_map] at this
          have h2 := ded_len ((ms.take i').flatten ++ ms[i'].take k)
          have h3 := flat_le ms i' hlt k
          omega
        · obtain ⟨ob, tq, od⟩ := tb'
          exact ⟨ob, by rw [upd_ne (fun z => by rw [z, hD'] at tq; cases tq)]; exact tq, od⟩
        · rw [keys.1, List.take_succ, List.getElem?_eq_getElem hlk]
          show _ = (dedL ((ms.take i').flatten ++ (ms[i'].take k ++ [ms[i'][k]]))).map Sum.inl
          rw [← List.append_assoc, ded_snoc]
      · have e1 : k = ms[i'].length := by omega
        subst e1
        rw [List.take_length, ← flat_take ms i' hlt] at hkv'
        exact .inl ⟨⟨_, sq', Nat.le_of_eq li⟩, e', kvs', hD', hkv'⟩
    · have e1 : i' = ms.length := by omega
      subst e1
      rw [List.take_length] at hkv
      have sL := y.stop Hc sG
      rw [lm] at sL
      exact .inl ⟨sL, hk _ kd D _ Hc (ex.trans ec) hHD hDc ⟨kvs, rfl, hkv⟩⟩⟩
end
end Kb
set_option Elab.async false
set_option linter.all false
set_option maxRecDepth 100000
set_option maxHeartbeats 1000000
/-! E13: a list comprehension over ints and, within, over a list of ints of its own. -/
namespace Kb
open PySem PySem.Spec PyProof.Rows L2
section
variable {X : Cx} {e : Expr} {O : List Nat} {gi : DL} {ge : DE} {vs vs1 : List Nat} {i j t : Nat}
def lnI (j : Nat) (ge : DE) (ρ : Env) : List Int → List PyData → (List PyData → Prop) → Prop
  | [], acc, K => K acc
  | n :: r, acc, K => ge (ρ.set j (some (.int n))) fun y => acc.length < 100000 ∧ lnI j ge ρ r (acc ++ [y]) K
def lmI (i j : Nat) (ge : DE) (vs1 : List Nat) (es : List Int) (ρ : Env) : List Int → List PyData → (List PyData → Prop) → Prop
  | [], acc, K => K acc
  | n :: r, acc, K => lnI j ge (wipeE (ρ.set i (some (.int n))) vs1) es acc fun acc' => lmI i j ge vs1 es ρ r acc' K
def dLc2 (i j t : Nat) (gi : DL) (ge : DE) (vs vs1 : List Nat) : DL := fun ρ K => i < ρ.length ∧ j < ρ.length ∧ gi ρ fun ds => ∃ ns es : List Int, ds = ns.map .int ∧ ρ[t]? = some (some (.list (es.map .int))) ∧ lmI i j ge vs1 es (wipeE ρ vs) ns [] K
theorem wipeE_get' {ρ : Env} {i : Nat} : ∀ {vs : List Nat}, i ∉ vs → (wipeE ρ vs)[i]? = ρ[i]?
  | [], _ => rfl
  | v :: vs, h => by
    unfold wipeE
    rw [List.getElem?_set_ne (fun e => h (by rw [e]; exact List.mem_cons_self))]
    exact wipeE_get' fun m => h (List.mem_cons_of_mem _ m)
theorem lc2_imp {σ : L2.St} {H : Hp} {Q : VK} (hi : i ∈ vs := by decide) (hj : j ∈ vs1 := by decide) (ht : t ∈ O := by decide) (htv : t ∉ vs := by decide) (htv1 : t ∉ vs1 := by decide) (hiO : i ∉ O := by decide) (hjO : j ∉ O := by decide) (h0 : 0 ∉ vs := by decide) (h01 : 0 ∉ vs1 := by decide) (hi0 : i ≠ 0 := by decide) (hj0 : j ≠ 0 := by decide) (hit : i ≠ t := by decide) : eL O (dLc2 i j t gi ge vs vs1) σ H Q → tLc2 (eI false O gi) (gName i) tYes (iList X.K (tVar t)) (gName j) tYes (eR O ge) vs vs1 σ H Q := fun ⟨p, F, ρ, K, R, ⟨hil, hjl, hg⟩, hk⟩ =>
  ⟨p, F, ρ, _, R, hg, fun ds ⟨ns, es, eds, et, kd⟩ J H1 G ex hG y => fun D hD => by
    subst eds
    have hHD : H D = none := R.fresh ex hD
    have pD : p ≠ some D := R.pn hHD
    have lm : (ns.map PyData.int).length = ns.length := List.length_map ..
    -- the list that is walked within
    obtain ⟨a, o, at1, at2, at3, at4, at5⟩ := R.own t _ et ht
    obtain ⟨xs, ds', rfl, e3, dt⟩ : ∃ xs ds', o = .lst xs ∧ PyData.list (es.map .int) = .list ds' ∧ DtL F xs ds' := by
      rcases at5 with ⟨xs, ds', h1, h2, h3⟩ | ⟨_, _, _, h2, _⟩
      · exact ⟨xs, ds', h1, h2, h3⟩
      · cases h2
    cases e3
    rw [dt.of_ints] at at2
    have haD : a ≠ D := fun z => by rw [z, hHD] at at2; cases at2
    have le : (es.map V.int).length = es.length := List.length_map ..
    refine ⟨fun i' m Hc => m = ns.length - i' ∧ i' ≤ ns.length ∧ Ext p H1 Hc ∧ ∃ acc accd, Hc D = some (.lst acc) ∧ DtL (hid (some D) (grow F H Hc)) acc accd ∧ lmI i j ge vs1 es (wipeE ρ vs) (ns.drop i') accd K, ⟨_, rfl, Nat.zero_le _, .new hD, [], [], upd_same, .nil, kd⟩, ?_⟩
    rintro i' m Hc ⟨rfl, hi', ec, acc, accd, hDc, da, kc⟩
    have sG : Sub G Hc := (hG.trans ec.hid).trans (hid_sub _ _)
    by_cases hlt : i' < ns.length
    · refine .inr ⟨y.go i' (by rw [lm]; exact hlt) Hc sG, fun H' => Ext p H1 H' ∧ ∃ acc accd, H' D = some (.lst acc) ∧ DtL (hid (some D) (grow F H H')) acc accd ∧ lmI i j ge vs1 es (wipeE ρ vs) (ns.drop (i' + 1)) accd K, fun H' q => ⟨ns.length - (i' + 1), by omega, rfl, hlt, q⟩, fun v H3 yv => ?_⟩
      obtain ⟨s3, dv⟩ := yl_at R ex hD ec hDc hG y (by rw [lm]; exact hlt) yv
      have ei : (ns.map PyData.int)[i']'(by rw [lm]; exact hlt) = .int ns[i'] := List.getElem_map ..
      rw [ei] at dv
      have dv := dv.no
      cases dv
      have e3 : Ext p H1 H3 := ec.trans (.of_sub s3)
      rw [List.drop_eq_getElem_cons hlt] at kc
      refine ⟨(wipe_set hi).trans (wipe_wipe σ vs), ?_⟩
      unfold tYes
      try simp only [if_true]
      have aSlot : ((wipe σ vs).set i (some (.int ns[i'])))[t]? = some (some (.ref a)) := by
        rw [List.getElem?_set_ne hit, wipe_get htv]
        exact at1
      have keepA : ∀ {H' : Hp}, Ext p H1 H' → H' a = some (.lst (es.map V.int)) := fun {H'} e' => e'.keep a _ at4 (ex.keep a _ at4 at2)
      refine ⟨.ref a, aSlot, a, rfl, ⟨_, SqL.of (keepA e3)⟩, ?_⟩
      refine ⟨fun k m H' => m = es.length - k ∧ k ≤ es.length ∧ Ext p H1 H' ∧ ∃ acc accd, H' D = some (.lst acc) ∧ DtL (hid (some D) (grow F H H')) acc accd ∧ lnI j ge (wipeE ((wipeE ρ vs).set i (some (.int ns[i']))) vs1) (es.drop k) accd fun acc' => lmI i j ge vs1 es (wipeE ρ vs) (ns.drop (i' + 1)) acc' K, ⟨_, rfl, Nat.zero_le _, e3, acc, accd, s3 _ _ hDc, da.mono (hid_up R (.of_sub s3)), kc⟩, ?_⟩
      rintro k m H' ⟨rfl, hk', e', acc', accd', hD', da', kc'⟩
      have sqa : SqL X.K H' a (es.map V.int) := SqL.of (keepA e')
      by_cases hlk : k < es.length
      · refine .inr ⟨⟨_, .int es[k], sqa, by rw [List.getElem?_map, List.getElem?_eq_getElem hlk]; rfl⟩, fun H' => Ext p H1 H' ∧ ∃ acc accd, H' D = some (.lst acc) ∧ DtL (hid (some D) (grow F H H')) acc accd ∧ lnI j ge (wipeE ((wipeE ρ vs).set i (some (.int ns[i']))) vs1) (es.drop (k + 1)) accd fun acc' => lmI i j ge vs1 es (wipeE ρ vs) (ns.drop (i' + 1)) acc' K, fun H' q => ⟨es.length - (k + 1), by omega, rfl, hlk, q⟩, fun x H4 yx => ?_⟩
        obtain ⟨rfl, yx⟩ := yx
        have ex4 : x = .int es[k] := by
          have := yx _ sqa
          rw [List.getElem?_map, List.getElem?_eq_getElem hlk] at this
          exact (Option.some.inj this).symm
        subst ex4
        rw [List.drop_eq_getElem_cons hlk] at kc'
        refine ⟨(wipe_set hj).trans (wipe_wipe _ vs1), ?_⟩
        try simp only [if_true]
        have RD : Rs O p (hid (some D) (grow F H H4)) H4 σ ρ := R.besideG (ex.trans e') hHD hD' (fun _ _ z => by cases z)
        have R1 := ((((RD.wipe h0).store hiO hi0 (.int ns[i'])).wipe h01).store hjO hj0 (.int es[k]))
        refine ⟨p, _, _, _, R1, kc', fun yd ⟨hz, ky⟩ yv H6 e6 dy => ⟨acc', e6.keep D _ pD hD', szlt ?_, ?_, acc' ++ [yv], accd' ++ [yd], upd_same, ?_, ky⟩⟩
        · rw [da'.length]; exact Nat.le_of_lt hz
        · exact ext_write (e'.trans e6) hD pD
        · refine ((da'.mono (hid_up R e6)).mono (hid_write R hHD)).append (.cons (dy.mono fun b o q => hid_write R hHD b o ?_) .nil)
          cases q1 : H4 b with
          | none =>
            rw [grow_new q1] at q
            rw [hid_at (show some D ≠ some b from fun z => by cases z; rw [hD'] at q1; cases q1), grow_new (R.fresh (ex.trans e') q1)]
            exact q
          | some u =>
            rw [grow_old q1] at q
            exact hid_up R e6 b o q
      · have e1 : k = es.length := by omega
        subst e1
        rw [List.drop_length] at kc'
        exact .inl ⟨⟨_, sqa, Nat.le_of_eq le⟩, e', acc', accd', hD', da', kc'⟩
    · have e1 : i' = ns.length := by omega
      subst e1
      rw [List.drop_length] at kc
      have sL := y.stop Hc sG
      rw [lm] at sL
      exact .inl ⟨sL, hk accd kc D acc Hc (ex.trans ec) hHD hDc da⟩⟩
theorem l_lc2 (x : PE X e (tLc2 (eI false O gi) (gName i) tYes (iList X.K (tVar t)) (gName j) tYes (eR O ge) vs vs1)) (hi : i ∈ vs := by decide) (hj : j ∈ vs1 := by decide) (ht : t ∈ O := by decide) (htv : t ∉ vs := by decide) (htv1 : t ∉ vs1 := by decide) (hiO : i ∉ O := by decide) (hjO : j ∉ O := by decide) (h0 : 0 ∉ vs := by decide) (h01 : 0 ∉ vs1 := by decide) (hi0 : i ≠ 0 := by decide) (hj0 : j ≠ 0 := by decide) (hit : i ≠ t := by decide) :
    PE X e (eL O (dLc2 i j t gi ge vs vs1)) := imp x fun σ H Q => lc2_imp (X := X) hi hj ht htv htv1 hiO hjO h0 h01 hi0 hj0 hit
end
end Kb
set_option Elab.async false
set_option linter.all false
set_option maxRecDepth 100000
set_option maxHeartbeats 1000000
/-! E14: counting, reversing, ranges as lists and tuples, read over data. -/
namespace Kb
open PySem PySem.Spec PyProof.Rows L2
section
variable {X : Cx} {e a : Expr} {O : List Nat} {g h : DE} {pos p : Pos}
/-- how often a flat thing is among a tuple's flat items -/
def dCnt (g h : DE) : DE := fun ρ K => g ρ fun d => ∃ ds, d = .tuple ds ∧ h ρ fun x => flatD x = true ∧ ds.all flatD = true ∧ K (.int (ds.countP fun y => PyData.eqv y x : Nat))
theorem count_dt {H : Hp} {u : V} {d : PyData} (k : Dt H u d) (f' : flatD d = true) : ∀ {vs : List V} {ds : List PyData}, DtL H vs ds → ds.all flatD = true → vs.countP (fun y => eqV y u) = ds.countP fun y => PyData.eqv y d
  | _, _, .nil, _ => rfl
  | _, _, .cons h r, f => by
    rw [List.all_cons, Bool.and_eq_true_iff] at f
    rw [List.countP_cons, List.countP_cons, eqV_eqv h k f.1 f', count_dt k f' r f.2]
theorem r_count (x : PE X e (tCntA (eR O g) (eR O h))) : PE X e (eR O (dCnt g h)) := imp x fun σ H Q ⟨p, F, ρ, K, R, hg, hk⟩ =>
  ⟨p, F, ρ, _, R, hg, fun d ⟨ds, ed, kd⟩ v H1 ex dt => by
    subst ed
    obtain ⟨a, xs, rfl, ha, dl⟩ := dt.ref_tup
    refine ⟨a, xs, rfl, ha.mono (R.grow_sub ex), p, _, ρ, _, R.grown ex, kd, fun d2 ⟨f1, f2, kd2⟩ v2 H2 ex2 dt2 => ?_⟩
    have ha2 := (ha.mono (R.first ex2)).mono (R.grow_sub (ex.trans ex2))
    refine ⟨ha2, flat_v dt2 f1, flat_vs dl f2, ?_⟩
    have dt3 := dt2.mono (R.grown2 ex ex2)
    rw [count_dt dt3 f1 (dl.mono (R.first ex2)) f2]
    exact hk _ kd2 _ _ (ex.trans ex2) (.int _)⟩
/-- t[::-1] -/
def dRevT (g : DE) : DE := fun ρ K => g ρ fun d => ∃ ds, d = .tuple ds ∧ K (.tuple ds.reverse)
theorem r_revT (x : PE X e (tRevT X.K (eR O g))) : PE X e (eR O (dRevT g)) := imp x fun σ H Q ⟨p, F, ρ, K, R, hg, hk⟩ =>
  ⟨p, F, ρ, _, R, hg, fun d ⟨ds, ed, kd⟩ v H1 ex dt => by
    subst ed
    obtain ⟨a, xs, rfl, ha, dl⟩ := dt.ref_tup
    exact ⟨a, xs, rfl, (ha.mono (R.grow_sub ex)).sq, fun q H2 nt => hk _ kd _ _ (R.newT ex nt dl.reverse).1 (R.newT ex nt dl.reverse).2⟩⟩
def dRevL (g : DE) : DL := fun ρ K => g ρ fun d => ∃ ds, d = .list ds ∧ K ds.reverse
theorem l_revL (x : PE X e (tRevL X.K (eW O g))) : PE X e (eL O (dRevL g)) := imp x fun σ H Q ⟨p, F, ρ, K, R, hg, hk⟩ =>
  ⟨p, F, ρ, _, R, hg, fun d ⟨ds, ed, kd⟩ v H1 ex dt => by
    subst ed
    obtain ⟨a, xs, rfl, ha, dl⟩ := dt.list (R.grow_sub ex)
    exact ⟨a, xs, rfl, SqL.of ha, fun l hl => hk _ kd _ _ _ (ex.trans (.new hl)) (R.fresh ex hl) upd_same (R.newL ex hl dl.reverse)⟩⟩
/-- list(range(n)), tuple(range(n)) -/
def rgI (n : Nat) : List Int := (List.range n).map fun i : Nat => (i : Int)
theorem rgV_rgI {n : Int} (h : 0 ≤ n) : rgV 0 n = (rgI n.toNat).map V.int := by
  unfold rgV rgI
  rw [Int.sub_zero, List.map_map]
  refine List.map_congr_left fun i _ => ?_
  simp
def dRgL (g : DE) : DL := fun ρ K => g ρ fun d => ∃ n : Int, d = .int n ∧ 0 ≤ n ∧ n ≤ 100000 ∧ K ((rgI n.toNat).map .int)
theorem l_rgL (x : PE X e (tLstRg (tRg1 (eR O g)))) : PE X e (eL O (dRgL g)) := imp x fun σ H Q ⟨p, F, ρ, K, R, hg, hk⟩ =>
  ⟨p, F, ρ, _, R, hg, fun d ⟨n, ed, h0, hn, kd⟩ v H1 ex dt => by
    subst ed
    cases dt
    refine ⟨n, rfl, RgOk.of_le (by omega) (by omega) (by omega) h0, fun l hl => ?_⟩
    rw [rgV_rgI h0]
    exact hk _ kd _ _ _ (ex.trans (.new hl)) (R.fresh ex hl) upd_same (.ints _)⟩
def tTupRgA (te : L2.St → Hp → (Int → Int → Hp → Prop) → Prop) : TE := fun σ H Q => te σ H fun a b H1 => RgOk a b ∧ ∀ q H2, NwT H1 (rgV a b) q H2 → Q (.ref q) H2
theorem pe_tupRgA {te : L2.St → Hp → (Int → Int → Hp → Prop) → Prop} (hc : X.calm = true) (hg : Gl X "tuple") (hm : X.mg "tuple" = none) (he : PRg X e te) (na : starEach [e] X.env = (false, eval e X.env) :: starEach [] X.env := by rfl) : PE X (.Call (.Name "tuple" p) [e] [] pos) (tTupRgA te) := by
  refine ⟨fun pins s σ H Q I h => Call_ (ld_blt I hg hm boot_tuple (PyProof.Rows.callWith_type1 (args_cons (thn (he pins s σ H _ I h) fun x s1 ⟨r, a, b, t, u, v, H1, ex, hr, I1, ok, q⟩ => args_nil ?_) na) na))⟩
  subst ex
  obtain ⟨b1, b2, b3, b4, b5⟩ := ok
  refine call_tuple_range (n := (b - a).toNat) (I1.ok.hd hc) hr (small_one b1 b2 b3 b4) (rangeSize_nat a b) b5 fun h' tk acc hk hi => ?_
  have I2 : Inv X pins σ H1 { s1 with heap := h', toks := tk } := I1.kept hk
  exact laidT (k := tk) I2 (vals_rg hi) (by rw [rgV_length, sizeLine_eq]; omega) q
def dRgT (g : DE) : DE := fun ρ K => g ρ fun d => ∃ n : Int, d = .int n ∧ 0 ≤ n ∧ n ≤ 100000 ∧ K (intsD (rgI n.toNat))
theorem r_rgT (x : PE X e (tTupRgA (tRg1 (eR O g)))) : PE X e (eR O (dRgT g)) := imp x fun σ H Q ⟨p, F, ρ, K, R, hg, hk⟩ =>
  ⟨p, F, ρ, _, R, hg, fun d ⟨n, ed, h0, hn, kd⟩ v H1 ex dt => by
    subst ed
    cases dt
    refine ⟨n, rfl, RgOk.of_le (by omega) (by omega) (by omega) h0, fun l H2 nt => ?_⟩
    rw [rgV_rgI h0] at nt
    have z := R.newT ex nt (.ints (rgI n.toNat))
    exact hk _ kd _ _ z.1 z.2⟩
end
end Kb
set_option Elab.async false
set_option linter.all false
set_option maxRecDepth 100000
set_option maxHeartbeats 0
namespace Kb
open PySem PySem.Spec PyProof.Rows L2
def top (i : Nat) : Stmt := PySem.Challenge.pw_crestjoin_k74_whole_trees_of_bags.main.body.getD i (.Pass ⟨0, 0, 0, 0⟩)
def dd (i : Nat) (x : Str) : He.DefD := ⟨(x, none), x, x, defArgs (top i), defBody (top i), defScope (top i), [], []⟩

def fn : List He.DefD := ([dd 5 "is_letter", dd 6 "is_lot", dd 7 "common_in", dd 8 "rest_in", dd 9 "within_in", dd 10 "lots_within_in", dd 11 "all_letters", dd 12 "require_order", dd 14 "is_whole", dd 21 "is_web", dd 22 "is_place", dd 23 "leads_up", dd 24 "begins", dd 25 "does_hang", dd 26 "is_tree_in", dd 27 "nearest_tree", dd 28 "greatest_lots", dd 29 "are_rests", dd 30 "lots_of_rests", dd 31 "is_ring"] : List He.DefD) ++ ([dd 32 "is_stuck_in", dd 33 "fold_answer_in", dd 34 "require_web", dd 35 "is_tree", dd 36 "fold_answer", dd 39 "is_bags_in", dd 40 "bags_taken", dd 41 "greatest_bags", dd 42 "bags_of_in", dd 43 "is_bags", dd 44 "bags_of", dd 46 "_law_tr_hat", dd 47 "_law_tr_up", dd 48 "_law_tr_of", dd 49 "_law_tr_some", dd 50 "_law_tr_within", dd 51 "_law_tr_common", dd 52 "_law_tr_letters", dd 53 "_law_tr_grown", dd 54 "_law_tr_round"] : List He.DefD) ++ ([dd 55 "_law_tr_mixed", dd 56 "_law_tr_web", dd 57 "_law_tr_folds", dd 58 "_law_tr_is_place", dd 59 "_law_tr_is_tree", dd 60 "_law_tr_is_lot", dd 61 "_law_tr_tree", dd 62 "_law_tr_bent", dd 63 "_law_tr_bags", dd 64 "_law_tr_is_bags", dd 65 "_law_wider", dd 66 "_law_right", dd 67 "law"] : List He.DefD)
def fa : List He.Fa := ([.glo "is_letter", .glo "is_lot", .glo "common_in", .glo "rest_in", .glo "within_in", .glo "lots_within_in", .glo "all_letters", .glo "require_order", .glo "is_whole", .glo "is_web", .glo "is_place", .glo "leads_up", .glo "begins", .glo "does_hang", .glo "is_tree_in", .glo "nearest_tree", .glo "greatest_lots", .glo "are_rests", .glo "lots_of_rests", .glo "is_ring"] : List He.Fa) ++ ([.glo "is_stuck_in", .glo "fold_answer_in", .glo "require_web", .glo "is_tree", .glo "fold_answer", .glo "is_bags_in", .glo "bags_taken", .glo "greatest_bags", .glo "bags_of_in", .glo "is_bags", .glo "bags_of", .glo "_law_tr_hat", .glo "_law_tr_up", .glo "_law_tr_of", .glo "_law_tr_some", .glo "_law_tr_within", .glo "_law_tr_common", .glo "_law_tr_letters", .glo "_law_tr_grown", .glo "_law_tr_round"] : List He.Fa) ++ ([.glo "_law_tr_mixed", .glo "_law_tr_web", .glo "_law_tr_folds", .glo "_law_tr_is_place", .glo "_law_tr_is_tree", .glo "_law_tr_is_lot", .glo "_law_tr_tree", .glo "_law_tr_bent", .glo "_law_tr_bags", .glo "_law_tr_is_bags", .glo "_law_wider", .glo "_law_right", .glo "law", .free "isinstance", .free "all", .free "any", .free "len", .free "tuple", .free "sorted", .free "list"] : List He.Fa) ++ ([.free "range", .free "zip", .free "set", .free "enumerate", .free "min", .free "max", .free "abs", .free "int", .free "bool", .int "LETTERS" 6, .int "MOST_PARTS" 12, .str "FOLDS" "folds", .str "STUCK" "stuck", .int "PAIR_webs" 2, .int "FEWEST" 3, .int "PAIR_bags" 2] : List He.Fa)
def loose1 : List PySem.Str := (["CrestError", "InvalidLot", "LETTERS", "MOST_PARTS", "FOLDS", "STUCK", "PAIR_webs", "FEWEST", "PAIR_bags", "is_letter", "is_lot", "common_in", "rest_in", "within_in", "lots_within_in", "all_letters", "require_order", "is_whole", "is_web", "is_place"] : List PySem.Str) ++ (["leads_up", "begins", "does_hang", "is_tree_in", "nearest_tree", "greatest_lots", "are_rests", "lots_of_rests", "is_ring", "is_stuck_in", "fold_answer_in", "require_web", "is_tree", "fold_answer", "is_bags_in", "bags_taken", "greatest_bags", "bags_of_in", "is_bags", "bags_of"] : List PySem.Str) ++ (["_law_tr_hat", "_law_tr_up", "_law_tr_of", "_law_tr_some", "_law_tr_within", "_law_tr_common", "_law_tr_letters", "_law_tr_grown", "_law_tr_round", "_law_tr_mixed", "_law_tr_web", "_law_tr_folds", "_law_tr_is_place", "_law_tr_is_tree", "_law_tr_is_lot", "_law_tr_tree", "_law_tr_bent", "_law_tr_bags", "_law_tr_is_bags", "_law_wider"] : List PySem.Str) ++ (["_law_right"] : List PySem.Str)
structure Ev (K : PySem.W.Frag) (mg : Str → Option Value) : Prop where
  ex : ∃ h : Heap, K.In h ∧ h.Ns mainGlobals mg ∧ He.SaysD fa fn K
section
variable {K : PySem.W.Frag} {mg : Str → Option Value}
theorem Ev.glo (E : Ev K mg) (i : Nat) {x : Str} (h : fa[i]? = some (.glo x) := by rfl) : mg x = some (.ref (He.ga K x)) := by
  obtain ⟨h', X, G, c⟩ := E.ex
  exact He.glo_ok X G (c.fact i h)
theorem Ev.free (E : Ev K mg) (i : Nat) {x : Str} (h : fa[i]? = some (.free x) := by rfl) : mg x = none := by
  obtain ⟨h', X, G, c⟩ := E.ex
  exact He.free_ok X G (c.fact i h)
theorem Ev.int (E : Ev K mg) (i : Nat) {x : Str} {n : Int} (h : fa[i]? = some (.int x n) := by rfl) : ∃ t, mg x = some (.int n t) := by
  obtain ⟨h', X, G, c⟩ := E.ex
  exact He.int_ok X G (c.fact i h)
theorem Ev.str (E : Ev K mg) (i : Nat) {x y : Str} (h : fa[i]? = some (.str x y) := by rfl) : ∃ t, mg x = some (.str y t) := by
  obtain ⟨h', X, G, c⟩ := E.ex
  exact He.str_ok X G (c.fact i h)
abbrev FnP (K : PySem.W.Frag) (x : Str) (st : Stmt) (f : Addr) (fd : FuncData) : Prop := FunD K x x (defArgs st) (defBody st) (defScope st) [] [] f fd
theorem Ev.def_ (E : Ev K mg) (i k : Nat) {x : Str} (h : fn[i]? = some (dd k x) := by rfl) : ∃ fd, FnP K x (top k) (He.ga K x) fd := by
  obtain ⟨h', X, G, c⟩ := E.ex
  exact c.def_ i h
theorem q_is_letter (E : Ev K mg) : mg "is_letter" = some (.ref (He.ga K "is_letter")) := E.glo 0
theorem q_is_lot (E : Ev K mg) : mg "is_lot" = some (.ref (He.ga K "is_lot")) := E.glo 1
theorem q_common_in (E : Ev K mg) : mg "common_in" = some (.ref (He.ga K "common_in")) := E.glo 2
theorem q_rest_in (E : Ev K mg) : mg "rest_in" = some (.ref (He.ga K "rest_in")) := E.glo 3
theorem q_within_in (E : Ev K mg) : mg "within_in" = some (.ref (He.ga K "within_in")) := E.glo 4
theorem q_lots_within_in (E : Ev K mg) : mg "lots_within_in" = some (.ref (He.ga K "lots_within_in")) := E.glo 5
theorem q_all_letters (E : Ev K mg) : mg "all_letters" = some (.ref (He.ga K "all_letters")) := E.glo 6
theorem q_require_order (E : Ev K mg) : mg "require_order" = some (.ref (He.ga K "require_order")) := E.glo 7
theorem q_is_whole (E : Ev K mg) : mg "is_whole" = some (.ref (He.ga K "is_whole")) := E.glo 8
theorem q_is_web (E : Ev K mg) : mg "is_web" = some (.ref (He.ga K "is_web")) := E.glo 9
theorem q_is_place (E : Ev K mg) : mg "is_place" = some (.ref (He.ga K "is_place")) := E.glo 10
theorem q_leads_up (E : Ev K mg) : mg "leads_up" = some (.ref (He.ga K "leads_up")) := E.glo 11
theorem q_begins (E : Ev K mg) : mg "begins" = some (.ref (He.ga K "begins")) := E.glo 12
theorem q_does_hang (E : Ev K mg) : mg "does_hang" = some (.ref (He.ga K "does_hang")) := E.glo 13
theorem q_is_tree_in (E : Ev K mg) : mg "is_tree_in" = some (.ref (He.ga K "is_tree_in")) := E.glo 14
theorem q_nearest_tree (E : Ev K mg) : mg "nearest_tree" = some (.ref (He.ga K "nearest_tree")) := E.glo 15
theorem q_greatest_lots (E : Ev K mg) : mg "greatest_lots" = some (.ref (He.ga K "greatest_lots")) := E.glo 16
theorem q_are_rests (E : Ev K mg) : mg "are_rests" = some (.ref (He.ga K "are_rests")) := E.glo 17
theorem q_lots_of_rests (E : Ev K mg) : mg "lots_of_rests" = some (.ref (He.ga K "lots_of_rests")) := E.glo 18
theorem q_is_ring (E : Ev K mg) : mg "is_ring" = some (.ref (He.ga K "is_ring")) := E.glo 19
theorem q_is_stuck_in (E : Ev K mg) : mg "is_stuck_in" = some (.ref (He.ga K "is_stuck_in")) := E.glo 20
theorem q_fold_answer_in (E : Ev K mg) : mg "fold_answer_in" = some (.ref (He.ga K "fold_answer_in")) := E.glo 21
theorem q_require_web (E : Ev K mg) : mg "require_web" = some (.ref (He.ga K "require_web")) := E.glo 22
theorem q_is_tree (E : Ev K mg) : mg "is_tree" = some (.ref (He.ga K "is_tree")) := E.glo 23
theorem q_fold_answer (E : Ev K mg) : mg "fold_answer" = some (.ref (He.ga K "fold_answer")) := E.glo 24
theorem q_is_bags_in (E : Ev K mg) : mg "is_bags_in" = some (.ref (He.ga K "is_bags_in")) := E.glo 25
theorem q_bags_taken (E : Ev K mg) : mg "bags_taken" = some (.ref (He.ga K "bags_taken")) := E.glo 26
theorem q_greatest_bags (E : Ev K mg) : mg "greatest_bags" = some (.ref (He.ga K "greatest_bags")) := E.glo 27
theorem q_bags_of_in (E : Ev K mg) : mg "bags_of_in" = some (.ref (He.ga K "bags_of_in")) := E.glo 28
theorem q_is_bags (E : Ev K mg) : mg "is_bags" = some (.ref (He.ga K "is_bags")) := E.glo 29
theorem q_bags_of (E : Ev K mg) : mg "bags_of" = some (.ref (He.ga K "bags_of")) := E.glo 30
theorem q__law_tr_hat (E : Ev K mg) : mg "_law_tr_hat" = some (.ref (He.ga K "_law_tr_hat")) := E.glo 31
theorem q__law_tr_up (E : Ev K mg) : mg "_law_tr_up" = some (.ref (He.ga K "_law_tr_up")) := E.glo 32
theorem q__law_tr_of (E : Ev K mg) : mg "_law_tr_of" = some (.ref (He.ga K "_law_tr_of")) := E.glo 33
theorem q__law_tr_some (E : Ev K mg) : mg "_law_tr_some" = some (.ref (He.ga K "_law_tr_some")) := E.glo 34
theorem q__law_tr_within (E : Ev K mg) : mg "_law_tr_within" = some (.ref (He.ga K "_law_tr_within")) := E.glo 35
theorem q__law_tr_common (E : Ev K mg) : mg "_law_tr_common" = some (.ref (He.ga K "_law_tr_common")) := E.glo 36
theorem q__law_tr_letters (E : Ev K mg) : mg "_law_tr_letters" = some (.ref (He.ga K "_law_tr_letters")) := E.glo 37
theorem q__law_tr_grown (E : Ev K mg) : mg "_law_tr_grown" = some (.ref (He.ga K "_law_tr_grown")) := E.glo 38
theorem q__law_tr_round (E : Ev K mg) : mg "_law_tr_round" = some (.ref (He.ga K "_law_tr_round")) := E.glo 39
theorem q__law_tr_mixed (E : Ev K mg) : mg "_law_tr_mixed" = some (.ref (He.ga K "_law_tr_mixed")) := E.glo 40
theorem q__law_tr_web (E : Ev K mg) : mg "_law_tr_web" = some (.ref (He.ga K "_law_tr_web")) := E.glo 41
theorem q__law_tr_folds (E : Ev K mg) : mg "_law_tr_folds" = some (.ref (He.ga K "_law_tr_folds")) := E.glo 42
theorem q__law_tr_is_place (E : Ev K mg) : mg "_law_tr_is_place" = some (.ref (He.ga K "_law_tr_is_place")) := E.glo 43
theorem q__law_tr_is_tree (E : Ev K mg) : mg "_law_tr_is_tree" = some (.ref (He.ga K "_law_tr_is_tree")) := E.glo 44
theorem q__law_tr_is_lot (E : Ev K mg) : mg "_law_tr_is_lot" = some (.ref (He.ga K "_law_tr_is_lot")) := E.glo 45
theorem q__law_tr_tree (E : Ev K mg) : mg "_law_tr_tree" = some (.ref (He.ga K "_law_tr_tree")) := E.glo 46
theorem q__law_tr_bent (E : Ev K mg) : mg "_law_tr_bent" = some (.ref (He.ga K "_law_tr_bent")) := E.glo 47
theorem q__law_tr_bags (E : Ev K mg) : mg "_law_tr_bags" = some (.ref (He.ga K "_law_tr_bags")) := E.glo 48
theorem q__law_tr_is_bags (E : Ev K mg) : mg "_law_tr_is_bags" = some (.ref (He.ga K "_law_tr_is_bags")) := E.glo 49
theorem q__law_wider (E : Ev K mg) : mg "_law_wider" = some (.ref (He.ga K "_law_wider")) := E.glo 50
theorem q__law_right (E : Ev K mg) : mg "_law_right" = some (.ref (He.ga K "_law_right")) := E.glo 51
theorem q_law (E : Ev K mg) : mg "law" = some (.ref (He.ga K "law")) := E.glo 52
theorem q_isinstance (E : Ev K mg) : mg "isinstance" = none := E.free 53
theorem q_all (E : Ev K mg) : mg "all" = none := E.free 54
theorem q_any (E : Ev K mg) : mg "any" = none := E.free 55
theorem q_len (E : Ev K mg) : mg "len" = none := E.free 56
theorem q_tuple (E : Ev K mg) : mg "tuple" = none := E.free 57
theorem q_sorted (E : Ev K mg) : mg "sorted" = none := E.free 58
theorem q_list (E : Ev K mg) : mg "list" = none := E.free 59
theorem q_range (E : Ev K mg) : mg "range" = none := E.free 60
theorem q_zip (E : Ev K mg) : mg "zip" = none := E.free 61
theorem q_set (E : Ev K mg) : mg "set" = none := E.free 62
theorem q_enumerate (E : Ev K mg) : mg "enumerate" = none := E.free 63
theorem q_min (E : Ev K mg) : mg "min" = none := E.free 64
theorem q_max (E : Ev K mg) : mg "max" = none := E.free 65
theorem q_abs (E : Ev K mg) : mg "abs" = none := E.free 66
theorem q_int (E : Ev K mg) : mg "int" = none := E.free 67
theorem q_bool (E : Ev K mg) : mg "bool" = none := E.free 68
theorem q_LETTERS (E : Ev K mg) : ∃ t, mg "LETTERS" = some (.int 6 t) := E.int 69
theorem q_MOST_PARTS (E : Ev K mg) : ∃ t, mg "MOST_PARTS" = some (.int 12 t) := E.int 70
theorem q_FOLDS (E : Ev K mg) : ∃ t, mg "FOLDS" = some (.str "folds" t) := E.str 71
theorem q_STUCK (E : Ev K mg) : ∃ t, mg "STUCK" = some (.str "stuck" t) := E.str 72
theorem q_PAIR_webs (E : Ev K mg) : ∃ t, mg "PAIR_webs" = some (.int 2 t) := E.int 73
theorem q_FEWEST (E : Ev K mg) : ∃ t, mg "FEWEST" = some (.int 3 t) := E.int 74
theorem q_PAIR_bags (E : Ev K mg) : ∃ t, mg "PAIR_bags" = some (.int 2 t) := E.int 75
theorem f_is_letter (E : Ev K mg) : ∃ fd, FnP K "is_letter" (top 5) (He.ga K "is_letter") fd := E.def_ 0 5
theorem f_is_lot (E : Ev K mg) : ∃ fd, FnP K "is_lot" (top 6) (He.ga K "is_lot") fd := E.def_ 1 6
theorem f_common_in (E : Ev K mg) : ∃ fd, FnP K "common_in" (top 7) (He.ga K "common_in") fd := E.def_ 2 7
theorem f_rest_in (E : Ev K mg) : ∃ fd, FnP K "rest_in" (top 8) (He.ga K "rest_in") fd := E.def_ 3 8
theorem f_within_in (E : Ev K mg) : ∃ fd, FnP K "within_in" (top 9) (He.ga K "within_in") fd := E.def_ 4 9
theorem f_lots_within_in (E : Ev K mg) : ∃ fd, FnP K "lots_within_in" (top 10) (He.ga K "lots_within_in") fd := E.def_ 5 10
theorem f_all_letters (E : Ev K mg) : ∃ fd, FnP K "all_letters" (top 11) (He.ga K "all_letters") fd := E.def_ 6 11
theorem f_require_order (E : Ev K mg) : ∃ fd, FnP K "require_order" (top 12) (He.ga K "require_order") fd := E.def_ 7 12
theorem f_is_whole (E : Ev K mg) : ∃ fd, FnP K "is_whole" (top 14) (He.ga K "is_whole") fd := E.def_ 8 14
theorem f_is_web (E : Ev K mg) : ∃ fd, FnP K "is_web" (top 21) (He.ga K "is_web") fd := E.def_ 9 21
theorem f_is_place (E : Ev K mg) : ∃ fd, FnP K "is_place" (top 22) (He.ga K "is_place") fd := E.def_ 10 22
theorem f_leads_up (E : Ev K mg) : ∃ fd, FnP K "leads_up" (top 23) (He.ga K "leads_up") fd := E.def_ 11 23
theorem f_begins (E : Ev K mg) : ∃ fd, FnP K "begins" (top 24) (He.ga K "begins") fd := E.def_ 12 24
theorem f_does_hang (E : Ev K mg) : ∃ fd, FnP K "does_hang" (top 25) (He.ga K "does_hang") fd := E.def_ 13 25
theorem f_is_tree_in (E : Ev K mg) : ∃ fd, FnP K "is_tree_in" (top 26) (He.ga K "is_tree_in") fd := E.def_ 14 26
theorem f_nearest_tree (E : Ev K mg) : ∃ fd, FnP K "nearest_tree" (top 27) (He.ga K "nearest_tree") fd := E.def_ 15 27
theorem f_greatest_lots (E : Ev K mg) : ∃ fd, FnP K "greatest_lots" (top 28) (He.ga K "greatest_lots") fd := E.def_ 16 28
theorem f_are_rests (E : Ev K mg) : ∃ fd, FnP K "are_rests" (top 29) (He.ga K "are_rests") fd := E.def_ 17 29
theorem f_lots_of_rests (E : Ev K mg) : ∃ fd, FnP K "lots_of_rests" (top 30) (He.ga K "lots_of_rests") fd := E.def_ 18 30
theorem f_is_ring (E : Ev K mg) : ∃ fd, FnP K "is_ring" (top 31) (He.ga K "is_ring") fd := E.def_ 19 31
theorem f_is_stuck_in (E : Ev K mg) : ∃ fd, FnP K "is_stuck_in" (top 32) (He.ga K "is_stuck_in") fd := E.def_ 20 32
theorem f_fold_answer_in (E : Ev K mg) : ∃ fd, FnP K "fold_answer_in" (top 33) (He.ga K "fold_answer_in") fd := E.def_ 21 33
theorem f_require_web (E : Ev K mg) : ∃ fd, FnP K "require_web" (top 34) (He.ga K "require_web") fd := E.def_ 22 34
theorem f_is_tree (E : Ev K mg) : ∃ fd, FnP K "is_tree" (top 35) (He.ga K "is_tree") fd := E.def_ 23 35
theorem f_fold_answer (E : Ev K mg) : ∃ fd, FnP K "fold_answer" (top 36) (He.ga K "fold_answer") fd := E.def_ 24 36
theorem f_is_bags_in (E : Ev K mg) : ∃ fd, FnP K "is_bags_in" (top 39) (He.ga K "is_bags_in") fd := E.def_ 25 39
theorem f_bags_taken (E : Ev K mg) : ∃ fd, FnP K "bags_taken" (top 40) (He.ga K "bags_taken") fd := E.def_ 26 40
theorem f_greatest_bags (E : Ev K mg) : ∃ fd, FnP K "greatest_bags" (top 41) (He.ga K "greatest_bags") fd := E.def_ 27 41
theorem f_bags_of_in (E : Ev K mg) : ∃ fd, FnP K "bags_of_in" (top 42) (He.ga K "bags_of_in") fd := E.def_ 28 42
theorem f_is_bags (E : Ev K mg) : ∃ fd, FnP K "is_bags" (top 43) (He.ga K "is_bags") fd := E.def_ 29 43
theorem f_bags_of (E : Ev K mg) : ∃ fd, FnP K "bags_of" (top 44) (He.ga K "bags_of") fd := E.def_ 30 44
theorem f__law_tr_hat (E : Ev K mg) : ∃ fd, FnP K "_law_tr_hat" (top 46) (He.ga K "_law_tr_hat") fd := E.def_ 31 46
theorem f__law_tr_up (E : Ev K mg) : ∃ fd, FnP K "_law_tr_up" (top 47) (He.ga K "_law_tr_up") fd := E.def_ 32 47
theorem f__law_tr_of (E : Ev K mg) : ∃ fd, FnP K "_law_tr_of" (top 48) (He.ga K "_law_tr_of") fd := E.def_ 33 48
theorem f__law_tr_some (E : Ev K mg) : ∃ fd, FnP K "_law_tr_some" (top 49) (He.ga K "_law_tr_some") fd := E.def_ 34 49
theorem f__law_tr_within (E : Ev K mg) : ∃ fd, FnP K "_law_tr_within" (top 50) (He.ga K "_law_tr_within") fd := E.def_ 35 50
theorem f__law_tr_common (E : Ev K mg) : ∃ fd, FnP K "_law_tr_common" (top 51) (He.ga K "_law_tr_common") fd := E.def_ 36 51
theorem f__law_tr_letters (E : Ev K mg) : ∃ fd, FnP K "_law_tr_letters" (top 52) (He.ga K "_law_tr_letters") fd := E.def_ 37 52
theorem f__law_tr_grown (E : Ev K mg) : ∃ fd, FnP K "_law_tr_grown" (top 53) (He.ga K "_law_tr_grown") fd := E.def_ 38 53
theorem f__law_tr_round (E : Ev K mg) : ∃ fd, FnP K "_law_tr_round" (top 54) (He.ga K "_law_tr_round") fd := E.def_ 39 54
theorem f__law_tr_mixed (E : Ev K mg) : ∃ fd, FnP K "_law_tr_mixed" (top 55) (He.ga K "_law_tr_mixed") fd := E.def_ 40 55
theorem f__law_tr_web (E : Ev K mg) : ∃ fd, FnP K "_law_tr_web" (top 56) (He.ga K "_law_tr_web") fd := E.def_ 41 56
theorem f__law_tr_folds (E : Ev K mg) : ∃ fd, FnP K "_law_tr_folds" (top 57) (He.ga K "_law_tr_folds") fd := E.def_ 42 57
theorem f__law_tr_is_place (E : Ev K mg) : ∃ fd, FnP K "_law_tr_is_place" (top 58) (He.ga K "_law_tr_is_place") fd := E.def_ 43 58
theorem f__law_tr_is_tree (E : Ev K mg) : ∃ fd, FnP K "_law_tr_is_tree" (top 59) (He.ga K "_law_tr_is_tree") fd := E.def_ 44 59
theorem f__law_tr_is_lot (E : Ev K mg) : ∃ fd, FnP K "_law_tr_is_lot" (top 60) (He.ga K "_law_tr_is_lot") fd := E.def_ 45 60
theorem f__law_tr_tree (E : Ev K mg) : ∃ fd, FnP K "_law_tr_tree" (top 61) (He.ga K "_law_tr_tree") fd := E.def_ 46 61
theorem f__law_tr_bent (E : Ev K mg) : ∃ fd, FnP K "_law_tr_bent" (top 62) (He.ga K "_law_tr_bent") fd := E.def_ 47 62
theorem f__law_tr_bags (E : Ev K mg) : ∃ fd, FnP K "_law_tr_bags" (top 63) (He.ga K "_law_tr_bags") fd := E.def_ 48 63
theorem f__law_tr_is_bags (E : Ev K mg) : ∃ fd, FnP K "_law_tr_is_bags" (top 64) (He.ga K "_law_tr_is_bags") fd := E.def_ 49 64
theorem f__law_wider (E : Ev K mg) : ∃ fd, FnP K "_law_wider" (top 65) (He.ga K "_law_wider") fd := E.def_ 50 65
theorem f__law_right (E : Ev K mg) : ∃ fd, FnP K "_law_right" (top 66) (He.ga K "_law_right") fd := E.def_ 51 66
theorem f_law (E : Ev K mg) : ∃ fd, FnP K "law" (top 67) (He.ga K "law") fd := E.def_ 52 67
end
end Kb
set_option Elab.async false
set_option linter.all false
set_option maxRecDepth 100000
set_option maxHeartbeats 1000000
/-! H2: words in short for the printed walks. -/
namespace Kb
open PySem PySem.Spec PyProof.Rows L2
section
variable {X : Cx} {e : Expr} {O : List Nat} {g : DE} {gl : DL} {st : Stmt} {pos : Pos}
theorem pgn (i : Nat) {x : Str} (hN : X.N.Nodup) (hi : X.N[i]? = some x := by rfl) (hx : Loc X.env.scope x := by first | exact Or.inl rfl | exact Or.inr rfl) (hf : X.fn x = true ∨ X.env.scope.names.lookup x = some .local := by first | exact .inl rfl | exact .inr rfl) : PG X (.Name x pos) (gName i) := pg_name hN hi hx hf
theorem R_imp_L {σ : L2.St} {H : Hp} {Q : VK} : eR O (dLst gl) σ H Q → eL O gl σ H Q := fun ⟨p, F, ρ, K, R, hg, hk⟩ =>
  ⟨p, F, ρ, fun ds => K (.list ds), R, hg, fun ds kd a xs H' ex hn ha dt => hk _ kd (.ref a) H' ex (.lst (by rw [grow_new hn]; exact ha) (dt.mono (hid_sub _ _)))⟩
theorem r_dict0 : PE X (.Dict [] [] pos) (eR O (dC (.dict []))) := imp pe_dnewK fun σ H Q ⟨p, F, ρ, K, R, hg, hk⟩ => fun a ha =>
  hk _ hg (.ref a) _ (.new ha) (.dic (by rw [grow_new ha, upd_same]))
def dTupOf : DE → DE := dUn fun d K => ∃ es, seqD d = some es ∧ K (.tuple es)
def dDo (g : DE) : DS := fun D ρ => g ρ fun _ => D.nx ρ
theorem s_do (x : PE X e (eR O g)) (hs : swapsWith e none pos.line X.env = pure false := by rfl) : PS X (.Expr e pos) (sS O (dDo g)) := impS (ps_expr x hs) fun D σ H ⟨p, F0, H0, G, F, ρ, De, S, hg, L⟩ =>
  ⟨p, F, ρ, _, S.rs, hg, fun d kd v H1 ex dt => L.nx _ _ _ _ (S.same ex) kd⟩
end
end Kb
set_option Elab.async false
set_option linter.all false
set_option maxRecDepth 100000
set_option maxHeartbeats 2000000
namespace Kb
open PySem PySem.Spec PyProof.Rows L2
section
variable {P : Program} {w : World} {K : PySem.W.Frag} {mg : Str → Option Value} {base : Heap}
theorem sc_is_letter : FnScope ["value"] ["value"] (defScope (top 5)) := ⟨rfl, rfl, rfl, by decide +kernel, rfl, by decide +kernel, by decide +kernel⟩
def g_is_letter : DS := (dRet (dAndV (dUn (fun d K => K (.bool (isT "int" d))) (dVar 0)) (dAndV (dNotV (dUn (fun d K => K (.bool (isT "bool" d))) (dVar 0))) (dCh (dC (.int 0)) (dVar 0) (dC (.int 6))))))
def R_is_letter : Rl := fun ds K => ds.length = 1 ∧ g_is_letter { nx := fun _ => K .none, rt := K, rl := fun _ => False } (startE 1 ds)
theorem c_is_letter (E : Ev K mg) : Cal P w K mg base 1 "is_letter" (Pr R_is_letter) := by
  obtain ⟨fd, F⟩ := f_is_letter E
  refine ⟨_, fd, ["value"], F.ok sc_is_letter (len_pr fun ds K h => h.1) (fun cdv A outer s H vs Q E1 hr h => ⟨sS [] g_is_letter, PSs.nox ?_, ent (by decide) (fun ds K h => ⟨(fun i hi => by rw [h.1]; revert i; decide), h.2⟩) vs H Q E1 h⟩), q_is_letter E, F.kp, F.bindsN fun _ _ _ _ _ _ us hl => match us, hl with | [_], _ => rfl⟩
  exact (s_one (s_ret (r_and (V_of_R (w_isi .i (pe_callB call_isi rfl (q_isinstance E) PyProof.Rows.boot_isinstance (pa_cons (V_of_R (r_var (pv 0))) (pa_cons (pe_bltn rfl (q_int E) PyProof.Rows.boot_int rfl) pa_nil))))) (r_and (V_of_R (r_not (V_of_R (w_isi .b (pe_callB call_isi rfl (q_isinstance E) PyProof.Rows.boot_isinstance (pa_cons (V_of_R (r_var (pv 0))) (pa_cons (pe_bltn rfl (q_bool E) PyProof.Rows.boot_bool rfl) pa_nil))))))) (r_one (r_chain (pe_chain op_le op_lt (V_of_R r_int) (V_of_R (r_var (pv 0))) (V_of_R (r_globI rfl (q_LETTERS E))))))))))
theorem sc_is_lot : FnScope ["value", "letter", "one", "other"] ["value"] (defScope (top 6)) := ⟨rfl, rfl, rfl, by decide +kernel, rfl, by decide +kernel, by decide +kernel⟩
def g_is_lot : DS := (dSeq (dIfS (dOr (dNot (dBool (dUn (fun d K => K (.bool (isT "tuple" d))) (dVar 0)))) (dNot (dBool (dB (bBools fun bs => bs.all id) (dCons (dLst (dLc (dIt (dVar 0)) (pName 1) dYes (dCall R_is_letter (dCons (dVar 1) dNil)) [1])) dNil))))) (dRet (dC (.bool false))) dSkip) (dRet (dB (bBools fun bs => bs.all id) (dCons (dLst (dLc (dZip (dVar 0) (dCutT (dVar 0) (dAt (dC (.int 1))) dNo)) (pTwo 2 3) dYes (dLt (dVar 2) (dVar 3)) [2, 3])) dNil))))
def R_is_lot : Rl := fun ds K => ds.length = 1 ∧ g_is_lot { nx := fun _ => K .none, rt := K, rl := fun _ => False } (startE 4 ds)
theorem c_is_lot (E : Ev K mg) : Cal P w K mg base 2 "is_lot" (Pr R_is_lot) := by
  obtain ⟨fd, F⟩ := f_is_lot E
  refine ⟨_, fd, ["value"], F.ok sc_is_lot (len_pr fun ds K h => h.1) (fun cdv A outer s H vs Q E1 hr h => ⟨sS [] g_is_lot, PSs.nox ?_, ent (by decide) (fun ds K h => ⟨(fun i hi => by rw [h.1]; revert i; decide), h.2⟩) vs H Q E1 h⟩), q_is_lot E, F.kp, F.bindsN fun _ _ _ _ _ _ us hl => match us, hl with | [_], _ => rfl⟩
  exact (s_cons (s_if (PW.pt (t_or (t_not (t_val (w_isi .t (pe_callB call_isi rfl (q_isinstance E) PyProof.Rows.boot_isinstance (pa_cons (V_of_R (r_var (pv 0))) (pa_cons (pe_bltn rfl (q_tuple E) PyProof.Rows.boot_tuple rfl) pa_nil)))))) (t_or1 (t_not (t_val (w_all (pe_callB (cr_all rfl) rfl (q_all E) PyProof.Rows.boot_all (a_consV (V_of_L (l_lc (gt := dYes) (ge := (dCall R_is_letter (dCons (dVar 1) dNil))) (gi := (dIt (dVar 0))) tg_name (pe_lc (own := [("letter", 1)]) rfl sc_is_lot.nd  (i_seq (W_of_R (r_var (pv 0)))) (blkOk_by (own := [("letter", 1)]) rfl) (fun _ _ _ _ _ => (pgn 1 sc_is_lot.nd)) (fun _ _ _ _ _ => pts_yes) (fun _ _ _ _ _ => (r_call rfl (pe_cal (c_is_letter E) hr (by decide) rfl (a_cons (r_var (pv 1)) a_nil))))))) a_nilV)))))))) (s_one (s_ret r_bl)) s_nil) (s_one (s_ret (w_all (pe_callB (cr_all rfl) rfl (q_all E) PyProof.Rows.boot_all (a_consV (V_of_L (l_lc (gt := dYes) (ge := (dLt (dVar 2) (dVar 3))) (gi := (dZip (dVar 0) (dCutT (dVar 0) (dAt (dC (.int 1))) dNo))) tg_two (pe_lc (own := [("one", 2), ("other", 3)]) rfl sc_is_lot.nd  (I_of_R (i_zip rfl (q_zip E) (r_var (pv 0)) (r_cut (r_var (pv 0)) (o_at (V_of_R r_int)) o_no))) (blkOk_by (own := [("one", 2), ("other", 3)]) rfl) (fun _ _ _ _ _ => (pg_tup rfl (pgs_cons (pgn 2 sc_is_lot.nd) (pgs_cons (pgn 3 sc_is_lot.nd) pgs_nil)))) (fun _ _ _ _ _ => pts_yes) (fun _ _ _ _ _ => (r_lt (V_of_R (r_var (pv 2))) (V_of_R (r_var (pv 3)))))))) a_nilV))))))
theorem sc_common_in : FnScope ["one", "other", "letter"] ["one", "other"] (defScope (top 7)) := ⟨rfl, rfl, rfl, by decide +kernel, rfl, by decide +kernel, by decide +kernel⟩
def g_common_in : DS := (dRet (dTupOf (dLst (dLc (dIt (dVar 0)) (pName 2) (dBool (dIn (dVar 2) (dVar 1))) (dVar 2) [2]))))
def R_common_in : Rl := fun ds K => ds.length = 2 ∧ g_common_in { nx := fun _ => K .none, rt := K, rl := fun _ => False } (startE 3 ds)
theorem c_common_in (E : Ev K mg) : Cal P w K mg base 1 "common_in" (Pr R_common_in) := by
  obtain ⟨fd, F⟩ := f_common_in E
  refine ⟨_, fd, ["one", "other"], F.ok sc_common_in (len_pr fun ds K h => h.1) (fun cdv A outer s H vs Q E1 hr h => ⟨sS [] g_common_in, PSs.nox ?_, ent (by decide) (fun ds K h => ⟨(fun i hi => by rw [h.1]; revert i; decide), h.2⟩) vs H Q E1 h⟩), q_common_in E, F.kp, F.bindsN fun _ _ _ _ _ _ us hl => match us, hl with | [_, _], _ => rfl⟩
  exact (s_one (s_ret (w_tup (pe_callTy call_tupleA rfl (q_tuple E) PyProof.Rows.boot_tuple (pa_cons (W_of_L (l_lc (gt := (dBool (dIn (dVar 2) (dVar 1)))) (ge := (dVar 2)) (gi := (dIt (dVar 0))) tg_name (pe_lc (own := [("letter", 2)]) rfl sc_common_in.nd  (i_seq (W_of_R (r_var (pv 0)))) (blkOk_by (own := [("letter", 2)]) rfl) (fun _ _ _ _ _ => (pgn 2 sc_common_in.nd)) (fun _ _ _ _ _ => (pts_one (t_in (V_of_R (r_var (pv 2))) (V_of_R (r_var (pv 1)))))) (fun _ _ _ _ _ => (r_var (pv 2)))))) pa_nil)))))
theorem sc_rest_in : FnScope ["one", "other", "letter"] ["one", "other"] (defScope (top 8)) := ⟨rfl, rfl, rfl, by decide +kernel, rfl, by decide +kernel, by decide +kernel⟩
def g_rest_in : DS := (dRet (dTupOf (dLst (dLc (dIt (dVar 0)) (pName 2) (dBool (dNin (dVar 2) (dVar 1))) (dVar 2) [2]))))
def R_rest_in : Rl := fun ds K => ds.length = 2 ∧ g_rest_in { nx := fun _ => K .none, rt := K, rl := fun _ => False } (startE 3 ds)
theorem c_rest_in (E : Ev K mg) : Cal P w K mg base 1 "rest_in" (Pr R_rest_in) := by
  obtain ⟨fd, F⟩ := f_rest_in E
  refine ⟨_, fd, ["one", "other"], F.ok sc_rest_in (len_pr fun ds K h => h.1) (fun cdv A outer s H vs Q E1 hr h => ⟨sS [] g_rest_in, PSs.nox ?_, ent (by decide) (fun ds K h => ⟨(fun i hi => by rw [h.1]; revert i; decide), h.2⟩) vs H Q E1 h⟩), q_rest_in E, F.kp, F.bindsN fun _ _ _ _ _ _ us hl => match us, hl with | [_, _], _ => rfl⟩
  exact (s_one (s_ret (w_tup (pe_callTy call_tupleA rfl (q_tuple E) PyProof.Rows.boot_tuple (pa_cons (W_of_L (l_lc (gt := (dBool (dNin (dVar 2) (dVar 1)))) (ge := (dVar 2)) (gi := (dIt (dVar 0))) tg_name (pe_lc (own := [("letter", 2)]) rfl sc_rest_in.nd  (i_seq (W_of_R (r_var (pv 0)))) (blkOk_by (own := [("letter", 2)]) rfl) (fun _ _ _ _ _ => (pgn 2 sc_rest_in.nd)) (fun _ _ _ _ _ => (pts_one (t_nin (V_of_R (r_var (pv 2))) (V_of_R (r_var (pv 1)))))) (fun _ _ _ _ _ => (r_var (pv 2)))))) pa_nil)))))
theorem sc_within_in : FnScope ["one", "other", "letter"] ["one", "other"] (defScope (top 9)) := ⟨rfl, rfl, rfl, by decide +kernel, rfl, by decide +kernel, by decide +kernel⟩
def g_within_in : DS := (dRet (dB (bBools fun bs => bs.all id) (dCons (dLst (dLc (dIt (dVar 0)) (pName 2) dYes (dIn (dVar 2) (dVar 1)) [2])) dNil)))
def R_within_in : Rl := fun ds K => ds.length = 2 ∧ g_within_in { nx := fun _ => K .none, rt := K, rl := fun _ => False } (startE 3 ds)
theorem c_within_in (E : Ev K mg) : Cal P w K mg base 1 "within_in" (Pr R_within_in) := by
  obtain ⟨fd, F⟩ := f_within_in E
  refine ⟨_, fd, ["one", "other"], F.ok sc_within_in (len_pr fun ds K h => h.1) (fun cdv A outer s H vs Q E1 hr h => ⟨sS [] g_within_in, PSs.nox ?_, ent (by decide) (fun ds K h => ⟨(fun i hi => by rw [h.1]; revert i; decide), h.2⟩) vs H Q E1 h⟩), q_within_in E, F.kp, F.bindsN fun _ _ _ _ _ _ us hl => match us, hl with | [_, _], _ => rfl⟩
  exact (s_one (s_ret (w_all (pe_callB (cr_all rfl) rfl (q_all E) PyProof.Rows.boot_all (a_consV (V_of_L (l_lc (gt := dYes) (ge := (dIn (dVar 2) (dVar 1))) (gi := (dIt (dVar 0))) tg_name (pe_lc (own := [("letter", 2)]) rfl sc_within_in.nd  (i_seq (W_of_R (r_var (pv 0)))) (blkOk_by (own := [("letter", 2)]) rfl) (fun _ _ _ _ _ => (pgn 2 sc_within_in.nd)) (fun _ _ _ _ _ => pts_yes) (fun _ _ _ _ _ => (r_in (V_of_R (r_var (pv 2))) (V_of_R (r_var (pv 1)))))))) a_nilV)))))
theorem sc_lots_within_in : FnScope ["lot", "found", "letter", "one"] ["lot"] (defScope (top 10)) := ⟨rfl, rfl, rfl, by decide +kernel, rfl, by decide +kernel, by decide +kernel⟩
def g_lots_within_in : DS := (dSeq (dSet 1 (dLst (dDis (dCons (dTup dNil) dNil)))) (dSeq (dFor (dIt (dVar 0)) (pName 2) (dExt 1 (dLc (dIt (dOwn 1)) (pName 3) dYes (dTup (dStar (dVar 3) (dCons (dVar 2) dNil))) [3]))) (dRetL (dSortT (dOwn 1)))))
def R_lots_within_in : RlL := fun ds K => ds.length = 1 ∧ g_lots_within_in { nx := fun _ => False, rt := fun _ => False, rl := K } (startE 4 ds)
theorem c_lots_within_in (E : Ev K mg) : Cal P w K mg base 1 "lots_within_in" (PrL R_lots_within_in) := by
  obtain ⟨fd, F⟩ := f_lots_within_in E
  refine ⟨_, fd, ["lot"], F.ok sc_lots_within_in (len_prL fun ds K h => h.1) (fun cdv A outer s H vs Q E1 hr h => ⟨sS [1] g_lots_within_in, PSs.nox ?_, entL (by decide) (fun ds K h => ⟨(fun i hi => by rw [h.1]; revert i; decide), h.2⟩) vs H Q E1 h⟩), q_lots_within_in E, F.kp, F.bindsN fun _ _ _ _ _ _ us hl => match us, hl with | [_], _ => rfl⟩
  exact (s_cons (s_set (j := 1) (g := (dLst (dDis (dCons (dTup dNil) dNil)))) (ps_set (i := 1) sc_lots_within_in.nd rfl (by first | exact Or.inl rfl | exact Or.inr rfl) (S_of_L (l_lst (a_cons (r_tup a_nil) a_nil)))) (fun _ _ _ q => q)) (s_cons (s_for (gi := (dIt (dVar 0))) (gb := (dExt 1 (dLc (dIt (dOwn 1)) (pName 3) dYes (dTup (dStar (dVar 3) (dCons (dVar 2) dNil))) [3]))) PassesOwn.never rfl (i_seqR (r_var (pv 0))) (pgn 2 sc_lots_within_in.nd) tg_name (s_one (s_ext (ps_expr (pe_bm PySem.F.plainAttrs_list PySem.F.slot_list_extend PySem.F.type_list_extend mt_extend (pv 1) (pa_cons (l_lc (gt := dYes) (ge := (dTup (dStar (dVar 3) (dCons (dVar 2) dNil)))) (gi := (dIt (dOwn 1))) tg_name (pe_lc (own := [("one", 3)]) rfl sc_lots_within_in.nd  (i_seq (w_own (pv 1))) (blkOk_by (own := [("one", 3)]) rfl) (fun _ _ _ _ _ => (pgn 3 sc_lots_within_in.nd)) (fun _ _ _ _ _ => pts_yes) (fun _ _ _ _ _ => (r_tup (a_star (W_of_R (r_var (pv 3))) (a_cons (r_var (pv 2)) a_nil)))))) pa_nil)))))) (s_one (s_retL (w_sortT (pe_callB (cr_sortTs hr.units) rfl (q_sorted E) PyProof.Rows.boot_sorted (pa_cons (w_own (pv 1)) pa_nil)))))))
theorem sc_all_letters : FnScope ["lots", "lot", "letter"] ["lots"] (defScope (top 11)) := ⟨rfl, rfl, rfl, by decide +kernel, rfl, by decide +kernel, by decide +kernel⟩
def g_all_letters : DS := (dRet (dTupOf (dLst (dSrtDic (dKeysI 1 2 (dIt (dVar 0)))))))
def R_all_letters : Rl := fun ds K => ds.length = 1 ∧ g_all_letters { nx := fun _ => K .none, rt := K, rl := fun _ => False } (startE 3 ds)
theorem c_all_letters (E : Ev K mg) : Cal P w K mg base 1 "all_letters" (Pr R_all_letters) := by
  obtain ⟨fd, F⟩ := f_all_letters E
  refine ⟨_, fd, ["lots"], F.ok sc_all_letters (len_pr fun ds K h => h.1) (fun cdv A outer s H vs Q E1 hr h => ⟨sS [] g_all_letters, PSs.nox ?_, ent (by decide) (fun ds K h => ⟨(fun i hi => by rw [h.1]; revert i; decide), h.2⟩) vs H Q E1 h⟩), q_all_letters E, F.kp, F.bindsN fun _ _ _ _ _ _ us hl => match us, hl with | [_], _ => rfl⟩
  exact (s_one (s_ret (w_tup (pe_callTy call_tupleA rfl (q_tuple E) PyProof.Rows.boot_tuple (pa_cons (W_of_L (w_srtDic (pe_callB (cr_srtDic rfl) rfl (q_sorted E) PyProof.Rows.boot_sorted (pa_cons (w_d2I (gi := (dIt (dVar 0))) (pe_d2 (own := [("lot", 1), ("letter", 2)]) (vs1 := [2]) rfl sc_all_letters.nd (i_seq (W_of_R (r_var (pv 0)))) (blkOk_by (own := [("lot", 1), ("letter", 2)]) rfl) (by decide) nwI_ok (fun _ _ _ _ _ => (pgn 1 sc_all_letters.nd)) (fun _ _ _ _ _ => pi_seq (pv 1)) (fun _ _ _ _ _ => (pgn 2 sc_all_letters.nd)) (fun _ _ _ _ _ => pv 2) (fun _ _ _ _ _ => pe_bl) (fun _ _ _ _ => stI_ok))) pa_nil)))) pa_nil)))))
theorem sc_require_order : FnScope ["lot", "value", "letter"] ["lot", "value"] (defScope (top 12)) := ⟨rfl, rfl, rfl, by decide +kernel, rfl, by decide +kernel, by decide +kernel⟩
def g_require_order : DS := (dIfS (dOr (dNot (dBool (dUn (fun d K => K (.bool (isT "tuple" d))) (dVar 1)))) (dOr (dNot (dBool (dB (bBools fun bs => bs.all id) (dCons (dLst (dLc (dIt (dVar 1)) (pName 2) dYes (dCall R_is_letter (dCons (dVar 2) dNil)) [2])) dNil)))) (dBool (dNe (dLst (dSortI (dVar 1))) (dLst (dItems (dVar 0))))))) dFail dSkip)
def R_require_order : Rl := fun ds K => ds.length = 2 ∧ g_require_order { nx := fun _ => K .none, rt := K, rl := fun _ => False } (startE 3 ds)
theorem c_require_order (E : Ev K mg) : Cal P w K mg base 2 "require_order" (Pr R_require_order) := by
  obtain ⟨fd, F⟩ := f_require_order E
  refine ⟨_, fd, ["lot", "value"], F.ok sc_require_order (len_pr fun ds K h => h.1) (fun cdv A outer s H vs Q E1 hr h => ⟨sS [] g_require_order, PSs.nox ?_, ent (by decide) (fun ds K h => ⟨(fun i hi => by rw [h.1]; revert i; decide), h.2⟩) vs H Q E1 h⟩), q_require_order E, F.kp, F.bindsN fun _ _ _ _ _ _ us hl => match us, hl with | [_, _], _ => rfl⟩
  exact (s_one (s_if (PW.pt (t_or (t_not (t_val (w_isi .t (pe_callB call_isi rfl (q_isinstance E) PyProof.Rows.boot_isinstance (pa_cons (V_of_R (r_var (pv 1))) (pa_cons (pe_bltn rfl (q_tuple E) PyProof.Rows.boot_tuple rfl) pa_nil)))))) (t_or (t_not (t_val (w_all (pe_callB (cr_all rfl) rfl (q_all E) PyProof.Rows.boot_all (a_consV (V_of_L (l_lc (gt := dYes) (ge := (dCall R_is_letter (dCons (dVar 2) dNil))) (gi := (dIt (dVar 1))) tg_name (pe_lc (own := [("letter", 2)]) rfl sc_require_order.nd  (i_seq (W_of_R (r_var (pv 1)))) (blkOk_by (own := [("letter", 2)]) rfl) (fun _ _ _ _ _ => (pgn 2 sc_require_order.nd)) (fun _ _ _ _ _ => pts_yes) (fun _ _ _ _ _ => (r_call rfl (pe_cal (c_is_letter E) hr (by decide) rfl (a_cons (r_var (pv 2)) a_nil))))))) a_nilV))))) (t_or1 (t_ne hr.units (V_of_L (w_sortI (pe_callB (cr_sortIs hr.units) rfl (q_sorted E) PyProof.Rows.boot_sorted (pa_cons (W_of_R (r_var (pv 1))) pa_nil)))) (V_of_L (w_list (pe_callTy call_list_of rfl (q_list E) PyProof.Rows.boot_list (pa_cons (W_of_R (r_var (pv 0))) pa_nil))))))))) (s_one s_fail) s_nil))
theorem sc_is_whole : FnScope ["value"] ["value"] (defScope (top 14)) := ⟨rfl, rfl, rfl, by decide +kernel, rfl, by decide +kernel, by decide +kernel⟩
def g_is_whole : DS := (dRet (dAndV (dUn (fun d K => K (.bool (isT "int" d))) (dVar 0)) (dNotV (dUn (fun d K => K (.bool (isT "bool" d))) (dVar 0)))))
def R_is_whole : Rl := fun ds K => ds.length = 1 ∧ g_is_whole { nx := fun _ => K .none, rt := K, rl := fun _ => False } (startE 1 ds)
theorem c_is_whole (E : Ev K mg) : Cal P w K mg base 1 "is_whole" (Pr R_is_whole) := by
  obtain ⟨fd, F⟩ := f_is_whole E
  refine ⟨_, fd, ["value"], F.ok sc_is_whole (len_pr fun ds K h => h.1) (fun cdv A outer s H vs Q E1 hr h => ⟨sS [] g_is_whole, PSs.nox ?_, ent (by decide) (fun ds K h => ⟨(fun i hi => by rw [h.1]; revert i; decide), h.2⟩) vs H Q E1 h⟩), q_is_whole E, F.kp, F.bindsN fun _ _ _ _ _ _ us hl => match us, hl with | [_], _ => rfl⟩
  exact (s_one (s_ret (r_and (V_of_R (w_isi .i (pe_callB call_isi rfl (q_isinstance E) PyProof.Rows.boot_isinstance (pa_cons (V_of_R (r_var (pv 0))) (pa_cons (pe_bltn rfl (q_int E) PyProof.Rows.boot_int rfl) pa_nil))))) (r_one (r_not (V_of_R (w_isi .b (pe_callB call_isi rfl (q_isinstance E) PyProof.Rows.boot_isinstance (pa_cons (V_of_R (r_var (pv 0))) (pa_cons (pe_bltn rfl (q_bool E) PyProof.Rows.boot_bool rfl) pa_nil))))))))))
end
end Kb
set_option Elab.async false
set_option linter.all false
set_option maxRecDepth 100000
set_option maxHeartbeats 2000000
namespace Kb
open PySem PySem.Spec PyProof.Rows L2
section
variable {P : Program} {w : World} {K : PySem.W.Frag} {mg : Str → Option Value} {base : Heap}
theorem sc_is_web : FnScope ["value", "lot"] ["value"] (defScope (top 21)) := ⟨rfl, rfl, rfl, by decide +kernel, rfl, by decide +kernel, by decide +kernel⟩
def g_is_web : DS := (dRet (dAndV (dUn (fun d K => K (.bool (isT "tuple" d))) (dVar 0)) (dAndV (dLe (dB bLen (dCons (dVar 0) dNil)) (dC (.int 12))) (dB (bBools fun bs => bs.all id) (dCons (dLst (dLc (dIt (dVar 0)) (pName 1) dYes (dCall R_is_lot (dCons (dVar 1) dNil)) [1])) dNil)))))
def R_is_web : Rl := fun ds K => ds.length = 1 ∧ g_is_web { nx := fun _ => K .none, rt := K, rl := fun _ => False } (startE 2 ds)
theorem c_is_web (E : Ev K mg) : Cal P w K mg base 3 "is_web" (Pr R_is_web) := by
  obtain ⟨fd, F⟩ := f_is_web E
  refine ⟨_, fd, ["value"], F.ok sc_is_web (len_pr fun ds K h => h.1) (fun cdv A outer s H vs Q E1 hr h => ⟨sS [] g_is_web, PSs.nox ?_, ent (by decide) (fun ds K h => ⟨(fun i hi => by rw [h.1]; revert i; decide), h.2⟩) vs H Q E1 h⟩), q_is_web E, F.kp, F.bindsN fun _ _ _ _ _ _ us hl => match us, hl with | [_], _ => rfl⟩
  exact (s_one (s_ret (r_and (V_of_R (w_isi .t (pe_callB call_isi rfl (q_isinstance E) PyProof.Rows.boot_isinstance (pa_cons (V_of_R (r_var (pv 0))) (pa_cons (pe_bltn rfl (q_tuple E) PyProof.Rows.boot_tuple rfl) pa_nil))))) (r_and (V_of_R (r_le (V_of_R (w_len (pe_callB call_len_seq rfl (q_len E) PySem.boot_len (a_consV (V_of_R (r_var (pv 0))) a_nilV)))) (V_of_R (r_globI rfl (q_MOST_PARTS E))))) (r_one (w_all (pe_callB (cr_all rfl) rfl (q_all E) PyProof.Rows.boot_all (a_consV (V_of_L (l_lc (gt := dYes) (ge := (dCall R_is_lot (dCons (dVar 1) dNil))) (gi := (dIt (dVar 0))) tg_name (pe_lc (own := [("lot", 1)]) rfl sc_is_web.nd  (i_seq (W_of_R (r_var (pv 0)))) (blkOk_by (own := [("lot", 1)]) rfl) (fun _ _ _ _ _ => (pgn 1 sc_is_web.nd)) (fun _ _ _ _ _ => pts_yes) (fun _ _ _ _ _ => (r_call rfl (pe_cal (c_is_lot E) hr (by decide) rfl (a_cons (r_var (pv 1)) a_nil))))))) a_nilV))))))))
theorem sc_is_place : FnScope ["value", "many"] ["value", "many"] (defScope (top 22)) := ⟨rfl, rfl, rfl, by decide +kernel, rfl, by decide +kernel, by decide +kernel⟩
def g_is_place : DS := (dRet (dAndV (dCall R_is_whole (dCons (dVar 0) dNil)) (dCh (dC (.int 0)) (dVar 0) (dVar 1))))
def R_is_place : Rl := fun ds K => ds.length = 2 ∧ g_is_place { nx := fun _ => K .none, rt := K, rl := fun _ => False } (startE 2 ds)
theorem c_is_place (E : Ev K mg) : Cal P w K mg base 2 "is_place" (Pr R_is_place) := by
  obtain ⟨fd, F⟩ := f_is_place E
  refine ⟨_, fd, ["value", "many"], F.ok sc_is_place (len_pr fun ds K h => h.1) (fun cdv A outer s H vs Q E1 hr h => ⟨sS [] g_is_place, PSs.nox ?_, ent (by decide) (fun ds K h => ⟨(fun i hi => by rw [h.1]; revert i; decide), h.2⟩) vs H Q E1 h⟩), q_is_place E, F.kp, F.bindsN fun _ _ _ _ _ _ us hl => match us, hl with | [_, _], _ => rfl⟩
  exact (s_one (s_ret (r_and (V_of_R (r_call rfl (pe_cal (c_is_whole E) hr (by decide) rfl (a_cons (r_var (pv 0)) a_nil)))) (r_one (r_chain (pe_chain op_le op_lt (V_of_R r_int) (V_of_R (r_var (pv 0))) (V_of_R (r_var (pv 1)))))))))
theorem sc_leads_up : FnScope ["tree", "place", "here", "step"] ["tree", "place"] (defScope (top 23)) := ⟨rfl, rfl, rfl, by decide +kernel, rfl, by decide +kernel, by decide +kernel⟩
def g_leads_up : DS := (dSeq (dSet 2 (dVar 1)) (dSeq (dFor (dIt (dVar 0)) (pName 3) (dSeq (dIfS (dBool (dIsN (dIx (dVar 0) (dVar 2)))) (dRet (dC (.bool true))) dSkip) (dSet 2 (dIx (dVar 0) (dVar 2))))) (dRet (dC (.bool false)))))
def R_leads_up : Rl := fun ds K => ds.length = 2 ∧ g_leads_up { nx := fun _ => K .none, rt := K, rl := fun _ => False } (startE 4 ds)
theorem c_leads_up (E : Ev K mg) : Cal P w K mg base 1 "leads_up" (Pr R_leads_up) := by
  obtain ⟨fd, F⟩ := f_leads_up E
  refine ⟨_, fd, ["tree", "place"], F.ok sc_leads_up (len_pr fun ds K h => h.1) (fun cdv A outer s H vs Q E1 hr h => ⟨sS [] g_leads_up, PSs.nox ?_, ent (by decide) (fun ds K h => ⟨(fun i hi => by rw [h.1]; revert i; decide), h.2⟩) vs H Q E1 h⟩), q_leads_up E, F.kp, F.bindsN fun _ _ _ _ _ _ us hl => match us, hl with | [_, _], _ => rfl⟩
  exact (s_cons (s_set (j := 2) (g := (dVar 1)) (ps_set (i := 2) sc_leads_up.nd rfl (by first | exact Or.inl rfl | exact Or.inr rfl) (S_of_R (r_var (pv 1)))) (fun _ _ _ q => q)) (s_cons (s_for (gi := (dIt (dVar 0))) (gb := (dSeq (dIfS (dBool (dIsN (dIx (dVar 0) (dVar 2)))) (dRet (dC (.bool true))) dSkip) (dSet 2 (dIx (dVar 0) (dVar 2))))) PassesOwn.never rfl (i_seqR (r_var (pv 0))) (pgn 3 sc_leads_up.nd) tg_name (s_cons (s_if (t_isN (V_of_R (r_ix (W_of_R (r_var (pv 0))) (V_of_R (r_var (pv 2))) (fun _ _ => rfl)))) (s_one (s_ret r_bl)) s_nil) (s_one (s_set (j := 2) (g := (dIx (dVar 0) (dVar 2))) (ps_set (i := 2) sc_leads_up.nd rfl (by first | exact Or.inl rfl | exact Or.inr rfl) (S_of_R (r_ix (W_of_R (r_var (pv 0))) (V_of_R (r_var (pv 2))) (fun _ _ => rfl)))) (fun _ _ _ q => q))))) (s_one (s_ret r_bl))))
theorem sc_begins : FnScope ["lots", "tree", "place", "letter"] ["lots", "tree", "place", "letter"] (defScope (top 24)) := ⟨rfl, rfl, rfl, by decide +kernel, rfl, by decide +kernel, by decide +kernel⟩
def g_begins : DS := (dRet (dAndV (dIn (dVar 3) (dIx (dVar 0) (dVar 2))) (dOrV (dIsN (dIx (dVar 1) (dVar 2))) (dNin (dVar 3) (dIx (dVar 0) (dIx (dVar 1) (dVar 2)))))))
def R_begins : Rl := fun ds K => ds.length = 4 ∧ g_begins { nx := fun _ => K .none, rt := K, rl := fun _ => False } (startE 4 ds)
theorem c_begins (E : Ev K mg) : Cal P w K mg base 1 "begins" (Pr R_begins) := by
  obtain ⟨fd, F⟩ := f_begins E
  refine ⟨_, fd, ["lots", "tree", "place", "letter"], F.ok sc_begins (len_pr fun ds K h => h.1) (fun cdv A outer s H vs Q E1 hr h => ⟨sS [] g_begins, PSs.nox ?_, ent (by decide) (fun ds K h => ⟨(fun i hi => by rw [h.1]; revert i; decide), h.2⟩) vs H Q E1 h⟩), q_begins E, F.kp, F.bindsN fun _ _ _ _ _ _ us hl => match us, hl with | [_, _, _, _], _ => rfl⟩
  exact (s_one (s_ret (r_and (V_of_R (r_in (V_of_R (r_var (pv 3))) (V_of_R (r_ix (W_of_R (r_var (pv 0))) (V_of_R (r_var (pv 2))) (fun _ _ => rfl))))) (r_one (r_or (V_of_R (r_isN (V_of_R (r_ix (W_of_R (r_var (pv 1))) (V_of_R (r_var (pv 2))) (fun _ _ => rfl))))) (r_one (r_nin (V_of_R (r_var (pv 3))) (V_of_R (r_ix (W_of_R (r_var (pv 0))) (V_of_R (r_ix (W_of_R (r_var (pv 1))) (V_of_R (r_var (pv 2))) (fun _ _ => rfl))) (fun _ _ => rfl))))))))))
theorem sc_does_hang : FnScope ["lots", "tree", "letter", "place"] ["lots", "tree", "letter"] (defScope (top 25)) := ⟨rfl, rfl, rfl, by decide +kernel, rfl, by decide +kernel, by decide +kernel⟩
def g_does_hang : DS := (dRet (dEq (dB bLen (dCons (dLst (dLc (dRg (dB bLen (dCons (dVar 0) dNil))) (pName 3) (dBool (dCall R_begins (dCons (dVar 0) (dCons (dVar 1) (dCons (dVar 3) (dCons (dVar 2) dNil)))))) (dVar 3) [3])) dNil)) (dC (.int 1))))
def R_does_hang : Rl := fun ds K => ds.length = 3 ∧ g_does_hang { nx := fun _ => K .none, rt := K, rl := fun _ => False } (startE 4 ds)
theorem c_does_hang (E : Ev K mg) : Cal P w K mg base 2 "does_hang" (Pr R_does_hang) := by
  obtain ⟨fd, F⟩ := f_does_hang E
  refine ⟨_, fd, ["lots", "tree", "letter"], F.ok sc_does_hang (len_pr fun ds K h => h.1) (fun cdv A outer s H vs Q E1 hr h => ⟨sS [] g_does_hang, PSs.nox ?_, ent (by decide) (fun ds K h => ⟨(fun i hi => by rw [h.1]; revert i; decide), h.2⟩) vs H Q E1 h⟩), q_does_hang E, F.kp, F.bindsN fun _ _ _ _ _ _ us hl => match us, hl with | [_, _, _], _ => rfl⟩
  exact (s_one (s_ret (r_eq hr.units (V_of_R (w_len (pe_callB call_len_seq rfl (q_len E) PySem.boot_len (a_consV (V_of_L (l_lc (gt := (dBool (dCall R_begins (dCons (dVar 0) (dCons (dVar 1) (dCons (dVar 3) (dCons (dVar 2) dNil))))))) (ge := (dVar 3)) (gi := (dRg (dB bLen (dCons (dVar 0) dNil)))) tg_name (pe_lc (own := [("place", 3)]) rfl sc_does_hang.nd  (I_of_R (i_rng rfl (q_range E) (V_of_R (w_len (pe_callB call_len_seq rfl (q_len E) PySem.boot_len (a_consV (V_of_R (r_var (pv 0))) a_nilV)))))) (blkOk_by (own := [("place", 3)]) rfl) (fun _ _ _ _ _ => (pgn 3 sc_does_hang.nd)) (fun _ _ _ _ _ => (pts_one (t_val (r_call rfl (pe_cal (c_begins E) hr (by decide) rfl (a_cons (r_var (pv 0)) (a_cons (r_var (pv 1)) (a_cons (r_var (pv 3)) (a_cons (r_var (pv 2)) a_nil))))))))) (fun _ _ _ _ _ => (r_var (pv 3)))))) a_nilV)))) (V_of_R r_int))))
theorem sc_is_tree_in : FnScope ["lots", "value", "above", "at", "letter"] ["lots", "value"] (defScope (top 26)) := ⟨rfl, rfl, rfl, by decide +kernel, rfl, by decide +kernel, by decide +kernel⟩
def g_is_tree_in : DS := (dSeq (dIfS (dOr (dNot (dBool (dUn (fun d K => K (.bool (isT "tuple" d))) (dVar 1)))) (dBool (dNe (dB bLen (dCons (dVar 1) dNil)) (dB bLen (dCons (dVar 0) dNil))))) (dRet (dC (.bool false))) dSkip) (dSeq (dIfS (dNot (dBool (dB (bBools fun bs => bs.all id) (dCons (dLst (dLc (dIt (dVar 1)) (pName 2) dYes (dOrV (dIsN (dVar 2)) (dCall R_is_place (dCons (dVar 2) (dCons (dB bLen (dCons (dVar 0) dNil)) dNil)))) [2])) dNil)))) (dRet (dC (.bool false))) dSkip) (dSeq (dIfS (dBool (dEq (dVar 1) (dTup dNil))) (dRet (dC (.bool true))) dSkip) (dSeq (dIfS (dOr (dBool (dNe (dCnt (dVar 1) (dC .none)) (dC (.int 1)))) (dNot (dBool (dB (bBools fun bs => bs.all id) (dCons (dLst (dLc (dRg (dB bLen (dCons (dVar 1) dNil))) (pName 3) dYes (dCall R_leads_up (dCons (dVar 1) (dCons (dVar 3) dNil))) [3])) dNil))))) (dRet (dC (.bool false))) dSkip) (dRet (dB (bBools fun bs => bs.all id) (dCons (dLst (dLc (dIt (dCall R_all_letters (dCons (dVar 0) dNil))) (pName 4) dYes (dCall R_does_hang (dCons (dVar 0) (dCons (dVar 1) (dCons (dVar 4) dNil)))) [4])) dNil)))))))
def R_is_tree_in : Rl := fun ds K => ds.length = 2 ∧ g_is_tree_in { nx := fun _ => K .none, rt := K, rl := fun _ => False } (startE 5 ds)
theorem c_is_tree_in (E : Ev K mg) : Cal P w K mg base 3 "is_tree_in" (Pr R_is_tree_in) := by
  obtain ⟨fd, F⟩ := f_is_tree_in E
  refine ⟨_, fd, ["lots", "value"], F.ok sc_is_tree_in (len_pr fun ds K h => h.1) (fun cdv A outer s H vs Q E1 hr h => ⟨sS [] g_is_tree_in, PSs.nox ?_, ent (by decide) (fun ds K h => ⟨(fun i hi => by rw [h.1]; revert i; decide), h.2⟩) vs H Q E1 h⟩), q_is_tree_in E, F.kp, F.bindsN fun _ _ _ _ _ _ us hl => match us, hl with | [_, _], _ => rfl⟩
  exact (s_cons (s_if (PW.pt (t_or (t_not (t_val (w_isi .t (pe_callB call_isi rfl (q_isinstance E) PyProof.Rows.boot_isinstance (pa_cons (V_of_R (r_var (pv 1))) (pa_cons (pe_bltn rfl (q_tuple E) PyProof.Rows.boot_tuple rfl) pa_nil)))))) (t_or1 (t_ne hr.units (V_of_R (w_len (pe_callB call_len_seq rfl (q_len E) PySem.boot_len (a_consV (V_of_R (r_var (pv 1))) a_nilV)))) (V_of_R (w_len (pe_callB call_len_seq rfl (q_len E) PySem.boot_len (a_consV (V_of_R (r_var (pv 0))) a_nilV)))))))) (s_one (s_ret r_bl)) s_nil) (s_cons (s_if (t_not (t_val (w_all (pe_callB (cr_all rfl) rfl (q_all E) PyProof.Rows.boot_all (a_consV (V_of_L (l_lc (gt := dYes) (ge := (dOrV (dIsN (dVar 2)) (dCall R_is_place (dCons (dVar 2) (dCons (dB bLen (dCons (dVar 0) dNil)) dNil))))) (gi := (dIt (dVar 1))) tg_name (pe_lc (own := [("above", 2)]) rfl sc_is_tree_in.nd  (i_seq (W_of_R (r_var (pv 1)))) (blkOk_by (own := [("above", 2)]) rfl) (fun _ _ _ _ _ => (pgn 2 sc_is_tree_in.nd)) (fun _ _ _ _ _ => pts_yes) (fun _ _ _ _ _ => (r_or (V_of_R (r_isN (V_of_R (r_var (pv 2))))) (r_one (r_call rfl (pe_cal (c_is_place E) hr (by decide) rfl (a_cons (r_var (pv 2)) (a_cons (w_len (pe_callB call_len_seq rfl (q_len E) PySem.boot_len (a_consV (V_of_R (r_var (pv 0))) a_nilV))) a_nil)))))))))) a_nilV))))) (s_one (s_ret r_bl)) s_nil) (s_cons (s_if (t_eq hr.units (V_of_R (r_var (pv 1))) (V_of_R (r_tup a_nil))) (s_one (s_ret r_bl)) s_nil) (s_cons (s_if (PW.pt (t_or (t_ne hr.units (V_of_R (r_count (pe_count (r_var (pv 1)) r_non))) (V_of_R r_int)) (t_or1 (t_not (t_val (w_all (pe_callB (cr_all rfl) rfl (q_all E) PyProof.Rows.boot_all (a_consV (V_of_L (l_lc (gt := dYes) (ge := (dCall R_leads_up (dCons (dVar 1) (dCons (dVar 3) dNil)))) (gi := (dRg (dB bLen (dCons (dVar 1) dNil)))) tg_name (pe_lc (own := [("at", 3)]) rfl sc_is_tree_in.nd  (I_of_R (i_rng rfl (q_range E) (V_of_R (w_len (pe_callB call_len_seq rfl (q_len E) PySem.boot_len (a_consV (V_of_R (r_var (pv 1))) a_nilV)))))) (blkOk_by (own := [("at", 3)]) rfl) (fun _ _ _ _ _ => (pgn 3 sc_is_tree_in.nd)) (fun _ _ _ _ _ => pts_yes) (fun _ _ _ _ _ => (r_call rfl (pe_cal (c_leads_up E) hr (by decide) rfl (a_cons (r_var (pv 1)) (a_cons (r_var (pv 3)) a_nil)))))))) a_nilV)))))))) (s_one (s_ret r_bl)) s_nil) (s_one (s_ret (w_all (pe_callB (cr_all rfl) rfl (q_all E) PyProof.Rows.boot_all (a_consV (V_of_L (l_lc (gt := dYes) (ge := (dCall R_does_hang (dCons (dVar 0) (dCons (dVar 1) (dCons (dVar 4) dNil))))) (gi := (dIt (dCall R_all_letters (dCons (dVar 0) dNil)))) tg_name (pe_lc (own := [("letter", 4)]) rfl sc_is_tree_in.nd  (i_seq (W_of_R (r_call rfl (pe_cal (c_all_letters E) hr (by decide) rfl (a_cons (r_var (pv 0)) a_nil))))) (blkOk_by (own := [("letter", 4)]) rfl) (fun _ _ _ _ _ => (pgn 4 sc_is_tree_in.nd)) (fun _ _ _ _ _ => pts_yes) (fun _ _ _ _ _ => (r_call rfl (pe_cal (c_does_hang E) hr (by decide) rfl (a_cons (r_var (pv 0)) (a_cons (r_var (pv 1)) (a_cons (r_var (pv 4)) a_nil))))))))) a_nilV)))))))))
theorem sc_nearest_tree : FnScope ["lots", "found", "taken", "left", "pairs", "least", "at", "above"] ["lots"] (defScope (top 27)) := ⟨rfl, rfl, rfl, by decide +kernel, rfl, by decide +kernel, by decide +kernel⟩
def g_nearest_tree : DS := (dSeq (dIfS (dBool (dEq (dVar 0) (dTup dNil))) (dRet (dTup dNil)) dSkip) (dSeq (dPar 1 2 (dLst (dRep (dLst (dDis (dCons (dC .none) dNil))) (dB bLen (dCons (dVar 0) dNil)))) (dLst (dDis (dCons (dC (.int 0)) dNil)))) (dSeq (dWhile (dBool (dLt (dB bLen (dCons (dOwn 2) dNil)) (dB bLen (dCons (dVar 0) dNil)))) (dSeq (dSet 3 (dLst (dLc (dRg (dB bLen (dCons (dVar 0) dNil))) (pName 6) (dBool (dNin (dVar 6) (dOwn 2))) (dVar 6) [6]))) (dSeq (dSet 4 (dLst (dLc2 6 7 2 (dIt (dVar 3)) (dTup (dCons (dNeg (dB bLen (dCons (dCall R_common_in (dCons (dIx (dVar 0) (dVar 6)) (dCons (dIx (dVar 0) (dVar 7)) dNil))) dNil))) (dCons (dVar 6) (dCons (dVar 7) dNil)))) [6, 7] [7]))) (dSeq (dTg (dMinT (dVar 4)) (pThree 5 6 7)) (dSeq (dSetI 1 (dVar 6) (dVar 7)) (dApp 2 (dVar 6))))))) (dRet (dTupOf (dOwn 1))))))
def R_nearest_tree : Rl := fun ds K => ds.length = 1 ∧ g_nearest_tree { nx := fun _ => K .none, rt := K, rl := fun _ => False } (startE 8 ds)
theorem c_nearest_tree (E : Ev K mg) : Cal P w K mg base 2 "nearest_tree" (Pr R_nearest_tree) := by
  obtain ⟨fd, F⟩ := f_nearest_tree E
  refine ⟨_, fd, ["lots"], F.ok sc_nearest_tree (len_pr fun ds K h => h.1) (fun cdv A outer s H vs Q E1 hr h => ⟨sS [1, 2] g_nearest_tree, PSs.nox ?_, ent (by decide) (fun ds K h => ⟨(fun i hi => by rw [h.1]; revert i; decide), h.2⟩) vs H Q E1 h⟩), q_nearest_tree E, F.kp, F.bindsN fun _ _ _ _ _ _ us hl => match us, hl with | [_], _ => rfl⟩
  exact (s_cons (s_if (t_eq hr.units (V_of_R (r_var (pv 0))) (V_of_R (r_tup a_nil))) (s_one (s_ret (r_tup a_nil))) s_nil) (s_cons (s_par2 (g := (dLst (dRep (dLst (dDis (dCons (dC .none) dNil))) (dB bLen (dCons (dVar 0) dNil))))) (h := (dLst (dDis (dCons (dC (.int 0)) dNil)))) (ps_asg (pe_tupA (pa_cons (S_of_L (l_rep (W_of_L (l_lst (a_cons r_non a_nil))) (V_of_R (w_len (pe_callB call_len_seq rfl (q_len E) PySem.boot_len (a_consV (V_of_R (r_var (pv 0))) a_nilV)))))) (pa_cons (S_of_L (l_lst (a_cons r_int a_nil))) pa_nil))) (pg_tup rfl (pgs_cons (pgn 1 sc_nearest_tree.nd) (pgs_cons (pgn 2 sc_nearest_tree.nd) pgs_nil)))) (fun _ _ _ q => q)) (s_cons (s_while (t := (dBool (dLt (dB bLen (dCons (dOwn 2) dNil)) (dB bLen (dCons (dVar 0) dNil))))) (gb := (dSeq (dSet 3 (dLst (dLc (dRg (dB bLen (dCons (dVar 0) dNil))) (pName 6) (dBool (dNin (dVar 6) (dOwn 2))) (dVar 6) [6]))) (dSeq (dSet 4 (dLst (dLc2 6 7 2 (dIt (dVar 3)) (dTup (dCons (dNeg (dB bLen (dCons (dCall R_common_in (dCons (dIx (dVar 0) (dVar 6)) (dCons (dIx (dVar 0) (dVar 7)) dNil))) dNil))) (dCons (dVar 6) (dCons (dVar 7) dNil)))) [6, 7] [7]))) (dSeq (dTg (dMinT (dVar 4)) (pThree 5 6 7)) (dSeq (dSetI 1 (dVar 6) (dVar 7)) (dApp 2 (dVar 6))))))) PassesOwn.never (t_lt (V_of_R (w_len (pe_callB call_len_seq rfl (q_len E) PySem.boot_len (a_consV (v_own (pv 2)) a_nilV)))) (V_of_R (w_len (pe_callB call_len_seq rfl (q_len E) PySem.boot_len (a_consV (V_of_R (r_var (pv 0))) a_nilV))))) (s_cons (s_set (j := 3) (g := (dLst (dLc (dRg (dB bLen (dCons (dVar 0) dNil))) (pName 6) (dBool (dNin (dVar 6) (dOwn 2))) (dVar 6) [6]))) (ps_setLc (i := 3) (own := [("at", 6)]) rfl sc_nearest_tree.nd rfl rfl (sw_true rfl rfl rfl (by decide +kernel)) (I_of_R (i_rng rfl (q_range E) (V_of_R (w_len (pe_callB call_len_seq rfl (q_len E) PySem.boot_len (a_consV (V_of_R (r_var (pv 0))) a_nilV)))))) (blkOk_by (own := [("at", 6)]) rfl) (fun _ _ _ _ _ => (pgn 6 sc_nearest_tree.nd)) (fun _ _ _ _ _ => (pts_one (t_nin (V_of_R (r_var (pv 6))) (v_own (pv 2))))) (fun _ _ _ _ _ => (r_var (pv 6)))) (fun σ H Q q => lc_imp (O := [1, 2]) (gt := (dBool (dNin (dVar 6) (dOwn 2)))) (ge := (dVar 6)) (gi := (dRg (dB bLen (dCons (dVar 0) dNil)))) tg_name (by decide) (by decide) (fun _ _ _ q => q) (fun _ _ _ q => q) (fun _ _ _ q => q) (R_imp_L (S_imp_R (by decide) q)))) (s_cons (s_set (j := 4) (g := (dLst (dLc2 6 7 2 (dIt (dVar 3)) (dTup (dCons (dNeg (dB bLen (dCons (dCall R_common_in (dCons (dIx (dVar 0) (dVar 6)) (dCons (dIx (dVar 0) (dVar 7)) dNil))) dNil))) (dCons (dVar 6) (dCons (dVar 7) dNil)))) [6, 7] [7]))) (ps_setLc2 (i := 4) (own := [("at", 6), ("above", 7)]) (vs1 := [7]) rfl sc_nearest_tree.nd rfl rfl (sw_true rfl rfl rfl (by decide +kernel)) (i_seq (W_of_R (r_var (pv 3)))) (blkOk_by (own := [("at", 6), ("above", 7)]) rfl) (by decide) (fun _ _ _ _ _ => (pgn 6 sc_nearest_tree.nd)) (fun _ _ _ _ _ => pts_nil) (fun _ _ _ _ _ => pi_list (pv 2)) (fun _ _ _ _ _ => (pgn 7 sc_nearest_tree.nd)) (fun _ _ _ _ _ => pts_nil) (fun _ _ _ _ _ => (r_tup (a_cons (r_neg (V_of_R (w_len (pe_callB call_len_seq rfl (q_len E) PySem.boot_len (a_consV (V_of_R (r_call rfl (pe_cal (c_common_in E) hr (by decide) rfl (a_cons (r_ix (W_of_R (r_var (pv 0))) (V_of_R (r_var (pv 6))) (fun _ _ => rfl)) (a_cons (r_ix (W_of_R (r_var (pv 0))) (V_of_R (r_var (pv 7))) (fun _ _ => rfl)) a_nil))))) a_nilV))))) (a_cons (r_var (pv 6)) (a_cons (r_var (pv 7)) a_nil)))))) (fun σ H Q q => lc2_imp (O := [1, 2]) (by decide) (by decide) (by decide) (by decide) (by decide) (by decide) (by decide) (by decide) (by decide) (by decide) (by decide) (by decide) (R_imp_L (S_imp_R (by decide) q)))) (s_cons (s_tg (b := true) (g := (dMinT (dVar 4))) (ps_asg (w_minT (pe_callB (cr_minT rfl hr.units) rfl (q_min E) PyProof.Rows.boot_min (pa_cons (W_of_R (r_var (pv 4))) pa_nil))) (pg_tup rfl (pgs_cons (pgn 5 sc_nearest_tree.nd) (pgs_cons (pgn 6 sc_nearest_tree.nd) (pgs_cons (pgn 7 sc_nearest_tree.nd) pgs_nil))))) tg_three (fun _ _ _ q => q)) (s_cons (s_setI (ge := (dVar 7)) (ps_asg (r_var (pv 7)) (pg_sub (pv 1) (r_var (pv 6)) set_list)) (fun _ _ _ q => q)) (s_one (s_app (ps_expr (pe_bm PySem.F.plainAttrs_list PySem.F.slot_list_append PySem.F.type_list_append mt_append (pv 2) (pa_cons (r_var (pv 6)) pa_nil)))))))))) (s_one (s_ret (w_tup (pe_callTy call_tupleA rfl (q_tuple E) PyProof.Rows.boot_tuple (pa_cons (w_own (pv 1)) pa_nil))))))))
theorem sc_greatest_lots : FnScope ["lots", "some", "lot", "other"] ["lots"] (defScope (top 28)) := ⟨rfl, rfl, rfl, by decide +kernel, rfl, by decide +kernel, by decide +kernel⟩
def g_greatest_lots : DS := (dSeq (dSet 1 (dLst (dListM (dKeysT 2 (dIt (dVar 0)))))) (dRetL (dLc (dIt (dVar 1)) (pName 2) (dNot (dBool (dB (bBools fun bs => bs.any id) (dCons (dLst (dLc (dIt (dVar 1)) (pName 3) dYes (dAndV (dNe (dVar 2) (dVar 3)) (dCall R_within_in (dCons (dVar 2) (dCons (dVar 3) dNil)))) [3])) dNil)))) (dVar 2) [2])))
def R_greatest_lots : RlL := fun ds K => ds.length = 1 ∧ g_greatest_lots { nx := fun _ => False, rt := fun _ => False, rl := K } (startE 4 ds)
theorem c_greatest_lots (E : Ev K mg) : Cal P w K mg base 2 "greatest_lots" (PrL R_greatest_lots) := by
  obtain ⟨fd, F⟩ := f_greatest_lots E
  refine ⟨_, fd, ["lots"], F.ok sc_greatest_lots (len_prL fun ds K h => h.1) (fun cdv A outer s H vs Q E1 hr h => ⟨sS [] g_greatest_lots, PSs.nox ?_, entL (by decide) (fun ds K h => ⟨(fun i hi => by rw [h.1]; revert i; decide), h.2⟩) vs H Q E1 h⟩), q_greatest_lots E, F.kp, F.bindsN fun _ _ _ _ _ _ us hl => match us, hl with | [_], _ => rfl⟩
  exact (s_cons (s_set (j := 1) (g := (dLst (dListM (dKeysT 2 (dIt (dVar 0)))))) (ps_set (i := 1) sc_greatest_lots.nd rfl (by first | exact Or.inl rfl | exact Or.inr rfl) (S_of_R (R_of_L (w_listM (pe_callTy (cr_listDT rfl) rfl (q_list E) PyProof.Rows.boot_list (pa_cons (w_d1T (gi := (dIt (dVar 0))) (pe_d1 (own := [("lot", 2)]) rfl sc_greatest_lots.nd (i_seq (W_of_R (r_var (pv 0)))) (blkOk_by (own := [("lot", 2)]) rfl) nwT_ok (fun _ _ _ _ _ => (pgn 2 sc_greatest_lots.nd)) (fun _ _ _ _ _ => pts_nil) (fun _ _ _ _ _ => pv 2) (fun _ _ _ _ _ => pe_bl) (fun _ _ _ _ => stT_ok rfl rfl rfl (Nat.lt_of_le_of_lt (Nat.le_add_right _ 64) hr.units)))) pa_nil)))))) (fun _ _ _ q => q)) (s_one (s_retL (l_lc (gt := (dNot (dBool (dB (bBools fun bs => bs.any id) (dCons (dLst (dLc (dIt (dVar 1)) (pName 3) dYes (dAndV (dNe (dVar 2) (dVar 3)) (dCall R_within_in (dCons (dVar 2) (dCons (dVar 3) dNil)))) [3])) dNil))))) (ge := (dVar 2)) (gi := (dIt (dVar 1))) tg_name (pe_lc (own := [("lot", 2)]) rfl sc_greatest_lots.nd  (i_seq (W_of_R (r_var (pv 1)))) (blkOk_by (own := [("lot", 2)]) rfl) (fun _ _ _ _ _ => (pgn 2 sc_greatest_lots.nd)) (fun _ _ _ _ _ => (pts_one (t_not (t_val (w_any (pe_callB (cr_any rfl) rfl (q_any E) PyProof.Rows.boot_any (a_consV (V_of_L (l_lc (gt := dYes) (ge := (dAndV (dNe (dVar 2) (dVar 3)) (dCall R_within_in (dCons (dVar 2) (dCons (dVar 3) dNil))))) (gi := (dIt (dVar 1))) tg_name (pe_lc (own := [("other", 3)]) rfl sc_greatest_lots.nd  (i_seq (W_of_R (r_var (pv 1)))) (blkOk_by (own := [("other", 3)]) rfl) (fun _ _ _ _ _ => (pgn 3 sc_greatest_lots.nd)) (fun _ _ _ _ _ => pts_yes) (fun _ _ _ _ _ => (r_and (V_of_R (r_ne hr.units (V_of_R (r_var (pv 2))) (V_of_R (r_var (pv 3))))) (r_one (r_call rfl (pe_cal (c_within_in E) hr (by decide) rfl (a_cons (r_var (pv 2)) (a_cons (r_var (pv 3)) a_nil)))))))))) a_nilV))))))) (fun _ _ _ _ _ => (r_var (pv 2))))))))
theorem sc_lots_of_rests : FnScope ["some", "at"] ["some"] (defScope (top 30)) := ⟨rfl, rfl, rfl, by decide +kernel, rfl, by decide +kernel, by decide +kernel⟩
def g_lots_of_rests : DS := (dRetL (dSortT (dLst (dLc (dRg (dB bLen (dCons (dVar 0) dNil))) (pName 1) dYes (dCat (dCutT (dVar 0) dNo (dAt (dVar 1))) (dCutT (dVar 0) (dAt (dAdd (dVar 1) (dC (.int 1)))) dNo)) [1]))))
def R_lots_of_rests : RlL := fun ds K => ds.length = 1 ∧ g_lots_of_rests { nx := fun _ => False, rt := fun _ => False, rl := K } (startE 2 ds)
theorem c_lots_of_rests (E : Ev K mg) : Cal P w K mg base 1 "lots_of_rests" (PrL R_lots_of_rests) := by
  obtain ⟨fd, F⟩ := f_lots_of_rests E
  refine ⟨_, fd, ["some"], F.ok sc_lots_of_rests (len_prL fun ds K h => h.1) (fun cdv A outer s H vs Q E1 hr h => ⟨sS [] g_lots_of_rests, PSs.nox ?_, entL (by decide) (fun ds K h => ⟨(fun i hi => by rw [h.1]; revert i; decide), h.2⟩) vs H Q E1 h⟩), q_lots_of_rests E, F.kp, F.bindsN fun _ _ _ _ _ _ us hl => match us, hl with | [_], _ => rfl⟩
  exact (s_one (s_retL (w_sortT (pe_callB (cr_sortTs hr.units) rfl (q_sorted E) PyProof.Rows.boot_sorted (pa_cons (W_of_L (l_lc (gt := dYes) (ge := (dCat (dCutT (dVar 0) dNo (dAt (dVar 1))) (dCutT (dVar 0) (dAt (dAdd (dVar 1) (dC (.int 1)))) dNo))) (gi := (dRg (dB bLen (dCons (dVar 0) dNil)))) tg_name (pe_lc (own := [("at", 1)]) rfl sc_lots_of_rests.nd  (I_of_R (i_rng rfl (q_range E) (V_of_R (w_len (pe_callB call_len_seq rfl (q_len E) PySem.boot_len (a_consV (V_of_R (r_var (pv 0))) a_nilV)))))) (blkOk_by (own := [("at", 1)]) rfl) (fun _ _ _ _ _ => (pgn 1 sc_lots_of_rests.nd)) (fun _ _ _ _ _ => pts_yes) (fun _ _ _ _ _ => (r_cat (r_cut (r_var (pv 0)) o_no (o_at (V_of_R (r_var (pv 1))))) (r_cut (r_var (pv 0)) (o_at (V_of_R (r_add (V_of_R (r_var (pv 1))) (V_of_R r_int)))) o_no)))))) pa_nil)))))
theorem sc_are_rests : FnScope ["some", "lots"] ["some", "lots"] (defScope (top 29)) := ⟨rfl, rfl, rfl, by decide +kernel, rfl, by decide +kernel, by decide +kernel⟩
def g_are_rests : DS := (dRet (dAndV (dGe (dB bLen (dCons (dVar 0) dNil)) (dC (.int 3))) (dEq (dLst (dSortT (dVar 1))) (dLst (dCallL R_lots_of_rests (dCons (dVar 0) dNil))))))
def R_are_rests : Rl := fun ds K => ds.length = 2 ∧ g_are_rests { nx := fun _ => K .none, rt := K, rl := fun _ => False } (startE 2 ds)
theorem c_are_rests (E : Ev K mg) : Cal P w K mg base 2 "are_rests" (Pr R_are_rests) := by
  obtain ⟨fd, F⟩ := f_are_rests E
  refine ⟨_, fd, ["some", "lots"], F.ok sc_are_rests (len_pr fun ds K h => h.1) (fun cdv A outer s H vs Q E1 hr h => ⟨sS [] g_are_rests, PSs.nox ?_, ent (by decide) (fun ds K h => ⟨(fun i hi => by rw [h.1]; revert i; decide), h.2⟩) vs H Q E1 h⟩), q_are_rests E, F.kp, F.bindsN fun _ _ _ _ _ _ us hl => match us, hl with | [_, _], _ => rfl⟩
  exact (s_one (s_ret (r_and (V_of_R (r_ge (V_of_R (w_len (pe_callB call_len_seq rfl (q_len E) PySem.boot_len (a_consV (V_of_R (r_var (pv 0))) a_nilV)))) (V_of_R (r_globI rfl (q_FEWEST E))))) (r_one (r_eq hr.units (V_of_L (w_sortT (pe_callB (cr_sortTs hr.units) rfl (q_sorted E) PyProof.Rows.boot_sorted (pa_cons (W_of_R (r_var (pv 1))) pa_nil)))) (V_of_L (l_call rfl (pe_cal (c_lots_of_rests E) hr (by decide) rfl (a_cons (r_var (pv 0)) a_nil)))))))))
theorem sc_is_ring : FnScope ["some", "lots", "gone", "step", "lot", "letter"] ["some", "lots"] (defScope (top 31)) := ⟨rfl, rfl, rfl, by decide +kernel, rfl, by decide +kernel, by decide +kernel⟩
def g_is_ring : DS := (dSeq (dIfS (dOr (dBool (dLe (dB bLen (dCons (dVar 0) dNil)) (dC (.int 3)))) (dOr (dBool (dNe (dB bLen (dCons (dVar 1) dNil)) (dB bLen (dCons (dVar 0) dNil)))) (dNot (dBool (dB (bBools fun bs => bs.all id) (dCons (dLst (dLc (dIt (dVar 1)) (pName 4) dYes (dEq (dB bLen (dCons (dVar 4) dNil)) (dC (.int 2))) [4])) dNil)))))) (dRet (dC (.bool false))) dSkip) (dSeq (dIfS (dNot (dBool (dB (bBools fun bs => bs.all id) (dCons (dLst (dLc (dIt (dVar 0)) (pName 5) dYes (dEq (dB bLen (dCons (dLst (dLc (dIt (dVar 1)) (pName 4) (dBool (dIn (dVar 5) (dVar 4))) (dVar 4) [4])) dNil)) (dC (.int 2))) [5])) dNil)))) (dRet (dC (.bool false))) dSkip) (dSeq (dSet 2 (dTup (dCons (dIx (dVar 0) (dC (.int 0))) dNil))) (dSeq (dFor (dIt (dVar 0)) (pName 3) (dSet 2 (dCall R_all_letters (dCons (dLst (dDis (dCons (dVar 2) (dStar (dLst (dLc (dIt (dVar 1)) (pName 4) (dBool (dNe (dCall R_common_in (dCons (dVar 4) (dCons (dVar 2) dNil))) (dTup dNil))) (dVar 4) [4])) dNil)))) dNil)))) (dRet (dEq (dVar 2) (dVar 0)))))))
def R_is_ring : Rl := fun ds K => ds.length = 2 ∧ g_is_ring { nx := fun _ => K .none, rt := K, rl := fun _ => False } (startE 6 ds)
theorem c_is_ring (E : Ev K mg) : Cal P w K mg base 2 "is_ring" (Pr R_is_ring) := by
  obtain ⟨fd, F⟩ := f_is_ring E
  refine ⟨_, fd, ["some", "lots"], F.ok sc_is_ring (len_pr fun ds K h => h.1) (fun cdv A outer s H vs Q E1 hr h => ⟨sS [] g_is_ring, PSs.nox ?_, ent (by decide) (fun ds K h => ⟨(fun i hi => by rw [h.1]; revert i; decide), h.2⟩) vs H Q E1 h⟩), q_is_ring E, F.kp, F.bindsN fun _ _ _ _ _ _ us hl => match us, hl with | [_, _], _ => rfl⟩
  exact (s_cons (s_if (PW.pt (t_or (t_le (V_of_R (w_len (pe_callB call_len_seq rfl (q_len E) PySem.boot_len (a_consV (V_of_R (r_var (pv 0))) a_nilV)))) (V_of_R (r_globI rfl (q_FEWEST E)))) (t_or (t_ne hr.units (V_of_R (w_len (pe_callB call_len_seq rfl (q_len E) PySem.boot_len (a_consV (V_of_R (r_var (pv 1))) a_nilV)))) (V_of_R (w_len (pe_callB call_len_seq rfl (q_len E) PySem.boot_len (a_consV (V_of_R (r_var (pv 0))) a_nilV))))) (t_or1 (t_not (t_val (w_all (pe_callB (cr_all rfl) rfl (q_all E) PyProof.Rows.boot_all (a_consV (V_of_L (l_lc (gt := dYes) (ge := (dEq (dB bLen (dCons (dVar 4) dNil)) (dC (.int 2)))) (gi := (dIt (dVar 1))) tg_name (pe_lc (own := [("lot", 4)]) rfl sc_is_ring.nd  (i_seq (W_of_R (r_var (pv 1)))) (blkOk_by (own := [("lot", 4)]) rfl) (fun _ _ _ _ _ => (pgn 4 sc_is_ring.nd)) (fun _ _ _ _ _ => pts_yes) (fun _ _ _ _ _ => (r_eq hr.units (V_of_R (w_len (pe_callB call_len_seq rfl (q_len E) PySem.boot_len (a_consV (V_of_R (r_var (pv 4))) a_nilV)))) (V_of_R (r_globI rfl (q_PAIR_webs E)))))))) a_nilV))))))))) (s_one (s_ret r_bl)) s_nil) (s_cons (s_if (t_not (t_val (w_all (pe_callB (cr_all rfl) rfl (q_all E) PyProof.Rows.boot_all (a_consV (V_of_L (l_lc (gt := dYes) (ge := (dEq (dB bLen (dCons (dLst (dLc (dIt (dVar 1)) (pName 4) (dBool (dIn (dVar 5) (dVar 4))) (dVar 4) [4])) dNil)) (dC (.int 2)))) (gi := (dIt (dVar 0))) tg_name (pe_lc (own := [("letter", 5)]) rfl sc_is_ring.nd  (i_seq (W_of_R (r_var (pv 0)))) (blkOk_by (own := [("letter", 5)]) rfl) (fun _ _ _ _ _ => (pgn 5 sc_is_ring.nd)) (fun _ _ _ _ _ => pts_yes) (fun _ _ _ _ _ => (r_eq hr.units (V_of_R (w_len (pe_callB call_len_seq rfl (q_len E) PySem.boot_len (a_consV (V_of_L (l_lc (gt := (dBool (dIn (dVar 5) (dVar 4)))) (ge := (dVar 4)) (gi := (dIt (dVar 1))) tg_name (pe_lc (own := [("lot", 4)]) rfl sc_is_ring.nd  (i_seq (W_of_R (r_var (pv 1)))) (blkOk_by (own := [("lot", 4)]) rfl) (fun _ _ _ _ _ => (pgn 4 sc_is_ring.nd)) (fun _ _ _ _ _ => (pts_one (t_in (V_of_R (r_var (pv 5))) (V_of_R (r_var (pv 4)))))) (fun _ _ _ _ _ => (r_var (pv 4)))))) a_nilV)))) (V_of_R (r_globI rfl (q_PAIR_webs E)))))))) a_nilV))))) (s_one (s_ret r_bl)) s_nil) (s_cons (s_set (j := 2) (g := (dTup (dCons (dIx (dVar 0) (dC (.int 0))) dNil))) (ps_set (i := 2) sc_is_ring.nd rfl (by first | exact Or.inl rfl | exact Or.inr rfl) (S_of_R (r_tup (a_cons (r_ix (W_of_R (r_var (pv 0))) (V_of_R r_int) (fun _ _ => rfl)) a_nil)))) (fun _ _ _ q => q)) (s_cons (s_for (gi := (dIt (dVar 0))) (gb := (dSet 2 (dCall R_all_letters (dCons (dLst (dDis (dCons (dVar 2) (dStar (dLst (dLc (dIt (dVar 1)) (pName 4) (dBool (dNe (dCall R_common_in (dCons (dVar 4) (dCons (dVar 2) dNil))) (dTup dNil))) (dVar 4) [4])) dNil)))) dNil)))) PassesOwn.never rfl (i_seqR (r_var (pv 0))) (pgn 3 sc_is_ring.nd) tg_name (s_one (s_set (j := 2) (g := (dCall R_all_letters (dCons (dLst (dDis (dCons (dVar 2) (dStar (dLst (dLc (dIt (dVar 1)) (pName 4) (dBool (dNe (dCall R_common_in (dCons (dVar 4) (dCons (dVar 2) dNil))) (dTup dNil))) (dVar 4) [4])) dNil)))) dNil))) (ps_set (i := 2) sc_is_ring.nd rfl (by first | exact Or.inl rfl | exact Or.inr rfl) (S_of_R (r_call rfl (pe_cal (c_all_letters E) hr (by decide) rfl (a_cons (R_of_L (l_lst (a_cons (r_var (pv 2)) (a_star (W_of_L (l_lc (gt := (dBool (dNe (dCall R_common_in (dCons (dVar 4) (dCons (dVar 2) dNil))) (dTup dNil)))) (ge := (dVar 4)) (gi := (dIt (dVar 1))) tg_name (pe_lc (own := [("lot", 4)]) rfl sc_is_ring.nd  (i_seq (W_of_R (r_var (pv 1)))) (blkOk_by (own := [("lot", 4)]) rfl) (fun _ _ _ _ _ => (pgn 4 sc_is_ring.nd)) (fun _ _ _ _ _ => (pts_one (t_ne hr.units (V_of_R (r_call rfl (pe_cal (c_common_in E) hr (by decide) rfl (a_cons (r_var (pv 4)) (a_cons (r_var (pv 2)) a_nil))))) (V_of_R (r_tup a_nil))))) (fun _ _ _ _ _ => (r_var (pv 4)))))) a_nil)))) a_nil))))) (fun _ _ _ q => q)))) (s_one (s_ret (r_eq hr.units (V_of_R (r_var (pv 2))) (V_of_R (r_var (pv 0))))))))))
theorem sc_is_stuck_in : FnScope ["lots", "value", "cut", "lot"] ["lots", "value"] (defScope (top 32)) := ⟨rfl, rfl, rfl, by decide +kernel, rfl, by decide +kernel, by decide +kernel⟩
def g_is_stuck_in : DS := (dSeq (dIfS (dNot (dBool (dCall R_is_lot (dCons (dVar 1) dNil)))) (dRet (dC (.bool false))) dSkip) (dSeq (dSet 2 (dLst (dCallL R_greatest_lots (dCons (dLst (dLc (dIt (dVar 0)) (pName 3) dYes (dCall R_common_in (dCons (dVar 3) (dCons (dVar 1) dNil))) [3])) dNil)))) (dRet (dOrV (dCall R_are_rests (dCons (dVar 1) (dCons (dVar 2) dNil))) (dCall R_is_ring (dCons (dVar 1) (dCons (dVar 2) dNil)))))))
def R_is_stuck_in : Rl := fun ds K => ds.length = 2 ∧ g_is_stuck_in { nx := fun _ => K .none, rt := K, rl := fun _ => False } (startE 4 ds)
theorem c_is_stuck_in (E : Ev K mg) : Cal P w K mg base 3 "is_stuck_in" (Pr R_is_stuck_in) := by
  obtain ⟨fd, F⟩ := f_is_stuck_in E
  refine ⟨_, fd, ["lots", "value"], F.ok sc_is_stuck_in (len_pr fun ds K h => h.1) (fun cdv A outer s H vs Q E1 hr h => ⟨sS [] g_is_stuck_in, PSs.nox ?_, ent (by decide) (fun ds K h => ⟨(fun i hi => by rw [h.1]; revert i; decide), h.2⟩) vs H Q E1 h⟩), q_is_stuck_in E, F.kp, F.bindsN fun _ _ _ _ _ _ us hl => match us, hl with | [_, _], _ => rfl⟩
  exact (s_cons (s_if (t_not (t_val (r_call rfl (pe_cal (c_is_lot E) hr (by decide) rfl (a_cons (r_var (pv 1)) a_nil))))) (s_one (s_ret r_bl)) s_nil) (s_cons (s_set (j := 2) (g := (dLst (dCallL R_greatest_lots (dCons (dLst (dLc (dIt (dVar 0)) (pName 3) dYes (dCall R_common_in (dCons (dVar 3) (dCons (dVar 1) dNil))) [3])) dNil)))) (ps_set (i := 2) sc_is_stuck_in.nd rfl (by first | exact Or.inl rfl | exact Or.inr rfl) (S_of_R (R_of_L (l_call rfl (pe_cal (c_greatest_lots E) hr (by decide) rfl (a_cons (R_of_L (l_lc (gt := dYes) (ge := (dCall R_common_in (dCons (dVar 3) (dCons (dVar 1) dNil)))) (gi := (dIt (dVar 0))) tg_name (pe_lc (own := [("lot", 3)]) rfl sc_is_stuck_in.nd  (i_seq (W_of_R (r_var (pv 0)))) (blkOk_by (own := [("lot", 3)]) rfl) (fun _ _ _ _ _ => (pgn 3 sc_is_stuck_in.nd)) (fun _ _ _ _ _ => pts_yes) (fun _ _ _ _ _ => (r_call rfl (pe_cal (c_common_in E) hr (by decide) rfl (a_cons (r_var (pv 3)) (a_cons (r_var (pv 1)) a_nil)))))))) a_nil)))))) (fun _ _ _ q => q)) (s_one (s_ret (r_or (V_of_R (r_call rfl (pe_cal (c_are_rests E) hr (by decide) rfl (a_cons (r_var (pv 1)) (a_cons (r_var (pv 2)) a_nil))))) (r_one (r_call rfl (pe_cal (c_is_ring E) hr (by decide) rfl (a_cons (r_var (pv 1)) (a_cons (r_var (pv 2)) a_nil))))))))))
theorem sc_fold_answer_in : FnScope ["lots", "tree", "some"] ["lots"] (defScope (top 33)) := ⟨rfl, rfl, rfl, by decide +kernel, rfl, by decide +kernel, by decide +kernel⟩
def g_fold_answer_in : DS := (dSeq (dSet 1 (dCall R_nearest_tree (dCons (dVar 0) dNil))) (dSeq (dIfS (dBool (dCall R_is_tree_in (dCons (dVar 0) (dCons (dVar 1) dNil)))) (dRet (dTup (dCons (dC (.str "folds")) (dCons (dVar 1) dNil)))) dSkip) (dRet (dTup (dCons (dC (.str "stuck")) (dCons (dIx (dLst (dLc (dIt (dLst (dCallL R_lots_within_in (dCons (dCall R_all_letters (dCons (dVar 0) dNil)) dNil)))) (pName 2) (dBool (dCall R_is_stuck_in (dCons (dVar 0) (dCons (dVar 2) dNil)))) (dVar 2) [2])) (dC (.int 0))) dNil))))))
def R_fold_answer_in : Rl := fun ds K => ds.length = 1 ∧ g_fold_answer_in { nx := fun _ => K .none, rt := K, rl := fun _ => False } (startE 3 ds)
theorem c_fold_answer_in (E : Ev K mg) : Cal P w K mg base 4 "fold_answer_in" (Pr R_fold_answer_in) := by
  obtain ⟨fd, F⟩ := f_fold_answer_in E
  refine ⟨_, fd, ["lots"], F.ok sc_fold_answer_in (len_pr fun ds K h => h.1) (fun cdv A outer s H vs Q E1 hr h => ⟨sS [] g_fold_answer_in, PSs.nox ?_, ent (by decide) (fun ds K h => ⟨(fun i hi => by rw [h.1]; revert i; decide), h.2⟩) vs H Q E1 h⟩), q_fold_answer_in E, F.kp, F.bindsN fun _ _ _ _ _ _ us hl => match us, hl with | [_], _ => rfl⟩
  exact (s_cons (s_set (j := 1) (g := (dCall R_nearest_tree (dCons (dVar 0) dNil))) (ps_set (i := 1) sc_fold_answer_in.nd rfl (by first | exact Or.inl rfl | exact Or.inr rfl) (S_of_R (r_call rfl (pe_cal (c_nearest_tree E) hr (by decide) rfl (a_cons (r_var (pv 0)) a_nil))))) (fun _ _ _ q => q)) (s_cons (s_if (t_val (r_call rfl (pe_cal (c_is_tree_in E) hr (by decide) rfl (a_cons (r_var (pv 0)) (a_cons (r_var (pv 1)) a_nil))))) (s_one (s_ret (r_tup (a_cons (r_globS rfl (q_FOLDS E)) (a_cons (r_var (pv 1)) a_nil))))) s_nil) (s_one (s_ret (r_tup (a_cons (r_globS rfl (q_STUCK E)) (a_cons (r_ix (W_of_L (l_lc (gt := (dBool (dCall R_is_stuck_in (dCons (dVar 0) (dCons (dVar 2) dNil))))) (ge := (dVar 2)) (gi := (dIt (dLst (dCallL R_lots_within_in (dCons (dCall R_all_letters (dCons (dVar 0) dNil)) dNil))))) tg_name (pe_lc (own := [("some", 2)]) rfl sc_fold_answer_in.nd  (i_seq (W_of_L (l_call rfl (pe_cal (c_lots_within_in E) hr (by decide) rfl (a_cons (r_call rfl (pe_cal (c_all_letters E) hr (by decide) rfl (a_cons (r_var (pv 0)) a_nil))) a_nil))))) (blkOk_by (own := [("some", 2)]) rfl) (fun _ _ _ _ _ => (pgn 2 sc_fold_answer_in.nd)) (fun _ _ _ _ _ => (pts_one (t_val (r_call rfl (pe_cal (c_is_stuck_in E) hr (by decide) rfl (a_cons (r_var (pv 0)) (a_cons (r_var (pv 2)) a_nil))))))) (fun _ _ _ _ _ => (r_var (pv 2)))))) (V_of_R r_int) (fun _ _ => rfl)) a_nil)))))))
theorem sc_require_web : FnScope ["value"] ["value"] (defScope (top 34)) := ⟨rfl, rfl, rfl, by decide +kernel, rfl, by decide +kernel, by decide +kernel⟩
def g_require_web : DS := (dIfS (dNot (dBool (dCall R_is_web (dCons (dVar 0) dNil)))) dFail dSkip)
def R_require_web : Rl := fun ds K => ds.length = 1 ∧ g_require_web { nx := fun _ => K .none, rt := K, rl := fun _ => False } (startE 1 ds)
theorem c_require_web (E : Ev K mg) : Cal P w K mg base 4 "require_web" (Pr R_require_web) := by
  obtain ⟨fd, F⟩ := f_require_web E
  refine ⟨_, fd, ["value"], F.ok sc_require_web (len_pr fun ds K h => h.1) (fun cdv A outer s H vs Q E1 hr h => ⟨sS [] g_require_web, PSs.nox ?_, ent (by decide) (fun ds K h => ⟨(fun i hi => by rw [h.1]; revert i; decide), h.2⟩) vs H Q E1 h⟩), q_require_web E, F.kp, F.bindsN fun _ _ _ _ _ _ us hl => match us, hl with | [_], _ => rfl⟩
  exact (s_one (s_if (t_not (t_val (r_call rfl (pe_cal (c_is_web E) hr (by decide) rfl (a_cons (r_var (pv 0)) a_nil))))) (s_one s_fail) s_nil))
theorem sc_is_tree : FnScope ["lots", "value"] ["lots", "value"] (defScope (top 35)) := ⟨rfl, rfl, rfl, by decide +kernel, rfl, by decide +kernel, by decide +kernel⟩
def g_is_tree : DS := (dSeq (dDo (dCall R_require_web (dCons (dVar 0) dNil))) (dRet (dCall R_is_tree_in (dCons (dVar 0) (dCons (dVar 1) dNil)))))
def R_is_tree : Rl := fun ds K => ds.length = 2 ∧ g_is_tree { nx := fun _ => K .none, rt := K, rl := fun _ => False } (startE 2 ds)
theorem c_is_tree (E : Ev K mg) : Cal P w K mg base 5 "is_tree" (Pr R_is_tree) := by
  obtain ⟨fd, F⟩ := f_is_tree E
  refine ⟨_, fd, ["lots", "value"], F.ok sc_is_tree (len_pr fun ds K h => h.1) (fun cdv A outer s H vs Q E1 hr h => ⟨sS [] g_is_tree, PSs.nox ?_, ent (by decide) (fun ds K h => ⟨(fun i hi => by rw [h.1]; revert i; decide), h.2⟩) vs H Q E1 h⟩), q_is_tree E, F.kp, F.bindsN fun _ _ _ _ _ _ us hl => match us, hl with | [_, _], _ => rfl⟩
  exact (s_cons (s_do (r_call rfl (pe_cal (c_require_web E) hr (by decide) rfl (a_cons (r_var (pv 0)) a_nil)))) (s_one (s_ret (r_call rfl (pe_cal (c_is_tree_in E) hr (by decide) rfl (a_cons (r_var (pv 0)) (a_cons (r_var (pv 1)) a_nil)))))))
theorem sc_fold_answer : FnScope ["lots"] ["lots"] (defScope (top 36)) := ⟨rfl, rfl, rfl, by decide +kernel, rfl, by decide +kernel, by decide +kernel⟩
def g_fold_answer : DS := (dSeq (dDo (dCall R_require_web (dCons (dVar 0) dNil))) (dRet (dCall R_fold_answer_in (dCons (dVar 0) dNil))))
def R_fold_answer : Rl := fun ds K => ds.length = 1 ∧ g_fold_answer { nx := fun _ => K .none, rt := K, rl := fun _ => False } (startE 1 ds)
theorem c_fold_answer (E : Ev K mg) : Cal P w K mg base 5 "fold_answer" (Pr R_fold_answer) := by
  obtain ⟨fd, F⟩ := f_fold_answer E
  refine ⟨_, fd, ["lots"], F.ok sc_fold_answer (len_pr fun ds K h => h.1) (fun cdv A outer s H vs Q E1 hr h => ⟨sS [] g_fold_answer, PSs.nox ?_, ent (by decide) (fun ds K h => ⟨(fun i hi => by rw [h.1]; revert i; decide), h.2⟩) vs H Q E1 h⟩), q_fold_answer E, F.kp, F.bindsN fun _ _ _ _ _ _ us hl => match us, hl with | [_], _ => rfl⟩
  exact (s_cons (s_do (r_call rfl (pe_cal (c_require_web E) hr (by decide) rfl (a_cons (r_var (pv 0)) a_nil)))) (s_one (s_ret (r_call rfl (pe_cal (c_fold_answer_in E) hr (by decide) rfl (a_cons (r_var (pv 0)) a_nil))))))
end
end Kb
set_option Elab.async false
set_option linter.all false
set_option maxRecDepth 100000
set_option maxHeartbeats 2000000
namespace Kb
open PySem PySem.Spec PyProof.Rows L2
section
variable {P : Program} {w : World} {K : PySem.W.Frag} {mg : Str → Option Value} {base : Heap}
theorem sc_is_bags_in : FnScope ["lots", "value", "lot", "bag"] ["lots", "value"] (defScope (top 39)) := ⟨rfl, rfl, rfl, by decide +kernel, rfl, by decide +kernel, by decide +kernel⟩
def g_is_bags_in : DS := (dSeq (dIfS (dOr (dNot (dBool (dUn (fun d K => K (.bool (isT "tuple" d))) (dVar 1)))) (dOr (dBool (dNe (dB bLen (dCons (dVar 1) dNil)) (dC (.int 2)))) (dOr (dNot (dBool (dCall R_is_web (dCons (dIx (dVar 1) (dC (.int 0))) dNil)))) (dNot (dBool (dCall R_is_tree_in (dCons (dIx (dVar 1) (dC (.int 0))) (dCons (dIx (dVar 1) (dC (.int 1))) dNil)))))))) (dRet (dC (.bool false))) dSkip) (dSeq (dIfS (dNot (dBool (dCall R_within_in (dCons (dCall R_all_letters (dCons (dIx (dVar 1) (dC (.int 0))) dNil)) (dCons (dCall R_all_letters (dCons (dVar 0) dNil)) dNil))))) (dRet (dC (.bool false))) dSkip) (dRet (dB (bBools fun bs => bs.all id) (dCons (dLst (dLc (dIt (dVar 0)) (pName 2) dYes (dB (bBools fun bs => bs.any id) (dCons (dLst (dLc (dIt (dIx (dVar 1) (dC (.int 0)))) (pName 3) dYes (dCall R_within_in (dCons (dVar 2) (dCons (dVar 3) dNil))) [3])) dNil)) [2])) dNil)))))
def R_is_bags_in : Rl := fun ds K => ds.length = 2 ∧ g_is_bags_in { nx := fun _ => K .none, rt := K, rl := fun _ => False } (startE 4 ds)
theorem c_is_bags_in (E : Ev K mg) : Cal P w K mg base 4 "is_bags_in" (Pr R_is_bags_in) := by
  obtain ⟨fd, F⟩ := f_is_bags_in E
  refine ⟨_, fd, ["lots", "value"], F.ok sc_is_bags_in (len_pr fun ds K h => h.1) (fun cdv A outer s H vs Q E1 hr h => ⟨sS [] g_is_bags_in, PSs.nox ?_, ent (by decide) (fun ds K h => ⟨(fun i hi => by rw [h.1]; revert i; decide), h.2⟩) vs H Q E1 h⟩), q_is_bags_in E, F.kp, F.bindsN fun _ _ _ _ _ _ us hl => match us, hl with | [_, _], _ => rfl⟩
  exact (s_cons (s_if (PW.pt (t_or (t_not (t_val (w_isi .t (pe_callB call_isi rfl (q_isinstance E) PyProof.Rows.boot_isinstance (pa_cons (V_of_R (r_var (pv 1))) (pa_cons (pe_bltn rfl (q_tuple E) PyProof.Rows.boot_tuple rfl) pa_nil)))))) (t_or (t_ne hr.units (V_of_R (w_len (pe_callB call_len_seq rfl (q_len E) PySem.boot_len (a_consV (V_of_R (r_var (pv 1))) a_nilV)))) (V_of_R (r_globI rfl (q_PAIR_bags E)))) (t_or (t_not (t_val (r_call rfl (pe_cal (c_is_web E) hr (by decide) rfl (a_cons (r_ix (W_of_R (r_var (pv 1))) (V_of_R r_int) (fun _ _ => rfl)) a_nil))))) (t_or1 (t_not (t_val (r_call rfl (pe_cal (c_is_tree_in E) hr (by decide) rfl (a_cons (r_ix (W_of_R (r_var (pv 1))) (V_of_R r_int) (fun _ _ => rfl)) (a_cons (r_ix (W_of_R (r_var (pv 1))) (V_of_R r_int) (fun _ _ => rfl)) a_nil))))))))))) (s_one (s_ret r_bl)) s_nil) (s_cons (s_if (t_not (t_val (r_call rfl (pe_cal (c_within_in E) hr (by decide) rfl (a_cons (r_call rfl (pe_cal (c_all_letters E) hr (by decide) rfl (a_cons (r_ix (W_of_R (r_var (pv 1))) (V_of_R r_int) (fun _ _ => rfl)) a_nil))) (a_cons (r_call rfl (pe_cal (c_all_letters E) hr (by decide) rfl (a_cons (r_var (pv 0)) a_nil))) a_nil)))))) (s_one (s_ret r_bl)) s_nil) (s_one (s_ret (w_all (pe_callB (cr_all rfl) rfl (q_all E) PyProof.Rows.boot_all (a_consV (V_of_L (l_lc (gt := dYes) (ge := (dB (bBools fun bs => bs.any id) (dCons (dLst (dLc (dIt (dIx (dVar 1) (dC (.int 0)))) (pName 3) dYes (dCall R_within_in (dCons (dVar 2) (dCons (dVar 3) dNil))) [3])) dNil))) (gi := (dIt (dVar 0))) tg_name (pe_lc (own := [("lot", 2)]) rfl sc_is_bags_in.nd  (i_seq (W_of_R (r_var (pv 0)))) (blkOk_by (own := [("lot", 2)]) rfl) (fun _ _ _ _ _ => (pgn 2 sc_is_bags_in.nd)) (fun _ _ _ _ _ => pts_yes) (fun _ _ _ _ _ => (w_any (pe_callB (cr_any rfl) rfl (q_any E) PyProof.Rows.boot_any (a_consV (V_of_L (l_lc (gt := dYes) (ge := (dCall R_within_in (dCons (dVar 2) (dCons (dVar 3) dNil)))) (gi := (dIt (dIx (dVar 1) (dC (.int 0))))) tg_name (pe_lc (own := [("bag", 3)]) rfl sc_is_bags_in.nd  (i_seq (W_of_R (r_ix (W_of_R (r_var (pv 1))) (V_of_R r_int) (fun _ _ => rfl)))) (blkOk_by (own := [("bag", 3)]) rfl) (fun _ _ _ _ _ => (pgn 3 sc_is_bags_in.nd)) (fun _ _ _ _ _ => pts_yes) (fun _ _ _ _ _ => (r_call rfl (pe_cal (c_within_in E) hr (by decide) rfl (a_cons (r_var (pv 2)) (a_cons (r_var (pv 3)) a_nil)))))))) a_nilV))))))) a_nilV)))))))
theorem sc_bags_taken : FnScope ["lots", "order", "left", "found", "letter", "bag", "lot"] ["lots", "order"] (defScope (top 40)) := ⟨rfl, rfl, rfl, by decide +kernel, rfl, by decide +kernel, by decide +kernel⟩
def g_bags_taken : DS := (dSeq (dPar 2 3 (dLst (dLc (dIt (dVar 0)) (pName 6) (dBool (dNe (dVar 6) (dTup dNil))) (dVar 6) [6])) (dLst (dDis dNil))) (dSeq (dFor (dIt (dVar 1)) (pName 4) (dSeq (dSet 5 (dCall R_all_letters (dCons (dLst (dLc (dIt (dOwn 2)) (pName 6) (dBool (dIn (dVar 4) (dVar 6))) (dVar 6) [6])) dNil))) (dSeq (dApp 3 (dVar 5)) (dSeq (dSet 2 (dLst (dLc (dIt (dOwn 2)) (pName 6) (dBool (dNin (dVar 4) (dVar 6))) (dVar 6) [6]))) (dApp 2 (dCall R_rest_in (dCons (dVar 5) (dCons (dTup (dCons (dVar 4) dNil)) dNil)))))))) (dRetL (dOwnL 3))))
def R_bags_taken : RlL := fun ds K => ds.length = 2 ∧ g_bags_taken { nx := fun _ => False, rt := fun _ => False, rl := K } (startE 7 ds)
theorem c_bags_taken (E : Ev K mg) : Cal P w K mg base 2 "bags_taken" (PrL R_bags_taken) := by
  obtain ⟨fd, F⟩ := f_bags_taken E
  refine ⟨_, fd, ["lots", "order"], F.ok sc_bags_taken (len_prL fun ds K h => h.1) (fun cdv A outer s H vs Q E1 hr h => ⟨sS [2, 3] g_bags_taken, PSs.nox ?_, entL (by decide) (fun ds K h => ⟨(fun i hi => by rw [h.1]; revert i; decide), h.2⟩) vs H Q E1 h⟩), q_bags_taken E, F.kp, F.bindsN fun _ _ _ _ _ _ us hl => match us, hl with | [_, _], _ => rfl⟩
  exact (s_cons (s_par (g := (dLst (dLc (dIt (dVar 0)) (pName 6) (dBool (dNe (dVar 6) (dTup dNil))) (dVar 6) [6]))) (h := (dLst (dDis dNil))) (ps_par (i := 2) (j := 3) rfl sc_bags_taken.nd rfl rfl (by decide) rfl rfl (pa_cons (S_of_L (l_lc (gt := (dBool (dNe (dVar 6) (dTup dNil)))) (ge := (dVar 6)) (gi := (dIt (dVar 0))) tg_name (pe_lc (own := [("lot", 6)]) rfl sc_bags_taken.nd  (i_seq (W_of_R (r_var (pv 0)))) (blkOk_by (own := [("lot", 6)]) rfl) (fun _ _ _ _ _ => (pgn 6 sc_bags_taken.nd)) (fun _ _ _ _ _ => (pts_one (t_ne hr.units (V_of_R (r_var (pv 6))) (V_of_R (r_tup a_nil))))) (fun _ _ _ _ _ => (r_var (pv 6)))))) (pa_cons (S_of_L (l_lst a_nil)) pa_nil)) rfl) (fun _ _ _ q => q)) (s_cons (s_for (gi := (dIt (dVar 1))) (gb := (dSeq (dSet 5 (dCall R_all_letters (dCons (dLst (dLc (dIt (dOwn 2)) (pName 6) (dBool (dIn (dVar 4) (dVar 6))) (dVar 6) [6])) dNil))) (dSeq (dApp 3 (dVar 5)) (dSeq (dSet 2 (dLst (dLc (dIt (dOwn 2)) (pName 6) (dBool (dNin (dVar 4) (dVar 6))) (dVar 6) [6]))) (dApp 2 (dCall R_rest_in (dCons (dVar 5) (dCons (dTup (dCons (dVar 4) dNil)) dNil)))))))) PassesOwn.never rfl (i_seqR (r_var (pv 1))) (pgn 4 sc_bags_taken.nd) tg_name (s_cons (s_set (j := 5) (g := (dCall R_all_letters (dCons (dLst (dLc (dIt (dOwn 2)) (pName 6) (dBool (dIn (dVar 4) (dVar 6))) (dVar 6) [6])) dNil))) (ps_set (i := 5) sc_bags_taken.nd rfl (by first | exact Or.inl rfl | exact Or.inr rfl) (S_of_R (r_call rfl (pe_cal (c_all_letters E) hr (by decide) rfl (a_cons (R_of_L (l_lc (gt := (dBool (dIn (dVar 4) (dVar 6)))) (ge := (dVar 6)) (gi := (dIt (dOwn 2))) tg_name (pe_lc (own := [("lot", 6)]) rfl sc_bags_taken.nd  (i_seq (w_own (pv 2))) (blkOk_by (own := [("lot", 6)]) rfl) (fun _ _ _ _ _ => (pgn 6 sc_bags_taken.nd)) (fun _ _ _ _ _ => (pts_one (t_in (V_of_R (r_var (pv 4))) (V_of_R (r_var (pv 6)))))) (fun _ _ _ _ _ => (r_var (pv 6)))))) a_nil))))) (fun _ _ _ q => q)) (s_cons (s_app (ps_expr (pe_bm PySem.F.plainAttrs_list PySem.F.slot_list_append PySem.F.type_list_append mt_append (pv 3) (pa_cons (r_var (pv 5)) pa_nil)))) (s_cons (s_set (j := 2) (g := (dLst (dLc (dIt (dOwn 2)) (pName 6) (dBool (dNin (dVar 4) (dVar 6))) (dVar 6) [6]))) (ps_setLc (i := 2) (own := [("lot", 6)]) rfl sc_bags_taken.nd rfl rfl (sw_true rfl rfl rfl (by decide +kernel)) (i_seq (w_own (pv 2))) (blkOk_by (own := [("lot", 6)]) rfl) (fun _ _ _ _ _ => (pgn 6 sc_bags_taken.nd)) (fun _ _ _ _ _ => (pts_one (t_nin (V_of_R (r_var (pv 4))) (V_of_R (r_var (pv 6)))))) (fun _ _ _ _ _ => (r_var (pv 6)))) (fun σ H Q q => lc_imp (O := [2, 3]) (gt := (dBool (dNin (dVar 4) (dVar 6)))) (ge := (dVar 6)) (gi := (dIt (dOwn 2))) tg_name (by decide) (by decide) (fun _ _ _ q => q) (fun _ _ _ q => q) (fun _ _ _ q => q) (S_imp_L (by decide) q))) (s_one (s_app (ps_expr (pe_bm PySem.F.plainAttrs_list PySem.F.slot_list_append PySem.F.type_list_append mt_append (pv 2) (pa_cons (r_call rfl (pe_cal (c_rest_in E) hr (by decide) rfl (a_cons (r_var (pv 5)) (a_cons (r_tup (a_cons (r_var (pv 4)) a_nil)) a_nil)))) pa_nil))))))))) (s_one (s_retO (pv 3)))))
theorem sc_greatest_bags : FnScope ["bags", "some", "bag", "other"] ["bags"] (defScope (top 41)) := ⟨rfl, rfl, rfl, by decide +kernel, rfl, by decide +kernel, by decide +kernel⟩
def g_greatest_bags : DS := (dSeq (dSet 1 (dLst (dSrtM (· ≤ 100000) (dKeysT 2 (dIt (dVar 0)))))) (dRet (dTupOf (dLst (dLc (dIt (dVar 1)) (pName 2) (dNot (dBool (dB (bBools fun bs => bs.any id) (dCons (dLst (dLc (dIt (dVar 1)) (pName 3) dYes (dAndV (dNe (dVar 2) (dVar 3)) (dCall R_within_in (dCons (dVar 2) (dCons (dVar 3) dNil)))) [3])) dNil)))) (dVar 2) [2])))))
def R_greatest_bags : Rl := fun ds K => ds.length = 1 ∧ g_greatest_bags { nx := fun _ => K .none, rt := K, rl := fun _ => False } (startE 4 ds)
theorem c_greatest_bags (E : Ev K mg) : Cal P w K mg base 2 "greatest_bags" (Pr R_greatest_bags) := by
  obtain ⟨fd, F⟩ := f_greatest_bags E
  refine ⟨_, fd, ["bags"], F.ok sc_greatest_bags (len_pr fun ds K h => h.1) (fun cdv A outer s H vs Q E1 hr h => ⟨sS [] g_greatest_bags, PSs.nox ?_, ent (by decide) (fun ds K h => ⟨(fun i hi => by rw [h.1]; revert i; decide), h.2⟩) vs H Q E1 h⟩), q_greatest_bags E, F.kp, F.bindsN fun _ _ _ _ _ _ us hl => match us, hl with | [_], _ => rfl⟩
  exact (s_cons (s_set (j := 1) (g := (dLst (dSrtM (· ≤ 100000) (dKeysT 2 (dIt (dVar 0)))))) (ps_set (i := 1) sc_greatest_bags.nd rfl (by first | exact Or.inl rfl | exact Or.inr rfl) (S_of_R (R_of_L (w_srtM (pe_callB (cr_sortDT rfl hr.units) rfl (q_sorted E) PyProof.Rows.boot_sorted (pa_cons (w_d1T (gi := (dIt (dVar 0))) (pe_d1 (own := [("bag", 2)]) rfl sc_greatest_bags.nd (i_seq (W_of_R (r_var (pv 0)))) (blkOk_by (own := [("bag", 2)]) rfl) nwT_ok (fun _ _ _ _ _ => (pgn 2 sc_greatest_bags.nd)) (fun _ _ _ _ _ => pts_nil) (fun _ _ _ _ _ => pv 2) (fun _ _ _ _ _ => pe_bl) (fun _ _ _ _ => stT_ok rfl rfl rfl (Nat.lt_of_le_of_lt (Nat.le_add_right _ 64) hr.units)))) pa_nil)))))) (fun _ _ _ q => q)) (s_one (s_ret (w_tup (pe_callTy call_tupleA rfl (q_tuple E) PyProof.Rows.boot_tuple (pa_cons (W_of_L (l_lc (gt := (dNot (dBool (dB (bBools fun bs => bs.any id) (dCons (dLst (dLc (dIt (dVar 1)) (pName 3) dYes (dAndV (dNe (dVar 2) (dVar 3)) (dCall R_within_in (dCons (dVar 2) (dCons (dVar 3) dNil)))) [3])) dNil))))) (ge := (dVar 2)) (gi := (dIt (dVar 1))) tg_name (pe_lc (own := [("bag", 2)]) rfl sc_greatest_bags.nd  (i_seq (W_of_R (r_var (pv 1)))) (blkOk_by (own := [("bag", 2)]) rfl) (fun _ _ _ _ _ => (pgn 2 sc_greatest_bags.nd)) (fun _ _ _ _ _ => (pts_one (t_not (t_val (w_any (pe_callB (cr_any rfl) rfl (q_any E) PyProof.Rows.boot_any (a_consV (V_of_L (l_lc (gt := dYes) (ge := (dAndV (dNe (dVar 2) (dVar 3)) (dCall R_within_in (dCons (dVar 2) (dCons (dVar 3) dNil))))) (gi := (dIt (dVar 1))) tg_name (pe_lc (own := [("other", 3)]) rfl sc_greatest_bags.nd  (i_seq (W_of_R (r_var (pv 1)))) (blkOk_by (own := [("other", 3)]) rfl) (fun _ _ _ _ _ => (pgn 3 sc_greatest_bags.nd)) (fun _ _ _ _ _ => pts_yes) (fun _ _ _ _ _ => (r_and (V_of_R (r_ne hr.units (V_of_R (r_var (pv 2))) (V_of_R (r_var (pv 3))))) (r_one (r_call rfl (pe_cal (c_within_in E) hr (by decide) rfl (a_cons (r_var (pv 2)) (a_cons (r_var (pv 3)) a_nil)))))))))) a_nilV))))))) (fun _ _ _ _ _ => (r_var (pv 2)))))) pa_nil))))))
theorem sc_bags_of_in : FnScope ["lots", "order", "bags"] ["lots", "order"] (defScope (top 42)) := ⟨rfl, rfl, rfl, by decide +kernel, rfl, by decide +kernel, by decide +kernel⟩
def g_bags_of_in : DS := (dSeq (dSet 2 (dCall R_greatest_bags (dCons (dLst (dCallL R_bags_taken (dCons (dVar 0) (dCons (dVar 1) dNil)))) dNil))) (dSeq (dIfS (dAnd (dBool (dEq (dVar 2) (dTup dNil))) (dBool (dNe (dVar 0) (dTup dNil)))) (dSet 2 (dTup (dCons (dTup dNil) dNil))) dSkip) (dRet (dTup (dCons (dVar 2) (dCons (dCall R_nearest_tree (dCons (dVar 2) dNil)) dNil))))))
def R_bags_of_in : Rl := fun ds K => ds.length = 2 ∧ g_bags_of_in { nx := fun _ => K .none, rt := K, rl := fun _ => False } (startE 3 ds)
theorem c_bags_of_in (E : Ev K mg) : Cal P w K mg base 3 "bags_of_in" (Pr R_bags_of_in) := by
  obtain ⟨fd, F⟩ := f_bags_of_in E
  refine ⟨_, fd, ["lots", "order"], F.ok sc_bags_of_in (len_pr fun ds K h => h.1) (fun cdv A outer s H vs Q E1 hr h => ⟨sS [] g_bags_of_in, PSs.nox ?_, ent (by decide) (fun ds K h => ⟨(fun i hi => by rw [h.1]; revert i; decide), h.2⟩) vs H Q E1 h⟩), q_bags_of_in E, F.kp, F.bindsN fun _ _ _ _ _ _ us hl => match us, hl with | [_, _], _ => rfl⟩
  exact (s_cons (s_set (j := 2) (g := (dCall R_greatest_bags (dCons (dLst (dCallL R_bags_taken (dCons (dVar 0) (dCons (dVar 1) dNil)))) dNil))) (ps_set (i := 2) sc_bags_of_in.nd rfl (by first | exact Or.inl rfl | exact Or.inr rfl) (S_of_R (r_call rfl (pe_cal (c_greatest_bags E) hr (by decide) rfl (a_cons (R_of_L (l_call rfl (pe_cal (c_bags_taken E) hr (by decide) rfl (a_cons (r_var (pv 0)) (a_cons (r_var (pv 1)) a_nil))))) a_nil))))) (fun _ _ _ q => q)) (s_cons (s_if (PW.pt (t_and (t_eq hr.units (V_of_R (r_var (pv 2))) (V_of_R (r_tup a_nil))) (t_and1 (t_ne hr.units (V_of_R (r_var (pv 0))) (V_of_R (r_tup a_nil)))))) (s_one (s_set (j := 2) (g := (dTup (dCons (dTup dNil) dNil))) (ps_set (i := 2) sc_bags_of_in.nd rfl (by first | exact Or.inl rfl | exact Or.inr rfl) (S_of_R (r_tup (a_cons (r_tup a_nil) a_nil)))) (fun _ _ _ q => q))) s_nil) (s_one (s_ret (r_tup (a_cons (r_var (pv 2)) (a_cons (r_call rfl (pe_cal (c_nearest_tree E) hr (by decide) rfl (a_cons (r_var (pv 2)) a_nil))) a_nil)))))))
theorem sc_is_bags : FnScope ["lots", "value"] ["lots", "value"] (defScope (top 43)) := ⟨rfl, rfl, rfl, by decide +kernel, rfl, by decide +kernel, by decide +kernel⟩
def g_is_bags : DS := (dSeq (dDo (dCall R_require_web (dCons (dVar 0) dNil))) (dRet (dCall R_is_bags_in (dCons (dVar 0) (dCons (dVar 1) dNil)))))
def R_is_bags : Rl := fun ds K => ds.length = 2 ∧ g_is_bags { nx := fun _ => K .none, rt := K, rl := fun _ => False } (startE 2 ds)
theorem c_is_bags (E : Ev K mg) : Cal P w K mg base 5 "is_bags" (Pr R_is_bags) := by
  obtain ⟨fd, F⟩ := f_is_bags E
  refine ⟨_, fd, ["lots", "value"], F.ok sc_is_bags (len_pr fun ds K h => h.1) (fun cdv A outer s H vs Q E1 hr h => ⟨sS [] g_is_bags, PSs.nox ?_, ent (by decide) (fun ds K h => ⟨(fun i hi => by rw [h.1]; revert i; decide), h.2⟩) vs H Q E1 h⟩), q_is_bags E, F.kp, F.bindsN fun _ _ _ _ _ _ us hl => match us, hl with | [_, _], _ => rfl⟩
  exact (s_cons (s_do (r_call rfl (pe_cal (c_require_web E) hr (by decide) rfl (a_cons (r_var (pv 0)) a_nil)))) (s_one (s_ret (r_call rfl (pe_cal (c_is_bags_in E) hr (by decide) rfl (a_cons (r_var (pv 0)) (a_cons (r_var (pv 1)) a_nil)))))))
theorem sc_bags_of : FnScope ["lots", "order"] ["lots", "order"] (defScope (top 44)) := ⟨rfl, rfl, rfl, by decide +kernel, rfl, by decide +kernel, by decide +kernel⟩
def g_bags_of : DS := (dSeq (dDo (dCall R_require_web (dCons (dVar 0) dNil))) (dSeq (dDo (dCall R_require_order (dCons (dCall R_all_letters (dCons (dVar 0) dNil)) (dCons (dVar 1) dNil)))) (dRet (dCall R_bags_of_in (dCons (dVar 0) (dCons (dVar 1) dNil))))))
def R_bags_of : Rl := fun ds K => ds.length = 2 ∧ g_bags_of { nx := fun _ => K .none, rt := K, rl := fun _ => False } (startE 2 ds)
theorem c_bags_of (E : Ev K mg) : Cal P w K mg base 5 "bags_of" (Pr R_bags_of) := by
  obtain ⟨fd, F⟩ := f_bags_of E
  refine ⟨_, fd, ["lots", "order"], F.ok sc_bags_of (len_pr fun ds K h => h.1) (fun cdv A outer s H vs Q E1 hr h => ⟨sS [] g_bags_of, PSs.nox ?_, ent (by decide) (fun ds K h => ⟨(fun i hi => by rw [h.1]; revert i; decide), h.2⟩) vs H Q E1 h⟩), q_bags_of E, F.kp, F.bindsN fun _ _ _ _ _ _ us hl => match us, hl with | [_, _], _ => rfl⟩
  exact (s_cons (s_do (r_call rfl (pe_cal (c_require_web E) hr (by decide) rfl (a_cons (r_var (pv 0)) a_nil)))) (s_cons (s_do (r_call rfl (pe_cal (c_require_order E) hr (by decide) rfl (a_cons (r_call rfl (pe_cal (c_all_letters E) hr (by decide) rfl (a_cons (r_var (pv 0)) a_nil))) (a_cons (r_var (pv 1)) a_nil))))) (s_one (s_ret (r_call rfl (pe_cal (c_bags_of_in E) hr (by decide) rfl (a_cons (r_var (pv 0)) (a_cons (r_var (pv 1)) a_nil))))))))
end
end Kb
set_option Elab.async false
set_option linter.all false
set_option maxRecDepth 100000
set_option maxHeartbeats 2000000
/-! W4: a draw. -/
namespace Kb
open PySem PySem.Spec PyProof.Rows L2
section
variable {P : Program} {w : World} {K : PySem.W.Frag} {mg : Str → Option Value} {base : Heap}
def R__law_tr_up : Rl := fun ds K => ∃ n : Int, ds = [.int n] ∧ 1 ≤ n ∧ n ≤ 1000000 ∧ ∀ r : Int, 0 ≤ r → r < n → K (.int r)
theorem sc__law_tr_up : FnScope ["_law_hat", "_law_total", "_law_found", "_law_one", "_law_two"] ["_law_hat", "_law_total"] (defScope (top 47)) := ⟨rfl, rfl, rfl, by decide +kernel, rfl, by decide +kernel, by decide +kernel⟩
theorem ite1 {c : Bool} {A B : Prop} (h : c = true) (a : A) : if c = true then A else B := by rw [if_pos h]; exact a
theorem ite0 {c : Bool} {A B : Prop} (h : c = false) (b : B) : if c = true then A else B := by rw [if_neg (by simp [h])]; exact b
theorem hat_ext {b : Addr} {H : Hp} {x y z : Int} (hx : 0 ≤ x) (hy : 0 ≤ y) (hz : 0 ≤ z) : Ext (some b) H (upd H b (.lst [.int x, .int y, .int z])) :=
  ⟨fun a o n e => by rw [upd_ne (fun c => n (by rw [c]))]; exact e, fun a n _ => by cases n; exact ⟨x, y, z, upd_same, hx, hy, hz⟩⟩
theorem c__law_tr_up (E : Ev K mg) : Cal P w K mg base 1 "_law_tr_up" (PrH R__law_tr_up) := by
  obtain ⟨fd, F⟩ := f__law_tr_up E
  refine ⟨_, fd, ["_law_hat", "_law_total"], F.ok sc__law_tr_up (len_prH (n := 1) fun ds K h => by obtain ⟨n, rfl, _⟩ := h; rfl) (fun cdv A outer s H vs Q E1 hr h => ⟨_, PSs.nox
    (pss_cons (ps_if (pt_cmpR op_gt (pe_ix ix_list (pv 0) pe_int (fun _ _ => rfl)) pe_int (nomark _))
        (pss_cons (ps_set (i := 2) sc__law_tr_up.nd rfl (Or.inl rfl) (pe_op op_mod (pe_callTy call_int1 rfl (q_int E) PyProof.Rows.boot_int (pa_cons (pe_ix ix_list (pv 0) pe_int (fun _ _ => rfl)) pa_nil)) (pv 1)))
        (pss_cons (ps_asg (pe_op op_fdiv (pe_ix ix_list (pv 0) pe_int (fun _ _ => rfl)) (pv 1)) (pg_sub (pv 0) pe_int set_list)) (pss_one (ps_ret (pv 2))))) pss_nil)
    (pss_cons (ps_asg (pe_op op_add (pe_ix ix_list (pv 0) pe_int (fun _ _ => rfl)) pe_int) (pg_sub (pv 0) pe_int set_list))
    (pss_cons (ps_set (i := 3) sc__law_tr_up.nd rfl (Or.inl rfl) (pe_op op_mod (pe_callTy call_int1 rfl (q_int E) PyProof.Rows.boot_int (pa_cons (pe_op op_add (pe_ix ix_list (pv 0) pe_int (fun _ _ => rfl)) (pe_op op_mul pe_int (pe_ix ix_list (pv 0) pe_int (fun _ _ => rfl)))) pa_nil)) pe_int))
    (pss_cons (ps_set (i := 4) sc__law_tr_up.nd rfl (Or.inl rfl) (pe_op op_add (pe_op op_add (pe_op op_mul (pe_op op_mod (pe_callTy call_int1 rfl (q_int E) PyProof.Rows.boot_int (pa_cons (pe_op op_add (pe_op op_mul (pv 3) (pv 3)) pe_int) pa_nil)) pe_int) pe_int) (pv 3)) (pe_op op_mul pe_int (pe_ix ix_list (pv 0) pe_int (fun _ _ => rfl)))))
    (pss_one (ps_ret (pe_op op_mod (pe_callTy call_int1 rfl (q_int E) PyProof.Rows.boot_int (pa_cons (pe_op op_fdiv (pv 4) pe_int) pa_nil)) (pv 1)))))))), ?_⟩), q__law_tr_up E, F.kp, F.bindsN fun _ _ _ _ _ _ us hl => match us, hl with | [_, _], _ => rfl⟩
  obtain ⟨b, ws, F', ds, K', rfl, hb, hF, hs, ht, dl, ⟨n, rfl, n1, n2, hk⟩, hQ⟩ := h
  obtain ⟨x, y, z, hH, hx, hy, hz⟩ := hb
  cases dl with
  | cons d1 dl =>
  cases dl
  cases d1
  have ret : ∀ (r x y z : Int), 0 ≤ r → r < n → 0 ≤ x → 0 ≤ y → 0 ≤ z → Q (.int r) (upd H b (.lst [.int x, .int y, .int z])) := fun r x y z h1 h2 h3 h4 h5 => hQ _ (hk r h1 h2) _ _ (hat_ext h3 h4 h5) (.int _)
  have rd : ∀ {H : Hp} {x y z : Int}, H b = some (.lst [.int x, .int y, .int z]) → SqL K H b [.int x, .int y, .int z] := fun h => SqL.of h
  refine ⟨_, rfl, b, [.int x, .int y, .int z], 0, .int x, rfl, rfl, rd hH, rfl, _, _, rfl, rfl, ?_⟩
  refine ⟨_, rfl, ?_⟩
  by_cases c : 0 < x
  · refine ite1 (decide_eq_true c) ?_
    refine ⟨_, rfl, b, _, 0, .int x, rfl, rfl, rd hH, rfl, .inl ⟨_, rfl, _, rfl, _, _, rfl, rfl, by omega, ?_⟩⟩
    refine ⟨_, rfl, b, _, 0, .int x, rfl, rfl, rd hH, rfl, _, rfl, _, _, rfl, rfl, ⟨by omega, by omega⟩, ?_⟩
    refine ⟨_, rfl, b, _, 0, 0, rfl, rfl, hH, rfl, ?_⟩
    exact ⟨_, rfl, ret _ _ _ _ (Int.emod_nonneg _ (by omega)) (Int.emod_lt_of_pos _ (by omega)) (Int.ediv_nonneg hx (by omega)) hy hz⟩
  · refine ite0 (decide_eq_false c) ?_
    refine ⟨_, rfl, b, _, 2, .int z, rfl, rfl, rd hH, rfl, _, _, rfl, rfl, ?_⟩
    refine ⟨_, rfl, b, _, 2, 2, rfl, rfl, hH, rfl, ?_⟩
    have hH2 : upd H b (.lst ([V.int x, .int y, .int z].set 2 (.int (z + 1)))) b = some (.lst [.int x, .int y, .int (z + 1)]) := upd_same
    refine ⟨_, rfl, b, _, 1, .int y, rfl, rfl, rd hH2, rfl, _, rfl, b, _, 2, .int (z + 1), rfl, rfl, rd hH2, rfl, _, _, rfl, rfl, .inl ⟨by decide, by decide⟩, _, _, rfl, rfl, .inl ⟨_, rfl, _, _, rfl, rfl, (show (0 : Int) < 2305843009213693951 by decide), ?_⟩⟩
    have m1 := Int.emod_nonneg (y + 15485867 * (z + 1)) (show (2305843009213693951 : Int) ≠ 0 by decide)
    have m2 := Int.emod_lt_of_pos (y + 15485867 * (z + 1)) (show (0 : Int) < 2305843009213693951 by decide)
    refine ⟨_, rfl, _, rfl, _, _, rfl, rfl, .inl ⟨by omega, by omega⟩, _, _, rfl, rfl, .inl ⟨_, rfl, _, _, rfl, rfl, (show (0 : Int) < 2305843009213693907 by decide), _, _, rfl, rfl, .inr ⟨by decide, by decide⟩, _, rfl, _, _, rfl, rfl, ?_⟩⟩
    refine ⟨_, rfl, b, _, 2, .int (z + 1), rfl, rfl, rd hH2, rfl, _, _, rfl, rfl, .inl ⟨by decide, by decide⟩, _, _, rfl, rfl, ?_⟩
    refine ⟨_, rfl, _, _, rfl, rfl, ⟨by decide, by decide⟩, .inl ⟨_, rfl, _, rfl, _, _, rfl, rfl, by omega, ?_⟩⟩
    exact ret _ _ _ _ (Int.emod_nonneg _ (by omega)) (Int.emod_lt_of_pos _ (by omega)) hx hy (by omega)
end
end Kb
set_option Elab.async false
set_option linter.all false
set_option maxRecDepth 100000
set_option maxHeartbeats 2000000
namespace Kb
open PySem PySem.Spec PyProof.Rows L2
section
variable {P : Program} {w : World} {K : PySem.W.Frag} {mg : Str → Option Value} {base : Heap}
theorem sc__law_tr_of : FnScope ["_law_hat", "_law_items"] ["_law_hat", "_law_items"] (defScope (top 48)) := ⟨rfl, rfl, rfl, by decide +kernel, rfl, by decide +kernel, by decide +kernel⟩
def g__law_tr_of : DS := (dRet (dIx (dVar 1) (dCall R__law_tr_up (dCons (dB bLen (dCons (dVar 1) dNil)) dNil))))
def R__law_tr_of : Rl := fun ds K => ds.length = 1 ∧ g__law_tr_of { nx := fun _ => K .none, rt := K, rl := fun _ => False } (startH 2 ds)
theorem c__law_tr_of (E : Ev K mg) : Cal P w K mg base 2 "_law_tr_of" (PrH R__law_tr_of) := by
  obtain ⟨fd, F⟩ := f__law_tr_of E
  refine ⟨_, fd, ["_law_hat", "_law_items"], F.ok sc__law_tr_of (len_prH fun ds K h => h.1) (fun cdv A outer s H vs Q E1 hr h => ⟨sS [0] g__law_tr_of, PSs.nox ?_, entH (fun ds K h => ⟨(fun i hi => by rw [h.1]; revert i; decide), h.2⟩) vs H Q E1 h⟩), q__law_tr_of E, F.kp, F.bindsN fun _ _ _ _ _ _ us hl => match us, hl with | [_, _], _ => rfl⟩
  exact (s_one (s_ret (r_ix (W_of_R (r_var (pv 1))) (V_of_R (h_call (by decide) rfl (pe_cal (c__law_tr_up E) hr (by decide) rfl (pa_cons (pv 0) (a_cons (w_len (pe_callB call_len_seq rfl (q_len E) PySem.boot_len (a_consV (V_of_R (r_var (pv 1))) a_nilV))) a_nil))))) (fun _ _ => rfl))))
theorem sc__law_tr_some : FnScope ["_law_hat", "_law_lot", "_law_letter"] ["_law_hat", "_law_lot"] (defScope (top 49)) := ⟨rfl, rfl, rfl, by decide +kernel, rfl, by decide +kernel, by decide +kernel⟩
def g__law_tr_some : DS := (dRet (dTupOf (dLst (dLc (dIt (dVar 1)) (pName 2) (dBool (dEq (dCall R__law_tr_up (dCons (dC (.int 2)) dNil)) (dC (.int 0)))) (dVar 2) [2]))))
def R__law_tr_some : Rl := fun ds K => ds.length = 1 ∧ g__law_tr_some { nx := fun _ => K .none, rt := K, rl := fun _ => False } (startH 3 ds)
theorem c__law_tr_some (E : Ev K mg) : Cal P w K mg base 2 "_law_tr_some" (PrH R__law_tr_some) := by
  obtain ⟨fd, F⟩ := f__law_tr_some E
  refine ⟨_, fd, ["_law_hat", "_law_lot"], F.ok sc__law_tr_some (len_prH fun ds K h => h.1) (fun cdv A outer s H vs Q E1 hr h => ⟨sS [0] g__law_tr_some, PSs.nox ?_, entH (fun ds K h => ⟨(fun i hi => by rw [h.1]; revert i; decide), h.2⟩) vs H Q E1 h⟩), q__law_tr_some E, F.kp, F.bindsN fun _ _ _ _ _ _ us hl => match us, hl with | [_, _], _ => rfl⟩
  exact (s_one (s_ret (w_tup (pe_callTy call_tupleA rfl (q_tuple E) PyProof.Rows.boot_tuple (pa_cons (W_of_L (l_lc (gt := (dBool (dEq (dCall R__law_tr_up (dCons (dC (.int 2)) dNil)) (dC (.int 0))))) (ge := (dVar 2)) (gi := (dIt (dVar 1))) tg_name (pe_lc (own := [("_law_letter", 2)]) rfl sc__law_tr_some.nd  (i_seq (W_of_R (r_var (pv 1)))) (blkOk_by (own := [("_law_letter", 2)]) rfl) (fun _ _ _ _ _ => (pgn 2 sc__law_tr_some.nd)) (fun _ _ _ _ _ => (pts_one (t_eq hr.units (V_of_R (h_call (by decide) rfl (pe_cal (c__law_tr_up E) hr (by decide) rfl (pa_cons (pv 0) (a_cons r_int a_nil))))) (V_of_R r_int)))) (fun _ _ _ _ _ => (r_var (pv 2)))))) pa_nil)))))
theorem sc__law_tr_within : FnScope ["_law_one", "_law_other", "_law_letter"] ["_law_one", "_law_other"] (defScope (top 50)) := ⟨rfl, rfl, rfl, by decide +kernel, rfl, by decide +kernel, by decide +kernel⟩
def g__law_tr_within : DS := (dRet (dEqN false (dLst (dLc (dIt (dVar 0)) (pName 2) (dBool (dNin (dVar 2) (dVar 1))) (dVar 2) [2]))))
def R__law_tr_within : Rl := fun ds K => ds.length = 2 ∧ g__law_tr_within { nx := fun _ => K .none, rt := K, rl := fun _ => False } (startE 3 ds)
theorem c__law_tr_within (E : Ev K mg) : Cal P w K mg base 1 "_law_tr_within" (Pr R__law_tr_within) := by
  obtain ⟨fd, F⟩ := f__law_tr_within E
  refine ⟨_, fd, ["_law_one", "_law_other"], F.ok sc__law_tr_within (len_pr fun ds K h => h.1) (fun cdv A outer s H vs Q E1 hr h => ⟨sS [] g__law_tr_within, PSs.nox ?_, ent (by decide) (fun ds K h => ⟨(fun i hi => by rw [h.1]; revert i; decide), h.2⟩) vs H Q E1 h⟩), q__law_tr_within E, F.kp, F.bindsN fun _ _ _ _ _ _ us hl => match us, hl with | [_, _], _ => rfl⟩
  exact (s_one (s_ret (r_eqN hr.units (V_of_L (l_lc (gt := (dBool (dNin (dVar 2) (dVar 1)))) (ge := (dVar 2)) (gi := (dIt (dVar 0))) tg_name (pe_lc (own := [("_law_letter", 2)]) rfl sc__law_tr_within.nd  (i_seq (W_of_R (r_var (pv 0)))) (blkOk_by (own := [("_law_letter", 2)]) rfl) (fun _ _ _ _ _ => (pgn 2 sc__law_tr_within.nd)) (fun _ _ _ _ _ => (pts_one (t_nin (V_of_R (r_var (pv 2))) (V_of_R (r_var (pv 1)))))) (fun _ _ _ _ _ => (r_var (pv 2)))))))))
theorem sc__law_tr_common : FnScope ["_law_one", "_law_other", "_law_letter"] ["_law_one", "_law_other"] (defScope (top 51)) := ⟨rfl, rfl, rfl, by decide +kernel, rfl, by decide +kernel, by decide +kernel⟩
def g__law_tr_common : DS := (dRet (dTupOf (dLst (dLc (dIt (dVar 0)) (pName 2) (dBool (dIn (dVar 2) (dVar 1))) (dVar 2) [2]))))
def R__law_tr_common : Rl := fun ds K => ds.length = 2 ∧ g__law_tr_common { nx := fun _ => K .none, rt := K, rl := fun _ => False } (startE 3 ds)
theorem c__law_tr_common (E : Ev K mg) : Cal P w K mg base 1 "_law_tr_common" (Pr R__law_tr_common) := by
  obtain ⟨fd, F⟩ := f__law_tr_common E
  refine ⟨_, fd, ["_law_one", "_law_other"], F.ok sc__law_tr_common (len_pr fun ds K h => h.1) (fun cdv A outer s H vs Q E1 hr h => ⟨sS [] g__law_tr_common, PSs.nox ?_, ent (by decide) (fun ds K h => ⟨(fun i hi => by rw [h.1]; revert i; decide), h.2⟩) vs H Q E1 h⟩), q__law_tr_common E, F.kp, F.bindsN fun _ _ _ _ _ _ us hl => match us, hl with | [_, _], _ => rfl⟩
  exact (s_one (s_ret (w_tup (pe_callTy call_tupleA rfl (q_tuple E) PyProof.Rows.boot_tuple (pa_cons (W_of_L (l_lc (gt := (dBool (dIn (dVar 2) (dVar 1)))) (ge := (dVar 2)) (gi := (dIt (dVar 0))) tg_name (pe_lc (own := [("_law_letter", 2)]) rfl sc__law_tr_common.nd  (i_seq (W_of_R (r_var (pv 0)))) (blkOk_by (own := [("_law_letter", 2)]) rfl) (fun _ _ _ _ _ => (pgn 2 sc__law_tr_common.nd)) (fun _ _ _ _ _ => (pts_one (t_in (V_of_R (r_var (pv 2))) (V_of_R (r_var (pv 1)))))) (fun _ _ _ _ _ => (r_var (pv 2)))))) pa_nil)))))
theorem sc__law_tr_letters : FnScope ["_law_lots", "_law_letter", "_law_lot"] ["_law_lots"] (defScope (top 52)) := ⟨rfl, rfl, rfl, by decide +kernel, rfl, by decide +kernel, by decide +kernel⟩
def g__law_tr_letters : DS := (dRet (dTupOf (dLst (dLc (dRg (dC (.int 6))) (pName 1) (dBool (dEqN true (dLst (dLc (dIt (dVar 0)) (pName 2) (dBool (dIn (dVar 1) (dVar 2))) (dVar 2) [2])))) (dVar 1) [1]))))
def R__law_tr_letters : Rl := fun ds K => ds.length = 1 ∧ g__law_tr_letters { nx := fun _ => K .none, rt := K, rl := fun _ => False } (startE 3 ds)
theorem c__law_tr_letters (E : Ev K mg) : Cal P w K mg base 1 "_law_tr_letters" (Pr R__law_tr_letters) := by
  obtain ⟨fd, F⟩ := f__law_tr_letters E
  refine ⟨_, fd, ["_law_lots"], F.ok sc__law_tr_letters (len_pr fun ds K h => h.1) (fun cdv A outer s H vs Q E1 hr h => ⟨sS [] g__law_tr_letters, PSs.nox ?_, ent (by decide) (fun ds K h => ⟨(fun i hi => by rw [h.1]; revert i; decide), h.2⟩) vs H Q E1 h⟩), q__law_tr_letters E, F.kp, F.bindsN fun _ _ _ _ _ _ us hl => match us, hl with | [_], _ => rfl⟩
  exact (s_one (s_ret (w_tup (pe_callTy call_tupleA rfl (q_tuple E) PyProof.Rows.boot_tuple (pa_cons (W_of_L (l_lc (gt := (dBool (dEqN true (dLst (dLc (dIt (dVar 0)) (pName 2) (dBool (dIn (dVar 1) (dVar 2))) (dVar 2) [2]))))) (ge := (dVar 1)) (gi := (dRg (dC (.int 6)))) tg_name (pe_lc (own := [("_law_letter", 1)]) rfl sc__law_tr_letters.nd  (I_of_R (i_rng rfl (q_range E) (V_of_R r_int))) (blkOk_by (own := [("_law_letter", 1)]) rfl) (fun _ _ _ _ _ => (pgn 1 sc__law_tr_letters.nd)) (fun _ _ _ _ _ => (pts_one (t_neN hr.units (V_of_L (l_lc (gt := (dBool (dIn (dVar 1) (dVar 2)))) (ge := (dVar 2)) (gi := (dIt (dVar 0))) tg_name (pe_lc (own := [("_law_lot", 2)]) rfl sc__law_tr_letters.nd  (i_seq (W_of_R (r_var (pv 0)))) (blkOk_by (own := [("_law_lot", 2)]) rfl) (fun _ _ _ _ _ => (pgn 2 sc__law_tr_letters.nd)) (fun _ _ _ _ _ => (pts_one (t_in (V_of_R (r_var (pv 1))) (V_of_R (r_var (pv 2)))))) (fun _ _ _ _ _ => (r_var (pv 2))))))))) (fun _ _ _ _ _ => (r_var (pv 1)))))) pa_nil)))))
theorem sc__law_tr_grown : FnScope ["_law_hat", "_law_many", "_law_found", "_law_left", "_law_turn", "_law_old", "_law_new", "_law_step", "_law_letter"] ["_law_hat", "_law_many"] (defScope (top 53)) := ⟨rfl, rfl, rfl, by decide +kernel, rfl, by decide +kernel, by decide +kernel⟩
def g__law_tr_grown : DS := (dSeq (dPar 2 3 (dLst (dDis dNil)) (dLst (dLc (dRg (dC (.int 6))) (pName 8) (dBool (dGt (dCall R__law_tr_up (dCons (dC (.int 6)) dNil)) (dC (.int 0)))) (dVar 8) [8]))) (dSeq (dFor (dRg (dVar 1)) (pName 4) (dSeq (dSet 5 (dIf (dBool (dEqN true (dOwn 2))) (dCall R__law_tr_some (dCons (dPur (dCall R__law_tr_of (dCons (dOwn 2) dNil))) dNil)) (dTup dNil))) (dSeq (dSet 6 (dLst (dDis dNil))) (dSeq (dFor (dRg (dIf (dBool (dEqN true (dOwn 3))) (dCall R__law_tr_up (dCons (dC (.int 3)) dNil)) (dC (.int 0)))) (pName 7) (dIfS (dBool (dEqN true (dOwn 3))) (dAppPop 6 3 (dCall R__law_tr_up (dCons (dB bLen (dCons (dOwn 3) dNil)) dNil))) dSkip)) (dApp 2 (dTupOf (dLst (dSortI (dLst (dCatL (dLst (dItems (dVar 5))) (dOwn 6))))))))))) (dRetL (dOwnL 2))))
def R__law_tr_grown : RlL := fun ds K => ds.length = 1 ∧ g__law_tr_grown { nx := fun _ => False, rt := fun _ => False, rl := K } (startH 9 ds)
theorem c__law_tr_grown (E : Ev K mg) : Cal P w K mg base 3 "_law_tr_grown" (PrHL R__law_tr_grown) := by
  obtain ⟨fd, F⟩ := f__law_tr_grown E
  refine ⟨_, fd, ["_law_hat", "_law_many"], F.ok sc__law_tr_grown (len_prHL fun ds K h => h.1) (fun cdv A outer s H vs Q E1 hr h => ⟨sS [0, 2, 3, 6] g__law_tr_grown, PSs.nox ?_, entHL (fun ds K h => ⟨(fun i hi => by rw [h.1]; revert i; decide), h.2⟩) vs H Q E1 h⟩), q__law_tr_grown E, F.kp, F.bindsN fun _ _ _ _ _ _ us hl => match us, hl with | [_, _], _ => rfl⟩
  exact (s_cons (s_par (g := (dLst (dDis dNil))) (h := (dLst (dLc (dRg (dC (.int 6))) (pName 8) (dBool (dGt (dCall R__law_tr_up (dCons (dC (.int 6)) dNil)) (dC (.int 0)))) (dVar 8) [8]))) (ps_par (i := 2) (j := 3) rfl sc__law_tr_grown.nd rfl rfl (by decide) rfl rfl (pa_cons (S_of_L (l_lst a_nil)) (pa_cons (S_of_L (l_lc (gt := (dBool (dGt (dCall R__law_tr_up (dCons (dC (.int 6)) dNil)) (dC (.int 0))))) (ge := (dVar 8)) (gi := (dRg (dC (.int 6)))) tg_name (pe_lc (own := [("_law_letter", 8)]) rfl sc__law_tr_grown.nd  (I_of_R (i_rng rfl (q_range E) (V_of_R r_int))) (blkOk_by (own := [("_law_letter", 8)]) rfl) (fun _ _ _ _ _ => (pgn 8 sc__law_tr_grown.nd)) (fun _ _ _ _ _ => (pts_one (t_gt (V_of_R (h_call (by decide) rfl (pe_cal (c__law_tr_up E) hr (by decide) rfl (pa_cons (pv 0) (a_cons r_int a_nil))))) (V_of_R r_int)))) (fun _ _ _ _ _ => (r_var (pv 8)))))) pa_nil)) rfl) (fun _ _ _ q => q)) (s_cons (s_for (gi := (dRg (dVar 1))) (gb := (dSeq (dSet 5 (dIf (dBool (dEqN true (dOwn 2))) (dCall R__law_tr_some (dCons (dPur (dCall R__law_tr_of (dCons (dOwn 2) dNil))) dNil)) (dTup dNil))) (dSeq (dSet 6 (dLst (dDis dNil))) (dSeq (dFor (dRg (dIf (dBool (dEqN true (dOwn 3))) (dCall R__law_tr_up (dCons (dC (.int 3)) dNil)) (dC (.int 0)))) (pName 7) (dIfS (dBool (dEqN true (dOwn 3))) (dAppPop 6 3 (dCall R__law_tr_up (dCons (dB bLen (dCons (dOwn 3) dNil)) dNil))) dSkip)) (dApp 2 (dTupOf (dLst (dSortI (dLst (dCatL (dLst (dItems (dVar 5))) (dOwn 6))))))))))) PassesOwn.never rfl (i_rng rfl (q_range E) (V_of_R (r_var (pv 1)))) (pgn 4 sc__law_tr_grown.nd) tg_name (s_cons (s_set (j := 5) (g := (dIf (dBool (dEqN true (dOwn 2))) (dCall R__law_tr_some (dCons (dPur (dCall R__law_tr_of (dCons (dOwn 2) dNil))) dNil)) (dTup dNil))) (ps_set (i := 5) sc__law_tr_grown.nd rfl (by first | exact Or.inl rfl | exact Or.inr rfl) (S_of_R (r_if (t_neN hr.units (v_own (pv 2))) (h_call (by decide) rfl (pe_cal (c__law_tr_some E) hr (by decide) rfl (pa_cons (pv 0) (a_cons (h_callV (by decide) rfl (pe_cal (c__law_tr_of E) hr (by decide) rfl (pa_cons (pv 0) (a_consV (v_own (pv 2)) a_nilV)))) a_nil)))) (r_tup a_nil)))) (fun _ _ _ q => q)) (s_cons (s_set (j := 6) (g := (dLst (dDis dNil))) (ps_set (i := 6) sc__law_tr_grown.nd rfl (by first | exact Or.inl rfl | exact Or.inr rfl) (S_of_L (l_lst a_nil))) (fun _ _ _ q => q)) (s_cons (s_for (gi := (dRg (dIf (dBool (dEqN true (dOwn 3))) (dCall R__law_tr_up (dCons (dC (.int 3)) dNil)) (dC (.int 0))))) (gb := (dIfS (dBool (dEqN true (dOwn 3))) (dAppPop 6 3 (dCall R__law_tr_up (dCons (dB bLen (dCons (dOwn 3) dNil)) dNil))) dSkip)) PassesOwn.never rfl (i_rng rfl (q_range E) (V_of_R (r_if (t_neN hr.units (v_own (pv 3))) (h_call (by decide) rfl (pe_cal (c__law_tr_up E) hr (by decide) rfl (pa_cons (pv 0) (a_cons r_int a_nil)))) r_int))) (pgn 7 sc__law_tr_grown.nd) tg_name (s_one (s_if (t_neN hr.units (v_own (pv 3))) (s_one (s_appPop (ps_expr (pe_bm PySem.F.plainAttrs_list PySem.F.slot_list_append PySem.F.type_list_append mt_append (pv 6) (pa_cons (pe_bm PySem.F.plainAttrs_list PySem.F.slot_list_pop PySem.F.type_list_pop mt_popAt (pv 3) (pa_cons (h_call (by decide) rfl (pe_cal (c__law_tr_up E) hr (by decide) rfl (pa_cons (pv 0) (a_cons (w_len (pe_callB call_len_seq rfl (q_len E) PySem.boot_len (a_consV (v_own (pv 3)) a_nilV))) a_nil)))) pa_nil)) pa_nil))))) s_nil))) (s_one (s_app (ps_expr (pe_bm PySem.F.plainAttrs_list PySem.F.slot_list_append PySem.F.type_list_append mt_append (pv 2) (pa_cons (w_tup (pe_callTy call_tupleA rfl (q_tuple E) PyProof.Rows.boot_tuple (pa_cons (W_of_L (w_sortI (pe_callB (cr_sortIs hr.units) rfl (q_sorted E) PyProof.Rows.boot_sorted (pa_cons (W_of_L (l_cat (W_of_L (w_list (pe_callTy call_list_of rfl (q_list E) PyProof.Rows.boot_list (pa_cons (W_of_R (r_var (pv 5))) pa_nil)))) (w_own (pv 6)))) pa_nil)))) pa_nil))) pa_nil))))))))) (s_one (s_retO (pv 2)))))
theorem sc__law_tr_round : FnScope ["_law_hat", "_law_some", "_law_found", "_law_more", "_law_letter", "_law_at", "_law_lot"] ["_law_hat"] (defScope (top 54)) := ⟨rfl, rfl, rfl, by decide +kernel, rfl, by decide +kernel, by decide +kernel⟩
def g__law_tr_round : DS := (dSeq (dSet 1 (dLst (dCatL (dLst (dLc (dRg (dC (.int 6))) (pName 4) (dBool (dGt (dCall R__law_tr_up (dCons (dC (.int 4)) dNil)) (dC (.int 0)))) (dVar 4) [4])) (dLst (dDis (dCons (dC (.int 0)) (dCons (dC (.int 1)) (dCons (dC (.int 2)) dNil)))))))) (dSeq (dSet 1 (dLst (dSrtSet (dSetOf (dVar 1))))) (dSeq (dIfS (dBool (dEq (dCall R__law_tr_up (dCons (dC (.int 2)) dNil)) (dC (.int 0)))) (dSet 2 (dLst (dLc (dRg (dB bLen (dCons (dVar 1) dNil))) (pName 5) dYes (dLst (dCatL (dLst (dCutL (dVar 1) dNo (dAt (dVar 5)))) (dLst (dCutL (dVar 1) (dAt (dAdd (dVar 5) (dC (.int 1)))) dNo)))) [5]))) (dSet 2 (dLst (dLc (dRg (dB bLen (dCons (dVar 1) dNil))) (pName 5) dYes (dLst (dDis (dCons (dIx (dVar 1) (dSub (dVar 5) (dC (.int 1)))) (dCons (dIx (dVar 1) (dVar 5)) dNil)))) [5])))) (dSeq (dSet 3 (dLst (dLc (dRg (dC (.int 6))) (pName 4) (dAnd (dBool (dNin (dVar 4) (dVar 1))) (dBool (dEq (dCall R__law_tr_up (dCons (dC (.int 3)) dNil)) (dC (.int 0))))) (dVar 4) [4]))) (dRetL (dLc (dIt (dVar 2)) (pName 6) dYes (dTupOf (dLst (dSortI (dLst (dCatL (dVar 6) (dVar 3)))))) [6]))))))
def R__law_tr_round : RlL := fun ds K => ds.length = 0 ∧ g__law_tr_round { nx := fun _ => False, rt := fun _ => False, rl := K } (startH 7 ds)
theorem c__law_tr_round (E : Ev K mg) : Cal P w K mg base 2 "_law_tr_round" (PrHL R__law_tr_round) := by
  obtain ⟨fd, F⟩ := f__law_tr_round E
  refine ⟨_, fd, ["_law_hat"], F.ok sc__law_tr_round (len_prHL fun ds K h => h.1) (fun cdv A outer s H vs Q E1 hr h => ⟨sS [0] g__law_tr_round, PSs.nox ?_, entHL (fun ds K h => ⟨(fun i hi => by rw [h.1]; revert i; decide), h.2⟩) vs H Q E1 h⟩), q__law_tr_round E, F.kp, F.bindsN fun _ _ _ _ _ _ us hl => match us, hl with | [_], _ => rfl⟩
  exact (s_cons (s_set (j := 1) (g := (dLst (dCatL (dLst (dLc (dRg (dC (.int 6))) (pName 4) (dBool (dGt (dCall R__law_tr_up (dCons (dC (.int 4)) dNil)) (dC (.int 0)))) (dVar 4) [4])) (dLst (dDis (dCons (dC (.int 0)) (dCons (dC (.int 1)) (dCons (dC (.int 2)) dNil)))))))) (ps_set (i := 1) sc__law_tr_round.nd rfl (by first | exact Or.inl rfl | exact Or.inr rfl) (S_of_R (R_of_L (l_cat (W_of_L (l_lc (gt := (dBool (dGt (dCall R__law_tr_up (dCons (dC (.int 4)) dNil)) (dC (.int 0))))) (ge := (dVar 4)) (gi := (dRg (dC (.int 6)))) tg_name (pe_lc (own := [("_law_letter", 4)]) rfl sc__law_tr_round.nd  (I_of_R (i_rng rfl (q_range E) (V_of_R r_int))) (blkOk_by (own := [("_law_letter", 4)]) rfl) (fun _ _ _ _ _ => (pgn 4 sc__law_tr_round.nd)) (fun _ _ _ _ _ => (pts_one (t_gt (V_of_R (h_call (by decide) rfl (pe_cal (c__law_tr_up E) hr (by decide) rfl (pa_cons (pv 0) (a_cons r_int a_nil))))) (V_of_R r_int)))) (fun _ _ _ _ _ => (r_var (pv 4)))))) (W_of_L (l_lst (a_cons r_int (a_cons r_int (a_cons r_int a_nil))))))))) (fun _ _ _ q => q)) (s_cons (s_set (j := 1) (g := (dLst (dSrtSet (dSetOf (dVar 1))))) (ps_set (i := 1) sc__law_tr_round.nd rfl (by first | exact Or.inl rfl | exact Or.inr rfl) (S_of_R (R_of_L (w_srtSet (pe_callB (cr_srtSet rfl) rfl (q_sorted E) PyProof.Rows.boot_sorted (pa_cons (w_setI (pe_callTy (cr_setI rfl) rfl (q_set E) PyProof.Rows.boot_set (pa_cons (W_of_R (r_var (pv 1))) pa_nil))) pa_nil)))))) (fun _ _ _ q => q)) (s_cons (s_if (t_eq hr.units (V_of_R (h_call (by decide) rfl (pe_cal (c__law_tr_up E) hr (by decide) rfl (pa_cons (pv 0) (a_cons r_int a_nil))))) (V_of_R r_int)) (s_one (s_set (j := 2) (g := (dLst (dLc (dRg (dB bLen (dCons (dVar 1) dNil))) (pName 5) dYes (dLst (dCatL (dLst (dCutL (dVar 1) dNo (dAt (dVar 5)))) (dLst (dCutL (dVar 1) (dAt (dAdd (dVar 5) (dC (.int 1)))) dNo)))) [5]))) (ps_setLc (i := 2) (own := [("_law_at", 5)]) rfl sc__law_tr_round.nd rfl rfl (sw_true rfl rfl rfl (by decide +kernel)) (I_of_R (i_rng rfl (q_range E) (V_of_R (w_len (pe_callB call_len_seq rfl (q_len E) PySem.boot_len (a_consV (V_of_R (r_var (pv 1))) a_nilV)))))) (blkOk_by (own := [("_law_at", 5)]) rfl) (fun _ _ _ _ _ => (pgn 5 sc__law_tr_round.nd)) (fun _ _ _ _ _ => pts_yes) (fun _ _ _ _ _ => (R_of_L (l_cat (W_of_L (l_cut (W_of_R (r_var (pv 1))) o_no (o_at (V_of_R (r_var (pv 5)))))) (W_of_L (l_cut (W_of_R (r_var (pv 1))) (o_at (V_of_R (r_add (V_of_R (r_var (pv 5))) (V_of_R r_int)))) o_no)))))) (fun σ H Q q => lc_imp (O := [0]) (gt := dYes) (ge := (dLst (dCatL (dLst (dCutL (dVar 1) dNo (dAt (dVar 5)))) (dLst (dCutL (dVar 1) (dAt (dAdd (dVar 5) (dC (.int 1)))) dNo))))) (gi := (dRg (dB bLen (dCons (dVar 1) dNil)))) tg_name (by decide) (by decide) (fun _ _ _ q => q) (fun _ _ _ q => q) (fun _ _ _ q => q) (R_imp_L (S_imp_R (by decide) q))))) (s_one (s_set (j := 2) (g := (dLst (dLc (dRg (dB bLen (dCons (dVar 1) dNil))) (pName 5) dYes (dLst (dDis (dCons (dIx (dVar 1) (dSub (dVar 5) (dC (.int 1)))) (dCons (dIx (dVar 1) (dVar 5)) dNil)))) [5]))) (ps_setLc (i := 2) (own := [("_law_at", 5)]) rfl sc__law_tr_round.nd rfl rfl (sw_true rfl rfl rfl (by decide +kernel)) (I_of_R (i_rng rfl (q_range E) (V_of_R (w_len (pe_callB call_len_seq rfl (q_len E) PySem.boot_len (a_consV (V_of_R (r_var (pv 1))) a_nilV)))))) (blkOk_by (own := [("_law_at", 5)]) rfl) (fun _ _ _ _ _ => (pgn 5 sc__law_tr_round.nd)) (fun _ _ _ _ _ => pts_yes) (fun _ _ _ _ _ => (R_of_L (l_lst (a_cons (r_ix (W_of_R (r_var (pv 1))) (V_of_R (r_sub (V_of_R (r_var (pv 5))) (V_of_R r_int))) (fun _ _ => rfl)) (a_cons (r_ix (W_of_R (r_var (pv 1))) (V_of_R (r_var (pv 5))) (fun _ _ => rfl)) a_nil)))))) (fun σ H Q q => lc_imp (O := [0]) (gt := dYes) (ge := (dLst (dDis (dCons (dIx (dVar 1) (dSub (dVar 5) (dC (.int 1)))) (dCons (dIx (dVar 1) (dVar 5)) dNil))))) (gi := (dRg (dB bLen (dCons (dVar 1) dNil)))) tg_name (by decide) (by decide) (fun _ _ _ q => q) (fun _ _ _ q => q) (fun _ _ _ q => q) (R_imp_L (S_imp_R (by decide) q)))))) (s_cons (s_set (j := 3) (g := (dLst (dLc (dRg (dC (.int 6))) (pName 4) (dAnd (dBool (dNin (dVar 4) (dVar 1))) (dBool (dEq (dCall R__law_tr_up (dCons (dC (.int 3)) dNil)) (dC (.int 0))))) (dVar 4) [4]))) (ps_set (i := 3) sc__law_tr_round.nd rfl (by first | exact Or.inl rfl | exact Or.inr rfl) (S_of_R (R_of_L (l_lc (gt := (dAnd (dBool (dNin (dVar 4) (dVar 1))) (dBool (dEq (dCall R__law_tr_up (dCons (dC (.int 3)) dNil)) (dC (.int 0)))))) (ge := (dVar 4)) (gi := (dRg (dC (.int 6)))) tg_name (pe_lc (own := [("_law_letter", 4)]) rfl sc__law_tr_round.nd  (I_of_R (i_rng rfl (q_range E) (V_of_R r_int))) (blkOk_by (own := [("_law_letter", 4)]) rfl) (fun _ _ _ _ _ => (pgn 4 sc__law_tr_round.nd)) (fun _ _ _ _ _ => (pts_one (PW.pt (t_and (t_nin (V_of_R (r_var (pv 4))) (V_of_R (r_var (pv 1)))) (t_and1 (t_eq hr.units (V_of_R (h_call (by decide) rfl (pe_cal (c__law_tr_up E) hr (by decide) rfl (pa_cons (pv 0) (a_cons r_int a_nil))))) (V_of_R r_int))))))) (fun _ _ _ _ _ => (r_var (pv 4)))))))) (fun _ _ _ q => q)) (s_one (s_retL (l_lc (gt := dYes) (ge := (dTupOf (dLst (dSortI (dLst (dCatL (dVar 6) (dVar 3))))))) (gi := (dIt (dVar 2))) tg_name (pe_lc (own := [("_law_lot", 6)]) rfl sc__law_tr_round.nd  (i_seq (W_of_R (r_var (pv 2)))) (blkOk_by (own := [("_law_lot", 6)]) rfl) (fun _ _ _ _ _ => (pgn 6 sc__law_tr_round.nd)) (fun _ _ _ _ _ => pts_yes) (fun _ _ _ _ _ => (w_tup (pe_callTy call_tupleA rfl (q_tuple E) PyProof.Rows.boot_tuple (pa_cons (W_of_L (w_sortI (pe_callB (cr_sortIs hr.units) rfl (q_sorted E) PyProof.Rows.boot_sorted (pa_cons (W_of_L (l_cat (W_of_R (r_var (pv 6))) (W_of_R (r_var (pv 3))))) pa_nil)))) pa_nil))))))))))))
theorem sc__law_tr_mixed : FnScope ["_law_hat", "_law_items", "_law_left", "_law_found"] ["_law_hat", "_law_items"] (defScope (top 55)) := ⟨rfl, rfl, rfl, by decide +kernel, rfl, by decide +kernel, by decide +kernel⟩
def g__law_tr_mixed : DS := (dSeq (dPar 2 3 (dLst (dItems (dVar 1))) (dLst (dDis dNil))) (dSeq (dWhile (dBool (dEqN true (dOwn 2))) (dAppPop 3 2 (dCall R__law_tr_up (dCons (dB bLen (dCons (dOwn 2) dNil)) dNil)))) (dRet (dTupOf (dOwn 3)))))
def R__law_tr_mixed : Rl := fun ds K => ds.length = 1 ∧ g__law_tr_mixed { nx := fun _ => K .none, rt := K, rl := fun _ => False } (startH 4 ds)
theorem c__law_tr_mixed (E : Ev K mg) : Cal P w K mg base 2 "_law_tr_mixed" (PrH R__law_tr_mixed) := by
  obtain ⟨fd, F⟩ := f__law_tr_mixed E
  refine ⟨_, fd, ["_law_hat", "_law_items"], F.ok sc__law_tr_mixed (len_prH fun ds K h => h.1) (fun cdv A outer s H vs Q E1 hr h => ⟨sS [0, 2, 3] g__law_tr_mixed, PSs.nox ?_, entH (fun ds K h => ⟨(fun i hi => by rw [h.1]; revert i; decide), h.2⟩) vs H Q E1 h⟩), q__law_tr_mixed E, F.kp, F.bindsN fun _ _ _ _ _ _ us hl => match us, hl with | [_, _], _ => rfl⟩
  exact (s_cons (s_par (g := (dLst (dItems (dVar 1)))) (h := (dLst (dDis dNil))) (ps_par (i := 2) (j := 3) rfl sc__law_tr_mixed.nd rfl rfl (by decide) rfl rfl (pa_cons (S_of_L (w_list (pe_callTy call_list_of rfl (q_list E) PyProof.Rows.boot_list (pa_cons (W_of_R (r_var (pv 1))) pa_nil)))) (pa_cons (S_of_L (l_lst a_nil)) pa_nil)) rfl) (fun _ _ _ q => q)) (s_cons (s_while (t := (dBool (dEqN true (dOwn 2)))) (gb := (dAppPop 3 2 (dCall R__law_tr_up (dCons (dB bLen (dCons (dOwn 2) dNil)) dNil)))) PassesOwn.never (t_neN hr.units (v_own (pv 2))) (s_one (s_appPop (ps_expr (pe_bm PySem.F.plainAttrs_list PySem.F.slot_list_append PySem.F.type_list_append mt_append (pv 3) (pa_cons (pe_bm PySem.F.plainAttrs_list PySem.F.slot_list_pop PySem.F.type_list_pop mt_popAt (pv 2) (pa_cons (h_call (by decide) rfl (pe_cal (c__law_tr_up E) hr (by decide) rfl (pa_cons (pv 0) (a_cons (w_len (pe_callB call_len_seq rfl (q_len E) PySem.boot_len (a_consV (v_own (pv 2)) a_nilV))) a_nil)))) pa_nil)) pa_nil)))))) (s_one (s_ret (w_tup (pe_callTy call_tupleA rfl (q_tuple E) PyProof.Rows.boot_tuple (pa_cons (w_own (pv 3)) pa_nil)))))))
theorem sc__law_tr_web : FnScope ["_law_hat", "_law_most", "_law_way", "_law_found", "_law_turn"] ["_law_hat", "_law_most"] (defScope (top 56)) := ⟨rfl, rfl, rfl, by decide +kernel, rfl, by decide +kernel, by decide +kernel⟩
def g__law_tr_web : DS := (dSeq (dPar 2 3 (dCall R__law_tr_up (dCons (dC (.int 5)) dNil)) (dLst (dDis dNil))) (dSeq (dIfS (dBool (dLt (dVar 2) (dC (.int 3)))) (dSet 3 (dLst (dCallL R__law_tr_grown (dCons (dCall R__law_tr_up (dCons (dAdd (dVar 1) (dC (.int 1))) dNil)) dNil)))) (dIfS (dBool (dEq (dVar 2) (dC (.int 3)))) (dSet 3 (dLst (dCutL (dLst (dCallL R__law_tr_round dNil)) dNo (dAt (dVar 1))))) dSkip)) (dSeq (dFor (dRg (dIf (dBool (dEq (dVar 2) (dC (.int 4)))) (dCall R__law_tr_up (dCons (dVar 1) dNil)) (dCall R__law_tr_up (dCons (dC (.int 2)) dNil)))) (pName 4) (dIfS (dBool (dLt (dB bLen (dCons (dOwn 3) dNil)) (dVar 1))) (dApp 3 (dCall R__law_tr_some (dCons (dRgT (dC (.int 6))) dNil))) dSkip)) (dRet (dPur (dCall R__law_tr_mixed (dCons (dOwn 3) dNil)))))))
def R__law_tr_web : Rl := fun ds K => ds.length = 1 ∧ g__law_tr_web { nx := fun _ => K .none, rt := K, rl := fun _ => False } (startH 5 ds)
theorem c__law_tr_web (E : Ev K mg) : Cal P w K mg base 4 "_law_tr_web" (PrH R__law_tr_web) := by
  obtain ⟨fd, F⟩ := f__law_tr_web E
  refine ⟨_, fd, ["_law_hat", "_law_most"], F.ok sc__law_tr_web (len_prH fun ds K h => h.1) (fun cdv A outer s H vs Q E1 hr h => ⟨sS [0, 3] g__law_tr_web, PSs.nox ?_, entH (fun ds K h => ⟨(fun i hi => by rw [h.1]; revert i; decide), h.2⟩) vs H Q E1 h⟩), q__law_tr_web E, F.kp, F.bindsN fun _ _ _ _ _ _ us hl => match us, hl with | [_, _], _ => rfl⟩
  exact (s_cons (s_par (g := (dCall R__law_tr_up (dCons (dC (.int 5)) dNil))) (h := (dLst (dDis dNil))) (ps_par (i := 2) (j := 3) rfl sc__law_tr_web.nd rfl rfl (by decide) rfl rfl (pa_cons (S_of_R (h_call (by decide) rfl (pe_cal (c__law_tr_up E) hr (by decide) rfl (pa_cons (pv 0) (a_cons r_int a_nil))))) (pa_cons (S_of_L (l_lst a_nil)) pa_nil)) rfl) (fun _ _ _ q => q)) (s_cons (s_if (t_lt (V_of_R (r_var (pv 2))) (V_of_R r_int)) (s_one (s_set (j := 3) (g := (dLst (dCallL R__law_tr_grown (dCons (dCall R__law_tr_up (dCons (dAdd (dVar 1) (dC (.int 1))) dNil)) dNil)))) (ps_set (i := 3) sc__law_tr_web.nd rfl (by first | exact Or.inl rfl | exact Or.inr rfl) (S_of_L (h_callL (by decide) rfl (pe_cal (c__law_tr_grown E) hr (by decide) rfl (pa_cons (pv 0) (a_cons (h_call (by decide) rfl (pe_cal (c__law_tr_up E) hr (by decide) rfl (pa_cons (pv 0) (a_cons (r_add (V_of_R (r_var (pv 1))) (V_of_R r_int)) a_nil)))) a_nil)))))) (fun _ _ _ q => q))) (s_one (s_if (t_eq hr.units (V_of_R (r_var (pv 2))) (V_of_R r_int)) (s_one (s_set (j := 3) (g := (dLst (dCutL (dLst (dCallL R__law_tr_round dNil)) dNo (dAt (dVar 1))))) (ps_set (i := 3) sc__law_tr_web.nd rfl (by first | exact Or.inl rfl | exact Or.inr rfl) (S_of_L (l_cut (W_of_L (h_callL (by decide) rfl (pe_cal (c__law_tr_round E) hr (by decide) rfl (pa_cons (pv 0) a_nil)))) o_no (o_at (V_of_R (r_var (pv 1))))))) (fun _ _ _ q => q))) s_nil))) (s_cons (s_for (gi := (dRg (dIf (dBool (dEq (dVar 2) (dC (.int 4)))) (dCall R__law_tr_up (dCons (dVar 1) dNil)) (dCall R__law_tr_up (dCons (dC (.int 2)) dNil))))) (gb := (dIfS (dBool (dLt (dB bLen (dCons (dOwn 3) dNil)) (dVar 1))) (dApp 3 (dCall R__law_tr_some (dCons (dRgT (dC (.int 6))) dNil))) dSkip)) PassesOwn.never rfl (i_rng rfl (q_range E) (V_of_R (r_if (t_eq hr.units (V_of_R (r_var (pv 2))) (V_of_R r_int)) (h_call (by decide) rfl (pe_cal (c__law_tr_up E) hr (by decide) rfl (pa_cons (pv 0) (a_cons (r_var (pv 1)) a_nil)))) (h_call (by decide) rfl (pe_cal (c__law_tr_up E) hr (by decide) rfl (pa_cons (pv 0) (a_cons r_int a_nil))))))) (pgn 4 sc__law_tr_web.nd) tg_name (s_one (s_if (t_lt (V_of_R (w_len (pe_callB call_len_seq rfl (q_len E) PySem.boot_len (a_consV (v_own (pv 3)) a_nilV)))) (V_of_R (r_var (pv 1)))) (s_one (s_app (ps_expr (pe_bm PySem.F.plainAttrs_list PySem.F.slot_list_append PySem.F.type_list_append mt_append (pv 3) (pa_cons (h_call (by decide) rfl (pe_cal (c__law_tr_some E) hr (by decide) rfl (pa_cons (pv 0) (a_cons (r_rgT (pe_tupRgA rfl rfl (q_tuple E) (prg_1 rfl (q_range E) r_int))) a_nil)))) pa_nil))))) s_nil))) (s_one (s_ret (h_callV (by decide) rfl (pe_cal (c__law_tr_mixed E) hr (by decide) rfl (pa_cons (pv 0) (a_consV (v_own (pv 3)) a_nilV)))))))))
theorem sc__law_tr_folds : FnScope ["_law_lots", "_law_left", "_law_turn", "_law_letter", "_law_some", "_law_at", "_law_lot", "_law_one", "_law_place", "_law_other"] ["_law_lots"] (defScope (top 57)) := ⟨rfl, rfl, rfl, by decide +kernel, rfl, by decide +kernel, by decide +kernel⟩
def g__law_tr_folds : DS := (dSeq (dSet 1 (dLst (dLc (dIt (dVar 0)) (pName 6) dYes (dLst (dItems (dVar 6))) [6]))) (dSeq (dFor (dRg (dAdd (dMul (dC (.int 8)) (dB bLen (dCons (dVar 0) dNil))) (dC (.int 8)))) (pName 2) (dSeq (dFor (dRg (dC (.int 6))) (pName 3) (dSeq (dSet 4 (dLst (dLc (dNum (dOwn 1)) (pTwo 5 6) (dBool (dIn (dVar 3) (dVar 6))) (dVar 5) [5, 6]))) (dIfS (dBool (dEq (dB bLen (dCons (dVar 4) dNil)) (dC (.int 1)))) (dSetI 1 (dIx (dVar 4) (dC (.int 0))) (dLst (dLc (dIt (dIx (dOwn 1) (dIx (dVar 4) (dC (.int 0))))) (pName 7) (dBool (dNe (dVar 7) (dVar 3))) (dVar 7) [7]))) dSkip))) (dFor (dIt (dLst (dRevL (dLst (dRgL (dB bLen (dCons (dOwn 1) dNil))))))) (pName 5) (dIfS (dBool (dEqN true (dLst (dLc (dNum (dOwn 1)) (pTwo 8 9) (dAnd (dBool (dNe (dVar 8) (dVar 5))) (dBool (dCall R__law_tr_within (dCons (dIx (dOwn 1) (dVar 5)) (dCons (dVar 9) dNil))))) (dVar 9) [8, 9])))) (dPop 1 (dVar 5)) dSkip)))) (dRet (dLt (dB bLen (dCons (dOwn 1) dNil)) (dC (.int 2))))))
def R__law_tr_folds : Rl := fun ds K => ds.length = 1 ∧ g__law_tr_folds { nx := fun _ => K .none, rt := K, rl := fun _ => False } (startE 10 ds)
theorem c__law_tr_folds (E : Ev K mg) : Cal P w K mg base 2 "_law_tr_folds" (Pr R__law_tr_folds) := by
  obtain ⟨fd, F⟩ := f__law_tr_folds E
  refine ⟨_, fd, ["_law_lots"], F.ok sc__law_tr_folds (len_pr fun ds K h => h.1) (fun cdv A outer s H vs Q E1 hr h => ⟨sS [1] g__law_tr_folds, PSs.nox ?_, ent (by decide) (fun ds K h => ⟨(fun i hi => by rw [h.1]; revert i; decide), h.2⟩) vs H Q E1 h⟩), q__law_tr_folds E, F.kp, F.bindsN fun _ _ _ _ _ _ us hl => match us, hl with | [_], _ => rfl⟩
  exact (s_cons (s_set (j := 1) (g := (dLst (dLc (dIt (dVar 0)) (pName 6) dYes (dLst (dItems (dVar 6))) [6]))) (ps_set (i := 1) sc__law_tr_folds.nd rfl (by first | exact Or.inl rfl | exact Or.inr rfl) (S_of_L (l_lc (gt := dYes) (ge := (dLst (dItems (dVar 6)))) (gi := (dIt (dVar 0))) tg_name (pe_lc (own := [("_law_lot", 6)]) rfl sc__law_tr_folds.nd  (i_seq (W_of_R (r_var (pv 0)))) (blkOk_by (own := [("_law_lot", 6)]) rfl) (fun _ _ _ _ _ => (pgn 6 sc__law_tr_folds.nd)) (fun _ _ _ _ _ => pts_yes) (fun _ _ _ _ _ => (R_of_L (w_list (pe_callTy call_list_of rfl (q_list E) PyProof.Rows.boot_list (pa_cons (W_of_R (r_var (pv 6))) pa_nil))))))))) (fun _ _ _ q => q)) (s_cons (s_for (gi := (dRg (dAdd (dMul (dC (.int 8)) (dB bLen (dCons (dVar 0) dNil))) (dC (.int 8))))) (gb := (dSeq (dFor (dRg (dC (.int 6))) (pName 3) (dSeq (dSet 4 (dLst (dLc (dNum (dOwn 1)) (pTwo 5 6) (dBool (dIn (dVar 3) (dVar 6))) (dVar 5) [5, 6]))) (dIfS (dBool (dEq (dB bLen (dCons (dVar 4) dNil)) (dC (.int 1)))) (dSetI 1 (dIx (dVar 4) (dC (.int 0))) (dLst (dLc (dIt (dIx (dOwn 1) (dIx (dVar 4) (dC (.int 0))))) (pName 7) (dBool (dNe (dVar 7) (dVar 3))) (dVar 7) [7]))) dSkip))) (dFor (dIt (dLst (dRevL (dLst (dRgL (dB bLen (dCons (dOwn 1) dNil))))))) (pName 5) (dIfS (dBool (dEqN true (dLst (dLc (dNum (dOwn 1)) (pTwo 8 9) (dAnd (dBool (dNe (dVar 8) (dVar 5))) (dBool (dCall R__law_tr_within (dCons (dIx (dOwn 1) (dVar 5)) (dCons (dVar 9) dNil))))) (dVar 9) [8, 9])))) (dPop 1 (dVar 5)) dSkip)))) PassesOwn.never rfl (i_rng rfl (q_range E) (V_of_R (r_add (V_of_R (r_mul (V_of_R r_int) (V_of_R (w_len (pe_callB call_len_seq rfl (q_len E) PySem.boot_len (a_consV (V_of_R (r_var (pv 0))) a_nilV)))))) (V_of_R r_int)))) (pgn 2 sc__law_tr_folds.nd) tg_name (s_cons (s_for (gi := (dRg (dC (.int 6)))) (gb := (dSeq (dSet 4 (dLst (dLc (dNum (dOwn 1)) (pTwo 5 6) (dBool (dIn (dVar 3) (dVar 6))) (dVar 5) [5, 6]))) (dIfS (dBool (dEq (dB bLen (dCons (dVar 4) dNil)) (dC (.int 1)))) (dSetI 1 (dIx (dVar 4) (dC (.int 0))) (dLst (dLc (dIt (dIx (dOwn 1) (dIx (dVar 4) (dC (.int 0))))) (pName 7) (dBool (dNe (dVar 7) (dVar 3))) (dVar 7) [7]))) dSkip))) PassesOwn.never rfl (i_rng rfl (q_range E) (V_of_R r_int)) (pgn 3 sc__law_tr_folds.nd) tg_name (s_cons (s_set (j := 4) (g := (dLst (dLc (dNum (dOwn 1)) (pTwo 5 6) (dBool (dIn (dVar 3) (dVar 6))) (dVar 5) [5, 6]))) (ps_setLc (i := 4) (own := [("_law_at", 5), ("_law_lot", 6)]) rfl sc__law_tr_folds.nd rfl rfl (sw_true rfl rfl rfl (by decide +kernel)) (i_num rfl (q_enumerate E) (w_own (pv 1))) (blkOk_by (own := [("_law_at", 5), ("_law_lot", 6)]) rfl) (fun _ _ _ _ _ => (pg_tup rfl (pgs_cons (pgn 5 sc__law_tr_folds.nd) (pgs_cons (pgn 6 sc__law_tr_folds.nd) pgs_nil)))) (fun _ _ _ _ _ => (pts_one (t_in (V_of_R (r_var (pv 3))) (V_of_R (r_var (pv 6)))))) (fun _ _ _ _ _ => (r_var (pv 5)))) (fun σ H Q q => lc_imp (O := [1]) (gt := (dBool (dIn (dVar 3) (dVar 6)))) (ge := (dVar 5)) (gi := (dNum (dOwn 1))) tg_two (by decide) (by decide) (fun _ _ _ q => q) (fun _ _ _ q => q) (fun _ _ _ q => q) (R_imp_L (S_imp_R (by decide) q)))) (s_one (s_if (t_eq hr.units (V_of_R (w_len (pe_callB call_len_seq rfl (q_len E) PySem.boot_len (a_consV (V_of_R (r_var (pv 4))) a_nilV)))) (V_of_R r_int)) (s_one (s_setI (ge := (dLst (dLc (dIt (dIx (dOwn 1) (dIx (dVar 4) (dC (.int 0))))) (pName 7) (dBool (dNe (dVar 7) (dVar 3))) (dVar 7) [7]))) (ps_asg (R_of_L (l_lc (gt := (dBool (dNe (dVar 7) (dVar 3)))) (ge := (dVar 7)) (gi := (dIt (dIx (dOwn 1) (dIx (dVar 4) (dC (.int 0)))))) tg_name (pe_lc (own := [("_law_one", 7)]) rfl sc__law_tr_folds.nd  (i_seq (W_of_R (r_ix (w_own (pv 1)) (V_of_R (r_ix (W_of_R (r_var (pv 4))) (V_of_R r_int) (fun _ _ => rfl))) (fun _ _ => rfl)))) (blkOk_by (own := [("_law_one", 7)]) rfl) (fun _ _ _ _ _ => (pgn 7 sc__law_tr_folds.nd)) (fun _ _ _ _ _ => (pts_one (t_ne hr.units (V_of_R (r_var (pv 7))) (V_of_R (r_var (pv 3)))))) (fun _ _ _ _ _ => (r_var (pv 7)))))) (pg_sub (pv 1) (r_ix (W_of_R (r_var (pv 4))) (V_of_R r_int) (fun _ _ => rfl)) set_list)) (fun _ _ _ q => q))) s_nil)))) (s_one (s_for (gi := (dIt (dLst (dRevL (dLst (dRgL (dB bLen (dCons (dOwn 1) dNil)))))))) (gb := (dIfS (dBool (dEqN true (dLst (dLc (dNum (dOwn 1)) (pTwo 8 9) (dAnd (dBool (dNe (dVar 8) (dVar 5))) (dBool (dCall R__law_tr_within (dCons (dIx (dOwn 1) (dVar 5)) (dCons (dVar 9) dNil))))) (dVar 9) [8, 9])))) (dPop 1 (dVar 5)) dSkip)) PassesOwn.never rfl (i_seqR (R_of_L (l_revL (pe_revL (W_of_L (l_rgL (pe_listRg rfl rfl (q_list E) (prg_1 rfl (q_range E) (w_len (pe_callB call_len_seq rfl (q_len E) PySem.boot_len (a_consV (v_own (pv 1)) a_nilV))))))))))) (pgn 5 sc__law_tr_folds.nd) tg_name (s_one (s_if (t_neN hr.units (V_of_L (l_lc (gt := (dAnd (dBool (dNe (dVar 8) (dVar 5))) (dBool (dCall R__law_tr_within (dCons (dIx (dOwn 1) (dVar 5)) (dCons (dVar 9) dNil)))))) (ge := (dVar 9)) (gi := (dNum (dOwn 1))) tg_two (pe_lc (own := [("_law_place", 8), ("_law_other", 9)]) rfl sc__law_tr_folds.nd  (i_num rfl (q_enumerate E) (w_own (pv 1))) (blkOk_by (own := [("_law_place", 8), ("_law_other", 9)]) rfl) (fun _ _ _ _ _ => (pg_tup rfl (pgs_cons (pgn 8 sc__law_tr_folds.nd) (pgs_cons (pgn 9 sc__law_tr_folds.nd) pgs_nil)))) (fun _ _ _ _ _ => (pts_one (PW.pt (t_and (t_ne hr.units (V_of_R (r_var (pv 8))) (V_of_R (r_var (pv 5)))) (t_and1 (t_val (r_call rfl (pe_cal (c__law_tr_within E) hr (by decide) rfl (a_cons (r_ix (w_own (pv 1)) (V_of_R (r_var (pv 5))) (fun _ _ => rfl)) (a_cons (r_var (pv 9)) a_nil)))))))))) (fun _ _ _ _ _ => (r_var (pv 9))))))) (s_one (s_pop (ps_expr (pe_bm PySem.F.plainAttrs_list PySem.F.slot_list_pop PySem.F.type_list_pop mt_popAt (pv 1) (pa_cons (r_var (pv 5)) pa_nil))))) s_nil)))))) (s_one (s_ret (r_lt (V_of_R (w_len (pe_callB call_len_seq rfl (q_len E) PySem.boot_len (a_consV (v_own (pv 1)) a_nilV)))) (V_of_R r_int))))))
theorem sc__law_tr_is_place : FnScope ["_law_value", "_law_many"] ["_law_value", "_law_many"] (defScope (top 58)) := ⟨rfl, rfl, rfl, by decide +kernel, rfl, by decide +kernel, by decide +kernel⟩
def g__law_tr_is_place : DS := (dRet (dAndV (dUn (fun d K => K (.bool (isT "int" d))) (dVar 0)) (dAndV (dNotV (dUn (fun d K => K (.bool (isT "bool" d))) (dVar 0))) (dCh (dC (.int 0)) (dVar 0) (dVar 1)))))
def R__law_tr_is_place : Rl := fun ds K => ds.length = 2 ∧ g__law_tr_is_place { nx := fun _ => K .none, rt := K, rl := fun _ => False } (startE 2 ds)
theorem c__law_tr_is_place (E : Ev K mg) : Cal P w K mg base 1 "_law_tr_is_place" (Pr R__law_tr_is_place) := by
  obtain ⟨fd, F⟩ := f__law_tr_is_place E
  refine ⟨_, fd, ["_law_value", "_law_many"], F.ok sc__law_tr_is_place (len_pr fun ds K h => h.1) (fun cdv A outer s H vs Q E1 hr h => ⟨sS [] g__law_tr_is_place, PSs.nox ?_, ent (by decide) (fun ds K h => ⟨(fun i hi => by rw [h.1]; revert i; decide), h.2⟩) vs H Q E1 h⟩), q__law_tr_is_place E, F.kp, F.bindsN fun _ _ _ _ _ _ us hl => match us, hl with | [_, _], _ => rfl⟩
  exact (s_one (s_ret (r_and (V_of_R (w_isi .i (pe_callB call_isi rfl (q_isinstance E) PyProof.Rows.boot_isinstance (pa_cons (V_of_R (r_var (pv 0))) (pa_cons (pe_bltn rfl (q_int E) PyProof.Rows.boot_int rfl) pa_nil))))) (r_and (V_of_R (r_not (V_of_R (w_isi .b (pe_callB call_isi rfl (q_isinstance E) PyProof.Rows.boot_isinstance (pa_cons (V_of_R (r_var (pv 0))) (pa_cons (pe_bltn rfl (q_bool E) PyProof.Rows.boot_bool rfl) pa_nil))))))) (r_one (r_chain (pe_chain op_le op_lt (V_of_R r_int) (V_of_R (r_var (pv 0))) (V_of_R (r_var (pv 1))))))))))
theorem sc__law_tr_is_tree : FnScope ["_law_lots", "_law_value", "_law_tops", "_law_there", "_law_turn", "_law_letter", "_law_some", "_law_ties", "_law_above", "_law_at", "_law_lot"] ["_law_lots", "_law_value"] (defScope (top 59)) := ⟨rfl, rfl, rfl, by decide +kernel, rfl, by decide +kernel, by decide +kernel⟩
def g__law_tr_is_tree : DS := (dSeq (dIfS (dOr (dNot (dBool (dUn (fun d K => K (.bool (isT "tuple" d))) (dVar 1)))) (dBool (dNe (dB bLen (dCons (dVar 1) dNil)) (dB bLen (dCons (dVar 0) dNil))))) (dRet (dC (.bool false))) dSkip) (dSeq (dIfS (dBool (dEqN true (dLst (dLc (dIt (dVar 1)) (pName 8) (dAnd (dBool (dNotN (dVar 8))) (dNot (dBool (dCall R__law_tr_is_place (dCons (dVar 8) (dCons (dB bLen (dCons (dVar 0) dNil)) dNil)))))) (dVar 8) [8])))) (dRet (dC (.bool false))) dSkip) (dSeq (dIfS (dBool (dEq (dVar 1) (dTup dNil))) (dRet (dC (.bool true))) dSkip) (dSeq (dSet 2 (dLst (dLc (dNum (dVar 1)) (pTwo 9 8) (dBool (dIsN (dVar 8))) (dVar 9) [9, 8]))) (dSeq (dIfS (dBool (dNe (dB bLen (dCons (dVar 2) dNil)) (dC (.int 1)))) (dRet (dC (.bool false))) dSkip) (dSeq (dSet 3 (dVar 2)) (dSeq (dFor (dRg (dB bLen (dCons (dVar 1) dNil))) (pName 4) (dSet 3 (dLst (dCatL (dVar 2) (dLst (dLc (dNum (dVar 1)) (pTwo 9 8) (dBool (dIn (dVar 8) (dVar 3))) (dVar 9) [9, 8])))))) (dSeq (dIfS (dBool (dNe (dLenSet (dVar 3)) (dB bLen (dCons (dVar 1) dNil)))) (dRet (dC (.bool false))) dSkip) (dSeq (dFor (dRg (dC (.int 6))) (pName 5) (dSeq (dSet 6 (dLst (dLc (dNum (dVar 0)) (pTwo 9 10) (dBool (dIn (dVar 5) (dVar 10))) (dVar 9) [9, 10]))) (dSeq (dSet 7 (dLst (dLc (dIt (dVar 6)) (pName 9) (dAnd (dBool (dNotN (dIx (dVar 1) (dVar 9)))) (dBool (dIn (dVar 5) (dIx (dVar 0) (dIx (dVar 1) (dVar 9)))))) (dVar 9) [9]))) (dIfS (dAnd (dBool (dEqN true (dVar 6))) (dBool (dNe (dB bLen (dCons (dVar 7) dNil)) (dSub (dB bLen (dCons (dVar 6) dNil)) (dC (.int 1)))))) (dRet (dC (.bool false))) dSkip)))) (dRet (dC (.bool true))))))))))))
def R__law_tr_is_tree : Rl := fun ds K => ds.length = 2 ∧ g__law_tr_is_tree { nx := fun _ => K .none, rt := K, rl := fun _ => False } (startE 11 ds)
theorem c__law_tr_is_tree (E : Ev K mg) : Cal P w K mg base 2 "_law_tr_is_tree" (Pr R__law_tr_is_tree) := by
  obtain ⟨fd, F⟩ := f__law_tr_is_tree E
  refine ⟨_, fd, ["_law_lots", "_law_value"], F.ok sc__law_tr_is_tree (len_pr fun ds K h => h.1) (fun cdv A outer s H vs Q E1 hr h => ⟨sS [] g__law_tr_is_tree, PSs.nox ?_, ent (by decide) (fun ds K h => ⟨(fun i hi => by rw [h.1]; revert i; decide), h.2⟩) vs H Q E1 h⟩), q__law_tr_is_tree E, F.kp, F.bindsN fun _ _ _ _ _ _ us hl => match us, hl with | [_, _], _ => rfl⟩
  exact (s_cons (s_if (PW.pt (t_or (t_not (t_val (w_isi .t (pe_callB call_isi rfl (q_isinstance E) PyProof.Rows.boot_isinstance (pa_cons (V_of_R (r_var (pv 1))) (pa_cons (pe_bltn rfl (q_tuple E) PyProof.Rows.boot_tuple rfl) pa_nil)))))) (t_or1 (t_ne hr.units (V_of_R (w_len (pe_callB call_len_seq rfl (q_len E) PySem.boot_len (a_consV (V_of_R (r_var (pv 1))) a_nilV)))) (V_of_R (w_len (pe_callB call_len_seq rfl (q_len E) PySem.boot_len (a_consV (V_of_R (r_var (pv 0))) a_nilV)))))))) (s_one (s_ret r_bl)) s_nil) (s_cons (s_if (t_neN hr.units (V_of_L (l_lc (gt := (dAnd (dBool (dNotN (dVar 8))) (dNot (dBool (dCall R__law_tr_is_place (dCons (dVar 8) (dCons (dB bLen (dCons (dVar 0) dNil)) dNil))))))) (ge := (dVar 8)) (gi := (dIt (dVar 1))) tg_name (pe_lc (own := [("_law_above", 8)]) rfl sc__law_tr_is_tree.nd  (i_seq (W_of_R (r_var (pv 1)))) (blkOk_by (own := [("_law_above", 8)]) rfl) (fun _ _ _ _ _ => (pgn 8 sc__law_tr_is_tree.nd)) (fun _ _ _ _ _ => (pts_one (PW.pt (t_and (t_notN (V_of_R (r_var (pv 8)))) (t_and1 (t_not (t_val (r_call rfl (pe_cal (c__law_tr_is_place E) hr (by decide) rfl (a_cons (r_var (pv 8)) (a_cons (w_len (pe_callB call_len_seq rfl (q_len E) PySem.boot_len (a_consV (V_of_R (r_var (pv 0))) a_nilV))) a_nil))))))))))) (fun _ _ _ _ _ => (r_var (pv 8))))))) (s_one (s_ret r_bl)) s_nil) (s_cons (s_if (t_eq hr.units (V_of_R (r_var (pv 1))) (V_of_R (r_tup a_nil))) (s_one (s_ret r_bl)) s_nil) (s_cons (s_set (j := 2) (g := (dLst (dLc (dNum (dVar 1)) (pTwo 9 8) (dBool (dIsN (dVar 8))) (dVar 9) [9, 8]))) (ps_setLc (i := 2) (own := [("_law_at", 9), ("_law_above", 8)]) rfl sc__law_tr_is_tree.nd rfl rfl (sw_true rfl rfl rfl (by decide +kernel)) (i_num rfl (q_enumerate E) (W_of_R (r_var (pv 1)))) (blkOk_by (own := [("_law_at", 9), ("_law_above", 8)]) rfl) (fun _ _ _ _ _ => (pg_tup rfl (pgs_cons (pgn 9 sc__law_tr_is_tree.nd) (pgs_cons (pgn 8 sc__law_tr_is_tree.nd) pgs_nil)))) (fun _ _ _ _ _ => (pts_one (t_isN (V_of_R (r_var (pv 8)))))) (fun _ _ _ _ _ => (r_var (pv 9)))) (fun σ H Q q => lc_imp (O := []) (gt := (dBool (dIsN (dVar 8)))) (ge := (dVar 9)) (gi := (dNum (dVar 1))) tg_two (by decide) (by decide) (fun _ _ _ q => q) (fun _ _ _ q => q) (fun _ _ _ q => q) (R_imp_L (S_imp_R (by decide) q)))) (s_cons (s_if (t_ne hr.units (V_of_R (w_len (pe_callB call_len_seq rfl (q_len E) PySem.boot_len (a_consV (V_of_R (r_var (pv 2))) a_nilV)))) (V_of_R r_int)) (s_one (s_ret r_bl)) s_nil) (s_cons (s_set (j := 3) (g := (dVar 2)) (ps_set (i := 3) sc__law_tr_is_tree.nd rfl (by first | exact Or.inl rfl | exact Or.inr rfl) (S_of_R (r_var (pv 2)))) (fun _ _ _ q => q)) (s_cons (s_for (gi := (dRg (dB bLen (dCons (dVar 1) dNil)))) (gb := (dSet 3 (dLst (dCatL (dVar 2) (dLst (dLc (dNum (dVar 1)) (pTwo 9 8) (dBool (dIn (dVar 8) (dVar 3))) (dVar 9) [9, 8])))))) PassesOwn.never rfl (i_rng rfl (q_range E) (V_of_R (w_len (pe_callB call_len_seq rfl (q_len E) PySem.boot_len (a_consV (V_of_R (r_var (pv 1))) a_nilV))))) (pgn 4 sc__law_tr_is_tree.nd) tg_name (s_one (s_set (j := 3) (g := (dLst (dCatL (dVar 2) (dLst (dLc (dNum (dVar 1)) (pTwo 9 8) (dBool (dIn (dVar 8) (dVar 3))) (dVar 9) [9, 8]))))) (ps_set (i := 3) sc__law_tr_is_tree.nd rfl (by first | exact Or.inl rfl | exact Or.inr rfl) (S_of_R (R_of_L (l_cat (W_of_R (r_var (pv 2))) (W_of_L (l_lc (gt := (dBool (dIn (dVar 8) (dVar 3)))) (ge := (dVar 9)) (gi := (dNum (dVar 1))) tg_two (pe_lc (own := [("_law_at", 9), ("_law_above", 8)]) rfl sc__law_tr_is_tree.nd  (i_num rfl (q_enumerate E) (W_of_R (r_var (pv 1)))) (blkOk_by (own := [("_law_at", 9), ("_law_above", 8)]) rfl) (fun _ _ _ _ _ => (pg_tup rfl (pgs_cons (pgn 9 sc__law_tr_is_tree.nd) (pgs_cons (pgn 8 sc__law_tr_is_tree.nd) pgs_nil)))) (fun _ _ _ _ _ => (pts_one (t_in (V_of_R (r_var (pv 8))) (V_of_R (r_var (pv 3)))))) (fun _ _ _ _ _ => (r_var (pv 9)))))))))) (fun _ _ _ q => q)))) (s_cons (s_if (t_ne hr.units (V_of_R (w_lenSet (pe_lenSet rfl rfl (q_len E) rfl (q_set E) (W_of_R (r_var (pv 3)))))) (V_of_R (w_len (pe_callB call_len_seq rfl (q_len E) PySem.boot_len (a_consV (V_of_R (r_var (pv 1))) a_nilV))))) (s_one (s_ret r_bl)) s_nil) (s_cons (s_for (gi := (dRg (dC (.int 6)))) (gb := (dSeq (dSet 6 (dLst (dLc (dNum (dVar 0)) (pTwo 9 10) (dBool (dIn (dVar 5) (dVar 10))) (dVar 9) [9, 10]))) (dSeq (dSet 7 (dLst (dLc (dIt (dVar 6)) (pName 9) (dAnd (dBool (dNotN (dIx (dVar 1) (dVar 9)))) (dBool (dIn (dVar 5) (dIx (dVar 0) (dIx (dVar 1) (dVar 9)))))) (dVar 9) [9]))) (dIfS (dAnd (dBool (dEqN true (dVar 6))) (dBool (dNe (dB bLen (dCons (dVar 7) dNil)) (dSub (dB bLen (dCons (dVar 6) dNil)) (dC (.int 1)))))) (dRet (dC (.bool false))) dSkip)))) PassesOwn.never rfl (i_rng rfl (q_range E) (V_of_R r_int)) (pgn 5 sc__law_tr_is_tree.nd) tg_name (s_cons (s_set (j := 6) (g := (dLst (dLc (dNum (dVar 0)) (pTwo 9 10) (dBool (dIn (dVar 5) (dVar 10))) (dVar 9) [9, 10]))) (ps_setLc (i := 6) (own := [("_law_at", 9), ("_law_lot", 10)]) rfl sc__law_tr_is_tree.nd rfl rfl (sw_true rfl rfl rfl (by decide +kernel)) (i_num rfl (q_enumerate E) (W_of_R (r_var (pv 0)))) (blkOk_by (own := [("_law_at", 9), ("_law_lot", 10)]) rfl) (fun _ _ _ _ _ => (pg_tup rfl (pgs_cons (pgn 9 sc__law_tr_is_tree.nd) (pgs_cons (pgn 10 sc__law_tr_is_tree.nd) pgs_nil)))) (fun _ _ _ _ _ => (pts_one (t_in (V_of_R (r_var (pv 5))) (V_of_R (r_var (pv 10)))))) (fun _ _ _ _ _ => (r_var (pv 9)))) (fun σ H Q q => lc_imp (O := []) (gt := (dBool (dIn (dVar 5) (dVar 10)))) (ge := (dVar 9)) (gi := (dNum (dVar 0))) tg_two (by decide) (by decide) (fun _ _ _ q => q) (fun _ _ _ q => q) (fun _ _ _ q => q) (R_imp_L (S_imp_R (by decide) q)))) (s_cons (s_set (j := 7) (g := (dLst (dLc (dIt (dVar 6)) (pName 9) (dAnd (dBool (dNotN (dIx (dVar 1) (dVar 9)))) (dBool (dIn (dVar 5) (dIx (dVar 0) (dIx (dVar 1) (dVar 9)))))) (dVar 9) [9]))) (ps_setLc (i := 7) (own := [("_law_at", 9)]) rfl sc__law_tr_is_tree.nd rfl rfl (sw_true rfl rfl rfl (by decide +kernel)) (i_seq (W_of_R (r_var (pv 6)))) (blkOk_by (own := [("_law_at", 9)]) rfl) (fun _ _ _ _ _ => (pgn 9 sc__law_tr_is_tree.nd)) (fun _ _ _ _ _ => (pts_one (PW.pt (t_and (t_notN (V_of_R (r_ix (W_of_R (r_var (pv 1))) (V_of_R (r_var (pv 9))) (fun _ _ => rfl)))) (t_and1 (t_in (V_of_R (r_var (pv 5))) (V_of_R (r_ix (W_of_R (r_var (pv 0))) (V_of_R (r_ix (W_of_R (r_var (pv 1))) (V_of_R (r_var (pv 9))) (fun _ _ => rfl))) (fun _ _ => rfl))))))))) (fun _ _ _ _ _ => (r_var (pv 9)))) (fun σ H Q q => lc_imp (O := []) (gt := (dAnd (dBool (dNotN (dIx (dVar 1) (dVar 9)))) (dBool (dIn (dVar 5) (dIx (dVar 0) (dIx (dVar 1) (dVar 9))))))) (ge := (dVar 9)) (gi := (dIt (dVar 6))) tg_name (by decide) (by decide) (fun _ _ _ q => q) (fun _ _ _ q => q) (fun _ _ _ q => q) (R_imp_L (S_imp_R (by decide) q)))) (s_one (s_if (PW.pt (t_and (t_neN hr.units (V_of_R (r_var (pv 6)))) (t_and1 (t_ne hr.units (V_of_R (w_len (pe_callB call_len_seq rfl (q_len E) PySem.boot_len (a_consV (V_of_R (r_var (pv 7))) a_nilV)))) (V_of_R (r_sub (V_of_R (w_len (pe_callB call_len_seq rfl (q_len E) PySem.boot_len (a_consV (V_of_R (r_var (pv 6))) a_nilV)))) (V_of_R r_int))))))) (s_one (s_ret r_bl)) s_nil))))) (s_one (s_ret r_bl)))))))))))
theorem sc__law_tr_is_lot : FnScope ["_law_value", "_law_one"] ["_law_value"] (defScope (top 60)) := ⟨rfl, rfl, rfl, by decide +kernel, rfl, by decide +kernel, by decide +kernel⟩
def g__law_tr_is_lot : DS := (dSeq (dIfS (dOr (dNot (dBool (dUn (fun d K => K (.bool (isT "tuple" d))) (dVar 0)))) (dBool (dEqN true (dLst (dLc (dIt (dVar 0)) (pName 1) (dNot (dBool (dCall R__law_tr_is_place (dCons (dVar 1) (dCons (dC (.int 6)) dNil))))) (dVar 1) [1]))))) (dRet (dC (.bool false))) dSkip) (dRet (dEq (dLst (dItems (dVar 0))) (dLst (dSrtSet (dSetOf (dVar 0)))))))
def R__law_tr_is_lot : Rl := fun ds K => ds.length = 1 ∧ g__law_tr_is_lot { nx := fun _ => K .none, rt := K, rl := fun _ => False } (startE 2 ds)
theorem c__law_tr_is_lot (E : Ev K mg) : Cal P w K mg base 2 "_law_tr_is_lot" (Pr R__law_tr_is_lot) := by
  obtain ⟨fd, F⟩ := f__law_tr_is_lot E
  refine ⟨_, fd, ["_law_value"], F.ok sc__law_tr_is_lot (len_pr fun ds K h => h.1) (fun cdv A outer s H vs Q E1 hr h => ⟨sS [] g__law_tr_is_lot, PSs.nox ?_, ent (by decide) (fun ds K h => ⟨(fun i hi => by rw [h.1]; revert i; decide), h.2⟩) vs H Q E1 h⟩), q__law_tr_is_lot E, F.kp, F.bindsN fun _ _ _ _ _ _ us hl => match us, hl with | [_], _ => rfl⟩
  exact (s_cons (s_if (PW.pt (t_or (t_not (t_val (w_isi .t (pe_callB call_isi rfl (q_isinstance E) PyProof.Rows.boot_isinstance (pa_cons (V_of_R (r_var (pv 0))) (pa_cons (pe_bltn rfl (q_tuple E) PyProof.Rows.boot_tuple rfl) pa_nil)))))) (t_or1 (t_neN hr.units (V_of_L (l_lc (gt := (dNot (dBool (dCall R__law_tr_is_place (dCons (dVar 1) (dCons (dC (.int 6)) dNil)))))) (ge := (dVar 1)) (gi := (dIt (dVar 0))) tg_name (pe_lc (own := [("_law_one", 1)]) rfl sc__law_tr_is_lot.nd  (i_seq (W_of_R (r_var (pv 0)))) (blkOk_by (own := [("_law_one", 1)]) rfl) (fun _ _ _ _ _ => (pgn 1 sc__law_tr_is_lot.nd)) (fun _ _ _ _ _ => (pts_one (t_not (t_val (r_call rfl (pe_cal (c__law_tr_is_place E) hr (by decide) rfl (a_cons (r_var (pv 1)) (a_cons r_int a_nil)))))))) (fun _ _ _ _ _ => (r_var (pv 1)))))))))) (s_one (s_ret r_bl)) s_nil) (s_one (s_ret (r_eq hr.units (V_of_L (w_list (pe_callTy call_list_of rfl (q_list E) PyProof.Rows.boot_list (pa_cons (W_of_R (r_var (pv 0))) pa_nil)))) (V_of_L (w_srtSet (pe_callB (cr_srtSet rfl) rfl (q_sorted E) PyProof.Rows.boot_sorted (pa_cons (w_setI (pe_callTy (cr_setI rfl) rfl (q_set E) PyProof.Rows.boot_set (pa_cons (W_of_R (r_var (pv 0))) pa_nil))) pa_nil))))))))
theorem sc__law_tr_tree : FnScope ["_law_hat", "_law_lots", "_law_found", "_law_there", "_law_pairs", "_law_at", "_law_most", "_law_size", "_law_above", "_law_pair"] ["_law_hat", "_law_lots"] (defScope (top 61)) := ⟨rfl, rfl, rfl, by decide +kernel, rfl, by decide +kernel, by decide +kernel⟩
def g__law_tr_tree : DS := (dSeq (dIfS (dBool (dEq (dVar 1) (dTup dNil))) (dRet (dTup dNil)) dSkip) (dSeq (dPar 2 3 (dLst (dRep (dLst (dDis (dCons (dC .none) dNil))) (dB bLen (dCons (dVar 1) dNil)))) (dLst (dDis (dCons (dCall R__law_tr_up (dCons (dB bLen (dCons (dVar 1) dNil)) dNil)) dNil)))) (dSeq (dWhile (dBool (dLt (dB bLen (dCons (dOwn 3) dNil)) (dB bLen (dCons (dVar 1) dNil)))) (dSeq (dSet 4 (dLst (dDis dNil))) (dSeq (dFor (dRg (dB bLen (dCons (dVar 1) dNil))) (pName 5) (dIfS (dBool (dNin (dVar 5) (dOwn 3))) (dExt 4 (dLc (dIt (dOwn 3)) (pName 8) dYes (dTup (dCons (dB bLen (dCons (dCall R__law_tr_common (dCons (dIx (dVar 1) (dVar 5)) (dCons (dIx (dVar 1) (dVar 8)) dNil))) dNil)) (dCons (dVar 5) (dCons (dVar 8) dNil)))) [8])) dSkip)) (dSeq (dSet 6 (dB bMax (dCons (dLst (dLc (dIt (dOwn 4)) (pName 9) dYes (dIx (dVar 9) (dC (.int 0))) [9])) dNil))) (dSeq (dTg (dCall R__law_tr_of (dCons (dLst (dLc (dIt (dOwn 4)) (pName 9) (dBool (dEq (dIx (dVar 9) (dC (.int 0))) (dVar 6))) (dVar 9) [9])) dNil)) (pThree 7 5 8)) (dSeq (dSetI 2 (dVar 5) (dVar 8)) (dApp 3 (dVar 5)))))))) (dRet (dTupOf (dOwn 2))))))
def R__law_tr_tree : Rl := fun ds K => ds.length = 1 ∧ g__law_tr_tree { nx := fun _ => K .none, rt := K, rl := fun _ => False } (startH 10 ds)
theorem c__law_tr_tree (E : Ev K mg) : Cal P w K mg base 3 "_law_tr_tree" (PrH R__law_tr_tree) := by
  obtain ⟨fd, F⟩ := f__law_tr_tree E
  refine ⟨_, fd, ["_law_hat", "_law_lots"], F.ok sc__law_tr_tree (len_prH fun ds K h => h.1) (fun cdv A outer s H vs Q E1 hr h => ⟨sS [0, 2, 3, 4] g__law_tr_tree, PSs.nox ?_, entH (fun ds K h => ⟨(fun i hi => by rw [h.1]; revert i; decide), h.2⟩) vs H Q E1 h⟩), q__law_tr_tree E, F.kp, F.bindsN fun _ _ _ _ _ _ us hl => match us, hl with | [_, _], _ => rfl⟩
  exact (s_cons (s_if (t_eq hr.units (V_of_R (r_var (pv 1))) (V_of_R (r_tup a_nil))) (s_one (s_ret (r_tup a_nil))) s_nil) (s_cons (s_par (g := (dLst (dRep (dLst (dDis (dCons (dC .none) dNil))) (dB bLen (dCons (dVar 1) dNil))))) (h := (dLst (dDis (dCons (dCall R__law_tr_up (dCons (dB bLen (dCons (dVar 1) dNil)) dNil)) dNil)))) (ps_par (i := 2) (j := 3) rfl sc__law_tr_tree.nd rfl rfl (by decide) rfl rfl (pa_cons (S_of_L (l_rep (W_of_L (l_lst (a_cons r_non a_nil))) (V_of_R (w_len (pe_callB call_len_seq rfl (q_len E) PySem.boot_len (a_consV (V_of_R (r_var (pv 1))) a_nilV)))))) (pa_cons (S_of_L (l_lst (a_cons (h_call (by decide) rfl (pe_cal (c__law_tr_up E) hr (by decide) rfl (pa_cons (pv 0) (a_cons (w_len (pe_callB call_len_seq rfl (q_len E) PySem.boot_len (a_consV (V_of_R (r_var (pv 1))) a_nilV))) a_nil)))) a_nil))) pa_nil)) rfl) (fun _ _ _ q => q)) (s_cons (s_while (t := (dBool (dLt (dB bLen (dCons (dOwn 3) dNil)) (dB bLen (dCons (dVar 1) dNil))))) (gb := (dSeq (dSet 4 (dLst (dDis dNil))) (dSeq (dFor (dRg (dB bLen (dCons (dVar 1) dNil))) (pName 5) (dIfS (dBool (dNin (dVar 5) (dOwn 3))) (dExt 4 (dLc (dIt (dOwn 3)) (pName 8) dYes (dTup (dCons (dB bLen (dCons (dCall R__law_tr_common (dCons (dIx (dVar 1) (dVar 5)) (dCons (dIx (dVar 1) (dVar 8)) dNil))) dNil)) (dCons (dVar 5) (dCons (dVar 8) dNil)))) [8])) dSkip)) (dSeq (dSet 6 (dB bMax (dCons (dLst (dLc (dIt (dOwn 4)) (pName 9) dYes (dIx (dVar 9) (dC (.int 0))) [9])) dNil))) (dSeq (dTg (dCall R__law_tr_of (dCons (dLst (dLc (dIt (dOwn 4)) (pName 9) (dBool (dEq (dIx (dVar 9) (dC (.int 0))) (dVar 6))) (dVar 9) [9])) dNil)) (pThree 7 5 8)) (dSeq (dSetI 2 (dVar 5) (dVar 8)) (dApp 3 (dVar 5)))))))) PassesOwn.never (t_lt (V_of_R (w_len (pe_callB call_len_seq rfl (q_len E) PySem.boot_len (a_consV (v_own (pv 3)) a_nilV)))) (V_of_R (w_len (pe_callB call_len_seq rfl (q_len E) PySem.boot_len (a_consV (V_of_R (r_var (pv 1))) a_nilV))))) (s_cons (s_set (j := 4) (g := (dLst (dDis dNil))) (ps_set (i := 4) sc__law_tr_tree.nd rfl (by first | exact Or.inl rfl | exact Or.inr rfl) (S_of_L (l_lst a_nil))) (fun _ _ _ q => q)) (s_cons (s_for (gi := (dRg (dB bLen (dCons (dVar 1) dNil)))) (gb := (dIfS (dBool (dNin (dVar 5) (dOwn 3))) (dExt 4 (dLc (dIt (dOwn 3)) (pName 8) dYes (dTup (dCons (dB bLen (dCons (dCall R__law_tr_common (dCons (dIx (dVar 1) (dVar 5)) (dCons (dIx (dVar 1) (dVar 8)) dNil))) dNil)) (dCons (dVar 5) (dCons (dVar 8) dNil)))) [8])) dSkip)) PassesOwn.never rfl (i_rng rfl (q_range E) (V_of_R (w_len (pe_callB call_len_seq rfl (q_len E) PySem.boot_len (a_consV (V_of_R (r_var (pv 1))) a_nilV))))) (pgn 5 sc__law_tr_tree.nd) tg_name (s_one (s_if (t_nin (V_of_R (r_var (pv 5))) (v_own (pv 3))) (s_one (s_ext (ps_expr (pe_bm PySem.F.plainAttrs_list PySem.F.slot_list_extend PySem.F.type_list_extend mt_extend (pv 4) (pa_cons (l_lc (gt := dYes) (ge := (dTup (dCons (dB bLen (dCons (dCall R__law_tr_common (dCons (dIx (dVar 1) (dVar 5)) (dCons (dIx (dVar 1) (dVar 8)) dNil))) dNil)) (dCons (dVar 5) (dCons (dVar 8) dNil))))) (gi := (dIt (dOwn 3))) tg_name (pe_lc (own := [("_law_above", 8)]) rfl sc__law_tr_tree.nd  (i_seq (w_own (pv 3))) (blkOk_by (own := [("_law_above", 8)]) rfl) (fun _ _ _ _ _ => (pgn 8 sc__law_tr_tree.nd)) (fun _ _ _ _ _ => pts_yes) (fun _ _ _ _ _ => (r_tup (a_cons (w_len (pe_callB call_len_seq rfl (q_len E) PySem.boot_len (a_consV (V_of_R (r_call rfl (pe_cal (c__law_tr_common E) hr (by decide) rfl (a_cons (r_ix (W_of_R (r_var (pv 1))) (V_of_R (r_var (pv 5))) (fun _ _ => rfl)) (a_cons (r_ix (W_of_R (r_var (pv 1))) (V_of_R (r_var (pv 8))) (fun _ _ => rfl)) a_nil))))) a_nilV))) (a_cons (r_var (pv 5)) (a_cons (r_var (pv 8)) a_nil))))))) pa_nil))))) s_nil))) (s_cons (s_set (j := 6) (g := (dB bMax (dCons (dLst (dLc (dIt (dOwn 4)) (pName 9) dYes (dIx (dVar 9) (dC (.int 0))) [9])) dNil))) (ps_set (i := 6) sc__law_tr_tree.nd rfl (by first | exact Or.inl rfl | exact Or.inr rfl) (S_of_R (w_max (pe_callB (cr_max rfl) rfl (q_max E) PyProof.Rows.boot_max (a_consV (V_of_L (l_lc (gt := dYes) (ge := (dIx (dVar 9) (dC (.int 0)))) (gi := (dIt (dOwn 4))) tg_name (pe_lc (own := [("_law_pair", 9)]) rfl sc__law_tr_tree.nd  (i_seq (w_own (pv 4))) (blkOk_by (own := [("_law_pair", 9)]) rfl) (fun _ _ _ _ _ => (pgn 9 sc__law_tr_tree.nd)) (fun _ _ _ _ _ => pts_yes) (fun _ _ _ _ _ => (r_ix (W_of_R (r_var (pv 9))) (V_of_R r_int) (fun _ _ => rfl)))))) a_nilV))))) (fun _ _ _ q => q)) (s_cons (s_tg (b := true) (g := (dCall R__law_tr_of (dCons (dLst (dLc (dIt (dOwn 4)) (pName 9) (dBool (dEq (dIx (dVar 9) (dC (.int 0))) (dVar 6))) (dVar 9) [9])) dNil))) (ps_asg (h_call (by decide) rfl (pe_cal (c__law_tr_of E) hr (by decide) rfl (pa_cons (pv 0) (a_cons (R_of_L (l_lc (gt := (dBool (dEq (dIx (dVar 9) (dC (.int 0))) (dVar 6)))) (ge := (dVar 9)) (gi := (dIt (dOwn 4))) tg_name (pe_lc (own := [("_law_pair", 9)]) rfl sc__law_tr_tree.nd  (i_seq (w_own (pv 4))) (blkOk_by (own := [("_law_pair", 9)]) rfl) (fun _ _ _ _ _ => (pgn 9 sc__law_tr_tree.nd)) (fun _ _ _ _ _ => (pts_one (t_eq hr.units (V_of_R (r_ix (W_of_R (r_var (pv 9))) (V_of_R r_int) (fun _ _ => rfl))) (V_of_R (r_var (pv 6)))))) (fun _ _ _ _ _ => (r_var (pv 9)))))) a_nil)))) (pg_tup rfl (pgs_cons (pgn 7 sc__law_tr_tree.nd) (pgs_cons (pgn 5 sc__law_tr_tree.nd) (pgs_cons (pgn 8 sc__law_tr_tree.nd) pgs_nil))))) tg_three (fun _ _ _ q => q)) (s_cons (s_setI (ge := (dVar 8)) (ps_asg (r_var (pv 8)) (pg_sub (pv 2) (r_var (pv 5)) set_list)) (fun _ _ _ q => q)) (s_one (s_app (ps_expr (pe_bm PySem.F.plainAttrs_list PySem.F.slot_list_append PySem.F.type_list_append mt_append (pv 3) (pa_cons (r_var (pv 5)) pa_nil))))))))))) (s_one (s_ret (w_tup (pe_callTy call_tupleA rfl (q_tuple E) PyProof.Rows.boot_tuple (pa_cons (w_own (pv 2)) pa_nil))))))))
end
end Kb
set_option Elab.async false
set_option linter.all false
set_option maxRecDepth 100000
set_option maxHeartbeats 2000000
namespace Kb
open PySem PySem.Spec PyProof.Rows L2
section
variable {P : Program} {w : World} {K : PySem.W.Frag} {mg : Str → Option Value} {base : Heap}
theorem sc__law_tr_bent : FnScope ["_law_hat", "_law_value", "_law_at", "_law_way"] ["_law_hat", "_law_value"] (defScope (top 62)) := ⟨rfl, rfl, rfl, by decide +kernel, rfl, by decide +kernel, by decide +kernel⟩
def g__law_tr_bent (Rb : Rl) : DS := (dSeq (dIfS (dOr (dNot (dBool (dUn (fun d K => K (.bool (isT "tuple" d))) (dVar 1)))) (dOr (dBool (dEq (dVar 1) (dTup dNil))) (dBool (dEq (dCall R__law_tr_up (dCons (dC (.int 9)) dNil)) (dC (.int 0)))))) (dRet (dCall R__law_tr_of (dCons (dLst (dDis (dCons (dC .none) (dCons (dC (.int 0)) (dCons (dC (.int 1)) (dCons (dC (.int 5)) (dCons (dNeg (dC (.int 1))) (dCons (dTup dNil) (dCons (dTup (dCons (dC (.int 0)) dNil)) (dCons (dC (.bool true)) (dCons (dC (.str "1")) (dCons (dLst (dDis dNil)) (dCons (dTup (dCons (dC .none) dNil)) (dCons (dC (.dict [])) dNil)))))))))))))) dNil))) dSkip) (dSeq (dPar 2 3 (dCall R__law_tr_up (dCons (dB bLen (dCons (dVar 1) dNil)) dNil)) (dCall R__law_tr_up (dCons (dC (.int 8)) dNil))) (dSeq (dIfS (dBool (dEq (dVar 3) (dC (.int 0)))) (dRet (dCat (dCutT (dVar 1) dNo (dAt (dVar 2))) (dCutT (dVar 1) (dAt (dAdd (dVar 2) (dC (.int 1)))) dNo))) dSkip) (dSeq (dIfS (dBool (dEq (dVar 3) (dC (.int 1)))) (dRet (dCat (dCat (dCutT (dVar 1) dNo (dAt (dVar 2))) (dCutT (dVar 1) (dAt (dVar 2)) (dAt (dAdd (dVar 2) (dC (.int 1)))))) (dCutT (dVar 1) (dAt (dVar 2)) dNo))) dSkip) (dSeq (dIfS (dBool (dEq (dVar 3) (dC (.int 2)))) (dRet (dLst (dItems (dVar 1)))) dSkip) (dSeq (dIfS (dBool (dEq (dVar 3) (dC (.int 3)))) (dRet (dRevT (dVar 1))) dSkip) (dRet (dCat (dCat (dCutT (dVar 1) dNo (dAt (dVar 2))) (dTup (dCons (dCall Rb (dCons (dIx (dVar 1) (dVar 2)) dNil)) dNil))) (dCutT (dVar 1) (dAt (dAdd (dVar 2) (dC (.int 1)))) dNo)))))))))
def Rb__law_tr_bent : Nat → Rl
  | 0 => fun _ _ => False
  | m + 1 => fun ds K => ds.length = 1 ∧ g__law_tr_bent (Rb__law_tr_bent m) { nx := fun _ => K .none, rt := K, rl := fun _ => False } (startH 4 ds)
theorem cb__law_tr_bent (E : Ev K mg) : ∀ m : Nat, Cal P w K mg base (3 + m) "_law_tr_bent" (PrH (Rb__law_tr_bent m))
  | 0 => by
    obtain ⟨fd, F⟩ := f__law_tr_bent E
    refine ⟨_, fd, ["_law_hat", "_law_value"], F.ok sc__law_tr_bent (len_prH (n := 1) fun ds K h => h.elim) (fun cdv A outer s H vs Q E1 hr h => by obtain ⟨b, ws, F, ds, K, _, _, _, _, _, _, h, _⟩ := h; exact h.elim), q__law_tr_bent E, F.kp, F.bindsN fun _ _ _ _ _ _ us hl => match us, hl with | [_, _], _ => rfl⟩
  | m + 1 => by
    obtain ⟨fd, F⟩ := f__law_tr_bent E
    have ih : Cal P w K mg base (3 + m) "_law_tr_bent" (PrH (Rb__law_tr_bent m)) := cb__law_tr_bent E m
    refine ⟨_, fd, ["_law_hat", "_law_value"], F.ok sc__law_tr_bent (len_prH fun ds K h => h.1) (fun cdv A outer s H vs Q E1 hr h => ⟨sS [0] (g__law_tr_bent (Rb__law_tr_bent m)), PSs.nox ?_, entH (fun ds K h => ⟨(fun i hi => by rw [h.1]; revert i; decide), h.2⟩) vs H Q E1 h⟩), q__law_tr_bent E, F.kp, F.bindsN fun _ _ _ _ _ _ us hl => match us, hl with | [_, _], _ => rfl⟩
    generalize Rb__law_tr_bent m = Rb at ih ⊢
    exact (s_cons (s_if (PW.pt (t_or (t_not (t_val (w_isi .t (pe_callB call_isi rfl (q_isinstance E) PyProof.Rows.boot_isinstance (pa_cons (V_of_R (r_var (pv 1))) (pa_cons (pe_bltn rfl (q_tuple E) PyProof.Rows.boot_tuple rfl) pa_nil)))))) (t_or (t_eq hr.units (V_of_R (r_var (pv 1))) (V_of_R (r_tup a_nil))) (t_or1 (t_eq hr.units (V_of_R (h_call (by decide) rfl (pe_cal (c__law_tr_up E) hr (Nat.le_trans (show 1 ≤ 3 by decide) (Nat.le_add_right 3 m)) rfl (pa_cons (pv 0) (a_cons r_int a_nil))))) (V_of_R r_int)))))) (s_one (s_ret (h_call (by decide) rfl (pe_cal (c__law_tr_of E) hr (Nat.le_trans (show 2 ≤ 3 by decide) (Nat.le_add_right 3 m)) rfl (pa_cons (pv 0) (a_cons (R_of_L (l_lst (a_cons r_non (a_cons r_int (a_cons r_int (a_cons r_int (a_cons (r_neg (V_of_R r_int)) (a_cons (r_tup a_nil) (a_cons (r_tup (a_cons r_int a_nil)) (a_cons r_bl (a_cons r_str (a_cons (R_of_L (l_lst a_nil)) (a_cons (r_tup (a_cons r_non a_nil)) (a_cons r_dict0 a_nil)))))))))))))) a_nil)))))) s_nil) (s_cons (s_par (g := (dCall R__law_tr_up (dCons (dB bLen (dCons (dVar 1) dNil)) dNil))) (h := (dCall R__law_tr_up (dCons (dC (.int 8)) dNil))) (ps_par (i := 2) (j := 3) rfl sc__law_tr_bent.nd rfl rfl (by decide) rfl rfl (pa_cons (S_of_R (h_call (by decide) rfl (pe_cal (c__law_tr_up E) hr (Nat.le_trans (show 1 ≤ 3 by decide) (Nat.le_add_right 3 m)) rfl (pa_cons (pv 0) (a_cons (w_len (pe_callB call_len_seq rfl (q_len E) PySem.boot_len (a_consV (V_of_R (r_var (pv 1))) a_nilV))) a_nil))))) (pa_cons (S_of_R (h_call (by decide) rfl (pe_cal (c__law_tr_up E) hr (Nat.le_trans (show 1 ≤ 3 by decide) (Nat.le_add_right 3 m)) rfl (pa_cons (pv 0) (a_cons r_int a_nil))))) pa_nil)) rfl) (fun _ _ _ q => q)) (s_cons (s_if (t_eq hr.units (V_of_R (r_var (pv 3))) (V_of_R r_int)) (s_one (s_ret (r_cat (r_cut (r_var (pv 1)) o_no (o_at (V_of_R (r_var (pv 2))))) (r_cut (r_var (pv 1)) (o_at (V_of_R (r_add (V_of_R (r_var (pv 2))) (V_of_R r_int)))) o_no)))) s_nil) (s_cons (s_if (t_eq hr.units (V_of_R (r_var (pv 3))) (V_of_R r_int)) (s_one (s_ret (r_cat (r_cat (r_cut (r_var (pv 1)) o_no (o_at (V_of_R (r_var (pv 2))))) (r_cut (r_var (pv 1)) (o_at (V_of_R (r_var (pv 2)))) (o_at (V_of_R (r_add (V_of_R (r_var (pv 2))) (V_of_R r_int)))))) (r_cut (r_var (pv 1)) (o_at (V_of_R (r_var (pv 2)))) o_no)))) s_nil) (s_cons (s_if (t_eq hr.units (V_of_R (r_var (pv 3))) (V_of_R r_int)) (s_one (s_ret (R_of_L (w_list (pe_callTy call_list_of rfl (q_list E) PyProof.Rows.boot_list (pa_cons (W_of_R (r_var (pv 1))) pa_nil)))))) s_nil) (s_cons (s_if (t_eq hr.units (V_of_R (r_var (pv 3))) (V_of_R r_int)) (s_one (s_ret (r_revT (pe_revT (r_var (pv 1)))))) s_nil) (s_one (s_ret (r_cat (r_cat (r_cut (r_var (pv 1)) o_no (o_at (V_of_R (r_var (pv 2))))) (r_tup (a_cons (h_call (by decide) rfl (pe_cal ih hr (Nat.le_refl _) rfl (pa_cons (pv 0) (a_cons (r_ix (W_of_R (r_var (pv 1))) (V_of_R (r_var (pv 2))) (fun _ _ => rfl)) a_nil)))) a_nil))) (r_cut (r_var (pv 1)) (o_at (V_of_R (r_add (V_of_R (r_var (pv 2))) (V_of_R r_int)))) o_no))))))))))
abbrev R__law_tr_bent : Rl := Rb__law_tr_bent 4
theorem c__law_tr_bent (E : Ev K mg) : Cal P w K mg base 7 "_law_tr_bent" (PrH R__law_tr_bent) := cb__law_tr_bent E 4
theorem sc__law_tr_bags : FnScope ["_law_lots", "_law_order", "_law_near", "_law_found", "_law_letter", "_law_at", "_law_bag", "_law_one", "_law_some", "_law_lot", "_law_other"] ["_law_lots", "_law_order"] (defScope (top 63)) := ⟨rfl, rfl, rfl, by decide +kernel, rfl, by decide +kernel, by decide +kernel⟩
def g__law_tr_bags : DS := (dSeq (dPar 2 3 dDict (dLst (dDis dNil))) (dSeq (dFor (dIt (dVar 1)) (pName 4) (dPut 2 (dVar 4) (dCall R__law_tr_letters (dCons (dLst (dLc (dIt (dVar 0)) (pName 9) (dBool (dIn (dVar 4) (dVar 9))) (dVar 9) [9])) dNil)))) (dSeq (dFor (dNum (dVar 1)) (pTwo 5 4) (dSeq (dSet 6 (dTupOf (dLst (dLc (dIt (fun ρ K => dicAt 2 ρ fun _ => dDGet 2 (dVar 4) ρ K)) (pName 10) (dBool (dIn (dVar 10) (dCutT (dVar 1) (dAt (dVar 5)) dNo))) (dVar 10) [10])))) (dSeq (dFor (dIt (dVar 6)) (pName 7) (dPut 2 (dVar 7) (dCall R__law_tr_letters (dCons (dLst (dDis (dCons (fun ρ K => dicAt 2 ρ fun _ => dDGet 2 (dVar 7) ρ K) (dCons (dVar 6) dNil)))) dNil)))) (dApp 3 (dVar 6))))) (dSeq (dSet 8 (dLst (dLc (dIt (dOwn 3)) (pName 6) (dBool (dEqN false (dLst (dLc (dIt (dOwn 3)) (pName 10) (dAnd (dBool (dNe (dVar 6) (dVar 10))) (dBool (dCall R__law_tr_within (dCons (dVar 6) (dCons (dVar 10) dNil))))) (dVar 10) [10])))) (dVar 6) [6]))) (dRet (dTupOf (dLst (dSrtM (fun _ => True) (dSetT (dVar 8))))))))))
def R__law_tr_bags : Rl := fun ds K => ds.length = 2 ∧ g__law_tr_bags { nx := fun _ => K .none, rt := K, rl := fun _ => False } (startE 11 ds)
theorem c__law_tr_bags (E : Ev K mg) : Cal P w K mg base 2 "_law_tr_bags" (Pr R__law_tr_bags) := by
  obtain ⟨fd, F⟩ := f__law_tr_bags E
  refine ⟨_, fd, ["_law_lots", "_law_order"], F.ok sc__law_tr_bags (len_pr fun ds K h => h.1) (fun cdv A outer s H vs Q E1 hr h => ⟨sS [2, 3] g__law_tr_bags, PSs.nox ?_, ent (by decide) (fun ds K h => ⟨(fun i hi => by rw [h.1]; revert i; decide), h.2⟩) vs H Q E1 h⟩), q__law_tr_bags E, F.kp, F.bindsN fun _ _ _ _ _ _ us hl => match us, hl with | [_, _], _ => rfl⟩
  have hu1 := hu_of hr
  exact (s_cons (s_par2 (g := dDict) (h := (dLst (dDis dNil))) (ps_asg (pe_tupA (pa_cons S_dict (pa_cons (S_of_L (l_lst a_nil)) pa_nil))) (pg_tup rfl (pgs_cons (pgn 2 sc__law_tr_bags.nd) (pgs_cons (pgn 3 sc__law_tr_bags.nd) pgs_nil)))) (fun _ _ _ q => q)) (s_cons (s_for (gi := (dIt (dVar 1))) (gb := (dPut 2 (dVar 4) (dCall R__law_tr_letters (dCons (dLst (dLc (dIt (dVar 0)) (pName 9) (dBool (dIn (dVar 4) (dVar 9))) (dVar 9) [9])) dNil)))) PassesOwn.never rfl (i_seqR (r_var (pv 1))) (pgn 4 sc__law_tr_bags.nd) tg_name (s_one (s_put (ps_dput hu1 (pv 2) (r_var (pv 4)) (r_call rfl (pe_cal (c__law_tr_letters E) hr (by decide) rfl (a_cons (R_of_L (l_lc (gt := (dBool (dIn (dVar 4) (dVar 9)))) (ge := (dVar 9)) (gi := (dIt (dVar 0))) tg_name (pe_lc (own := [("_law_lot", 9)]) rfl sc__law_tr_bags.nd  (i_seq (W_of_R (r_var (pv 0)))) (blkOk_by (own := [("_law_lot", 9)]) rfl) (fun _ _ _ _ _ => (pgn 9 sc__law_tr_bags.nd)) (fun _ _ _ _ _ => (pts_one (t_in (V_of_R (r_var (pv 4))) (V_of_R (r_var (pv 9)))))) (fun _ _ _ _ _ => (r_var (pv 9)))))) a_nil))) rfl)))) (s_cons (s_for (gi := (dNum (dVar 1))) (gb := (dSeq (dSet 6 (dTupOf (dLst (dLc (dIt (fun ρ K => dicAt 2 ρ fun _ => dDGet 2 (dVar 4) ρ K)) (pName 10) (dBool (dIn (dVar 10) (dCutT (dVar 1) (dAt (dVar 5)) dNo))) (dVar 10) [10])))) (dSeq (dFor (dIt (dVar 6)) (pName 7) (dPut 2 (dVar 7) (dCall R__law_tr_letters (dCons (dLst (dDis (dCons (fun ρ K => dicAt 2 ρ fun _ => dDGet 2 (dVar 7) ρ K) (dCons (dVar 6) dNil)))) dNil)))) (dApp 3 (dVar 6))))) PassesOwn.never rfl (i_numR rfl (q_enumerate E) (r_var (pv 1))) (pg_tup rfl (pgs_cons (pgn 5 sc__law_tr_bags.nd) (pgs_cons (pgn 4 sc__law_tr_bags.nd) pgs_nil))) tg_two (s_cons (s_set (j := 6) (g := (dTupOf (dLst (dLc (dIt (fun ρ K => dicAt 2 ρ fun _ => dDGet 2 (dVar 4) ρ K)) (pName 10) (dBool (dIn (dVar 10) (dCutT (dVar 1) (dAt (dVar 5)) dNo))) (dVar 10) [10])))) (ps_set (i := 6) sc__law_tr_bags.nd rfl (by first | exact Or.inl rfl | exact Or.inr rfl) (S_of_R (w_tup (pe_callTy call_tupleA rfl (q_tuple E) PyProof.Rows.boot_tuple (pa_cons (W_of_L (l_lc (gt := (dBool (dIn (dVar 10) (dCutT (dVar 1) (dAt (dVar 5)) dNo)))) (ge := (dVar 10)) (gi := (dIt (fun ρ K => dicAt 2 ρ fun _ => dDGet 2 (dVar 4) ρ K))) tg_name (pe_lc (own := [("_law_other", 10)]) rfl sc__law_tr_bags.nd  (i_seq (W_of_R (r_dget (pe_dget hu1 (pv 2) (r_var (pv 4)) (fun _ _ => rfl))))) (blkOk_by (own := [("_law_other", 10)]) rfl) (fun _ _ _ _ _ => (pgn 10 sc__law_tr_bags.nd)) (fun _ _ _ _ _ => (pts_one (t_in (V_of_R (r_var (pv 10))) (V_of_R (r_cut (r_var (pv 1)) (o_at (V_of_R (r_var (pv 5)))) o_no))))) (fun _ _ _ _ _ => (r_var (pv 10)))))) pa_nil))))) (fun _ _ _ q => q)) (s_cons (s_for (gi := (dIt (dVar 6))) (gb := (dPut 2 (dVar 7) (dCall R__law_tr_letters (dCons (dLst (dDis (dCons (fun ρ K => dicAt 2 ρ fun _ => dDGet 2 (dVar 7) ρ K) (dCons (dVar 6) dNil)))) dNil)))) PassesOwn.never rfl (i_seqR (r_var (pv 6))) (pgn 7 sc__law_tr_bags.nd) tg_name (s_one (s_put (ps_dput hu1 (pv 2) (r_var (pv 7)) (r_call rfl (pe_cal (c__law_tr_letters E) hr (by decide) rfl (a_cons (R_of_L (l_lst (a_cons (r_dget (pe_dget hu1 (pv 2) (r_var (pv 7)) (fun _ _ => rfl))) (a_cons (r_var (pv 6)) a_nil)))) a_nil))) rfl)))) (s_one (s_app (ps_expr (pe_bm PySem.F.plainAttrs_list PySem.F.slot_list_append PySem.F.type_list_append mt_append (pv 3) (pa_cons (r_var (pv 6)) pa_nil)))))))) (s_cons (s_set (j := 8) (g := (dLst (dLc (dIt (dOwn 3)) (pName 6) (dBool (dEqN false (dLst (dLc (dIt (dOwn 3)) (pName 10) (dAnd (dBool (dNe (dVar 6) (dVar 10))) (dBool (dCall R__law_tr_within (dCons (dVar 6) (dCons (dVar 10) dNil))))) (dVar 10) [10])))) (dVar 6) [6]))) (ps_setLc (i := 8) (own := [("_law_bag", 6)]) rfl sc__law_tr_bags.nd rfl rfl (sw_true rfl rfl rfl (by decide +kernel)) (i_seq (w_own (pv 3))) (blkOk_by (own := [("_law_bag", 6)]) rfl) (fun _ _ _ _ _ => (pgn 6 sc__law_tr_bags.nd)) (fun _ _ _ _ _ => (pts_one (t_eqN hr.units (V_of_L (l_lc (gt := (dAnd (dBool (dNe (dVar 6) (dVar 10))) (dBool (dCall R__law_tr_within (dCons (dVar 6) (dCons (dVar 10) dNil)))))) (ge := (dVar 10)) (gi := (dIt (dOwn 3))) tg_name (pe_lc (own := [("_law_other", 10)]) rfl sc__law_tr_bags.nd  (i_seq (w_own (pv 3))) (blkOk_by (own := [("_law_other", 10)]) rfl) (fun _ _ _ _ _ => (pgn 10 sc__law_tr_bags.nd)) (fun _ _ _ _ _ => (pts_one (PW.pt (t_and (t_ne hr.units (V_of_R (r_var (pv 6))) (V_of_R (r_var (pv 10)))) (t_and1 (t_val (r_call rfl (pe_cal (c__law_tr_within E) hr (by decide) rfl (a_cons (r_var (pv 6)) (a_cons (r_var (pv 10)) a_nil)))))))))) (fun _ _ _ _ _ => (r_var (pv 10))))))))) (fun _ _ _ _ _ => (r_var (pv 6)))) (fun σ H Q q => lc_imp (O := [2, 3]) (gt := (dBool (dEqN false (dLst (dLc (dIt (dOwn 3)) (pName 10) (dAnd (dBool (dNe (dVar 6) (dVar 10))) (dBool (dCall R__law_tr_within (dCons (dVar 6) (dCons (dVar 10) dNil))))) (dVar 10) [10]))))) (ge := (dVar 6)) (gi := (dIt (dOwn 3))) tg_name (by decide) (by decide) (fun _ _ _ q => q) (fun _ _ _ q => q) (fun _ _ _ q => q) (R_imp_L (S_imp_R (by decide) q)))) (s_one (s_ret (w_tup (pe_callTy call_tupleA rfl (q_tuple E) PyProof.Rows.boot_tuple (pa_cons (W_of_L (w_srtM (pe_callB (cr_sortST rfl hr.units) rfl (q_sorted E) PyProof.Rows.boot_sorted (pa_cons (w_setT (pe_callTy (cr_setOfT rfl hr.units) rfl (q_set E) PyProof.Rows.boot_set (pa_cons (W_of_R (r_var (pv 8))) pa_nil))) pa_nil)))) pa_nil)))))))))
theorem sc__law_tr_is_bags : FnScope ["_law_lots", "_law_value", "_law_bag", "_law_lot"] ["_law_lots", "_law_value"] (defScope (top 64)) := ⟨rfl, rfl, rfl, by decide +kernel, rfl, by decide +kernel, by decide +kernel⟩
def g__law_tr_is_bags : DS := (dSeq (dIfS (dOr (dNot (dBool (dUn (fun d K => K (.bool (isT "tuple" d))) (dVar 1)))) (dOr (dBool (dNe (dB bLen (dCons (dVar 1) dNil)) (dC (.int 2)))) (dOr (dNot (dBool (dUn (fun d K => K (.bool (isT "tuple" d))) (dIx (dVar 1) (dC (.int 0)))))) (dBool (dGt (dB bLen (dCons (dIx (dVar 1) (dC (.int 0))) dNil)) (dC (.int 12))))))) (dRet (dC (.bool false))) dSkip) (dSeq (dIfS (dOr (dBool (dEqN true (dLst (dLc (dIt (dIx (dVar 1) (dC (.int 0)))) (pName 2) (dNot (dBool (dCall R__law_tr_is_lot (dCons (dVar 2) dNil)))) (dVar 2) [2])))) (dNot (dBool (dCall R__law_tr_is_tree (dCons (dIx (dVar 1) (dC (.int 0))) (dCons (dIx (dVar 1) (dC (.int 1))) dNil)))))) (dRet (dC (.bool false))) dSkip) (dSeq (dIfS (dNot (dBool (dCall R__law_tr_within (dCons (dCall R__law_tr_letters (dCons (dIx (dVar 1) (dC (.int 0))) dNil)) (dCons (dCall R__law_tr_letters (dCons (dVar 0) dNil)) dNil))))) (dRet (dC (.bool false))) dSkip) (dRet (dEqN false (dLst (dLc (dIt (dVar 0)) (pName 3) (dBool (dEqN false (dLst (dLc (dIt (dIx (dVar 1) (dC (.int 0)))) (pName 2) (dBool (dCall R__law_tr_within (dCons (dVar 3) (dCons (dVar 2) dNil)))) (dVar 2) [2])))) (dVar 3) [3])))))))
def R__law_tr_is_bags : Rl := fun ds K => ds.length = 2 ∧ g__law_tr_is_bags { nx := fun _ => K .none, rt := K, rl := fun _ => False } (startE 4 ds)
theorem c__law_tr_is_bags (E : Ev K mg) : Cal P w K mg base 3 "_law_tr_is_bags" (Pr R__law_tr_is_bags) := by
  obtain ⟨fd, F⟩ := f__law_tr_is_bags E
  refine ⟨_, fd, ["_law_lots", "_law_value"], F.ok sc__law_tr_is_bags (len_pr fun ds K h => h.1) (fun cdv A outer s H vs Q E1 hr h => ⟨sS [] g__law_tr_is_bags, PSs.nox ?_, ent (by decide) (fun ds K h => ⟨(fun i hi => by rw [h.1]; revert i; decide), h.2⟩) vs H Q E1 h⟩), q__law_tr_is_bags E, F.kp, F.bindsN fun _ _ _ _ _ _ us hl => match us, hl with | [_, _], _ => rfl⟩
  exact (s_cons (s_if (PW.pt (t_or (t_not (t_val (w_isi .t (pe_callB call_isi rfl (q_isinstance E) PyProof.Rows.boot_isinstance (pa_cons (V_of_R (r_var (pv 1))) (pa_cons (pe_bltn rfl (q_tuple E) PyProof.Rows.boot_tuple rfl) pa_nil)))))) (t_or (t_ne hr.units (V_of_R (w_len (pe_callB call_len_seq rfl (q_len E) PySem.boot_len (a_consV (V_of_R (r_var (pv 1))) a_nilV)))) (V_of_R r_int)) (t_or (t_not (t_val (w_isi .t (pe_callB call_isi rfl (q_isinstance E) PyProof.Rows.boot_isinstance (pa_cons (V_of_R (r_ix (W_of_R (r_var (pv 1))) (V_of_R r_int) (fun _ _ => rfl))) (pa_cons (pe_bltn rfl (q_tuple E) PyProof.Rows.boot_tuple rfl) pa_nil)))))) (t_or1 (t_gt (V_of_R (w_len (pe_callB call_len_seq rfl (q_len E) PySem.boot_len (a_consV (V_of_R (r_ix (W_of_R (r_var (pv 1))) (V_of_R r_int) (fun _ _ => rfl))) a_nilV)))) (V_of_R r_int))))))) (s_one (s_ret r_bl)) s_nil) (s_cons (s_if (PW.pt (t_or (t_neN hr.units (V_of_L (l_lc (gt := (dNot (dBool (dCall R__law_tr_is_lot (dCons (dVar 2) dNil))))) (ge := (dVar 2)) (gi := (dIt (dIx (dVar 1) (dC (.int 0))))) tg_name (pe_lc (own := [("_law_bag", 2)]) rfl sc__law_tr_is_bags.nd  (i_seq (W_of_R (r_ix (W_of_R (r_var (pv 1))) (V_of_R r_int) (fun _ _ => rfl)))) (blkOk_by (own := [("_law_bag", 2)]) rfl) (fun _ _ _ _ _ => (pgn 2 sc__law_tr_is_bags.nd)) (fun _ _ _ _ _ => (pts_one (t_not (t_val (r_call rfl (pe_cal (c__law_tr_is_lot E) hr (by decide) rfl (a_cons (r_var (pv 2)) a_nil))))))) (fun _ _ _ _ _ => (r_var (pv 2))))))) (t_or1 (t_not (t_val (r_call rfl (pe_cal (c__law_tr_is_tree E) hr (by decide) rfl (a_cons (r_ix (W_of_R (r_var (pv 1))) (V_of_R r_int) (fun _ _ => rfl)) (a_cons (r_ix (W_of_R (r_var (pv 1))) (V_of_R r_int) (fun _ _ => rfl)) a_nil))))))))) (s_one (s_ret r_bl)) s_nil) (s_cons (s_if (t_not (t_val (r_call rfl (pe_cal (c__law_tr_within E) hr (by decide) rfl (a_cons (r_call rfl (pe_cal (c__law_tr_letters E) hr (by decide) rfl (a_cons (r_ix (W_of_R (r_var (pv 1))) (V_of_R r_int) (fun _ _ => rfl)) a_nil))) (a_cons (r_call rfl (pe_cal (c__law_tr_letters E) hr (by decide) rfl (a_cons (r_var (pv 0)) a_nil))) a_nil)))))) (s_one (s_ret r_bl)) s_nil) (s_one (s_ret (r_eqN hr.units (V_of_L (l_lc (gt := (dBool (dEqN false (dLst (dLc (dIt (dIx (dVar 1) (dC (.int 0)))) (pName 2) (dBool (dCall R__law_tr_within (dCons (dVar 3) (dCons (dVar 2) dNil)))) (dVar 2) [2]))))) (ge := (dVar 3)) (gi := (dIt (dVar 0))) tg_name (pe_lc (own := [("_law_lot", 3)]) rfl sc__law_tr_is_bags.nd  (i_seq (W_of_R (r_var (pv 0)))) (blkOk_by (own := [("_law_lot", 3)]) rfl) (fun _ _ _ _ _ => (pgn 3 sc__law_tr_is_bags.nd)) (fun _ _ _ _ _ => (pts_one (t_eqN hr.units (V_of_L (l_lc (gt := (dBool (dCall R__law_tr_within (dCons (dVar 3) (dCons (dVar 2) dNil))))) (ge := (dVar 2)) (gi := (dIt (dIx (dVar 1) (dC (.int 0))))) tg_name (pe_lc (own := [("_law_bag", 2)]) rfl sc__law_tr_is_bags.nd  (i_seq (W_of_R (r_ix (W_of_R (r_var (pv 1))) (V_of_R r_int) (fun _ _ => rfl)))) (blkOk_by (own := [("_law_bag", 2)]) rfl) (fun _ _ _ _ _ => (pgn 2 sc__law_tr_is_bags.nd)) (fun _ _ _ _ _ => (pts_one (t_val (r_call rfl (pe_cal (c__law_tr_within E) hr (by decide) rfl (a_cons (r_var (pv 3)) (a_cons (r_var (pv 2)) a_nil))))))) (fun _ _ _ _ _ => (r_var (pv 2))))))))) (fun _ _ _ _ _ => (r_var (pv 3))))))))))))
theorem sc__law_wider : FnScope ["_law_hat", "_law_lots", "_law_bags", "_law_some", "_law_all_of", "_law_at", "_law_wide"] ["_law_hat", "_law_lots", "_law_bags"] (defScope (top 65)) := ⟨rfl, rfl, rfl, by decide +kernel, rfl, by decide +kernel, by decide +kernel⟩
def g__law_wider : DS := (dSeq (dPar 3 4 (dLst (dItems (dVar 2))) (dCall R__law_tr_letters (dCons (dVar 1) dNil))) (dSeq (dSet 5 (dCall R__law_tr_up (dCons (dB bLen (dCons (dVar 3) dNil)) dNil))) (dSeq (dSet 6 (dTupOf (dLst (dSrtSet (dSetOf (dCat (dIx (dVar 3) (dVar 5)) (dCall R__law_tr_some (dCons (dVar 4) dNil)))))))) (dSeq (dSet 3 (dTupOf (dLst (dCatL (dLst (dCatL (dLst (dCatL (dLst (dCutL (dVar 3) dNo (dAt (dVar 5)))) (dLst (dDis (dCons (dVar 6) dNil))))) (dLst (dCutL (dVar 3) (dAt (dAdd (dVar 5) (dC (.int 1)))) dNo)))) (dLst (dIfL (dBool (dLt (dB bLen (dCons (dVar 3) dNil)) (dC (.int 9)))) (dDis (dCons (dIx (dVar 3) (dVar 5)) dNil)) (dDis dNil))))))) (dRet (dIf (dBool (dCall R__law_tr_folds (dCons (dVar 3) dNil))) (dTup (dCons (dVar 3) (dCons (dCall R__law_tr_tree (dCons (dVar 3) dNil)) dNil))) (dTup (dCons (dVar 2) (dCons (dCall R__law_tr_tree (dCons (dVar 2) dNil)) dNil)))))))))
def R__law_wider : Rl := fun ds K => ds.length = 2 ∧ g__law_wider { nx := fun _ => K .none, rt := K, rl := fun _ => False } (startH 7 ds)
theorem c__law_wider (E : Ev K mg) : Cal P w K mg base 4 "_law_wider" (PrH R__law_wider) := by
  obtain ⟨fd, F⟩ := f__law_wider E
  refine ⟨_, fd, ["_law_hat", "_law_lots", "_law_bags"], F.ok sc__law_wider (len_prH fun ds K h => h.1) (fun cdv A outer s H vs Q E1 hr h => ⟨sS [0] g__law_wider, PSs.nox ?_, entH (fun ds K h => ⟨(fun i hi => by rw [h.1]; revert i; decide), h.2⟩) vs H Q E1 h⟩), q__law_wider E, F.kp, F.bindsN fun _ _ _ _ _ _ us hl => match us, hl with | [_, _, _], _ => rfl⟩
  exact (s_cons (s_par (g := (dLst (dItems (dVar 2)))) (h := (dCall R__law_tr_letters (dCons (dVar 1) dNil))) (ps_par (i := 3) (j := 4) rfl sc__law_wider.nd rfl rfl (by decide) rfl rfl (pa_cons (S_of_R (R_of_L (w_list (pe_callTy call_list_of rfl (q_list E) PyProof.Rows.boot_list (pa_cons (W_of_R (r_var (pv 2))) pa_nil))))) (pa_cons (S_of_R (r_call rfl (pe_cal (c__law_tr_letters E) hr (by decide) rfl (a_cons (r_var (pv 1)) a_nil)))) pa_nil)) rfl) (fun _ _ _ q => q)) (s_cons (s_set (j := 5) (g := (dCall R__law_tr_up (dCons (dB bLen (dCons (dVar 3) dNil)) dNil))) (ps_set (i := 5) sc__law_wider.nd rfl (by first | exact Or.inl rfl | exact Or.inr rfl) (S_of_R (h_call (by decide) rfl (pe_cal (c__law_tr_up E) hr (by decide) rfl (pa_cons (pv 0) (a_cons (w_len (pe_callB call_len_seq rfl (q_len E) PySem.boot_len (a_consV (V_of_R (r_var (pv 3))) a_nilV))) a_nil)))))) (fun _ _ _ q => q)) (s_cons (s_set (j := 6) (g := (dTupOf (dLst (dSrtSet (dSetOf (dCat (dIx (dVar 3) (dVar 5)) (dCall R__law_tr_some (dCons (dVar 4) dNil)))))))) (ps_set (i := 6) sc__law_wider.nd rfl (by first | exact Or.inl rfl | exact Or.inr rfl) (S_of_R (w_tup (pe_callTy call_tupleA rfl (q_tuple E) PyProof.Rows.boot_tuple (pa_cons (W_of_L (w_srtSet (pe_callB (cr_srtSet rfl) rfl (q_sorted E) PyProof.Rows.boot_sorted (pa_cons (w_setI (pe_callTy (cr_setI rfl) rfl (q_set E) PyProof.Rows.boot_set (pa_cons (W_of_R (r_cat (r_ix (W_of_R (r_var (pv 3))) (V_of_R (r_var (pv 5))) (fun _ _ => rfl)) (h_call (by decide) rfl (pe_cal (c__law_tr_some E) hr (by decide) rfl (pa_cons (pv 0) (a_cons (r_var (pv 4)) a_nil)))))) pa_nil))) pa_nil)))) pa_nil))))) (fun _ _ _ q => q)) (s_cons (s_set (j := 3) (g := (dTupOf (dLst (dCatL (dLst (dCatL (dLst (dCatL (dLst (dCutL (dVar 3) dNo (dAt (dVar 5)))) (dLst (dDis (dCons (dVar 6) dNil))))) (dLst (dCutL (dVar 3) (dAt (dAdd (dVar 5) (dC (.int 1)))) dNo)))) (dLst (dIfL (dBool (dLt (dB bLen (dCons (dVar 3) dNil)) (dC (.int 9)))) (dDis (dCons (dIx (dVar 3) (dVar 5)) dNil)) (dDis dNil))))))) (ps_set (i := 3) sc__law_wider.nd rfl (by first | exact Or.inl rfl | exact Or.inr rfl) (S_of_R (w_tup (pe_callTy call_tupleA rfl (q_tuple E) PyProof.Rows.boot_tuple (pa_cons (W_of_L (l_cat (W_of_L (l_cat (W_of_L (l_cat (W_of_L (l_cut (W_of_R (r_var (pv 3))) o_no (o_at (V_of_R (r_var (pv 5)))))) (W_of_L (l_lst (a_cons (r_var (pv 6)) a_nil))))) (W_of_L (l_cut (W_of_R (r_var (pv 3))) (o_at (V_of_R (r_add (V_of_R (r_var (pv 5))) (V_of_R r_int)))) o_no)))) (W_of_L (l_if (t_lt (V_of_R (w_len (pe_callB call_len_seq rfl (q_len E) PySem.boot_len (a_consV (V_of_R (r_var (pv 3))) a_nilV)))) (V_of_R r_int)) (l_lst (a_cons (r_ix (W_of_R (r_var (pv 3))) (V_of_R (r_var (pv 5))) (fun _ _ => rfl)) a_nil)) (l_lst a_nil))))) pa_nil))))) (fun _ _ _ q => q)) (s_one (s_ret (r_if (t_val (r_call rfl (pe_cal (c__law_tr_folds E) hr (by decide) rfl (a_cons (r_var (pv 3)) a_nil)))) (r_tup (a_cons (r_var (pv 3)) (a_cons (h_call (by decide) rfl (pe_cal (c__law_tr_tree E) hr (by decide) rfl (pa_cons (pv 0) (a_cons (r_var (pv 3)) a_nil)))) a_nil))) (r_tup (a_cons (r_var (pv 2)) (a_cons (h_call (by decide) rfl (pe_cal (c__law_tr_tree E) hr (by decide) rfl (pa_cons (pv 0) (a_cons (r_var (pv 2)) a_nil)))) a_nil))))))))))
theorem sc__law_right : FnScope ["_law_hat", "_law_lots", "_law_letters", "_law_turn", "_law_order", "_law_bags", "_law_tree", "_law_due", "_law_near", "_law_step", "_law_value", "_law_told"] ["_law_hat"] (defScope (top 66)) := ⟨rfl, rfl, rfl, by decide +kernel, rfl, by decide +kernel, by decide +kernel⟩
def g__law_right : DS := (dSeq (dSet 1 (dCall R__law_tr_web (dCons (dC (.int 8)) dNil))) (dSeq (dSet 2 (dCall R__law_tr_letters (dCons (dVar 1) dNil))) (dSeq (dFor (dRg (dC (.int 2))) (pName 3) (dSeq (dSet 4 (dCall R__law_tr_mixed (dCons (dVar 2) dNil))) (dSeq (dTg (dCall R_bags_of (dCons (dVar 1) (dCons (dVar 4) dNil))) (pTwo 5 6)) (dSeq (dSet 7 (dCall R__law_tr_bags (dCons (dVar 1) (dCons (dVar 4) dNil)))) (dSeq (dIfS (dOr (dAnd (dBool (dNe (dVar 2) (dTup dNil))) (dBool (dNe (dVar 5) (dVar 7)))) (dOr (dNot (dBool (dCall R_is_tree (dCons (dVar 5) (dCons (dVar 6) dNil))))) (dNot (dBool (dCall R_is_bags (dCons (dVar 1) (dCons (dTup (dCons (dVar 5) (dCons (dVar 6) dNil))) dNil))))))) (dRet (dC (.bool false))) dSkip) (dSeq (dSet 8 (dLst (dDis (dCons (dTup (dCons (dVar 5) (dCons (dVar 6) dNil))) (dCons (dTup (dCons (dVar 6) (dCons (dVar 5) dNil))) (dCons (dTup (dCons (dVar 5) dNil)) (dCons (dLst (dDis (dCons (dVar 5) (dCons (dVar 6) dNil)))) (dCons (dTup (dCons (dVar 5) (dCons (dVar 6) (dCons (dC (.int 0)) dNil)))) (dCons (dC .none) (dCons (dTup dNil) (dCons (dTup (dCons (dVar 5) (dCons (dC .none) dNil))) dNil))))))))))) (dSeq (dSet 8 (dLst (dCatL (dOwn 8) (dLst (dDis (dCons (dTup (dCons (dCutT (dVar 5) dNo (dAt (dNeg (dC (.int 1))))) (dCons (dVar 6) dNil))) (dCons (dTup (dCons (dRevT (dVar 5)) (dCons (dVar 6) dNil))) dNil))))))) (dSeq (dIfS (dBool (dNe (dVar 5) (dTup dNil))) (dSeq (dApp 8 (dCall R__law_wider (dCons (dVar 1) (dCons (dVar 5) dNil)))) (dIfS (dNot (dBool (dCall R_is_bags (dCons (dVar 1) (dCons (dIx (dOwn 8) (dNeg (dC (.int 1)))) dNil))))) (dRet (dC (.bool false))) dSkip)) dSkip) (dSeq (dFor (dRg (dC (.int 6))) (pName 9) (dApp 8 (dIf (dBool (dLt (dVar 9) (dC (.int 3)))) (dTup (dCons (dCall R__law_tr_bent (dCons (dVar 5) dNil)) (dCons (dVar 6) dNil))) (dTup (dCons (dVar 5) (dCons (dCall R__law_tr_bent (dCons (dVar 6) dNil)) dNil)))))) (dForO 8 (pName 10) (dIfS (dBool (dNe (dCall R_is_bags (dCons (dVar 1) (dCons (dVar 10) dNil))) (dCall R__law_tr_is_bags (dCons (dVar 1) (dCons (dVar 10) dNil))))) (dRet (dC (.bool false))) dSkip))))))))))) (dSeq (dSet 11 (dCall R_fold_answer (dCons (dVar 1) dNil))) (dRet (dOrV (dNe (dIx (dVar 11) (dC (.int 0))) (dC (.str "folds"))) (dCall R_is_bags (dCons (dVar 1) (dCons (dTup (dCons (dVar 1) (dCons (dIx (dVar 11) (dC (.int 1))) dNil))) dNil)))))))))
def R__law_right : Rl := fun ds K => ds.length = 0 ∧ g__law_right { nx := fun _ => K .none, rt := K, rl := fun _ => False } (startH 12 ds)
theorem c__law_right (E : Ev K mg) : Cal P w K mg base 8 "_law_right" (PrH R__law_right) := by
  obtain ⟨fd, F⟩ := f__law_right E
  refine ⟨_, fd, ["_law_hat"], F.ok sc__law_right (len_prH fun ds K h => h.1) (fun cdv A outer s H vs Q E1 hr h => ⟨sS [0, 8] g__law_right, PSs.nox ?_, entH (fun ds K h => ⟨(fun i hi => by rw [h.1]; revert i; decide), h.2⟩) vs H Q E1 h⟩), q__law_right E, F.kp, F.bindsN fun _ _ _ _ _ _ us hl => match us, hl with | [_], _ => rfl⟩
  exact (s_cons (s_set (j := 1) (g := (dCall R__law_tr_web (dCons (dC (.int 8)) dNil))) (ps_set (i := 1) sc__law_right.nd rfl (by first | exact Or.inl rfl | exact Or.inr rfl) (S_of_R (h_call (by decide) rfl (pe_cal (c__law_tr_web E) hr (by decide) rfl (pa_cons (pv 0) (a_cons r_int a_nil)))))) (fun _ _ _ q => q)) (s_cons (s_set (j := 2) (g := (dCall R__law_tr_letters (dCons (dVar 1) dNil))) (ps_set (i := 2) sc__law_right.nd rfl (by first | exact Or.inl rfl | exact Or.inr rfl) (S_of_R (r_call rfl (pe_cal (c__law_tr_letters E) hr (by decide) rfl (a_cons (r_var (pv 1)) a_nil))))) (fun _ _ _ q => q)) (s_cons (s_for (gi := (dRg (dC (.int 2)))) (gb := (dSeq (dSet 4 (dCall R__law_tr_mixed (dCons (dVar 2) dNil))) (dSeq (dTg (dCall R_bags_of (dCons (dVar 1) (dCons (dVar 4) dNil))) (pTwo 5 6)) (dSeq (dSet 7 (dCall R__law_tr_bags (dCons (dVar 1) (dCons (dVar 4) dNil)))) (dSeq (dIfS (dOr (dAnd (dBool (dNe (dVar 2) (dTup dNil))) (dBool (dNe (dVar 5) (dVar 7)))) (dOr (dNot (dBool (dCall R_is_tree (dCons (dVar 5) (dCons (dVar 6) dNil))))) (dNot (dBool (dCall R_is_bags (dCons (dVar 1) (dCons (dTup (dCons (dVar 5) (dCons (dVar 6) dNil))) dNil))))))) (dRet (dC (.bool false))) dSkip) (dSeq (dSet 8 (dLst (dDis (dCons (dTup (dCons (dVar 5) (dCons (dVar 6) dNil))) (dCons (dTup (dCons (dVar 6) (dCons (dVar 5) dNil))) (dCons (dTup (dCons (dVar 5) dNil)) (dCons (dLst (dDis (dCons (dVar 5) (dCons (dVar 6) dNil)))) (dCons (dTup (dCons (dVar 5) (dCons (dVar 6) (dCons (dC (.int 0)) dNil)))) (dCons (dC .none) (dCons (dTup dNil) (dCons (dTup (dCons (dVar 5) (dCons (dC .none) dNil))) dNil))))))))))) (dSeq (dSet 8 (dLst (dCatL (dOwn 8) (dLst (dDis (dCons (dTup (dCons (dCutT (dVar 5) dNo (dAt (dNeg (dC (.int 1))))) (dCons (dVar 6) dNil))) (dCons (dTup (dCons (dRevT (dVar 5)) (dCons (dVar 6) dNil))) dNil))))))) (dSeq (dIfS (dBool (dNe (dVar 5) (dTup dNil))) (dSeq (dApp 8 (dCall R__law_wider (dCons (dVar 1) (dCons (dVar 5) dNil)))) (dIfS (dNot (dBool (dCall R_is_bags (dCons (dVar 1) (dCons (dIx (dOwn 8) (dNeg (dC (.int 1)))) dNil))))) (dRet (dC (.bool false))) dSkip)) dSkip) (dSeq (dFor (dRg (dC (.int 6))) (pName 9) (dApp 8 (dIf (dBool (dLt (dVar 9) (dC (.int 3)))) (dTup (dCons (dCall R__law_tr_bent (dCons (dVar 5) dNil)) (dCons (dVar 6) dNil))) (dTup (dCons (dVar 5) (dCons (dCall R__law_tr_bent (dCons (dVar 6) dNil)) dNil)))))) (dForO 8 (pName 10) (dIfS (dBool (dNe (dCall R_is_bags (dCons (dVar 1) (dCons (dVar 10) dNil))) (dCall R__law_tr_is_bags (dCons (dVar 1) (dCons (dVar 10) dNil))))) (dRet (dC (.bool false))) dSkip))))))))))) PassesOwn.never rfl (i_rng rfl (q_range E) (V_of_R r_int)) (pgn 3 sc__law_right.nd) tg_name (s_cons (s_set (j := 4) (g := (dCall R__law_tr_mixed (dCons (dVar 2) dNil))) (ps_set (i := 4) sc__law_right.nd rfl (by first | exact Or.inl rfl | exact Or.inr rfl) (S_of_R (h_call (by decide) rfl (pe_cal (c__law_tr_mixed E) hr (by decide) rfl (pa_cons (pv 0) (a_cons (r_var (pv 2)) a_nil)))))) (fun _ _ _ q => q)) (s_cons (s_tg (b := true) (g := (dCall R_bags_of (dCons (dVar 1) (dCons (dVar 4) dNil)))) (ps_asg (r_call rfl (pe_cal (c_bags_of E) hr (by decide) rfl (a_cons (r_var (pv 1)) (a_cons (r_var (pv 4)) a_nil)))) (pg_tup rfl (pgs_cons (pgn 5 sc__law_right.nd) (pgs_cons (pgn 6 sc__law_right.nd) pgs_nil)))) tg_two (fun _ _ _ q => q)) (s_cons (s_set (j := 7) (g := (dCall R__law_tr_bags (dCons (dVar 1) (dCons (dVar 4) dNil)))) (ps_set (i := 7) sc__law_right.nd rfl (by first | exact Or.inl rfl | exact Or.inr rfl) (S_of_R (r_call rfl (pe_cal (c__law_tr_bags E) hr (by decide) rfl (a_cons (r_var (pv 1)) (a_cons (r_var (pv 4)) a_nil)))))) (fun _ _ _ q => q)) (s_cons (s_if (PW.pt (t_or (PW.pt (t_and (t_ne hr.units (V_of_R (r_var (pv 2))) (V_of_R (r_tup a_nil))) (t_and1 (t_ne hr.units (V_of_R (r_var (pv 5))) (V_of_R (r_var (pv 7))))))) (t_or (t_not (t_val (r_call rfl (pe_cal (c_is_tree E) hr (by decide) rfl (a_cons (r_var (pv 5)) (a_cons (r_var (pv 6)) a_nil)))))) (t_or1 (t_not (t_val (r_call rfl (pe_cal (c_is_bags E) hr (by decide) rfl (a_cons (r_var (pv 1)) (a_cons (r_tup (a_cons (r_var (pv 5)) (a_cons (r_var (pv 6)) a_nil))) a_nil)))))))))) (s_one (s_ret r_bl)) s_nil) (s_cons (s_set (j := 8) (g := (dLst (dDis (dCons (dTup (dCons (dVar 5) (dCons (dVar 6) dNil))) (dCons (dTup (dCons (dVar 6) (dCons (dVar 5) dNil))) (dCons (dTup (dCons (dVar 5) dNil)) (dCons (dLst (dDis (dCons (dVar 5) (dCons (dVar 6) dNil)))) (dCons (dTup (dCons (dVar 5) (dCons (dVar 6) (dCons (dC (.int 0)) dNil)))) (dCons (dC .none) (dCons (dTup dNil) (dCons (dTup (dCons (dVar 5) (dCons (dC .none) dNil))) dNil))))))))))) (ps_set (i := 8) sc__law_right.nd rfl (by first | exact Or.inl rfl | exact Or.inr rfl) (S_of_L (l_lst (a_cons (r_tup (a_cons (r_var (pv 5)) (a_cons (r_var (pv 6)) a_nil))) (a_cons (r_tup (a_cons (r_var (pv 6)) (a_cons (r_var (pv 5)) a_nil))) (a_cons (r_tup (a_cons (r_var (pv 5)) a_nil)) (a_cons (R_of_L (l_lst (a_cons (r_var (pv 5)) (a_cons (r_var (pv 6)) a_nil)))) (a_cons (r_tup (a_cons (r_var (pv 5)) (a_cons (r_var (pv 6)) (a_cons r_int a_nil)))) (a_cons r_non (a_cons (r_tup a_nil) (a_cons (r_tup (a_cons (r_var (pv 5)) (a_cons r_non a_nil))) a_nil))))))))))) (fun _ _ _ q => q)) (s_cons (s_set (j := 8) (g := (dLst (dCatL (dOwn 8) (dLst (dDis (dCons (dTup (dCons (dCutT (dVar 5) dNo (dAt (dNeg (dC (.int 1))))) (dCons (dVar 6) dNil))) (dCons (dTup (dCons (dRevT (dVar 5)) (dCons (dVar 6) dNil))) dNil))))))) (ps_set (i := 8) sc__law_right.nd rfl (by first | exact Or.inl rfl | exact Or.inr rfl) (S_of_L (l_cat (w_own (pv 8)) (W_of_L (l_lst (a_cons (r_tup (a_cons (r_cut (r_var (pv 5)) o_no (o_at (V_of_R (r_neg (V_of_R r_int))))) (a_cons (r_var (pv 6)) a_nil))) (a_cons (r_tup (a_cons (r_revT (pe_revT (r_var (pv 5)))) (a_cons (r_var (pv 6)) a_nil))) a_nil))))))) (fun _ _ _ q => q)) (s_cons (s_if (t_ne hr.units (V_of_R (r_var (pv 5))) (V_of_R (r_tup a_nil))) (s_cons (s_app (ps_expr (pe_bm PySem.F.plainAttrs_list PySem.F.slot_list_append PySem.F.type_list_append mt_append (pv 8) (pa_cons (h_call (by decide) rfl (pe_cal (c__law_wider E) hr (by decide) rfl (pa_cons (pv 0) (a_cons (r_var (pv 1)) (a_cons (r_var (pv 5)) a_nil))))) pa_nil)))) (s_one (s_if (t_not (t_val (r_call rfl (pe_cal (c_is_bags E) hr (by decide) rfl (a_cons (r_var (pv 1)) (a_cons (r_ix (w_own (pv 8)) (V_of_R (r_neg (V_of_R r_int))) (fun _ _ => rfl)) a_nil)))))) (s_one (s_ret r_bl)) s_nil))) s_nil) (s_cons (s_for (gi := (dRg (dC (.int 6)))) (gb := (dApp 8 (dIf (dBool (dLt (dVar 9) (dC (.int 3)))) (dTup (dCons (dCall R__law_tr_bent (dCons (dVar 5) dNil)) (dCons (dVar 6) dNil))) (dTup (dCons (dVar 5) (dCons (dCall R__law_tr_bent (dCons (dVar 6) dNil)) dNil)))))) PassesOwn.never rfl (i_rng rfl (q_range E) (V_of_R r_int)) (pgn 9 sc__law_right.nd) tg_name (s_one (s_app (ps_expr (pe_bm PySem.F.plainAttrs_list PySem.F.slot_list_append PySem.F.type_list_append mt_append (pv 8) (pa_cons (r_if (t_lt (V_of_R (r_var (pv 9))) (V_of_R r_int)) (r_tup (a_cons (h_call (by decide) rfl (pe_cal (c__law_tr_bent E) hr (by decide) rfl (pa_cons (pv 0) (a_cons (r_var (pv 5)) a_nil)))) (a_cons (r_var (pv 6)) a_nil))) (r_tup (a_cons (r_var (pv 5)) (a_cons (h_call (by decide) rfl (pe_cal (c__law_tr_bent E) hr (by decide) rfl (pa_cons (pv 0) (a_cons (r_var (pv 6)) a_nil)))) a_nil)))) pa_nil)))))) (s_one (s_forO (j := 8) PassesOwn.never rfl (pv 8) (pgn 10 sc__law_right.nd) tg_name (s_one (s_if (t_ne hr.units (V_of_R (r_call rfl (pe_cal (c_is_bags E) hr (by decide) rfl (a_cons (r_var (pv 1)) (a_cons (r_var (pv 10)) a_nil))))) (V_of_R (r_call rfl (pe_cal (c__law_tr_is_bags E) hr (by decide) rfl (a_cons (r_var (pv 1)) (a_cons (r_var (pv 10)) a_nil)))))) (s_one (s_ret r_bl)) s_nil))))))))))))) (s_cons (s_set (j := 11) (g := (dCall R_fold_answer (dCons (dVar 1) dNil))) (ps_set (i := 11) sc__law_right.nd rfl (by first | exact Or.inl rfl | exact Or.inr rfl) (S_of_R (r_call rfl (pe_cal (c_fold_answer E) hr (by decide) rfl (a_cons (r_var (pv 1)) a_nil))))) (fun _ _ _ q => q)) (s_one (s_ret (r_or (V_of_R (r_ne hr.units (V_of_R (r_ix (W_of_R (r_var (pv 11))) (V_of_R r_int) (fun _ _ => rfl))) (V_of_R r_str))) (r_one (r_call rfl (pe_cal (c_is_bags E) hr (by decide) rfl (a_cons (r_var (pv 1)) (a_cons (r_tup (a_cons (r_var (pv 1)) (a_cons (r_ix (W_of_R (r_var (pv 11))) (V_of_R r_int) (fun _ _ => rfl)) a_nil))) a_nil))))))))))))
end
end Kb
set_option Elab.async false
set_option linter.all false
set_option maxRecDepth 100000
set_option maxHeartbeats 2000000
/-! W7: the draws' beginning. -/
namespace Kb
open PySem PySem.Spec PyProof.Rows L2
theorem SqL.stay {K : PySem.W.Frag} {H H' : Hp} {a : Addr} {xs : List V} (h : SqL K H a xs) (k : ∀ o, H a = some o → H' a = some o) : SqL K H' a xs := by
  rcases h with (h | ⟨o, h⟩) | h
  · exact .inl (.inl (k _ h))
  · exact .inl (.inr ⟨o, k _ h⟩)
  · exact .inr h
section
variable {X : Cx}
def CPow2 (i j : Int) : Prop := 0 ≤ j ∧ (Builtin.Int.intBits i : Int) * j ≤ 2 ^ 27
theorem op_pow2 : OpR X (binaryOp .Pow) (rI CPow2 fun i j => .int (i ^ j.toNat)) := opI fun _ _ _ _ _ _ _ hc q => pow_int hc.1 hc.2 q
end
section
variable {P : Program} {w : World} {K : PySem.W.Frag} {mg : Str → Option Value} {base : Heap}
def spHat (K : PySem.W.Frag) : Sp := fun vs H Q _ => ∃ (a : Addr) (ns : List Int) (i : Nat), vs = [.ref a, .int i] ∧ i ≤ 3 ∧ ns.length ≤ sizeLine ∧ SqL K H a (ns.map V.int) ∧ ∀ (b : Addr) (x y : Int), 0 ≤ x → 0 ≤ y → H b = none → Q (.ref b) (upd H b (.lst [.int x, .int y, .int 0]))
theorem sc__law_tr_hat : FnScope ["_law_script", "_law_spot", "_law_cell", "_law_great", "_law_seed"] ["_law_script", "_law_spot"] (defScope (top 46)) := ⟨rfl, rfl, rfl, by decide +kernel, rfl, by decide +kernel, by decide +kernel⟩
theorem c__law_tr_hat (E : Ev K mg) : Cal P w K mg base 1 "_law_tr_hat" (spHat K) := by
  obtain ⟨fd, F⟩ := f__law_tr_hat E
  refine ⟨_, fd, ["_law_script", "_law_spot"], F.ok sc__law_tr_hat (fun vs H Q E h => by obtain ⟨a, ns, i, rfl, _⟩ := h; rfl) (fun cdv A outer s H vs Q E1 hr h => ⟨_, PSs.nox
    (pss_cons (ps_set (i := 2) sc__law_tr_hat.nd rfl (Or.inl rfl) (pe_ifExp (pt_cmpR op_lt (pv 1) (pe_callB call_len rfl (q_len E) PySem.boot_len (pa_cons (pv 0) pa_nil)) (nomark _))
        (pe_callTy call_int1 rfl (q_int E) PyProof.Rows.boot_int (pa_cons (pe_ix ix_list (pv 0) (pv 1) (fun _ _ => rfl)) pa_nil))
        (pe_op op_add (pe_op op_mul pe_int (pv 1)) pe_int)))
    (pss_cons (ps_set (i := 3) sc__law_tr_hat.nd rfl (Or.inl rfl) (pe_op op_mod (pe_callTy call_int1 rfl (q_int E) PyProof.Rows.boot_int (pa_cons (pe_callB call_abs rfl (q_abs E) PyProof.Rows.boot_abs (pa_cons (pv 2) pa_nil)) pa_nil))
        (pe_op op_pow2 (pe_op op_pow2 pe_int pe_int) pe_int)))
    (pss_cons (ps_set (i := 4) sc__law_tr_hat.nd rfl (Or.inl rfl) (pe_callTy call_int1 rfl (q_int E) PyProof.Rows.boot_int (pa_cons
        (pe_op op_add (pe_op op_add (pe_op op_add (pe_op op_mul (pe_op op_mod (pv 3) pe_int) pe_int) (pe_op op_mul pe_int (pv 1))) (pe_op op_mul pe_int (pe_callTy call_int1 rfl (q_int E) PyProof.Rows.boot_int (pa_cons (pe_cmpR op_lt (pv 2) pe_int (nomark _)) pa_nil)))) pe_int) pa_nil)))
    (pss_one (ps_ret (pe_lst (pa_cons (pe_callB (call_max2 rfl) rfl (q_max E) PyProof.Rows.boot_max (pa_cons pe_int (pa_cons (pe_op op_sub (pv 3) (pe_op op_pow2 pe_int pe_int)) pa_nil))) (pa_cons (pe_op op_mod (pv 4) pe_int) (pa_cons pe_int pa_nil))))))))), ?_⟩), q__law_tr_hat E, F.kp, F.bindsN fun _ _ _ _ _ _ us hl => match us, hl with | [_, _], _ => rfl⟩
  obtain ⟨a, ns, i, rfl, hi, hn, hS, hQ⟩ := h
  refine ⟨_, rfl, _, rfl, _, (ns.map V.int).length, rfl, Or.inl ⟨_, hS, rfl⟩, _, _, rfl, rfl, _, rfl, ?_⟩
  have nn : ∀ j : Int, 0 ≤ (if j > 0 then j else 0) := fun j => by split <;> omega
  by_cases c : (i : Int) < (ns.map V.int).length
  · refine ite1 (decide_eq_true c) ?_
    have ci : i < ns.length := by rw [List.length_map] at c; omega
    have hat : atI (ns.map V.int) (i : Int) = some (.int ns[i]) := by
      unfold atI ixN
      rw [if_pos (Int.natCast_nonneg i), if_pos c, Int.toNat_natCast]
      show (ns.map V.int)[i]? = _
      rw [List.getElem?_map, List.getElem?_eq_getElem ci]
      rfl
    refine ⟨_, rfl, _, rfl, a, _, (i : Int), .int ns[i], rfl, rfl, hS, hat, .inl ⟨_, rfl, ?_⟩⟩
    refine ⟨_, rfl, _, rfl, .inl ⟨_, rfl, _, _, rfl, rfl, ⟨by decide, by decide⟩, _, _, rfl, rfl, ⟨by decide, by decide⟩, _, _, rfl, rfl, (show (0 : Int) < (10 ^ (53 : Int).toNat) ^ (7 : Int).toNat by decide), ?_⟩⟩
    refine ⟨_, rfl, _, _, rfl, rfl, (show (0 : Int) < 2305843009213693921 by decide), _, _, rfl, rfl, .inr ⟨by decide, by decide⟩, _, rfl, _, _, rfl, rfl, .inl ⟨by decide, by decide⟩, _, _, rfl, rfl, ?_⟩
    refine ⟨_, rfl, _, _, rfl, rfl, .inr ⟨_, rfl, _, _, rfl, rfl, .inl ⟨by decide, by decide⟩, _, _, rfl, rfl, _, _, rfl, rfl, .inl ⟨_, rfl, ?_⟩⟩⟩
    refine ⟨_, rfl, _, _, rfl, rfl, ⟨by decide, by decide⟩, _, _, rfl, rfl, _, _, rfl, _, rfl, _, _, rfl, rfl, (show (0 : Int) < 2305843009213693951 by decide), (show 3 ≤ sizeLine by decide), fun b hb => hQ b _ _ (nn _) (Int.emod_nonneg _ (by decide)) hb⟩
  · refine ite0 (decide_eq_false c) ?_
    refine ⟨_, rfl, _, _, rfl, rfl, .inl ⟨by decide, by decide⟩, _, _, rfl, rfl, ?_⟩
    refine ⟨_, rfl, _, rfl, .inl ⟨_, rfl, _, _, rfl, rfl, ⟨by decide, by decide⟩, _, _, rfl, rfl, ⟨by decide, by decide⟩, _, _, rfl, rfl, (show (0 : Int) < (10 ^ (53 : Int).toNat) ^ (7 : Int).toNat by decide), ?_⟩⟩
    refine ⟨_, rfl, _, _, rfl, rfl, (show (0 : Int) < 2305843009213693921 by decide), _, _, rfl, rfl, .inr ⟨by decide, by decide⟩, _, rfl, _, _, rfl, rfl, .inl ⟨by decide, by decide⟩, _, _, rfl, rfl, ?_⟩
    refine ⟨_, rfl, _, _, rfl, rfl, .inr ⟨_, rfl, _, _, rfl, rfl, .inl ⟨by decide, by decide⟩, _, _, rfl, rfl, _, _, rfl, rfl, .inl ⟨_, rfl, ?_⟩⟩⟩
    refine ⟨_, rfl, _, _, rfl, rfl, ⟨by decide, by decide⟩, _, _, rfl, rfl, _, _, rfl, _, rfl, _, _, rfl, rfl, (show (0 : Int) < 2305843009213693951 by decide), (show 3 ≤ sizeLine by decide), fun b hb => hQ b _ _ (nn _) (Int.emod_nonneg _ (by decide)) hb⟩
end
end Kb
set_option Elab.async false
set_option linter.all false
set_option maxRecDepth 100000
set_option maxHeartbeats 2000000
namespace Kb
open PySem PySem.Spec PyProof.Rows L2
section
variable {P : Program} {w : World} {K : PySem.W.Frag} {mg : Str → Option Value} {base : Heap}
theorem sc_law : FnScope ["_law_script", "_law_spot", "_law_hat", "_law_turn", "_law_wheel", "_law_told"] ["_law_script"] (defScope (top 67)) := ⟨rfl, rfl, rfl, by decide +kernel, rfl, by decide +kernel, by decide +kernel⟩
def g_tail : DS := (dSeq (dSet 4 (dTup (dCons (dTup (dCons (dC (.int 0)) (dCons (dC (.int 1)) dNil))) (dCons (dTup (dCons (dC (.int 1)) (dCons (dC (.int 2)) dNil))) (dCons (dTup (dCons (dC (.int 2)) (dCons (dC (.int 3)) dNil))) (dCons (dTup (dCons (dC (.int 0)) (dCons (dC (.int 3)) dNil))) dNil)))))) (dSeq (dSet 5 (dLst (dDis (dCons (dIx (dCall R_bags_of (dCons (dVar 4) (dCons (dTup (dCons (dC (.int 0)) (dCons (dC (.int 1)) (dCons (dC (.int 2)) (dCons (dC (.int 3)) dNil))))) dNil))) (dC (.int 0))) (dCons (dIx (dCall R_bags_of (dCons (dVar 4) (dCons (dTup (dCons (dC (.int 1)) (dCons (dC (.int 0)) (dCons (dC (.int 2)) (dCons (dC (.int 3)) dNil))))) dNil))) (dC (.int 0))) dNil))))) (dSeq (dIfS (dBool (dNe (dVar 5) (dLst (dDis (dCons (dTup (dCons (dTup (dCons (dC (.int 0)) (dCons (dC (.int 1)) (dCons (dC (.int 3)) dNil)))) (dCons (dTup (dCons (dC (.int 1)) (dCons (dC (.int 2)) (dCons (dC (.int 3)) dNil)))) dNil))) (dCons (dTup (dCons (dTup (dCons (dC (.int 0)) (dCons (dC (.int 1)) (dCons (dC (.int 2)) dNil)))) (dCons (dTup (dCons (dC (.int 0)) (dCons (dC (.int 2)) (dCons (dC (.int 3)) dNil)))) dNil))) dNil)))))) (dRet (dC (.bool false))) dSkip) (dSeq (dIfS (dOr (dNot (dBool (dCall R_is_bags (dCons (dVar 4) (dCons (dTup (dCons (dTup (dCons (dTup (dCons (dC (.int 0)) (dCons (dC (.int 1)) (dCons (dC (.int 2)) dNil)))) (dCons (dTup (dCons (dC (.int 0)) (dCons (dC (.int 2)) (dCons (dC (.int 3)) dNil)))) dNil))) (dCons (dTup (dCons (dC .none) (dCons (dC (.int 0)) dNil))) dNil))) dNil))))) (dBool (dCall R_is_bags (dCons (dVar 4) (dCons (dTup (dCons (dVar 4) (dCons (dTup (dCons (dC .none) (dCons (dC (.int 0)) (dCons (dC (.int 1)) (dCons (dC (.int 2)) dNil))))) dNil))) dNil))))) (dRet (dC (.bool false))) dSkip) (dSeq (dIfS (dOr (dBool (dCall R_is_bags (dCons (dVar 4) (dCons (dTup (dCons (dTup (dCons (dTup (dCons (dC (.int 0)) (dCons (dC (.int 1)) (dCons (dC (.int 2)) (dCons (dC (.int 3)) (dCons (dC (.int 4)) dNil)))))) dNil)) (dCons (dTup (dCons (dC .none) dNil)) dNil))) dNil)))) (dNot (dBool (dCall R_is_bags (dCons (dVar 4) (dCons (dTup (dCons (dTup (dCons (dTup (dCons (dC (.int 0)) (dCons (dC (.int 1)) (dCons (dC (.int 2)) (dCons (dC (.int 3)) dNil))))) dNil)) (dCons (dTup (dCons (dC .none) dNil)) dNil))) dNil)))))) (dRet (dC (.bool false))) dSkip) (dRet (dAndV (dCall R_is_bags (dCons (dTup dNil) (dCons (dTup (dCons (dTup dNil) (dCons (dTup dNil) dNil))) dNil))) (dAndV (dCall R_is_bags (dCons (dTup (dCons (dTup dNil) dNil)) (dCons (dTup (dCons (dTup (dCons (dTup dNil) dNil)) (dCons (dTup (dCons (dC .none) dNil)) dNil))) dNil))) (dNotV (dCall R_is_bags (dCons (dTup (dCons (dTup dNil) dNil)) (dCons (dTup (dCons (dTup dNil) (dCons (dTup dNil) dNil))) dNil))))))))))))
def spLaw (K : PySem.W.Frag) : Sp := fun vs H Q _ => ∃ (a : Addr) (ns : List Int), vs = [.ref a] ∧ ns.length ≤ sizeLine ∧ SqL K H a (ns.map V.int) ∧ ∀ H', Q (.bl true) H'
/-- every sub-heap of the whole, in the state of a def that draws nothing, with no data so far -/
theorem tail_in {σ : L2.St} {H : Hp} {Q : VK} {g : DS} (hl : σ.length = 6) (hQ : ∀ H', Q (.bl true) H')
    (h : g { nx := fun _ => False, rt := fun d => d = .bool true, rl := fun _ => False } [none, none, none, none, none, none]) : sS [] g { nx := fun _ H' => Q .non H', rt := Q } σ H := by
  have R : Rs [] none H H σ [none, none, none, none, none, none] := {
    sub := Sub.refl _
    len := hl
    dat := fun i d he _ => by
      rcases i with _ | _ | _ | _ | _ | _ | i <;> cases he
    own := fun i d _ hi => by cases hi
    apart := fun i j a d e hi => by cases hi
    hat := fun a z => nomatch z
    hatS := fun a z => nomatch z
    hatO := fun z => by cases z
    tups := fun a xs z => z }
  exact ⟨none, H, H, hE0, H, _, _, ⟨R, fun _ _ z => (nomatch (show none = some _ from z)), R.sub_grow (.refl _ _), .refl _ _, fun i a d hi => (by cases hi), fun a z => nomatch z⟩, h, ⟨fun F' H' σ ρ S q => q.elim, fun _ _ _ _ _ q => q, fun _ _ _ _ _ q => q, fun d v H' ex dt q => by
    have q2 : d = .bool true := q
    subst q2
    cases dt
    exact hQ H', fun _ _ _ _ _ _ _ _ q => q.elim⟩⟩
theorem c_law (E : Ev K mg) (h1 : R__law_right [] fun d => d = .bool true) (h2 : g_tail { nx := fun _ => False, rt := fun d => d = .bool true, rl := fun _ => False } [none, none, none, none, none, none])
    {fd : FuncData} (F : FnP K "law" (top 67) (He.ga K "law") fd) : FnOk P w K mg base CX0 9 (He.ga K "law") fd ["_law_script"] (spLaw K) := by
  refine F.ok sc_law (fun vs H Q E h => by obtain ⟨a, ns, rfl, _⟩ := h; rfl) (fun cdv A outer s H vs Q E1 hr h => ⟨_, PSs.nox
    (pss_cons (ps_for PassesOwn.never rfl (pi_range1 rfl (q_range E) (pa_cons (pe_callB (call_max2 rfl) rfl (q_max E) PyProof.Rows.boot_max (pa_cons pe_int (pa_cons (pe_callB (call_min2 rfl) rfl (q_min E) PyProof.Rows.boot_min (pa_cons pe_int (pa_cons (pe_callB call_len rfl (q_len E) PySem.boot_len (pa_cons (pv 0) pa_nil)) pa_nil))) pa_nil))) pa_nil)) (pgn 1 sc_law.nd)
        (pss_cons (ps_set (i := 2) sc_law.nd rfl (Or.inl rfl) (pe_cal (c__law_tr_hat E) hr (by decide) rfl (pa_cons (pv 0) (pa_cons (pv 1) pa_nil))))
          (pss_one (ps_for PassesOwn.never rfl (pi_range1 rfl (q_range E) (pa_cons pe_int pa_nil)) (pgn 3 sc_law.nd)
            (pss_one (ps_if (pt_not (pt_val (pe_cal (c__law_right E) hr (by decide) rfl (pa_cons (pv 2) pa_nil)))) (pss_one (ps_ret pe_bl)) pss_nil))))))
      (show PSs _ _ (sS [] g_tail) from (s_cons (s_set (j := 4) (g := (dTup (dCons (dTup (dCons (dC (.int 0)) (dCons (dC (.int 1)) dNil))) (dCons (dTup (dCons (dC (.int 1)) (dCons (dC (.int 2)) dNil))) (dCons (dTup (dCons (dC (.int 2)) (dCons (dC (.int 3)) dNil))) (dCons (dTup (dCons (dC (.int 0)) (dCons (dC (.int 3)) dNil))) dNil)))))) (ps_set (i := 4) sc_law.nd rfl (by first | exact Or.inl rfl | exact Or.inr rfl) (S_of_R (r_tup (a_cons (r_tup (a_cons r_int (a_cons r_int a_nil))) (a_cons (r_tup (a_cons r_int (a_cons r_int a_nil))) (a_cons (r_tup (a_cons r_int (a_cons r_int a_nil))) (a_cons (r_tup (a_cons r_int (a_cons r_int a_nil))) a_nil))))))) (fun _ _ _ q => q)) (s_cons (s_set (j := 5) (g := (dLst (dDis (dCons (dIx (dCall R_bags_of (dCons (dVar 4) (dCons (dTup (dCons (dC (.int 0)) (dCons (dC (.int 1)) (dCons (dC (.int 2)) (dCons (dC (.int 3)) dNil))))) dNil))) (dC (.int 0))) (dCons (dIx (dCall R_bags_of (dCons (dVar 4) (dCons (dTup (dCons (dC (.int 1)) (dCons (dC (.int 0)) (dCons (dC (.int 2)) (dCons (dC (.int 3)) dNil))))) dNil))) (dC (.int 0))) dNil))))) (ps_set (i := 5) sc_law.nd rfl (by first | exact Or.inl rfl | exact Or.inr rfl) (S_of_R (R_of_L (l_lst (a_cons (r_ix (W_of_R (r_call rfl (pe_cal (c_bags_of E) hr (by decide) rfl (a_cons (r_var (pv 4)) (a_cons (r_tup (a_cons r_int (a_cons r_int (a_cons r_int (a_cons r_int a_nil))))) a_nil))))) (V_of_R r_int) (fun _ _ => rfl)) (a_cons (r_ix (W_of_R (r_call rfl (pe_cal (c_bags_of E) hr (by decide) rfl (a_cons (r_var (pv 4)) (a_cons (r_tup (a_cons r_int (a_cons r_int (a_cons r_int (a_cons r_int a_nil))))) a_nil))))) (V_of_R r_int) (fun _ _ => rfl)) a_nil)))))) (fun _ _ _ q => q)) (s_cons (s_if (t_ne hr.units (V_of_R (r_var (pv 5))) (V_of_L (l_lst (a_cons (r_tup (a_cons (r_tup (a_cons r_int (a_cons r_int (a_cons r_int a_nil)))) (a_cons (r_tup (a_cons r_int (a_cons r_int (a_cons r_int a_nil)))) a_nil))) (a_cons (r_tup (a_cons (r_tup (a_cons r_int (a_cons r_int (a_cons r_int a_nil)))) (a_cons (r_tup (a_cons r_int (a_cons r_int (a_cons r_int a_nil)))) a_nil))) a_nil))))) (s_one (s_ret r_bl)) s_nil) (s_cons (s_if (PW.pt (t_or (t_not (t_val (r_call rfl (pe_cal (c_is_bags E) hr (by decide) rfl (a_cons (r_var (pv 4)) (a_cons (r_tup (a_cons (r_tup (a_cons (r_tup (a_cons r_int (a_cons r_int (a_cons r_int a_nil)))) (a_cons (r_tup (a_cons r_int (a_cons r_int (a_cons r_int a_nil)))) a_nil))) (a_cons (r_tup (a_cons r_non (a_cons r_int a_nil))) a_nil))) a_nil)))))) (t_or1 (t_val (r_call rfl (pe_cal (c_is_bags E) hr (by decide) rfl (a_cons (r_var (pv 4)) (a_cons (r_tup (a_cons (r_var (pv 4)) (a_cons (r_tup (a_cons r_non (a_cons r_int (a_cons r_int (a_cons r_int a_nil))))) a_nil))) a_nil)))))))) (s_one (s_ret r_bl)) s_nil) (s_cons (s_if (PW.pt (t_or (t_val (r_call rfl (pe_cal (c_is_bags E) hr (by decide) rfl (a_cons (r_var (pv 4)) (a_cons (r_tup (a_cons (r_tup (a_cons (r_tup (a_cons r_int (a_cons r_int (a_cons r_int (a_cons r_int (a_cons r_int a_nil)))))) a_nil)) (a_cons (r_tup (a_cons r_non a_nil)) a_nil))) a_nil))))) (t_or1 (t_not (t_val (r_call rfl (pe_cal (c_is_bags E) hr (by decide) rfl (a_cons (r_var (pv 4)) (a_cons (r_tup (a_cons (r_tup (a_cons (r_tup (a_cons r_int (a_cons r_int (a_cons r_int (a_cons r_int a_nil))))) a_nil)) (a_cons (r_tup (a_cons r_non a_nil)) a_nil))) a_nil))))))))) (s_one (s_ret r_bl)) s_nil) (s_one (s_ret (r_and (V_of_R (r_call rfl (pe_cal (c_is_bags E) hr (by decide) rfl (a_cons (r_tup a_nil) (a_cons (r_tup (a_cons (r_tup a_nil) (a_cons (r_tup a_nil) a_nil))) a_nil))))) (r_and (V_of_R (r_call rfl (pe_cal (c_is_bags E) hr (by decide) rfl (a_cons (r_tup (a_cons (r_tup a_nil) a_nil)) (a_cons (r_tup (a_cons (r_tup (a_cons (r_tup a_nil) a_nil)) (a_cons (r_tup (a_cons r_non a_nil)) a_nil))) a_nil))))) (r_one (r_not (V_of_R (r_call rfl (pe_cal (c_is_bags E) hr (by decide) rfl (a_cons (r_tup (a_cons (r_tup a_nil) a_nil)) (a_cons (r_tup (a_cons (r_tup a_nil) (a_cons (r_tup a_nil) a_nil))) a_nil)))))))))))))))))), ?_⟩)
  obtain ⟨a, ns, rfl, hn, hS, hQ⟩ := h
  refine ⟨_, rfl, _, (ns.map V.int).length, rfl, Or.inl ⟨_, hS, rfl⟩, _, _, rfl, _, _, rfl, _, rfl, ?_, ?_, ?_⟩
  · split <;> split <;> omega
  · split <;> split <;> omega
  generalize hm : (if (if ((ns.map V.int).length : Int) < 3 then ((ns.map V.int).length : Int) else 3) > 1 then (if ((ns.map V.int).length : Int) < 3 then ((ns.map V.int).length : Int) else 3) else 1) = m
  have hm3 : m.toNat ≤ 3 := by
    rw [← hm]
    split <;> split <;> omega
  refine for_range (n := m.toNat) (fun i σ H => σ.length = 6 ∧ σ[0]? = some (some (.ref a)) ∧ SqL K H a (ns.map V.int)) ⟨rfl, rfl, hS⟩ (fun i σ H hi p => ?_) (fun σ H p => tail_in p.1 hQ h2)
  obtain ⟨p1, p2, p3⟩ := p
  have q0 : (σ.set 1 (some (V.int (0 + (i : Int)))))[0]? = some (some (.ref a)) := by rw [List.getElem?_set_ne (by decide)]; exact p2
  have q1 : (σ.set 1 (some (V.int (0 + (i : Int)))))[1]? = some (some (.int (i : Int))) := by rw [List.getElem?_set_self (by omega), Int.zero_add]
  refine ⟨_, q0, _, q1, ?_⟩
  refine ⟨a, ns, i, rfl, by omega, hn, p3, fun b x y hx hy hb => ?_⟩
  have fix : (a ≠ b ∧ SqL K H a (ns.map V.int)) ∨ ∀ H', SqL K H' a (ns.map V.int) := by
    rcases p3 with (h | ⟨o, h⟩) | h
    · exact .inl ⟨fun c => (by rw [c, hb] at h; cases h), .inl (.inl h)⟩
    · exact .inl ⟨fun c => (by rw [c, hb] at h; cases h), .inl (.inr ⟨o, h⟩)⟩
    · exact .inr fun H' => .inr h
  refine ⟨3, rfl, by decide, by decide, ?_⟩
  refine for_range (n := 3) (fun k σ2 H2 => σ2.length = 6 ∧ σ2[0]? = some (some (.ref a)) ∧ σ2[2]? = some (some (.ref b)) ∧ HatAt H2 b ∧ ((a ≠ b ∧ SqL K H2 a (ns.map V.int)) ∨ ∀ H', SqL K H' a (ns.map V.int))) ?_ (fun k σ2 H2 hk p => ?_) (fun σ2 H2 p => ⟨p.1, p.2.1, p.2.2.2.2.elim (fun z => z.2) (fun z => z H2)⟩)
  · refine ⟨by rw [List.length_set, List.length_set]; exact p1, by rw [List.getElem?_set_ne (by decide)]; exact q0, List.getElem?_set_self (by rw [List.length_set]; omega), ⟨x, y, 0, upd_same, hx, hy, Int.le_refl _⟩, fix.elim (fun z => .inl ⟨z.1, SqL.stay z.2 fun o e => by rw [upd_ne z.1]; exact e⟩) .inr⟩
  obtain ⟨r1, r2, r3, r4, r5⟩ := p
  have s2 : (σ2.set 3 (some (V.int (0 + (k : Int)))))[2]? = some (some (.ref b)) := by rw [List.getElem?_set_ne (by decide)]; exact r3
  refine ⟨_, s2, ?_⟩
  show PrH R__law_right ([V.ref b] ++ []) H2 _ E0
  obtain ⟨x2, y2, z2, hb2, hh⟩ := r4
  refine ⟨b, [], hid (some b) H2, [], _, rfl, ⟨x2, y2, z2, hb2, hh⟩, hid_self, hid_sub _ _, fun c xs ht => ?_, .nil, h1, fun d hd v H3 ex dt => ?_⟩
  · obtain ⟨o, ho, hd⟩ := ht
    refine ⟨o, ?_, hd⟩
    rw [hid_at]
    · exact ho
    · intro z
      cases z
      rw [hb2] at ho; cases ho
  · subst hd
    cases dt
    refine ⟨true, rfl, ?_⟩
    refine ite0 rfl ?_
    exact ⟨by rw [List.length_set]; exact r1, by rw [List.getElem?_set_ne (by decide)]; exact r2, s2, ex.hat b rfl ⟨x2, y2, z2, hb2, hh⟩, r5.elim (fun z => .inl ⟨z.1, SqL.stay z.2 fun o e => ex.keep a o (fun q => by cases q; exact z.1 rfl) e⟩) .inr⟩

end
end Kb
set_option Elab.async false
set_option linter.all false
set_option maxRecDepth 100000
set_option maxHeartbeats 2000000
/-! S1: how readings over data are worked out: words for the plain side; the lots' defs. -/
namespace Kb
open PySem L2

/-! ### comprehensions -/
section
variable {α : Type} {P : DP} {gt : DB} {ge : DE} {ρ : Env} {K : List PyData → Prop}
/-- each item gives at most one, and which it is is known -/
theorem lc_fm (enc : α → PyData) (f : α → Option PyData) : ∀ {xs : List α} {acc : List PyData},
    (∀ x ∈ xs, ∀ (A : PyData → Prop) (B : Prop), (∀ y, f x = some y → A y) → (f x = none → B) → P (enc x) ρ fun ρ2 => gt ρ2 fun b => if b = true then ge ρ2 A else B) → K (acc ++ xs.filterMap f) → lcGo P gt ge ρ (xs.map enc) acc K
  | [], acc, _, k => by simpa [lcGo] using k
  | x :: xs, acc, h, k => by
    rw [List.map_cons]
    unfold lcGo
    refine h x List.mem_cons_self (fun y => lcGo P gt ge ρ (xs.map enc) (acc ++ [y]) K) (lcGo P gt ge ρ (xs.map enc) acc K) (fun y e => ?_) fun e => ?_
    · rw [List.filterMap_cons_some e] at k
      exact lc_fm enc f (fun d' hd => h d' (List.mem_cons_of_mem _ hd)) (by simpa using k)
    · rw [List.filterMap_cons_none e] at k
      exact lc_fm enc f (fun d' hd => h d' (List.mem_cons_of_mem _ hd)) k
theorem lc_ft (enc enc' : α → PyData) (p : α → Bool) {xs : List α} (h : ∀ x ∈ xs, ∀ (A : PyData → Prop) (B : Prop), (p x = true → A (enc' x)) → (p x = false → B) → P (enc x) ρ fun ρ2 => gt ρ2 fun b => if b = true then ge ρ2 A else B) (k : K ((xs.filter p).map enc')) : lcGo P gt ge ρ (xs.map enc) [] K := by
  have e : ∀ xs : List α, xs.filterMap (fun x => if p x = true then some (enc' x) else none) = (xs.filter p).map enc' := by
    intro xs
    induction xs with
    | nil => rfl
    | cons x xs ih =>
      cases q : p x with
      | true => rw [List.filterMap_cons_some (by rw [if_pos q]), List.filter_cons_of_pos q, List.map_cons, ih]
      | false => rw [List.filterMap_cons_none (by rw [if_neg (by simp [q])]), List.filter_cons_of_neg (by simp [q]), ih]
  refine lc_fm enc (fun x => if p x = true then some (enc' x) else none) (fun x hx A B h1 h2 => h x hx A B (fun q => h1 _ (by rw [if_pos q])) fun q => h2 (by rw [if_neg (by simp [q])])) ?_
  rw [e, List.nil_append]
  exact k
theorem lc_mp (enc f : α → PyData) {xs : List α} (h : ∀ x ∈ xs, ∀ (A : PyData → Prop) (B : Prop), A (f x) → P (enc x) ρ fun ρ2 => gt ρ2 fun b => if b = true then ge ρ2 A else B) (k : K (xs.map f)) : lcGo P gt ge ρ (xs.map enc) [] K := by
  refine lc_fm enc (fun x => some (f x)) (fun x hx A B h1 h2 => h x hx A B (h1 _ rfl)) ?_
  rw [List.filterMap_eq_map', List.nil_append]
  exact k
theorem lc_mpY {j : Nat} (enc f : α → PyData) {xs : List α} (h : ∀ x ∈ xs, ∀ A : PyData → Prop, A (f x) → ge (ρ.set j (some (enc x))) A) (k : K (xs.map f)) : lcGo (pName j) dYes ge ρ (xs.map enc) [] K :=
  lc_mp enc f (fun x hx A B a => by show (if true = true then ge (ρ.set j (some (enc x))) A else B); rw [if_pos rfl]; exact h x hx A a) k
end
/-- each item may give one of several, or none -/
theorem lc_any {P : DP} {gt : DB} {ge : DE} {ρ : Env} {K : List PyData → Prop} (I : List PyData → List PyData → Prop) : ∀ {ds acc : List PyData},
    (∀ d r acc, I (d :: r) acc → ∀ (A : PyData → Prop) (B : Prop), (∀ y, I r (acc ++ [y]) → A y) → (I r acc → B) → P d ρ fun ρ2 => gt ρ2 fun b => if b = true then ge ρ2 A else B) → I ds acc → (∀ acc, I [] acc → K acc) → lcGo P gt ge ρ ds acc K
  | [], acc, _, i, k => k acc i
  | d :: ds, acc, h, i, k => by
    unfold lcGo
    exact h d ds acc i (fun y => lcGo P gt ge ρ ds (acc ++ [y]) K) (lcGo P gt ge ρ ds acc K) (fun y hy => lc_any I h hy k) fun hy => lc_any I h hy k
/-! ### loops -/
theorem for_inv {P : DP} {gb : DS} {D : DEn} (I : List PyData → Env → Prop) : ∀ {ds : List PyData} {ρ : Env},
    (∀ d r ρ, I (d :: r) ρ → ∀ X : Env → Prop, (∀ ρ', I r ρ' → X ρ') → P d ρ fun ρ2 => gb { D with nx := X, ct := X, bk := D.nx } ρ2) → I ds ρ → (∀ ρ, I [] ρ → D.nx ρ) → fGo P gb D ds ρ
  | [], ρ, _, i, k => k ρ i
  | d :: ds, ρ, h, i, k => h d ds ρ i (fGo P gb D ds) fun ρ' hi => for_inv I h hi k
theorem iteB {c : Bool} {A B : Prop} (h1 : c = true → A) (h2 : c = false → B) : if c = true then A else B := by
  cases c with
  | true => exact ite1 rfl (h1 rfl)
  | false => exact ite0 rfl (h2 rfl)
/-! ### data -/
theorem flat_ints : ∀ m : List Int, (m.map PyData.int).all flatD = true
  | [] => rfl
  | _ :: m => by rw [List.map_cons, List.all_cons, flat_ints m]; rfl
theorem any_int (m : List Int) (c : Int) : ((m.map PyData.int).any fun z => PyData.eqv z (.int c)) = m.contains c := by
  induction m with
  | nil => rfl
  | cons x m ih =>
    rw [List.map_cons, List.any_cons, ih, List.contains_cons]
    show (x == c || _) = (c == x || _)
    rw [Bool.beq_comm]
theorem eqv_ints : ∀ a b : List Int, PyData.eqvAll (a.map .int) (b.map .int) = (a == b)
  | [], [] => rfl
  | [], _ :: _ => rfl
  | _ :: _, [] => rfl
  | x :: a, y :: b => by
    rw [List.map_cons, List.map_cons, PyData.eqvAll, eqv_ints a b]
    rfl
theorem eqv_intsD (a b : List Int) : PyData.eqv (intsD a) (intsD b) = (a == b) := by
  unfold PyData.eqv
  exact eqv_ints a b
theorem eqv_lots : ∀ a b : List (List Int), PyData.eqvAll (a.map intsD) (b.map intsD) = (a == b)
  | [], [] => rfl
  | [], _ :: _ => rfl
  | _ :: _, [] => rfl
  | x :: a, y :: b => by
    rw [List.map_cons, List.map_cons, PyData.eqvAll, eqv_lots a b, eqv_intsD]
    rfl
def Sh (n : Nat) (d : PyData) : Prop := d.canLay0 = true ∧ d.depth ≤ n
theorem Sh.ok {n : Nat} {d : PyData} (h : Sh n d) (hn : n ≤ 64 := by decide) : SeqAt.shaped d = true := by
  unfold SeqAt.shaped
  rw [h.1, decide_eq_true (Nat.le_trans h.2 hn)]
  rfl
theorem Sh.all {n : Nat} : ∀ {ds : List PyData}, (∀ d ∈ ds, Sh n d) → PyData.canLayAll0 ds = true ∧ PyData.depthAll ds ≤ n
  | [], _ => ⟨by rw [PyData.canLayAll0], by rw [PyData.depthAll]; exact Nat.zero_le _⟩
  | d :: ds, h => by
    have h1 := h d List.mem_cons_self
    have h2 := Sh.all fun e he => h e (List.mem_cons_of_mem _ he)
    rw [PyData.canLayAll0, PyData.depthAll, h1.1, h2.1]
    exact ⟨rfl, Nat.max_le.mpr ⟨h1.2, h2.2⟩⟩
theorem Sh.tup {n : Nat} {ds : List PyData} (h : ∀ d ∈ ds, Sh n d) : Sh (n + 1) (.tuple ds) := by
  have z := Sh.all h
  exact ⟨by rw [PyData.canLay0]; exact z.1, by rw [PyData.depth]; exact Nat.succ_le_succ z.2⟩
theorem Sh.lst {n : Nat} {ds : List PyData} (h : ∀ d ∈ ds, Sh n d) : Sh (n + 1) (.list ds) := by
  have z := Sh.all h
  exact ⟨by rw [PyData.canLay0]; exact z.1, by rw [PyData.depth]; exact Nat.succ_le_succ z.2⟩
theorem Sh.int (n : Nat) (i : Int) : Sh n (.int i) := ⟨by rw [PyData.canLay0], by rw [PyData.depth]; exact Nat.zero_le _⟩
theorem Sh.bool (n : Nat) (i : Bool) : Sh n (.bool i) := ⟨by rw [PyData.canLay0], by rw [PyData.depth]; exact Nat.zero_le _⟩
theorem Sh.non (n : Nat) : Sh n .none := ⟨by rw [PyData.canLay0], by rw [PyData.depth]; exact Nat.zero_le _⟩
theorem Sh.ints (n : Nat) (m : List Int) : ∀ d ∈ m.map PyData.int, Sh n d := fun d h => by
  obtain ⟨i, _, rfl⟩ := List.mem_map.mp h
  exact .int n i
theorem Sh.intsD (n : Nat) (m : List Int) : Sh (n + 1) (intsD m) := .tup (.ints n m)
theorem Sh.lots (n : Nat) (ls : List (List Int)) : ∀ d ∈ ls.map Kb.intsD, Sh (n + 1) d := fun d h => by
  obtain ⟨i, _, rfl⟩ := List.mem_map.mp h
  exact .intsD n i
/-! ### the lots' defs -/
def isLet : PyData → Bool
  | .int i => decide (0 ≤ i) && decide (i < 6)
  | _ => false
theorem sp_is_letter {d : PyData} {K : PyData → Prop} (k : K (.bool (isLet d))) : R_is_letter [d] K := by
  refine ⟨rfl, ?_⟩
  cases d with
  | int i =>
    refine ⟨true, rfl, ite1 rfl ?_⟩
    refine ⟨false, rfl, _, rfl, ite1 rfl ⟨0, i, rfl, rfl, ?_⟩⟩
    by_cases h : (0 : Int) ≤ i
    · rw [if_pos h]
      refine ⟨6, rfl, ?_⟩
      have e : isLet (.int i) = decide (i < 6) := by show (decide (0 ≤ i) && decide (i < 6)) = _; rw [decide_eq_true h, Bool.true_and]
      rw [e] at k
      exact k
    · rw [if_neg h]
      have e : isLet (.int i) = false := by show (decide (0 ≤ i) && decide (i < 6)) = _; rw [decide_eq_false h, Bool.false_and]
      rw [e] at k
      exact k
  | bool b =>
    refine ⟨true, rfl, ite1 rfl ?_⟩
    exact ⟨true, rfl, _, rfl, ite0 rfl k⟩
  | none => exact ⟨false, rfl, ite0 rfl k⟩
  | str _ => exact ⟨false, rfl, ite0 rfl k⟩
  | list _ => exact ⟨false, rfl, ite0 rfl k⟩
  | tuple _ => exact ⟨false, rfl, ite0 rfl k⟩
  | dict _ => exact ⟨false, rfl, ite0 rfl k⟩
theorem sp_common_in {a b : List Int} {K : PyData → Prop} (ha : a.length ≤ 100000) (k : K (intsD (a.filter fun c => b.contains c))) : R_common_in [intsD a, intsD b] K := by
  refine ⟨rfl, _, rfl, by rw [List.length_map]; exact ha, lc_ft .int .int (fun c => b.contains c) (fun x hx A B h1 h2 => ?_) ⟨_, rfl, k⟩⟩
  refine ⟨_, rfl, rfl, flat_ints b, _, rfl, iteB (fun e => h1 ?_) fun e => h2 ?_⟩
  · rw [← any_int]; exact e
  · rw [← any_int]; exact e
theorem sp_rest_in {a b : List Int} {K : PyData → Prop} (ha : a.length ≤ 100000) (k : K (intsD (a.filter fun c => !b.contains c))) : R_rest_in [intsD a, intsD b] K := by
  refine ⟨rfl, _, rfl, by rw [List.length_map]; exact ha, lc_ft .int .int (fun c => !b.contains c) (fun x hx A B h1 h2 => ?_) ⟨_, rfl, k⟩⟩
  refine ⟨_, rfl, rfl, flat_ints b, _, rfl, iteB (fun e => h1 ?_) fun e => h2 ?_⟩
  · rw [← any_int]; exact e
  · rw [← any_int]; exact e
theorem sp_within_in {a b : List Int} {K : PyData → Prop} (ha : a.length ≤ 100000) (k : K (.bool (a.all fun c => b.contains c))) : R_within_in [intsD a, intsD b] K := by
  refine ⟨rfl, _, rfl, by rw [List.length_map]; exact ha, lc_mpY .int (fun c => .bool (b.contains c)) (fun x hx A h => ?_) ?_⟩
  · refine ⟨_, rfl, rfl, flat_ints b, ?_⟩
    rw [any_int]; exact h
  · refine ⟨a.map fun c => b.contains c, by rw [List.map_map]; rfl, ?_⟩
    show K (.bool ((a.map fun c => b.contains c).all id))
    rw [List.all_map]
    exact k
end Kb
set_option Elab.async false
set_option linter.all false
set_option maxRecDepth 100000
set_option maxHeartbeats 2000000
/-! S2: rising lists of letters; the lots' defs, on. -/
namespace Kb
open PySem L2
/-! ### rising lists -/
abbrev Up (m : List Int) : Prop := m.Pairwise (· < ·)
theorem up_same : ∀ {a b : List Int}, Up a → Up b → (∀ c, c ∈ a ↔ c ∈ b) → a = b
  | [], [], _, _, _ => rfl
  | [], y :: b, _, _, h => absurd ((h y).mpr List.mem_cons_self) List.not_mem_nil
  | x :: a, [], _, _, h => absurd ((h x).mp List.mem_cons_self) List.not_mem_nil
  | x :: a, y :: b, ha, hb, h => by
    obtain ⟨ha1, ha2⟩ := List.pairwise_cons.mp ha
    obtain ⟨hb1, hb2⟩ := List.pairwise_cons.mp hb
    have e : x = y := by
      have h1 := (h x).mp List.mem_cons_self
      have h2 := (h y).mpr List.mem_cons_self
      rcases List.mem_cons.mp h1 with h1 | h1
      · exact h1
      · rcases List.mem_cons.mp h2 with h2 | h2
        · exact h2.symm
        · have := hb1 x h1; have := ha1 y h2; omega
    subst e
    congr 1
    refine up_same ha2 hb2 fun c => ?_
    constructor
    · intro hc
      rcases List.mem_cons.mp ((h c).mp (List.mem_cons_of_mem _ hc)) with z | z
      · have := ha1 c hc; omega
      · exact z
    · intro hc
      rcases List.mem_cons.mp ((h c).mpr (List.mem_cons_of_mem _ hc)) with z | z
      · have := hb1 c hc; omega
      · exact z
theorem up_of {m : List Int} (h : m.Pairwise (· ≤ ·)) (n : m.Nodup) : Up m := by
  induction m with
  | nil => exact .nil
  | cons x m ih =>
    obtain ⟨h1, h2⟩ := List.pairwise_cons.mp h
    obtain ⟨n1, n2⟩ := List.nodup_cons.mp n
    refine List.pairwise_cons.mpr ⟨fun y hy => ?_, ih h2 n2⟩
    have := h1 y hy
    have : x ≠ y := fun e => n1 (e ▸ hy)
    omega
theorem Up.nodup {m : List Int} (h : Up m) : m.Nodup := h.imp fun h => by omega
theorem Up.filter {m : List Int} (h : Up m) (p : Int → Bool) : Up (m.filter p) := List.Pairwise.filter p h
def six : List Int := [0, 1, 2, 3, 4, 5]
theorem six_mem {c : Int} : c ∈ six ↔ 0 ≤ c ∧ c < 6 := by
  unfold six
  simp only [List.mem_cons, List.not_mem_nil, or_false]
  omega
theorem six_up : Up six := by unfold six; decide
structure Lt (m : List Int) : Prop where
  up : Up m
  six : ∀ c ∈ m, 0 ≤ c ∧ c < 6
theorem Lt.len {m : List Int} (h : Lt m) : m.length ≤ 6 := nodup_len (m := Kb.six) h.up.nodup fun c hc => six_mem.mpr (h.six c hc)
theorem Lt.filter {m : List Int} (h : Lt m) (p : Int → Bool) : Lt (m.filter p) := ⟨h.up.filter p, fun c hc => h.six c (List.mem_filter.mp hc).1⟩
theorem Lt.nil : Lt [] := ⟨.nil, fun c h => by cases h⟩
/-- the letters of some lots -/
def lets (ls : List (List Int)) : List Int := six.filter fun c => ls.any fun m => m.contains c
theorem lets_lt (ls : List (List Int)) : Lt (lets ls) := ⟨six_up.filter _, fun c hc => six_mem.mp (List.mem_filter.mp hc).1⟩
theorem mem_lets {ls : List (List Int)} {c : Int} : c ∈ lets ls ↔ (0 ≤ c ∧ c < 6) ∧ ∃ m ∈ ls, c ∈ m := by
  unfold lets
  rw [List.mem_filter, six_mem, List.any_eq_true]
  simp only [List.contains_iff_mem]
theorem mem_lets' {ls : List (List Int)} (h : ∀ m ∈ ls, Lt m) {c : Int} : c ∈ lets ls ↔ ∃ m ∈ ls, c ∈ m :=
  mem_lets.trans ⟨fun h => h.2, fun ⟨m, hm, hc⟩ => ⟨(h m hm).six c hc, m, hm, hc⟩⟩
/-! ### lists of distinct things -/
theorem ded_mem {α : Type} [DecidableEq α] : ∀ (l acc : List α) (x : α), x ∈ l.foldl dedS acc ↔ x ∈ acc ∨ x ∈ l
  | [], acc, x => by simp
  | y :: l, acc, x => by
    rw [List.foldl_cons, ded_mem l, List.mem_cons]
    unfold dedS
    split
    · rename_i h
      constructor
      · rintro (h1 | h1)
        · exact .inl h1
        · exact .inr (.inr h1)
      · rintro (h1 | rfl | h1)
        · exact .inl h1
        · exact .inl h
        · exact .inr h1
    · rw [List.mem_append, List.mem_singleton, or_assoc]
theorem ded_nodup {α : Type} [DecidableEq α] : ∀ (l acc : List α), acc.Nodup → (l.foldl dedS acc).Nodup
  | [], acc, h => h
  | y :: l, acc, h => by
    rw [List.foldl_cons]
    refine ded_nodup l _ ?_
    unfold dedS
    split
    · exact h
    · rename_i hn
      rw [List.nodup_append]
      exact ⟨h, by simp, fun a ha b hb e => hn (by rw [List.mem_singleton] at hb; rw [← hb, ← e]; exact ha)⟩
theorem mem_dedL {α : Type} [DecidableEq α] {l : List α} {x : α} : x ∈ dedL l ↔ x ∈ l := by
  unfold dedL
  rw [ded_mem]
  simp
theorem nodup_dedL {α : Type} [DecidableEq α] (l : List α) : (dedL l).Nodup := ded_nodup l [] (by simp)
theorem flat_len {ls : List (List Int)} (h : ∀ m ∈ ls, Lt m) : ls.flatten.length ≤ 6 * ls.length := by
  induction ls with
  | nil => simp
  | cons m ls ih =>
    rw [List.flatten_cons, List.length_append, List.length_cons]
    have := (h m List.mem_cons_self).len
    have := ih fun m hm => h m (List.mem_cons_of_mem _ hm)
    omega
theorem sp_all_letters {d : PyData} {ls : List (List Int)} {K : PyData → Prop} (e : seqD d = some (ls.map intsD)) (hl : ls.length ≤ 10000) (h : ∀ m ∈ ls, Lt m) (k : K (intsD (lets ls))) : R_all_letters [d] K := by
  have hs : ∀ c ∈ dedL ls.flatten, 0 ≤ c ∧ c < 6 := fun c hc => by
    obtain ⟨m, hm, hc⟩ := List.mem_flatten.mp (mem_dedL.mp hc)
    exact (h m hm).six c hc
  refine ⟨rfl, show 1 < 3 by decide, show 2 < 3 by decide, _, e, ls, rfl, ?_, ?_, fun ms hp hw => ⟨_, rfl, ?_⟩⟩
  · have := flat_len h; omega
  · have := nodup_len (m := six) (nodup_dedL ls.flatten) fun c hc => six_mem.mpr (hs c hc)
    have : six.length = 6 := rfl
    omega
  · have e : ms = lets ls := up_same (up_of hw (hp.nodup_iff.mpr (nodup_dedL _))) (lets_lt ls).up fun c => by
      rw [hp.mem_iff, mem_dedL, mem_lets' h, List.mem_flatten]
    rw [e]
    exact k
/-! ### what is a lot -/
theorem lets_of : ∀ {ds : List PyData}, ds.all isLet = true → ∃ m : List Int, ds = m.map .int ∧ ∀ c ∈ m, 0 ≤ c ∧ c < 6
  | [], _ => ⟨[], rfl, fun c h => by cases h⟩
  | d :: ds, h => by
    rw [List.all_cons, Bool.and_eq_true] at h
    obtain ⟨m, rfl, hm⟩ := lets_of h.2
    cases d with
    | int i =>
      have z : (decide (0 ≤ i) && decide (i < 6)) = true := h.1
      rw [Bool.and_eq_true, decide_eq_true_eq, decide_eq_true_eq] at z
      refine ⟨i :: m, rfl, fun c hc => ?_⟩
      rcases List.mem_cons.mp hc with rfl | hc
      · exact z
      · exact hm c hc
    | _ => exact absurd h.1 Bool.false_ne_true
def isLot (d : PyData) : Bool := match d with
  | .tuple ds => ds.all isLet && decide (Up (ds.map fun d => match d with | .int i => i | _ => 0))
  | _ => false
def encP (p : Int × Int) : PyData := .tuple [.int p.1, .int p.2]
theorem zipD_zip : ∀ a b : List Int, zipD (a.map PyData.int) (b.map .int) = (a.zip b).map encP
  | [], _ => rfl
  | _ :: _, [] => rfl
  | x :: a, y :: b => by
    rw [List.zip_cons_cons, List.map_cons, List.map_cons, List.map_cons, ← zipD_zip a b]
    rfl
theorem zip_up : ∀ (m : List Int), ((m.zip (m.drop 1)).all fun p => decide (p.1 < p.2)) = decide (Up m)
  | [] => rfl
  | [x] => by
    show true = decide (Up [x])
    rw [decide_eq_true (by simp [Up])]
  | x :: y :: m => by
    have ih := zip_up (y :: m)
    rw [List.drop_succ_cons, List.drop_zero] at ih ⊢
    rw [List.zip_cons_cons, List.all_cons, ih, ← Bool.decide_and]
    refine decide_eq_decide.mpr ?_
    constructor
    · rintro ⟨h1, h2⟩
      refine List.pairwise_cons.mpr ⟨fun z hz => ?_, h2⟩
      rcases List.mem_cons.mp hz with rfl | hz
      · exact h1
      · have := (List.pairwise_cons.mp h2).1 z hz
        have h1 : x < y := h1
        omega
    · intro h
      exact ⟨(List.pairwise_cons.mp h).1 y List.mem_cons_self, (List.pairwise_cons.mp h).2⟩
theorem lc_raw {j : Nat} {ge : DE} {ρ : Env} {K : List PyData → Prop} (f : PyData → PyData) {ds : List PyData} (h : ∀ x ∈ ds, ∀ A : PyData → Prop, A (f x) → ge (ρ.set j (some x)) A) (k : K (ds.map f)) : lcGo (pName j) dYes ge ρ ds [] K := by
  have z := lc_mpY (j := j) (ge := ge) (ρ := ρ) (K := K) id f h k
  rw [List.map_id] at z
  exact z
theorem isLot_ints (m : List Int) (h : ∀ c ∈ m, 0 ≤ c ∧ c < 6) : isLot (intsD m) = decide (Up m) := by
  have e : ((m.map PyData.int).map fun d => match d with | .int i => i | _ => 0) = m := by
    rw [List.map_map]
    exact (List.map_congr_left fun _ _ => rfl).trans (List.map_id m)
  have a : (m.map PyData.int).all isLet = true := by
    rw [List.all_eq_true]
    intro d hd
    obtain ⟨c, hc, rfl⟩ := List.mem_map.mp hd
    show (decide (0 ≤ c) && decide (c < 6)) = true
    rw [decide_eq_true (h c hc).1, decide_eq_true (h c hc).2]
    rfl
  show ((m.map PyData.int).all isLet && decide (Up ((m.map PyData.int).map fun d => match d with | .int i => i | _ => 0))) = _
  rw [a, e, Bool.true_and]
theorem isLot_iff {d : PyData} : isLot d = true ↔ ∃ m, d = intsD m ∧ Lt m := by
  constructor
  · intro h
    cases d with
    | tuple ds =>
      have h1 : (ds.all isLet && _) = true := h
      obtain ⟨m, rfl, hm⟩ := lets_of (Bool.and_eq_true_iff.mp h1).1
      have h2 : isLot (intsD m) = true := h
      rw [isLot_ints m hm, decide_eq_true_eq] at h2
      exact ⟨m, rfl, h2, hm⟩
    | _ => exact absurd h Bool.false_ne_true
  · rintro ⟨m, rfl, h⟩
    rw [isLot_ints m h.six, decide_eq_true h.up]
theorem sp_is_lot {d : PyData} {K : PyData → Prop} (hz : ∀ ds, d = .tuple ds → ds.length ≤ 100000) (k : K (.bool (isLot d))) : R_is_lot [d] K := by
  refine ⟨rfl, ?_⟩
  cases d with
  | tuple ds =>
    have hz := hz ds rfl
    refine ⟨true, rfl, ite0 rfl ⟨_, rfl, hz, lc_raw (fun d => .bool (isLet d)) (fun x hx A h => sp_is_letter h) ⟨ds.map isLet, by rw [List.map_map]; rfl, _, rfl, ?_⟩⟩⟩
    refine iteB (fun e => ?_) fun e => ?_
    · have h0 : ((ds.map isLet).all id) = false := by simpa using e
      have e2 : isLot (.tuple ds) = false := by
        rw [List.all_map] at h0
        show (ds.all isLet && _) = false
        rw [show ds.all isLet = false from h0]
        rfl
      rw [e2] at k
      exact k
    · have h1 : ((ds.map isLet).all id) = true := by simpa using e
      rw [List.all_map] at h1
      obtain ⟨m, rfl, hm⟩ := lets_of (show ds.all isLet = true from h1)
      refine ⟨1, rfl, _, rfl, _, _, rfl, rfl, ?_⟩
      have ec : cutD (m.map PyData.int) (some 1) none = (m.drop 1).map .int := by
        unfold cutD
        rw [List.map_drop, List.length_map]
        show ((m.map PyData.int).drop (min 1 m.length)).take (m.length - min 1 m.length) = _
        cases m with
        | nil => rfl
        | cons x m =>
          rw [List.length_cons, show min 1 (m.length + 1) = 1 by omega]
          exact List.take_of_length_le (by simp)
      rw [ec, zipD_zip]
      refine ⟨by rw [List.length_map, List.length_zip]; rw [List.length_map] at hz; omega, lc_mp encP (fun p => .bool (decide (p.1 < p.2))) (fun p hp A B a => ⟨_, _, rfl, ?_⟩) ?_⟩
      · show (if true = true then A (.bool (decide (p.1 < p.2))) else B)
        rw [if_pos rfl]
        exact a
      · refine ⟨(m.zip (m.drop 1)).map fun p => decide (p.1 < p.2), by rw [List.map_map]; rfl, ?_⟩
        show K (.bool (((m.zip (m.drop 1)).map fun p => decide (p.1 < p.2)).all id))
        rw [List.all_map]
        rw [show (id ∘ fun p : Int × Int => decide (p.1 < p.2)) = fun p => decide (p.1 < p.2) from rfl, zip_up, ← isLot_ints m hm]
        exact k
  | none => exact ⟨false, rfl, ite1 rfl (ite1 rfl k)⟩
  | bool _ => exact ⟨false, rfl, ite1 rfl (ite1 rfl k)⟩
  | int _ => exact ⟨false, rfl, ite1 rfl (ite1 rfl k)⟩
  | str _ => exact ⟨false, rfl, ite1 rfl (ite1 rfl k)⟩
  | list _ => exact ⟨false, rfl, ite1 rfl (ite1 rfl k)⟩
  | dict _ => exact ⟨false, rfl, ite1 rfl (ite1 rfl k)⟩
end Kb
set_option Elab.async false
set_option linter.all false
set_option maxRecDepth 100000
set_option maxHeartbeats 2000000
/-! S3: places, webs, trees. -/
namespace Kb
open PySem L2
theorem atI_nat {α : Type} {xs : List α} {k : Nat} : atI xs (k : Int) = xs[k]? := by
  unfold atI ixN
  rw [if_pos (Int.natCast_nonneg k)]
  by_cases h : (k : Int) < xs.length
  · rw [if_pos h, Int.toNat_natCast]
    rfl
  · rw [if_neg h, List.getElem?_eq_none (by omega)]
    rfl
def isPlc (n : Nat) : PyData → Bool
  | .int i => decide (0 ≤ i) && decide (i < (n : Int))
  | _ => false
theorem sp_is_whole {d : PyData} {K : PyData → Prop} (k : K (.bool (match d with | .int _ => true | _ => false))) : R_is_whole [d] K := by
  refine ⟨rfl, ?_⟩
  cases d with
  | int i => exact ⟨true, rfl, ite1 rfl ⟨false, rfl, k⟩⟩
  | bool b => exact ⟨true, rfl, ite1 rfl ⟨true, rfl, k⟩⟩
  | none => exact ⟨false, rfl, ite0 rfl k⟩
  | str _ => exact ⟨false, rfl, ite0 rfl k⟩
  | list _ => exact ⟨false, rfl, ite0 rfl k⟩
  | tuple _ => exact ⟨false, rfl, ite0 rfl k⟩
  | dict _ => exact ⟨false, rfl, ite0 rfl k⟩
theorem sp_is_place {d : PyData} {n : Nat} {K : PyData → Prop} (k : K (.bool (isPlc n d))) : R_is_place [d, .int n] K := by
  refine ⟨rfl, sp_is_whole ?_⟩
  cases d with
  | int i =>
    refine ⟨true, rfl, ite1 rfl ⟨0, i, rfl, rfl, ?_⟩⟩
    by_cases h : (0 : Int) ≤ i
    · rw [if_pos h]
      refine ⟨n, rfl, ?_⟩
      have e : isPlc n (.int i) = decide (i < (n : Int)) := by show (decide (0 ≤ i) && decide (i < (n : Int))) = _; rw [decide_eq_true h, Bool.true_and]
      rw [e] at k
      exact k
    · rw [if_neg h]
      have e : isPlc n (.int i) = false := by show (decide (0 ≤ i) && decide (i < (n : Int))) = _; rw [decide_eq_false h, Bool.false_and]
      rw [e] at k
      exact k
  | _ => exact ⟨false, rfl, ite0 rfl k⟩
def isWeb : PyData → Bool
  | .tuple ds => decide (ds.length ≤ 12) && ds.all isLot
  | _ => false
/-- a tuple's length is small, and that of the tuples within -/
def Sm : PyData → Prop
  | .tuple ds => ds.length ≤ 1000
  | _ => True
def Sm2 (d : PyData) : Prop := Sm d ∧ ∀ ds, d = .tuple ds → ∀ e ∈ ds, Sm e
theorem Sm.len {d : PyData} (h : Sm d) : ∀ ds, d = .tuple ds → ds.length ≤ 100000 := fun ds e => by
  subst e
  have h : ds.length ≤ 1000 := h
  omega
theorem sp_is_web {d : PyData} {K : PyData → Prop} (hz : Sm2 d) (k : K (.bool (isWeb d))) : R_is_web [d] K := by
  refine ⟨rfl, ?_⟩
  cases d with
  | tuple ds =>
    have h1 : ds.length ≤ 1000 := hz.1
    refine ⟨true, rfl, ite1 rfl ⟨ds, rfl, ⟨decide ((ds.length : Int) ≤ 12), rfl, ?_⟩⟩⟩
    refine iteB (fun e => ?_) fun e => ?_
    · refine ⟨_, rfl, by omega, lc_raw (fun d => .bool (isLot d)) (fun x hx A h => sp_is_lot (hz.2 ds rfl x hx).len h) ⟨ds.map isLot, by rw [List.map_map]; rfl, ?_⟩⟩
      have e2 : isWeb (.tuple ds) = (ds.map isLot).all id := by
        show (decide (ds.length ≤ 12) && ds.all isLot) = _
        rw [decide_eq_true (by have := of_decide_eq_true e; omega), Bool.true_and, List.all_map]
        rfl
      rw [e2] at k
      exact k
    · have e2 : isWeb (.tuple ds) = false := by
        show (decide (ds.length ≤ 12) && ds.all isLot) = _
        rw [decide_eq_false (by have := of_decide_eq_false e; omega), Bool.false_and]
      rw [e2] at k
      exact k
  | none => exact ⟨false, rfl, ite0 rfl k⟩
  | bool _ => exact ⟨false, rfl, ite0 rfl k⟩
  | int _ => exact ⟨false, rfl, ite0 rfl k⟩
  | str _ => exact ⟨false, rfl, ite0 rfl k⟩
  | list _ => exact ⟨false, rfl, ite0 rfl k⟩
  | dict _ => exact ⟨false, rfl, ite0 rfl k⟩
abbrev lotsD (ls : List (List Int)) : PyData := .tuple (ls.map intsD)
theorem isWeb_iff {d : PyData} : isWeb d = true ↔ ∃ ls : List (List Int), d = lotsD ls ∧ ls.length ≤ 12 ∧ ∀ m ∈ ls, Lt m := by
  constructor
  · intro h
    cases d with
    | tuple ds =>
      have h : (decide (ds.length ≤ 12) && ds.all isLot) = true := h
      obtain ⟨h1, h2⟩ := Bool.and_eq_true_iff.mp h
      have key : ∀ ds : List PyData, ds.all isLot = true → ∃ ls : List (List Int), ds = ls.map intsD ∧ ∀ m ∈ ls, Lt m := by
        intro ds
        induction ds with
        | nil => exact fun _ => ⟨[], rfl, fun m h => by cases h⟩
        | cons d ds ih =>
          intro h
          rw [List.all_cons, Bool.and_eq_true] at h
          obtain ⟨m, rfl, hm⟩ := isLot_iff.mp h.1
          obtain ⟨ls, rfl, hl⟩ := ih h.2
          exact ⟨m :: ls, rfl, fun m' hm' => (List.mem_cons.mp hm').elim (fun e => e ▸ hm) (hl m')⟩
      obtain ⟨ls, rfl, hl⟩ := key ds h2
      exact ⟨ls, rfl, by have := of_decide_eq_true h1; rwa [List.length_map] at this, hl⟩
    | _ => exact absurd h Bool.false_ne_true
  · rintro ⟨ls, rfl, h1, h2⟩
    show (decide ((ls.map intsD).length ≤ 12) && (ls.map intsD).all isLot) = true
    rw [List.length_map, decide_eq_true h1, Bool.true_and, List.all_map, List.all_eq_true]
    exact fun m hm => isLot_iff.mpr ⟨m, rfl, h2 m hm⟩
theorem sm_lots {ls : List (List Int)} (h1 : ls.length ≤ 12) (h2 : ∀ m ∈ ls, Lt m) : Sm2 (lotsD ls) := by
  refine ⟨show (ls.map intsD).length ≤ 1000 by rw [List.length_map]; omega, fun ds e d hd => ?_⟩
  cases e
  obtain ⟨m, hm, rfl⟩ := List.mem_map.mp hd
  show (m.map PyData.int).length ≤ 1000
  have := (h2 m hm).len
  rw [List.length_map]; omega
theorem sp_require_web {ls : List (List Int)} {K : PyData → Prop} (h1 : ls.length ≤ 12) (h2 : ∀ m ∈ ls, Lt m) (k : K .none) : R_require_web [lotsD ls] K := by
  refine ⟨rfl, sp_is_web (sm_lots h1 h2) ?_⟩
  rw [isWeb_iff.mpr ⟨ls, rfl, h1, h2⟩]
  exact ⟨true, rfl, ite0 rfl k⟩
/-! ### trees -/
def optD : Option Nat → PyData
  | none => .none
  | some i => .int (i : Int)
abbrev treeD (t : List (Option Nat)) : PyData := .tuple (t.map optD)
def upN (t : List (Option Nat)) : Nat → Nat → Bool
  | 0, _ => false
  | k + 1, p => match t[p]? with
    | some none => true
    | some (some q) => upN t k q
    | none => false
def In (t : List (Option Nat)) : Prop := ∀ p q : Nat, t[p]? = some (some q) → q < t.length
theorem isN_opt (o : Option Nat) : isN (optD o) = o.isNone := by cases o <;> rfl
theorem sp_leads_up {t : List (Option Nat)} {p : Nat} {K : PyData → Prop} (ht : In t) (hp : p < t.length) (k : K (.bool (upN t t.length p))) : R_leads_up [treeD t, .int p] K := by
  refine ⟨rfl, _, rfl, ?_⟩
  have e0 : (t.map optD).length = t.length := List.length_map ..
  refine for_inv (fun r ρ => ∃ (q : Nat) (s : Option PyData), q < t.length ∧ ρ = [some (treeD t), some (.int p), some (.int q), s] ∧ upN t r.length q = upN t t.length p) (fun d r ρ hI X hX => ?_) ⟨p, none, hp, rfl, by rw [e0]⟩ fun ρ hI => ?_
  · obtain ⟨q, s, hq, rfl, hu⟩ := hI
    have hat : atI (t.map optD) (q : Int) = some (optD t[q]) := by rw [atI_nat, List.getElem?_map, List.getElem?_eq_getElem hq]; rfl
    refine ⟨_, (q : Int), _, rfl, rfl, hat, ⟨_, rfl, ?_⟩⟩
    rw [isN_opt]
    have e1 : upN t (d :: r).length q = match t[q] with
      | none => true
      | some z => upN t r.length z := by
      rw [List.length_cons]
      show (match t[q]? with
        | some none => true
        | some (some z) => upN t r.length z
        | none => false) = _
      rw [List.getElem?_eq_getElem hq]
      cases t[q] <;> rfl
    cases z : t[q] with
    | none =>
      rw [z] at e1
      rw [← hu, e1] at k
      exact ite1 rfl k
    | some z' =>
      rw [z] at e1 hat
      refine ite0 rfl ⟨_, (q : Int), _, rfl, rfl, hat, hX _ ⟨z', some d, ht q z' (by rw [List.getElem?_eq_getElem hq, z]), rfl, by rw [← hu, e1]⟩⟩
  · obtain ⟨q, s, hq, rfl, hu⟩ := hI
    have e2 : upN t t.length p = false := hu.symm
    rw [e2] at k
    exact k
/-- the letter begins at the place -/
def begB (ls : List (List Int)) (t : List (Option Nat)) (p : Nat) (c : Int) : Bool := (ls.getD p []).contains c && match t.getD p none with
  | none => true
  | some q => !(ls.getD q []).contains c
theorem lot_at {ls : List (List Int)} {p : Nat} (h : p < ls.length) : atI (ls.map intsD) (p : Int) = some (intsD (ls.getD p [])) := by
  rw [atI_nat, List.getElem?_map, List.getD_eq_getElem?_getD, List.getElem?_eq_getElem h]; rfl
theorem tree_at {t : List (Option Nat)} {p : Nat} (h : p < t.length) : atI (t.map optD) (p : Int) = some (optD (t.getD p none)) := by
  rw [atI_nat, List.getElem?_map, List.getD_eq_getElem?_getD, List.getElem?_eq_getElem h]; rfl
theorem In.get {t : List (Option Nat)} (ht : In t) {p q : Nat} (h : t.getD p none = some q) : q < t.length := by
  refine ht p q ?_
  rw [List.getD_eq_getElem?_getD] at h
  cases e : t[p]? with
  | none => rw [e] at h; cases h
  | some o => rw [e] at h; rw [show o = some q from h]
theorem sp_begins {ls : List (List Int)} {t : List (Option Nat)} {p : Nat} {c : Int} {K : PyData → Prop} (hl : t.length = ls.length) (ht : In t) (hp : p < ls.length) (k : K (.bool (begB ls t p c))) : R_begins [lotsD ls, treeD t, .int p, .int c] K := by
  refine ⟨rfl, _, (p : Int), _, rfl, rfl, lot_at hp, ⟨_, rfl, rfl, flat_ints _, ⟨_, rfl, ?_⟩⟩⟩
  rw [any_int]
  unfold begB at k
  refine iteB (fun e => ?_) fun e => ?_
  · rw [e, Bool.true_and] at k
    refine ⟨_, (p : Int), _, rfl, rfl, tree_at (by rw [hl]; exact hp), ⟨_, rfl, ?_⟩⟩
    rw [isN_opt]
    cases z : t.getD p none with
    | none => rw [z] at k; exact ite1 rfl k
    | some q =>
      rw [z] at k
      have hq := ht.get z
      refine ite0 rfl ⟨_, (p : Int), _, rfl, rfl, (tree_at (by rw [hl]; exact hp)).trans (by rw [z]; rfl), _, (q : Int), _, rfl, rfl, lot_at (by rw [← hl]; exact hq), ⟨_, rfl, rfl, flat_ints _, ?_⟩⟩
      rw [any_int]
      exact k
  · rw [e, Bool.false_and] at k
    exact k
def begs (ls : List (List Int)) (t : List (Option Nat)) (c : Int) : List Nat := (List.range ls.length).filter fun p => begB ls t p c
theorem sp_does_hang {ls : List (List Int)} {t : List (Option Nat)} {c : Int} {K : PyData → Prop} (hz : ls.length ≤ 1000) (hl : t.length = ls.length) (ht : In t) (k : K (.bool ((begs ls t c).length == 1))) : R_does_hang [lotsD ls, treeD t, .int c] K := by
  have e0 : (ls.map intsD).length = ls.length := List.length_map ..
  refine ⟨rfl, _, rfl, _, rfl, Int.natCast_nonneg _, by rw [e0]; omega, ?_, ?_⟩
  · rw [List.length_map, List.length_range, Int.toNat_natCast, e0]; omega
  rw [Int.toNat_natCast, e0]
  refine lc_ft (fun i : Nat => PyData.int (i : Int)) (fun i : Nat => PyData.int (i : Int)) (fun p => begB ls t p c) (fun p hp A B h1 h2 => ?_) ?_
  · exact sp_begins hl ht (List.mem_range.mp hp) ⟨_, rfl, iteB h1 h2⟩
  · refine ⟨_, rfl, (Sh.int 0 _).ok, (Sh.int 0 _).ok, ?_⟩
    rw [List.length_map]
    have e : PyData.eqv (.int ((begs ls t c).length : Int)) (.int 1) = ((begs ls t c).length == 1) := by
      show (((begs ls t c).length : Int) == 1) = _
      by_cases h : (begs ls t c).length = 1
      · rw [h]; rfl
      · rw [beq_eq_false_iff_ne.mpr h, beq_eq_false_iff_ne.mpr (by omega)]
    show K (.bool (PyData.eqv (.int ((begs ls t c).length : Int)) (.int 1)))
    rw [e]
    exact k
end Kb
set_option Elab.async false
set_option linter.all false
set_option maxRecDepth 100000
set_option maxHeartbeats 2000000
/-! S4: what is a tree. -/
namespace Kb
open PySem L2
theorem eqv_nat (a b : Nat) : PyData.eqv (.int (a : Int)) (.int (b : Int)) = (a == b) := by
  show ((a : Int) == (b : Int)) = _
  by_cases h : a = b
  · subst h; rw [beq_self_eq_true, beq_self_eq_true]
  · rw [beq_eq_false_iff_ne.mpr h, beq_eq_false_iff_ne.mpr (by omega)]
theorem Sh.opt (n : Nat) (t : List (Option Nat)) : ∀ d ∈ t.map optD, Sh n d := fun d h => by
  obtain ⟨o, _, rfl⟩ := List.mem_map.mp h
  cases o with
  | none => exact .non n
  | some i => exact .int n i
theorem Sh.tree (n : Nat) (t : List (Option Nat)) : Sh (n + 1) (treeD t) := .tup (.opt n t)
theorem Sh.unit (n : Nat) : Sh (n + 1) (.tuple []) := .tup fun d h => by cases h
theorem flat_opt : ∀ t : List (Option Nat), (t.map optD).all flatD = true
  | [] => rfl
  | none :: t => by rw [List.map_cons, List.all_cons, flat_opt t]; rfl
  | some _ :: t => by rw [List.map_cons, List.all_cons, flat_opt t]; rfl
def optPlc (n : Nat) (d : PyData) : Bool := isN d || isPlc n d
def toOpt : PyData → Option Nat
  | .int i => some i.toNat
  | _ => none
theorem toOpt_optD (o : Option Nat) : toOpt (optD o) = o := by
  cases o with
  | none => rfl
  | some i => show some ((i : Int).toNat) = some i; rw [Int.toNat_natCast]
theorem opts_back (t : List (Option Nat)) : (t.map optD).map toOpt = t := by
  rw [List.map_map]
  exact (List.map_congr_left fun o _ => toOpt_optD o).trans (List.map_id t)
theorem opts_of {n : Nat} : ∀ {ds : List PyData}, ds.all (optPlc n) = true → ∃ t : List (Option Nat), ds = t.map optD ∧ ∀ q, some q ∈ t → q < n
  | [], _ => ⟨[], rfl, fun q h => by cases h⟩
  | d :: ds, h => by
    rw [List.all_cons, Bool.and_eq_true] at h
    obtain ⟨t, rfl, ht⟩ := opts_of h.2
    cases d with
    | none => exact ⟨none :: t, rfl, fun q hq => (List.mem_cons.mp hq).elim (fun e => by cases e) (ht q)⟩
    | int i =>
      have z : (decide (0 ≤ i) && decide (i < (n : Int))) = true := h.1
      rw [Bool.and_eq_true, decide_eq_true_eq, decide_eq_true_eq] at z
      refine ⟨some i.toNat :: t, ?_, fun q hq => ?_⟩
      · rw [List.map_cons]
        show PyData.int i :: t.map optD = PyData.int ((i.toNat : Nat) : Int) :: t.map optD
        rw [Int.toNat_of_nonneg z.1]
      · rcases List.mem_cons.mp hq with e | hq
        · cases e; omega
        · exact ht q hq
    | _ => exact absurd h.1 Bool.false_ne_true
theorem all_opts {n : Nat} {t : List (Option Nat)} (h : ∀ q, some q ∈ t → q < n) : (t.map optD).all (optPlc n) = true := by
  rw [List.all_map, List.all_eq_true]
  intro o ho
  cases o with
  | none => rfl
  | some q =>
    show (false || (decide ((0 : Int) ≤ (q : Int)) && decide ((q : Int) < (n : Int)))) = true
    have := h q ho
    rw [decide_eq_true (Int.natCast_nonneg q), decide_eq_true (by omega)]
    rfl
/-- the tree is one -/
def treeB (ls : List (List Int)) (t : List (Option Nat)) : Bool :=
  t.isEmpty || ((t.countP (·.isNone) == 1) && (List.range t.length).all (upN t t.length) && (lets ls).all fun c => (begs ls t c).length == 1)
def isTree (ls : List (List Int)) : PyData → Bool
  | .tuple ds => (ds.length == ls.length) && ds.all (optPlc ls.length) && treeB ls (ds.map toOpt)
  | _ => false
theorem In.of {n : Nat} {t : List (Option Nat)} (h : ∀ q, some q ∈ t → q < n) (e : t.length = n) : In t := fun p q hq => by
  rw [e]
  exact h q (List.mem_of_getElem? hq)
theorem count_none (t : List (Option Nat)) : ((t.map optD).countP fun y => PyData.eqv y .none) = t.countP (·.isNone) := by
  rw [List.countP_map]
  refine List.countP_congr fun o _ => ?_
  cases o <;> exact Iff.rfl
theorem eqv_unit (t : List PyData) : PyData.eqv (.tuple t) (.tuple []) = t.isEmpty := by
  unfold PyData.eqv
  cases t <;> rfl
theorem sp_is_tree_in {ls : List (List Int)} {d : PyData} {K : PyData → Prop} (hz : ls.length ≤ 1000) (hL : ∀ m ∈ ls, Lt m) (hd : Sm d) (k : K (.bool (isTree ls d))) : R_is_tree_in [lotsD ls, d] K := by
  refine ⟨rfl, ?_⟩
  have e0 : (ls.map intsD).length = ls.length := List.length_map ..
  cases d with
  | none => exact ⟨false, rfl, ite1 rfl (ite1 rfl k)⟩
  | bool _ => exact ⟨false, rfl, ite1 rfl (ite1 rfl k)⟩
  | int _ => exact ⟨false, rfl, ite1 rfl (ite1 rfl k)⟩
  | str _ => exact ⟨false, rfl, ite1 rfl (ite1 rfl k)⟩
  | list _ => exact ⟨false, rfl, ite1 rfl (ite1 rfl k)⟩
  | dict _ => exact ⟨false, rfl, ite1 rfl (ite1 rfl k)⟩
  | tuple ds =>
    have hd : ds.length ≤ 1000 := hd
    have k : K (.bool ((ds.length == ls.length) && ds.all (optPlc ls.length) && treeB ls (ds.map toOpt))) := k
    refine ⟨true, rfl, ite0 rfl ⟨ds, rfl, _, rfl, (Sh.int 0 _).ok, (Sh.int 0 _).ok, _, rfl, ?_⟩⟩
    rw [e0, eqv_nat]
    refine iteB (fun e => ?_) fun e => ?_
    · have e : (ds.length == ls.length) = false := by simpa using e
      rw [e] at k
      exact k
    have e : (ds.length == ls.length) = true := by simpa using e
    have el : ds.length = ls.length := eq_of_beq e
    rw [e, Bool.true_and] at k
    -- all are places or None
    refine ⟨ds, rfl, by omega, lc_raw (fun d => .bool (optPlc ls.length d)) (fun x hx A h => ?_) ⟨ds.map (optPlc ls.length), by rw [List.map_map]; rfl, _, rfl, ?_⟩⟩
    · refine ⟨isN x, rfl, iteB (fun e => ?_) fun e => ?_⟩
      · rw [show optPlc ls.length x = true by unfold optPlc; rw [e]; rfl] at h
        exact h
      · refine ⟨_, rfl, ?_⟩
        rw [e0]
        refine sp_is_place ?_
        rw [show optPlc ls.length x = isPlc ls.length x by unfold optPlc; rw [e]; rfl] at h
        exact h
    have ea : ((ds.map (optPlc ls.length)).all id) = ds.all (optPlc ls.length) := by rw [List.all_map]; rfl
    show (if (!((ds.map (optPlc ls.length)).all id)) = true then _ else _)
    rw [ea]
    refine iteB (fun e => ?_) fun e => ?_
    · have e : ds.all (optPlc ls.length) = false := by simpa using e
      rw [e] at k
      exact k
    have e : ds.all (optPlc ls.length) = true := by simpa using e
    rw [e, Bool.true_and] at k
    obtain ⟨t, rfl, ht⟩ := opts_of e
    rw [opts_back] at k
    rw [List.length_map] at el hd
    have hI : In t := .of ht el
    refine ⟨by decide, (Sh.tree 0 t).ok, (Sh.unit 0).ok, _, rfl, ?_⟩
    rw [eqv_unit]
    refine iteB (fun e => ?_) fun e => ?_
    · have e : t.isEmpty = true := by simpa using e
      rw [show treeB ls t = true by unfold treeB; rw [e]; rfl] at k
      exact k
    have e : t.isEmpty = false := by simpa using e
    have k : K (.bool ((t.countP (·.isNone) == 1) && (List.range t.length).all (upN t t.length) && (lets ls).all fun c => (begs ls t c).length == 1)) := by
      rw [show treeB ls t = ((t.countP (·.isNone) == 1) && (List.range t.length).all (upN t t.length) && (lets ls).all fun c => (begs ls t c).length == 1) by unfold treeB; rw [e]; rfl] at k
      exact k
    refine ⟨_, rfl, rfl, flat_opt t, (Sh.int 0 _).ok, (Sh.int 0 _).ok, _, rfl, ?_⟩
    rw [count_none, show (1 : Int) = ((1 : Nat) : Int) from rfl, eqv_nat]
    refine iteB (fun e => ?_) fun e => ?_
    · have e : (t.countP (·.isNone) == 1) = false := by simpa using e
      rw [e] at k
      exact ite1 rfl k
    have e : (t.countP (·.isNone) == 1) = true := by simpa using e
    rw [e, Bool.true_and] at k
    have e1 : (t.map optD).length = t.length := List.length_map ..
    refine ⟨_, rfl, _, rfl, Int.natCast_nonneg _, by rw [e1]; omega, ?_, ?_⟩
    · rw [List.length_map, List.length_range, Int.toNat_natCast, e1]; omega
    rw [Int.toNat_natCast, e1]
    refine lc_mpY (fun i : Nat => PyData.int (i : Int)) (fun p => .bool (upN t t.length p)) (fun p hp A h => sp_leads_up hI (List.mem_range.mp hp) h) ⟨(List.range t.length).map (upN t t.length), by rw [List.map_map]; rfl, _, rfl, ?_⟩
    have ea : (((List.range t.length).map (upN t t.length)).all id) = (List.range t.length).all (upN t t.length) := by rw [List.all_map]; rfl
    show (if (!(((List.range t.length).map (upN t t.length)).all id)) = true then _ else _)
    rw [ea]
    refine iteB (fun e => ?_) fun e => ?_
    · have e : (List.range t.length).all (upN t t.length) = false := by simpa using e
      rw [e] at k
      exact k
    have e : (List.range t.length).all (upN t t.length) = true := by simpa using e
    rw [e, Bool.true_and] at k
    refine sp_all_letters rfl (by omega) hL ⟨_, rfl, ?_, ?_⟩
    · have := (lets_lt ls).len; rw [List.length_map]; omega
    refine lc_mpY .int (fun c => .bool ((begs ls t c).length == 1)) (fun c hc A h => sp_does_hang hz el hI h) ⟨(lets ls).map fun c => (begs ls t c).length == 1, by rw [List.map_map]; rfl, ?_⟩
    show K (.bool (((lets ls).map fun c => (begs ls t c).length == 1).all id))
    rw [List.all_map]
    exact k
end Kb
set_option Elab.async false
set_option linter.all false
set_option maxRecDepth 100000
set_option maxHeartbeats 2000000
/-! S5: the nearest tree, as a greedy walk. -/
namespace Kb
open PySem L2
/-- how many letters two share -/
def ov (ls : List (List Int)) (a b : Nat) : Nat := ((ls.getD a []).filter fun c => (ls.getD b []).contains c).length
inductive Gr (ls : List (List Int)) : List (Option Nat) → List Nat → Prop
  | start {s : Nat} (h : s < ls.length) : Gr ls (List.replicate ls.length none) [s]
  | step {f : List (Option Nat)} {tk : List Nat} {a b : Nat} (g : Gr ls f tk) (ha : a < ls.length) (hn : a ∉ tk) (hb : b ∈ tk) (mx : ∀ a' b', a' < ls.length → a' ∉ tk → b' ∈ tk → ov ls a' b' ≤ ov ls a b) : Gr ls (f.set a (some b)) (tk ++ [a])
theorem Gr.flen {ls : List (List Int)} {f : List (Option Nat)} {tk : List Nat} (g : Gr ls f tk) : f.length = ls.length := by
  induction g with
  | start h => exact List.length_replicate ..
  | step g ha hn hb mx ih => rw [List.length_set]; exact ih
theorem Gr.lt {ls : List (List Int)} {f : List (Option Nat)} {tk : List Nat} (g : Gr ls f tk) : ∀ a ∈ tk, a < ls.length := by
  induction g with
  | start h => exact fun a ha => by rw [List.mem_singleton] at ha; subst ha; exact h
  | step g ha hn hb mx ih => exact fun a h => (List.mem_append.mp h).elim (ih a) fun h => by rw [List.mem_singleton] at h; subst h; exact ha
theorem Gr.nodup {ls : List (List Int)} {f : List (Option Nat)} {tk : List Nat} (g : Gr ls f tk) : tk.Nodup := by
  induction g with
  | start h => simp
  | step g ha hn hb mx ih =>
    rw [List.nodup_append]
    exact ⟨ih, by simp, fun x hx y hy e => by rw [List.mem_singleton] at hy; subst hy; subst e; exact hn hx⟩
theorem Gr.len {ls : List (List Int)} {f : List (Option Nat)} {tk : List Nat} (g : Gr ls f tk) : tk.length ≤ ls.length := by
  have := nodup_len g.nodup (m := List.range ls.length) fun x hx => List.mem_range.mpr (g.lt x hx)
  rwa [List.length_range] at this
theorem Gr.pos {ls : List (List Int)} {f : List (Option Nat)} {tk : List Nat} (g : Gr ls f tk) : ∃ s r, tk = s :: r := by
  cases g with
  | start h => exact ⟨_, _, rfl⟩
  | step g ha hn hb mx =>
    rename_i f' tk' a b
    cases tk' with
    | nil => cases hb
    | cons s r => exact ⟨s, r ++ [a], rfl⟩
/-- something is left while not all are taken -/
theorem more_left {n : Nat} {tk : List Nat} (h : tk.length < n) : ∃ a, a < n ∧ a ∉ tk := by
  by_cases c : ∃ a, a < n ∧ a ∉ tk
  · exact c
  · exfalso
    have := nodup_len (List.nodup_range (n := n)) (m := tk) fun x hx => by
      by_cases q : x ∈ tk
      · exact q
      · exact absurd ⟨x, List.mem_range.mp hx, q⟩ c
    rw [List.length_range] at this
    omega
abbrev natD (i : Nat) : PyData := .int (i : Int)
theorem nats_ints (l : List Nat) : l.map natD = (l.map fun i : Nat => (i : Int)).map .int := by rw [List.map_map]; rfl
theorem flat_nats (l : List Nat) : (l.map natD).all flatD = true := by rw [nats_ints]; exact flat_ints _
theorem any_nat (l : List Nat) (i : Nat) : ((l.map natD).any fun z => PyData.eqv z (natD i)) = l.contains i := by
  induction l with
  | nil => rfl
  | cons x l ih =>
    rw [List.map_cons, List.any_cons, ih, List.contains_cons]
    show (PyData.eqv (.int (x : Int)) (.int (i : Int)) || _) = _
    rw [eqv_nat, Bool.beq_comm]
theorem set_opts {f : List (Option Nat)} {a b : Nat} : (f.map optD).set a (natD b) = (f.set a (some b)).map optD := by
  rw [List.map_set]
  rfl
/-- what the pairs look like -/
def prs (ls : List (List Int)) (left tk : List Nat) : List (List Int) := left.flatMap fun a => tk.map fun b => [-(ov ls a b : Int), (a : Int), (b : Int)]
theorem ln_map {j : Nat} {ge : DE} {ρ : Env} {α : Type} (enc : α → Int) (f : α → List Int) : ∀ {xs : List α} {acc : List (List Int)} {K : List PyData → Prop} (N : Nat), N ≤ 100000 → acc.length + xs.length ≤ N →
    (∀ x ∈ xs, ∀ A : PyData → Prop, A (intsD (f x)) → ge (ρ.set j (some (.int (enc x)))) A) → K ((acc ++ xs.map f).map intsD) → lnI j ge ρ (xs.map enc) (acc.map intsD) K
  | [], acc, K, N, hN, hz, h, k => by
    rw [List.map_nil]
    unfold lnI
    simpa using k
  | x :: xs, acc, K, N, hN, hz, h, k => by
    rw [List.map_cons]
    unfold lnI
    refine h x List.mem_cons_self _ ⟨?_, ?_⟩
    · rw [List.length_map]
      rw [List.length_cons] at hz
      omega
    · rw [show acc.map intsD ++ [intsD (f x)] = (acc ++ [f x]).map intsD by rw [List.map_append]; rfl]
      refine ln_map enc f N hN ?_ (fun y hy => h y (List.mem_cons_of_mem _ hy)) ?_
      · rw [List.length_append, List.length_singleton]
        rw [List.length_cons] at hz
        omega
      · rw [List.append_assoc]
        exact k
theorem lm_map {i j : Nat} {ge : DE} {ρ : Env} {vs1 : List Nat} {α β : Type} (enc : α → Int) (enc2 : β → Int) (f : α → β → List Int) {ys : List β} : ∀ {xs : List α} {acc : List (List Int)} {K : List PyData → Prop} (N : Nat), N ≤ 100000 → acc.length + xs.length * ys.length ≤ N →
    (∀ x ∈ xs, ∀ y ∈ ys, ∀ A : PyData → Prop, A (intsD (f x y)) → ge ((wipeE (ρ.set i (some (.int (enc x)))) vs1).set j (some (.int (enc2 y)))) A) → K ((acc ++ xs.flatMap fun x => ys.map (f x)).map intsD) → lmI i j ge vs1 (ys.map enc2) ρ (xs.map enc) (acc.map intsD) K
  | [], acc, K, N, hN, hz, h, k => by
    rw [List.map_nil]
    unfold lmI
    simpa using k
  | x :: xs, acc, K, N, hN, hz, h, k => by
    rw [List.map_cons]
    unfold lmI
    rw [List.length_cons, Nat.succ_mul] at hz
    refine ln_map enc2 (f x) N hN (by omega) (fun y hy => h x List.mem_cons_self y hy) ?_
    refine lm_map enc enc2 f N hN ?_ (fun z hz => h z (List.mem_cons_of_mem _ hz)) ?_
    · rw [List.length_append, List.length_map]
      omega
    · rw [List.append_assoc]
      exact k
theorem neg_lt_of {x y a b c d : Int} (h : ¬ ([x, a, b] : List Int) < [y, c, d]) : y ≤ x := by
  by_cases q : y ≤ x
  · exact q
  · exfalso
    exact h (List.cons_lt_cons_iff.mpr (.inl (by omega)))
theorem env_two {A B A' B' : List PyData} {l x3 x4 x5 x6 x7 : Option PyData} (h1 : A = A') (h2 : B = B') : ([l, some (.list A), some (.list B), x3, x4, x5, x6, x7] : Env) = [l, some (.list A'), some (.list B'), x3, x4, x5, x6, x7] := by
  subst h1 h2
  rfl
theorem sp_nearest_tree {ls : List (List Int)} {K : PyData → Prop} (hz : ls.length ≤ 100) (hL : ∀ m ∈ ls, Lt m) (k0 : ls = [] → K (.tuple [])) (k : ∀ t tk, Gr ls t tk → tk.length = ls.length → K (treeD t)) : R_nearest_tree [lotsD ls] K := by
  have e0 : (ls.map intsD).length = ls.length := List.length_map ..
  have hlt : ∀ a, Lt (ls.getD a []) := fun a => by
    rw [List.getD_eq_getElem?_getD]
    cases e : ls[a]? with
    | none => exact Lt.nil
    | some m => exact hL m (List.mem_of_getElem? e)
  have hS : Sh 2 (lotsD ls) := .tup (.lots 0 ls)
  refine ⟨rfl, by decide, hS.ok, (Sh.unit 0).ok, _, rfl, ?_⟩
  rw [eqv_unit]
  refine iteB (fun e => ?_) fun e => ?_
  · refine ⟨by decide, k0 ?_⟩
    cases ls with
    | nil => rfl
    | cons _ _ => cases e
  have hne : 0 < ls.length := by
    cases ls with
    | nil => cases e
    | cons m r => rw [List.length_cons]; omega
  refine ⟨by decide, _, rfl, Int.natCast_nonneg _, by rw [e0]; omega, by decide, ?_⟩
  rw [Int.toNat_natCast, e0]
  refine ⟨fun m ρ => ∃ (f : List (Option Nat)) (tk : List Nat) (x3 x4 x5 x6 x7 : Option PyData), m = ls.length - tk.length ∧ Gr ls f tk ∧ ρ = [some (lotsD ls), some (.list (f.map optD)), some (.list (tk.map natD)), x3, x4, x5, x6, x7], ⟨_, List.replicate ls.length none, [0], none, none, none, none, none, rfl, .start hne, ?_⟩, ?_⟩
  · rw [List.map_replicate]; rfl
  rintro m ρ ⟨f, tk, x3, x4, x5, x6, x7, rfl, g, rfl⟩
  have e2 : (tk.map natD).length = tk.length := List.length_map ..
  refine ⟨_, rfl, _, rfl, _, rfl, ?_⟩
  rw [e2, e0]
  refine iteB (fun e => ?_) fun e => ?_
  · have hlt2 : tk.length < ls.length := by have := of_decide_eq_true e; omega
    refine ⟨_, rfl, _, rfl, Int.natCast_nonneg _, by rw [e0]; omega, ?_, ?_⟩
    · rw [List.length_map, List.length_range, Int.toNat_natCast, e0]; omega
    rw [Int.toNat_natCast, e0]
    refine lc_ft natD natD (fun a => !tk.contains a) (fun a ha A B h1 h2 => ⟨_, rfl, rfl, flat_nats tk, _, rfl, ?_⟩) ?_
    · rw [any_nat]
      exact iteB h1 h2
    generalize hleft : (List.range ls.length).filter (fun a => !tk.contains a) = left
    have ml : ∀ a, a ∈ left ↔ a < ls.length ∧ a ∉ tk := fun a => by
      rw [← hleft, List.mem_filter, List.mem_range]
      simp [List.contains_iff_mem]
    have ll : left.length ≤ 100 := by
      rw [← hleft]
      have := List.length_filter_le (fun a => !tk.contains a) (List.range ls.length)
      rw [List.length_range] at this
      omega
    have lt : tk.length ≤ 100 := by omega
    have lp : left.length * tk.length ≤ 100 * 100 := Nat.mul_le_mul ll lt
    refine ⟨(show 6 < 8 by decide), (show 7 < 8 by decide), _, rfl, left.map (fun i : Nat => (i : Int)), tk.map (fun i : Nat => (i : Int)), nats_ints left, by rw [← nats_ints]; rfl, ?_⟩
    refine lm_map (acc := []) (fun i : Nat => (i : Int)) (fun i : Nat => (i : Int)) (fun a b => [-(ov ls a b : Int), (a : Int), (b : Int)]) 20000 (by decide) (by rw [List.length_nil]; omega) (fun a ha b hb A hA => ?_) ?_
    · have la := (ml a).mp ha
      have lb := g.lt b hb
      refine ⟨_, (a : Int), _, rfl, rfl, lot_at la.1, _, (b : Int), _, rfl, rfl, lot_at lb, ?_⟩
      refine sp_common_in (by have := (hlt a).len; omega) ⟨_, rfl, (show 3 ≤ 100000 by decide), ?_⟩
      rw [List.length_map]
      exact hA
    · rw [List.nil_append]
      refine ⟨_, rfl, ?_, fun mm hm hmin => ?_⟩
      · obtain ⟨a, ha⟩ := more_left hlt2
        obtain ⟨s, r, es⟩ := g.pos
        intro z
        have : [-(ov ls a s : Int), (a : Int), (s : Int)] ∈ (left.flatMap fun x => tk.map fun y => [-(ov ls x y : Int), (x : Int), (y : Int)]) :=
          List.mem_flatMap.mpr ⟨a, (ml a).mpr ha, List.mem_map.mpr ⟨s, by rw [es]; exact List.mem_cons_self, rfl⟩⟩
        rw [z] at this
        cases this
      · obtain ⟨a, ha, hm⟩ := List.mem_flatMap.mp hm
        obtain ⟨b, hb, rfl⟩ := List.mem_map.mp hm
        have la := (ml a).mp ha
        refine ⟨_, _, _, rfl, ?_⟩
        refine ⟨a, rfl, by rw [List.length_map, g.flen]; exact la.1, ?_⟩
        refine ⟨by rw [e2]; omega, ?_⟩
        refine ⟨_, ?_, _, _, _, _, _, _, _, rfl, .step g la.1 la.2 hb (fun a' b' h1 h2 h3 => ?_), env_two set_opts (by rw [List.map_append]; rfl)⟩
        · rw [List.length_append, List.length_singleton]; omega
        · have := neg_lt_of (hmin _ (List.mem_flatMap.mpr ⟨a', (ml a').mpr ⟨h1, h2⟩, List.mem_map.mpr ⟨b', h3, rfl⟩⟩))
          omega
  · have : tk.length = ls.length := by have := of_decide_eq_false e; have := g.len; omega
    exact ⟨_, rfl, k f tk g this⟩
end Kb
set_option linter.all false
/-! M1: families of sets that hang together as a tree, and what a greedy walk over them meets. -/
namespace Kb
section
variable {ι κ : Type} (L : ι → κ → Prop)
/-- what both sides hold, two of them hold: one on each side -/
def Sep (A B : ι → Prop) (a b : ι) : Prop := ∀ i j c, A i → B j → L i c → L j c → L a c ∧ L b c
inductive Jo : (ι → Prop) → Prop
  | one {F : ι → Prop} (x : ι) (h : ∀ i, F i ↔ i = x) : Jo F
  | join {F A B : ι → Prop} {a b : ι} (h : ∀ i, F i ↔ A i ∨ B i) (dj : ∀ i, A i → ¬ B i) (ha : A a) (hb : B b) (s : Sep L A B a b) (x : Jo A) (y : Jo B) : Jo F
/-- .. from S on -/
inductive Jf (S : ι → Prop) : (ι → Prop) → Prop
  | base {F : ι → Prop} (h : ∀ i, F i ↔ S i) : Jf S F
  | join {F A B : ι → Prop} {a b : ι} (h : ∀ i, F i ↔ A i ∨ B i) (dj : ∀ i, A i → ¬ B i) (ha : A a) (hb : B b) (s : Sep L A B a b) (x : Jf S A) (y : Jo L B) : Jf S F
end
section
variable {ι κ : Type} {L : ι → κ → Prop} {F A B S : ι → Prop}
theorem Sep.symm {a b : ι} (h : Sep L A B a b) : Sep L B A b a := fun i j c hi hj h1 h2 => (h j i c hj hi h2 h1).symm
theorem Jo.congr {G : ι → Prop} (h : Jo L F) (e : ∀ i, G i ↔ F i) : Jo L G := by
  cases h with
  | one x k => exact .one x fun i => (e i).trans (k i)
  | join k dj ha hb s x y => exact .join (fun i => (e i).trans (k i)) dj ha hb s x y
theorem Jf.congr {G : ι → Prop} (h : Jf L S F) (e : ∀ i, G i ↔ F i) : Jf L S G := by
  cases h with
  | base k => exact .base fun i => (e i).trans (k i)
  | join k dj ha hb s x y => exact .join (fun i => (e i).trans (k i)) dj ha hb s x y
theorem Jf.has (h : Jf L S F) : ∀ i, S i → F i := by
  induction h with
  | base k => exact fun i hi => (k i).mpr hi
  | join k dj ha hb s x y ih => exact fun i hi => (k i).mpr (.inl (ih i hi))
/-- any of them may stand at the top -/
theorem Jo.at (h : Jo L F) : ∀ {v : ι}, F v → Jf L (· = v) F := by
  induction h with
  | one x k => exact fun {v} hv => .base fun i => by rw [k, (k v).mp hv]
  | join k dj ha hb s x y ihx ihy =>
    intro v hv
    rcases (k v).mp hv with hv | hv
    · exact .join k dj ha hb s (ihx hv) y
    · exact .join (fun i => (k i).trans or_comm) (fun i h1 h2 => dj i h2 h1) hb ha s.symm (ihy hv) x
theorem Jf.toJo {v : ι} (h : Jf L (· = v) F) : Jo L F := by
  generalize e : (fun i => i = v) = S at h
  induction h with
  | base k => exact .one v fun i => by rw [k, ← e]
  | join k dj ha hb s x y ih => exact .join k dj ha hb s ih y
/-- a greatest overlap splits the rest off -/
theorem Jf.split (h : Jf L S F) : ∀ {u v : ι}, S u → F v → ¬ S v → (∀ a b, S a → F b → ¬ S b → (∀ c, L u c → L v c → L a c ∧ L b c) → ∀ c, L a c → L b c → L u c ∧ L v c) →
    ∃ A C : ι → Prop, (∀ i, F i ↔ A i ∨ C i) ∧ (∀ i, A i → ¬ C i) ∧ C v ∧ Jf L S A ∧ Jo L C ∧ Sep L A C u v := by
  induction h with
  | base k => exact fun _ hv hn _ => absurd ((k _).mp hv) hn
  | @join F A B a b k dj ha hb s x y ih =>
    intro u v hu hv hn mx
    have uA : A u := x.has u hu
    -- what hangs at a stays there
    have put : ∀ A' C' : ι → Prop, (∀ i, A i ↔ A' i ∨ C' i) → (∀ i, A' i → ¬ C' i) → Jf L S A' → Jo L C' → Sep L A' C' u v → (C' v ∨ (B v ∧ C' a)) →
        ∃ A C : ι → Prop, (∀ i, F i ↔ A i ∨ C i) ∧ (∀ i, A i → ¬ C i) ∧ C v ∧ Jf L S A ∧ Jo L C ∧ Sep L A C u v := by
      intro A' C' p1 p2 p3 p4 p5 p6
      by_cases q : C' a
      · refine ⟨A', fun i => C' i ∨ B i, fun i => ?_, fun i h1 h2 => ?_, ?_, p3, .join (fun i => Iff.rfl) (fun i h1 => dj i ((p1 i).mpr (.inr h1))) q hb (fun i j c hi => s i j c ((p1 i).mpr (.inr hi))) p4 y, fun i j c hi hj h1 h2 => ?_⟩
        · rw [k, p1, or_assoc]
        · exact h2.elim (p2 i h1) (dj i ((p1 i).mpr (.inl h1)))
        · exact p6.elim .inl fun z => .inr z.1
        · rcases hj with hj | hj
          · exact p5 i j c hi hj h1 h2
          · exact p5 i a c hi q h1 (s i j c ((p1 i).mpr (.inl hi)) hj h1 h2).1
      · have q' : A' a := ((p1 a).mp ha).resolve_right q
        have cv : C' v := p6.resolve_right fun z => q z.2
        refine ⟨fun i => A' i ∨ B i, C', fun i => ?_, fun i h1 h2 => ?_, cv, .join (fun i => Iff.rfl) (fun i h1 => dj i ((p1 i).mpr (.inl h1))) q' hb (fun i j c hi => s i j c ((p1 i).mpr (.inl hi))) p3 y, p4, fun i j c hi hj h1 h2 => ?_⟩
        · rw [k, p1, or_assoc, or_assoc, or_comm (a := C' i)]
        · exact h1.elim (fun z => p2 i z h2) fun z => dj i ((p1 i).mpr (.inr h2)) z
        · rcases hi with hi | hi
          · exact p5 i j c hi hj h1 h2
          · exact p5 a j c q' hj (s j i c ((p1 j).mpr (.inr hj)) hi h2 h1).1 h2
    rcases (k v).mp hv with vA | vB
    · obtain ⟨A', C', p1, p2, p3, p4, p5, p6⟩ := ih hu vA hn fun a b ha hb => mx a b ha ((k b).mpr (.inl hb))
      exact put A' C' p1 p2 p4 p5 p6 (.inl p3)
    · have uv : ∀ c, L u c → L v c → L a c ∧ L b c := fun c => s u v c uA vB
      by_cases sa : S a
      · have ab := mx a b sa ((k b).mpr (.inr hb)) (fun z => dj b (x.has b z) hb) uv
        exact ⟨A, B, k, dj, vB, x, y, fun i j c hi hj h1 h2 => ab c (s i j c hi hj h1 h2).1 (s i j c hi hj h1 h2).2⟩
      · have ua : ∀ c, L u c → L a c → L u c ∧ L v c := mx u a hu ((k a).mpr (.inl ha)) sa fun c h1 h2 => ⟨h1, (uv c h1 h2).1⟩
        obtain ⟨A', C', p1, p2, p3, p4, p5, p6⟩ := ih hu ha sa fun a' b' h1 h2 h3 h4 c h5 h6 => by
          have z := mx a' b' h1 ((k b').mpr (.inl h2)) h3 (fun c h7 h8 => h4 c h7 (uv c h7 h8).1) c h5 h6
          exact ⟨z.1, (uv c z.1 z.2).1⟩
        exact put A' C' p1 p2 p4 p5 (fun i j c h1 h2 h3 h4 => ua c (p6 i j c h1 h2 h3 h4).1 (p6 i j c h1 h2 h3 h4).2) (.inr ⟨vB, p3⟩)
/-- two that are joined at u and v -/
theorem Jf.more {C : ι → Prop} {u v : ι} (hA : Jf L S A) (hC : Jo L C) (dj : ∀ i, A i → ¬ C i) (hu : S u) (hv : C v) (s : Sep L A C u v) : Jf L (fun i => S i ∨ i = v) (fun i => A i ∨ C i) := by
  have h1 : Jf L (fun i => S i ∨ i = v) (fun i => A i ∨ i = v) := by
    have key : ∀ {G : ι → Prop}, Jf L S G → (∀ i, G i → A i) → Jf L (fun i => S i ∨ i = v) (fun i => G i ∨ i = v) := by
      intro G hG
      induction hG with
      | base k => exact fun _ => .base fun i => by rw [k]
      | @join G A1 B1 a b k d ha hb s1 x y ih =>
        intro sub
        refine .join (A := fun i => A1 i ∨ i = v) (B := B1) (a := a) (b := b) (fun i => ?_) (fun i h1 h2 => ?_) (.inl ha) hb (fun i j c hi hj h1 h2 => ?_) (ih fun i hi => sub i ((k i).mpr (.inl hi))) y
        · rw [k, or_assoc, or_assoc, or_comm (a := B1 i)]
        · rcases h1 with h1 | h1
          · exact d i h1 h2
          · subst h1; exact dj i (sub i ((k i).mpr (.inr h2))) hv
        · rcases hi with hi | rfl
          · exact s1 i j c hi hj h1 h2
          · exact s1 u j c (x.has u hu) hj (s j i c (sub j ((k j).mpr (.inr hj))) hv h2 h1).1 h2
    exact key hA fun _ h => h
  have key : ∀ {G : ι → Prop}, Jf L (· = v) G → (∀ i, G i → C i) → Jf L (fun i => S i ∨ i = v) (fun i => A i ∨ G i) := by
    intro G hG
    induction hG with
    | base k => exact fun _ => h1.congr fun i => by rw [k]
    | @join G A1 B1 a b k d ha hb s1 x y ih =>
      intro sub
      refine .join (A := fun i => A i ∨ A1 i) (B := B1) (a := a) (b := b) (fun i => ?_) (fun i h1 h2 => ?_) (.inr ha) hb (fun i j c hi hj h1 h2 => ?_) (ih fun i hi => sub i ((k i).mpr (.inl hi))) y
      · rw [k, or_assoc]
      · rcases h1 with h1 | h1
        · exact dj i h1 (sub i ((k i).mpr (.inr h2)))
        · exact d i h1 h2
      · rcases hi with hi | hi
        · exact s1 v j c (x.has v rfl) hj (s i j c hi (sub j ((k j).mpr (.inr hj))) h1 h2).2 h2
        · exact s1 i j c hi hj h1 h2
  exact key (hC.at hv) fun _ h => h
/-- the greedy step: the next one's letters that were met stand in the one it hangs at, and the rest hangs together still -/
theorem Jf.step (h : Jf L S F) {u v : ι} (hu : S u) (hv : F v) (hn : ¬ S v) (mx : ∀ a b, S a → F b → ¬ S b → (∀ c, L u c → L v c → L a c ∧ L b c) → ∀ c, L a c → L b c → L u c ∧ L v c) :
    (∀ i c, S i → L i c → L v c → L u c) ∧ Jf L (fun i => S i ∨ i = v) F := by
  obtain ⟨A, C, p1, p2, p3, p4, p5, p6⟩ := h.split hu hv hn mx
  exact ⟨fun i c hi h1 h2 => (p6 i v c (p4.has i hi) p3 h1 h2).1, (p4.more p5 p2 hu p3 p6).congr p1⟩

/-! ### more and fewer -/
theorem Jo.add (h : Jo L F) {x y : ι} (hx : ¬ F x) (hy : F y) (s : ∀ c i, F i → L i c → L x c → L y c) : Jo L (fun i => F i ∨ i = x) :=
  .join (B := (· = x)) (a := y) (b := x) (fun i => Iff.rfl) (fun i h1 h2 => hx (h2 ▸ h1)) hy rfl (fun i j c hi hj h1 h2 => by subst hj; exact ⟨s c i hi h1 h2, h2⟩) h (.one x fun i => Iff.rfl)
/-- the top goes, what hung at it hangs at another -/
theorem Jf.swap {x b : ι} (hA : Jf L (· = x) A) (hB : Jo L B) (dj : ∀ i, A i → ¬ B i) (hb : B b) (hx : ∀ c, L x c → L b c) (s : ∀ i j c, A i → B j → L i c → L j c → L x c) : Jo L (fun i => (A i ∧ i ≠ x) ∨ B i) := by
  generalize e : (fun i => i = x) = S at hA
  induction hA with
  | base k =>
    subst e
    exact hB.congr fun i => ⟨fun z => z.elim (fun z => absurd ((k i).mp z.1) z.2) id, .inr⟩
  | @join G A1 B1 a1 b1 k d ha hb1 s1 x1 y ih =>
    have sub : ∀ i, A1 i → G i := fun i h => (k i).mpr (.inl h)
    have xA : A1 x := x1.has x (by rw [← e])
    have h1 := ih (fun i h => dj i (sub i h)) (fun i j c hi => s i j c (sub i hi))
    have cross : ∀ i j c, B i → B1 j → L i c → L j c → L a1 c ∧ L b1 c := fun i j c hi hj h1 h2 => s1 x j c xA hj (s j i c ((k j).mpr (.inr hj)) hi h2 h1) h2
    have nx : ∀ i, B1 i → i ≠ x := fun i h z => d x xA (z ▸ h)
    by_cases q : a1 = x
    · subst q
      refine .join (A := fun i => (A1 i ∧ i ≠ a1) ∨ B i) (B := B1) (a := b) (b := b1) (fun i => ?_) (fun i h1 h2 => ?_) (.inr hb) hb1 (fun i j c hi hj h1 h2 => ?_) h1 y
      · rw [k]
        constructor
        · rintro (⟨h | h, n⟩ | h)
          · exact .inl (.inl ⟨h, n⟩)
          · exact .inr h
          · exact .inl (.inr h)
        · rintro ((⟨h, n⟩ | h) | h)
          · exact .inl ⟨.inl h, n⟩
          · exact .inr h
          · exact .inl ⟨.inr h, nx i h⟩
      · rcases h1 with h1 | h1
        · exact d i h1.1 h2
        · exact dj i ((k i).mpr (.inr h2)) h1
      · rcases hi with hi | hi
        · have z := s1 i j c hi.1 hj h1 h2; exact ⟨hx c z.1, z.2⟩
        · have z := cross i j c hi hj h1 h2; exact ⟨hx c z.1, z.2⟩
    · refine .join (A := fun i => (A1 i ∧ i ≠ x) ∨ B i) (B := B1) (a := a1) (b := b1) (fun i => ?_) (fun i h1 h2 => ?_) (.inl ⟨ha, q⟩) hb1 (fun i j c hi hj h1 h2 => ?_) h1 y
      · rw [k]
        constructor
        · rintro (⟨h | h, n⟩ | h)
          · exact .inl (.inl ⟨h, n⟩)
          · exact .inr h
          · exact .inl (.inr h)
        · rintro ((⟨h, n⟩ | h) | h)
          · exact .inl ⟨.inl h, n⟩
          · exact .inr h
          · exact .inl ⟨.inr h, nx i h⟩
      · rcases h1 with h1 | h1
        · exact d i h1.1 h2
        · exact dj i ((k i).mpr (.inr h2)) h1
      · rcases hi with hi | hi
        · exact s1 i j c hi.1 hj h1 h2
        · exact cross i j c hi hj h1 h2
/-- one that lies within another may go -/
theorem Jo.less (h : Jo L F) : ∀ {x y : ι}, F x → F y → x ≠ y → (∀ c, L x c → L y c) → Jo L (fun i => F i ∧ i ≠ x) := by
  induction h with
  | one z k => exact fun {x y} hx hy n => absurd (((k x).mp hx).trans ((k y).mp hy).symm) n
  | @join F A B a b k dj ha hb s X Y ihx ihy =>
    have main : ∀ {A B : ι → Prop} {a b : ι}, (∀ i, F i ↔ A i ∨ B i) → (∀ i, A i → ¬ B i) → A a → B b → Sep L A B a b → Jo L A → Jo L B → (∀ {x y : ι}, A x → A y → x ≠ y → (∀ c, L x c → L y c) → Jo L (fun i => A i ∧ i ≠ x)) → ∀ {x y : ι}, A x → F y → x ≠ y → (∀ c, L x c → L y c) → Jo L (fun i => F i ∧ i ≠ x) := by
      intro A B a b k dj ha hb s X Y ih x y hx hy n sub
      have nB : ∀ i, B i → i ≠ x := fun i h z => dj x hx (z ▸ h)
      have part : ∀ i, (F i ∧ i ≠ x) ↔ ((A i ∧ i ≠ x) ∨ B i) := fun i => by
        rw [k]
        constructor
        · rintro ⟨h | h, n⟩
          · exact .inl ⟨h, n⟩
          · exact .inr h
        · rintro (⟨h, n⟩ | h)
          · exact ⟨.inl h, n⟩
          · exact ⟨.inr h, nB i h⟩
      -- with another of its own side that holds it
      have side : ∀ y', A y' → x ≠ y' → (∀ c, L x c → L y' c) → Jo L (fun i => F i ∧ i ≠ x) := by
        intro y' hy' n' sub'
        have h1 := ih hx hy' n' sub'
        by_cases q : a = x
        · subst q
          exact .join part (fun i h => dj i h.1) ⟨hy', Ne.symm n'⟩ hb (fun i j c hi hj h1 h2 => ⟨sub' c (s i j c hi.1 hj h1 h2).1, (s i j c hi.1 hj h1 h2).2⟩) h1 Y
        · exact .join part (fun i h => dj i h.1) ⟨ha, q⟩ hb (fun i j c hi hj h1 h2 => s i j c hi.1 hj h1 h2) h1 Y
      rcases (k y).mp hy with yA | yB
      · exact side y yA n sub
      · have xs : ∀ c, L x c → L a c ∧ L b c := fun c h => s x y c hx yB h (sub c h)
        by_cases q : a = x
        · subst q
          exact ((X.at hx).swap Y dj hb (fun c h => (xs c h).2) fun i j c hi hj h1 h2 => (s i j c hi hj h1 h2).1).congr part
        · exact side a ha (fun z => q z.symm) fun c h => (xs c h).1
    intro x y hx hy n sub
    rcases (k x).mp hx with h | h
    · exact main k dj ha hb s X Y ihx h hy n sub
    · exact main (fun i => (k i).trans or_comm) (fun i h1 h2 => dj i h2 h1) hb ha s.symm Y X ihy h hy n sub
/-- by other names -/
theorem Jo.map {ι' : Type} {L' : ι' → κ → Prop} (f : ι → ι') (h : Jo L F) : (∀ i j, F i → F j → f i = f j → i = j) → (∀ i c, F i → (L' (f i) c ↔ L i c)) → Jo L' (fun k => ∃ i, F i ∧ f i = k) := by
  induction h with
  | one x k => exact fun _ _ => .one (f x) fun i => ⟨fun ⟨j, h1, h2⟩ => by rw [← h2, (k j).mp h1], fun h => ⟨x, (k x).mpr rfl, h.symm⟩⟩
  | @join F A B a b k dj ha hb s X Y ihx ihy =>
    intro inj e
    have sA : ∀ i, A i → F i := fun i h => (k i).mpr (.inl h)
    have sB : ∀ i, B i → F i := fun i h => (k i).mpr (.inr h)
    refine .join (fun i => ?_) (fun i h1 h2 => ?_) ⟨a, ha, rfl⟩ ⟨b, hb, rfl⟩ (fun i j c hi hj h1 h2 => ?_) (ihx (fun i j h1 h2 => inj i j (sA i h1) (sA j h2)) fun i c h => e i c (sA i h)) (ihy (fun i j h1 h2 => inj i j (sB i h1) (sB j h2)) fun i c h => e i c (sB i h))
    · constructor
      · rintro ⟨j, h1, h2⟩
        rcases (k j).mp h1 with h | h
        · exact .inl ⟨j, h, h2⟩
        · exact .inr ⟨j, h, h2⟩
      · rintro (⟨j, h1, h2⟩ | ⟨j, h1, h2⟩)
        · exact ⟨j, sA j h1, h2⟩
        · exact ⟨j, sB j h1, h2⟩
    · obtain ⟨p, p1, p2⟩ := h1
      obtain ⟨q, q1, q2⟩ := h2
      have z := inj p q (sA p p1) (sB q q1) (p2.trans q2.symm)
      subst z
      exact dj p p1 q1
    · obtain ⟨p, p1, rfl⟩ := hi
      obtain ⟨q, q1, rfl⟩ := hj
      have z := s p q c p1 q1 ((e p c (sA p p1)).mp h1) ((e q c (sB q q1)).mp h2)
      exact ⟨(e a c (sA a ha)).mpr z.1, (e b c (sB b hb)).mpr z.2⟩
/-- a letter that one alone holds -/
theorem Jo.relet {L' : ι → κ → Prop} (h : Jo L F) : (∀ i j c, F i → F j → i ≠ j → L' i c → L' j c → L i c ∧ L j c) → (∀ i c, F i → L i c → L' i c) → Jo L' F := by
  induction h with
  | one x k => exact fun _ _ => .one x k
  | @join F A B a b k dj ha hb s X Y ihx ihy =>
    intro h1 h2
    have sA : ∀ i, A i → F i := fun i h => (k i).mpr (.inl h)
    have sB : ∀ i, B i → F i := fun i h => (k i).mpr (.inr h)
    exact .join k dj ha hb (fun i j c hi hj q1 q2 => by
      have z := h1 i j c (sA i hi) (sB j hj) (fun e => dj i hi (e ▸ hj)) q1 q2
      have y := s i j c hi hj z.1 z.2
      exact ⟨h2 a c (sA a ha) y.1, h2 b c (sB b hb) y.2⟩) (ihx (fun i j c p q => h1 i j c (sA i p) (sA j q)) fun i c p => h2 i c (sA i p)) (ihy (fun i j c p q => h1 i j c (sB i p) (sB j q)) fun i c p => h2 i c (sB i p))
end
end Kb
set_option Elab.async false
set_option linter.all false
set_option maxRecDepth 100000
set_option maxHeartbeats 2000000
/-! M2: a greedy walk over lots that hang together makes a tree. -/
namespace Kb
open PySem L2
abbrev Lo (ls : List (List Int)) (i : Nat) (c : Int) : Prop := c ∈ ls.getD i []
theorem lt_getD {ls : List (List Int)} (hL : ∀ m ∈ ls, Lt m) (a : Nat) : Lt (ls.getD a []) := by
  rw [List.getD_eq_getElem?_getD]
  cases e : ls[a]? with
  | none => exact Lt.nil
  | some m => exact hL m (List.mem_of_getElem? e)
theorem sub_eq {X Y : List Int} (hx : X.Nodup) (s : ∀ c ∈ X, c ∈ Y) (h : Y.length ≤ X.length) : ∀ c ∈ Y, c ∈ X := fun c hc => by
  by_cases q : c ∈ X
  · exact q
  · exfalso
    have := nodup_len (l := c :: X) (m := Y) (List.nodup_cons.mpr ⟨q, hx⟩) fun d hd => (List.mem_cons.mp hd).elim (fun e => e ▸ hc) (s d)
    rw [List.length_cons] at this
    omega
theorem mem_ov {ls : List (List Int)} {a b : Nat} {c : Int} : c ∈ (ls.getD a []).filter (fun c => (ls.getD b []).contains c) ↔ Lo ls a c ∧ Lo ls b c := by
  rw [List.mem_filter, List.contains_iff_mem]
/-- the rest hangs together at each step -/
theorem Gr.jf {ls : List (List Int)} (hL : ∀ m ∈ ls, Lt m) (J : Jo (Lo ls) (· < ls.length)) {f : List (Option Nat)} {tk : List Nat} (g : Gr ls f tk) : Jf (Lo ls) (· ∈ tk) (· < ls.length) ∧
    ∀ a b : Nat, a < ls.length → a ∉ tk → b ∈ tk → (∀ a' b', a' < ls.length → a' ∉ tk → b' ∈ tk → ov ls a' b' ≤ ov ls a b) → (∀ i c, i ∈ tk → Lo ls i c → Lo ls a c → Lo ls b c) ∧ Jf (Lo ls) (fun i => i ∈ tk ∨ i = a) (· < ls.length) := by
  have next : ∀ {tk : List Nat}, Jf (Lo ls) (· ∈ tk) (· < ls.length) → ∀ a b : Nat, a < ls.length → a ∉ tk → b ∈ tk → (∀ a' b', a' < ls.length → a' ∉ tk → b' ∈ tk → ov ls a' b' ≤ ov ls a b) → (∀ i c, i ∈ tk → Lo ls i c → Lo ls a c → Lo ls b c) ∧ Jf (Lo ls) (fun i => i ∈ tk ∨ i = a) (· < ls.length) := by
    intro tk jf a b ha hn hb mx
    refine jf.step hb ha hn fun a' b' h1 h2 h3 h4 c h5 h6 => ?_
    have := sub_eq (X := (ls.getD a []).filter (fun c => (ls.getD b []).contains c)) (Y := (ls.getD b' []).filter (fun c => (ls.getD a' []).contains c)) ((lt_getD hL a).filter _).up.nodup (fun c hc => by
      have z := mem_ov.mp hc
      have y := h4 c z.2 z.1
      exact mem_ov.mpr ⟨y.2, y.1⟩) (mx b' a' h2 h3 h1) c (mem_ov.mpr ⟨h6, h5⟩)
    exact (mem_ov.mp this).symm
  induction g with
  | @start s h =>
    have z : Jf (Lo ls) (· ∈ [s]) (· < ls.length) := by
      have := J.at h
      rw [show (fun i => i ∈ [s]) = (fun i => i = s) from funext fun i => propext List.mem_singleton]
      exact this
    exact ⟨z, next z⟩
  | @step f tk a b g ha hn hb mx ih =>
    have z : Jf (Lo ls) (· ∈ tk ++ [a]) (· < ls.length) := by
      have := (ih.2 a b ha hn hb mx).2
      rw [show (fun i => i ∈ tk ++ [a]) = (fun i => i ∈ tk ∨ i = a) from funext fun i => propext (by rw [List.mem_append, List.mem_singleton])]
      exact this
    exact ⟨z, next z⟩
/-! ### what the walk leaves -/
theorem getD_set_ne {f : List (Option Nat)} {a p : Nat} {o : Option Nat} (h : p ≠ a) : (f.set a o).getD p none = f.getD p none := by
  rw [List.getD_eq_getElem?_getD, List.getD_eq_getElem?_getD, List.getElem?_set_ne (Ne.symm h)]
theorem getD_set_eq {f : List (Option Nat)} {a : Nat} {o : Option Nat} (h : a < f.length) : (f.set a o).getD a none = o := by
  rw [List.getD_eq_getElem?_getD, List.getElem?_set_self h]
  rfl
theorem upN_eq {t : List (Option Nat)} {k p : Nat} (h : p < t.length) : upN t (k + 1) p = match t.getD p none with
    | none => true
    | some q => upN t k q := by
  rw [List.getD_eq_getElem?_getD]
  show (match t[p]? with
    | some none => true
    | some (some q) => upN t k q
    | none => false) = _
  rw [List.getElem?_eq_getElem h]
  cases t[p] <;> rfl
theorem upN_mono {t : List (Option Nat)} : ∀ {k p : Nat}, upN t k p = true → upN t (k + 1) p = true
  | 0, p, h => by cases h
  | k + 1, p, h => by
    have h : (match t[p]? with
      | some none => true
      | some (some q) => upN t k q
      | none => false) = true := h
    show (match t[p]? with
      | some none => true
      | some (some q) => upN t (k + 1) q
      | none => false) = true
    cases e : t[p]? with
    | none => rw [e] at h; cases h
    | some o =>
      cases o with
      | none => rfl
      | some q =>
        rw [e] at h
        exact upN_mono h
structure GrI (ls : List (List Int)) (f : List (Option Nat)) (tk : List Nat) : Prop where
  top : (tk.filter fun p => (f.getD p none).isNone).length = 1
  cl : ∀ p ∈ tk, ∀ q, f.getD p none = some q → q ∈ tk
  up : ∀ p ∈ tk, upN f tk.length p = true
  beg : ∀ c, (∃ i ∈ tk, Lo ls i c) → (tk.filter fun p => begB ls f p c).length = 1
theorem begB_iff {ls : List (List Int)} {f : List (Option Nat)} {p : Nat} {c : Int} : begB ls f p c = true → Lo ls p c := fun h => by
  unfold begB at h
  exact List.contains_iff_mem.mp (Bool.and_eq_true_iff.mp h).1
theorem Gr.inv {ls : List (List Int)} (hL : ∀ m ∈ ls, Lt m) (J : Jo (Lo ls) (· < ls.length)) {f : List (Option Nat)} {tk : List Nat} (g : Gr ls f tk) : GrI ls f tk := by
  induction g with
  | @start s h =>
    have e : (List.replicate ls.length (none : Option Nat)).getD s none = none := by
      rw [List.getD_eq_getElem?_getD, List.getElem?_replicate, if_pos h]
      rfl
    refine ⟨?_, fun p hp q hq => ?_, fun p hp => ?_, fun c hc => ?_⟩
    · rw [List.filter_cons_of_pos (by rw [e]; rfl)]; rfl
    · rw [List.mem_singleton] at hp
      subst hp
      rw [e] at hq; cases hq
    · rw [List.mem_singleton] at hp
      subst hp
      rw [List.length_singleton, upN_eq (by rw [List.length_replicate]; exact h), e]
    · obtain ⟨i, hi, hc⟩ := hc
      rw [List.mem_singleton] at hi
      subst hi
      rw [List.filter_cons_of_pos]
      · rfl
      · unfold begB
        rw [e, List.contains_iff_mem.mpr hc]
        rfl
  | @step f tk a b g ha hn hb mx ih =>
    obtain ⟨h1, h2⟩ := (g.jf hL J).2 a b ha hn hb mx
    have fl := g.flen
    have ne : ∀ p ∈ tk, p ≠ a := fun p hp e => hn (e ▸ hp)
    have old : ∀ p ∈ tk, (f.set a (some b)).getD p none = f.getD p none := fun p hp => getD_set_ne (ne p hp)
    have new : (f.set a (some b)).getD a none = some b := getD_set_eq (by rw [fl]; exact ha)
    have upo : ∀ k, ∀ p ∈ tk, upN (f.set a (some b)) k p = upN f k p := by
      intro k
      induction k with
      | zero => exact fun _ _ => rfl
      | succ k ih2 =>
        intro p hp
        have pl : p < f.length := by rw [fl]; exact g.lt p hp
        rw [upN_eq (by rw [List.length_set]; exact pl), upN_eq pl, old p hp]
        cases e : f.getD p none with
        | none => rfl
        | some q => exact ih2 q (ih.cl p hp q e)
    have bo : ∀ c, ∀ p ∈ tk, begB ls (f.set a (some b)) p c = begB ls f p c := fun c p hp => by
      unfold begB
      rw [old p hp]
    have ba : ∀ c, begB ls (f.set a (some b)) a c = ((ls.getD a []).contains c && !(ls.getD b []).contains c) := fun c => by
      unfold begB
      rw [new]
    refine ⟨?_, fun p hp q hq => ?_, fun p hp => ?_, fun c hc => ?_⟩
    · rw [List.filter_append, List.filter_congr (fun p hp => by rw [old p hp]), List.filter_cons_of_neg (by rw [new]; simp), List.filter_nil, List.append_nil]
      exact ih.top
    · rcases List.mem_append.mp hp with hp | hp
      · rw [old p hp] at hq
        exact List.mem_append.mpr (.inl (ih.cl p hp q hq))
      · rw [List.mem_singleton] at hp
        subst hp
        rw [new] at hq
        cases hq
        exact List.mem_append.mpr (.inl hb)
    · rw [List.length_append, List.length_singleton]
      rcases List.mem_append.mp hp with hp | hp
      · rw [upo _ p hp]
        exact upN_mono (ih.up p hp)
      · rw [List.mem_singleton] at hp
        subst hp
        rw [upN_eq (by rw [List.length_set, fl]; exact ha), new]
        show upN _ _ b = true
        rw [upo _ b hb]
        exact ih.up b hb
    · rw [List.filter_append, List.filter_congr (fun p hp => bo c p hp)]
      by_cases q : ∃ i ∈ tk, Lo ls i c
      · have an : begB ls (f.set a (some b)) a c = false := by
          rw [ba]
          cases e : (ls.getD a []).contains c with
          | false => rfl
          | true =>
            obtain ⟨i, hi, hc⟩ := q
            rw [List.contains_iff_mem.mpr (h1 i c hi hc (List.contains_iff_mem.mp e))]
            rfl
        rw [List.filter_cons_of_neg (by rw [an]; simp), List.filter_nil, List.append_nil]
        exact ih.beg c q
      · obtain ⟨i, hi, hc⟩ := hc
        have hca : Lo ls a c := by
          rcases List.mem_append.mp hi with hi | hi
          · exact absurd ⟨i, hi, hc⟩ q
          · rw [List.mem_singleton] at hi; subst hi; exact hc
        have an : begB ls (f.set a (some b)) a c = true := by
          rw [ba, List.contains_iff_mem.mpr hca]
          cases e : (ls.getD b []).contains c with
          | false => rfl
          | true => exact absurd ⟨b, hb, List.contains_iff_mem.mp e⟩ q
        rw [List.filter_cons_of_pos (p := fun p => begB ls (f.set a (some b)) p c) an, List.filter_nil, List.filter_eq_nil_iff.mpr fun p hp z => q ⟨p, hp, begB_iff z⟩]
        rfl
theorem perm_of {n : Nat} {tk : List Nat} (h : tk.Nodup) (hl : ∀ a ∈ tk, a < n) (e : tk.length = n) : tk.Perm (List.range n) := by
  refine (List.perm_ext_iff_of_nodup h List.nodup_range).mpr fun a => ⟨fun ha => List.mem_range.mpr (hl a ha), fun ha => ?_⟩
  by_cases q : a ∈ tk
  · exact q
  · exfalso
    have := nodup_len (l := a :: tk) (m := List.range n) (List.nodup_cons.mpr ⟨q, h⟩) fun x hx => (List.mem_cons.mp hx).elim (fun z => z ▸ ha) fun z => List.mem_range.mpr (hl x z)
    rw [List.length_cons, List.length_range] at this
    omega
theorem count_range (t : List (Option Nat)) : t.countP (·.isNone) = ((List.range t.length).filter fun p => (t.getD p none).isNone).length := by
  have e : t = (List.range t.length).map fun p => t.getD p none := by
    refine List.ext_getElem? fun i => ?_
    rw [List.getElem?_map]
    by_cases h : i < t.length
    · rw [List.getElem?_range h, List.getElem?_eq_getElem h]
      show _ = some (t.getD i none)
      rw [List.getD_eq_getElem?_getD, List.getElem?_eq_getElem h]
      rfl
    · rw [List.getElem?_eq_none (by omega), List.getElem?_eq_none (by rw [List.length_range]; omega)]
      rfl
  conv => lhs; rw [e]
  rw [List.countP_map, List.countP_eq_length_filter]
  rfl
theorem Gr.tree {ls : List (List Int)} (hL : ∀ m ∈ ls, Lt m) (J : Jo (Lo ls) (· < ls.length)) {t : List (Option Nat)} {tk : List Nat} (g : Gr ls t tk) (e : tk.length = ls.length) : treeB ls t = true := by
  have i := g.inv hL J
  have fl := g.flen
  have pm := perm_of g.nodup g.lt e
  unfold treeB
  rw [Bool.or_eq_true, Bool.and_eq_true, Bool.and_eq_true]
  refine .inr ⟨⟨?_, ?_⟩, ?_⟩
  · rw [count_range, fl, ← (pm.filter _).length_eq, i.top]
    rfl
  · rw [List.all_eq_true]
    intro p hp
    rw [fl] at hp ⊢
    rw [← e]
    exact i.up p (pm.mem_iff.mpr hp)
  · rw [List.all_eq_true]
    intro c hc
    unfold begs
    rw [← (pm.filter _).length_eq, i.beg c]
    · rfl
    · obtain ⟨_, m, hm, hcm⟩ := mem_lets.mp hc
      obtain ⟨p, hp, e2⟩ := List.mem_iff_getElem.mp hm
      refine ⟨p, pm.mem_iff.mpr (List.mem_range.mpr hp), ?_⟩
      show c ∈ ls.getD p []
      rw [List.getD_eq_getElem?_getD, List.getElem?_eq_getElem hp]
      show c ∈ ls[p]
      rw [e2]
      exact hcm
end Kb
set_option Elab.async false
set_option linter.all false
set_option maxRecDepth 100000
set_option maxHeartbeats 2000000
/-! M3: bags by taking letters away, one by one: they hang together. -/
namespace Kb
open PySem L2
abbrev has (c : Int) (m : List Int) : Bool := m.contains c
def bagOf (left : List (List Int)) (c : Int) : List Int := lets (left.filter (has c))
def leftOf (left : List (List Int)) (c : Int) : List (List Int) := left.filter (fun m => !has c m) ++ [(bagOf left c).filter fun d => !([c] : List Int).contains d]
def elim : List (List Int) → List Int → List (List Int)
  | _, [] => []
  | left, c :: order => bagOf left c :: elim (leftOf left c) order
theorem elim_len : ∀ (order : List Int) (left : List (List Int)), (elim left order).length = order.length
  | [], _ => rfl
  | c :: order, left => by
    show (elim (leftOf left c) order).length + 1 = order.length + 1
    rw [elim_len order]
theorem bagOf_lt (left : List (List Int)) (c : Int) : Lt (bagOf left c) := lets_lt _
theorem leftOf_lt {left : List (List Int)} (h : ∀ m ∈ left, Lt m) (c : Int) : ∀ m ∈ leftOf left c, Lt m := fun m hm => by
  rcases List.mem_append.mp hm with hm | hm
  · exact h m (List.mem_filter.mp hm).1
  · rw [List.mem_singleton] at hm
    rw [hm]
    exact (bagOf_lt left c).filter _
theorem elim_lt : ∀ (order : List Int) (left : List (List Int)), ∀ m ∈ elim left order, Lt m
  | [], _, m, h => by cases h
  | c :: order, left, m, h => by
    rcases List.mem_cons.mp h with h | h
    · rw [h]; exact bagOf_lt left c
    · exact elim_lt order _ m h
theorem mem_bagOf {left : List (List Int)} (h : ∀ m ∈ left, Lt m) {c d : Int} : d ∈ bagOf left c ↔ ∃ m ∈ left, c ∈ m ∧ d ∈ m := by
  unfold bagOf
  rw [mem_lets' fun m hm => h m (List.mem_filter.mp hm).1]
  constructor
  · rintro ⟨m, hm, hd⟩
    obtain ⟨h1, h2⟩ := List.mem_filter.mp hm
    exact ⟨m, h1, List.contains_iff_mem.mp h2, hd⟩
  · rintro ⟨m, hm, hc, hd⟩
    exact ⟨m, List.mem_filter.mpr ⟨hm, List.contains_iff_mem.mpr hc⟩, hd⟩
theorem mem_rest {b : List Int} {c d : Int} : d ∈ b.filter (fun d => !([c] : List Int).contains d) ↔ d ∈ b ∧ d ≠ c := by
  rw [List.mem_filter]
  simp
theorem mem_leftOf {left : List (List Int)} {c : Int} {m : List Int} : m ∈ leftOf left c ↔ (m ∈ left ∧ c ∉ m) ∨ m = (bagOf left c).filter fun d => !([c] : List Int).contains d := by
  unfold leftOf
  rw [List.mem_append, List.mem_filter, List.mem_singleton]
  simp [List.contains_iff_mem]
/-- all is from the lots -/
theorem elim_sub : ∀ (order : List Int) {left : List (List Int)}, (∀ m ∈ left, Lt m) → ∀ b ∈ elim left order, ∀ d ∈ b, ∃ m ∈ left, d ∈ m
  | [], _, _, b, h, _, _ => by cases h
  | c :: order, left, hl, b, h, d, hd => by
    rcases List.mem_cons.mp h with h | h
    · subst h
      obtain ⟨m, hm, _, hd⟩ := (mem_bagOf hl).mp hd
      exact ⟨m, hm, hd⟩
    · obtain ⟨m, hm, hd⟩ := elim_sub order (leftOf_lt hl c) b h d hd
      rcases mem_leftOf.mp hm with hm | hm
      · exact ⟨m, hm.1, hd⟩
      · subst hm
        obtain ⟨m, hm, _, hd⟩ := (mem_bagOf hl).mp (mem_rest.mp hd).1
        exact ⟨m, hm, hd⟩
/-- the letter that is taken is met no more -/
theorem left_no {left : List (List Int)} {c : Int} : ∀ m ∈ leftOf left c, c ∉ m := fun m hm h => by
  rcases mem_leftOf.mp hm with hm | hm
  · exact hm.2 h
  · subst hm
    exact (mem_rest.mp h).2 rfl
/-- the letters left are those of the order -/
theorem left_in {left : List (List Int)} (hl : ∀ m ∈ left, Lt m) {c : Int} {order : List Int} (h : ∀ m ∈ left, ∀ d ∈ m, d ∈ c :: order) : ∀ m ∈ leftOf left c, ∀ d ∈ m, d ∈ order := fun m hm d hd => by
  have hne : d ≠ c := fun e => left_no m hm (e ▸ hd)
  have key : d ∈ c :: order := by
    rcases mem_leftOf.mp hm with hm | hm
    · exact h m hm.1 d hd
    · subst hm
      obtain ⟨m, hm, _, hd⟩ := (mem_bagOf hl).mp (mem_rest.mp hd).1
      exact h m hm d hd
  exact (List.mem_cons.mp key).resolve_left hne
/-- each lot lies within a bag -/
theorem elim_cover : ∀ (order : List Int) {left : List (List Int)}, (∀ m ∈ left, Lt m) → (∀ m ∈ left, ∀ d ∈ m, d ∈ order) → ∀ m ∈ left, m ≠ [] → ∃ b ∈ elim left order, ∀ d ∈ m, d ∈ b
  | [], left, hl, h, m, hm, hn => by
    cases m with
    | nil => exact absurd rfl hn
    | cons d m => exact absurd (h _ hm d List.mem_cons_self) List.not_mem_nil
  | c :: order, left, hl, h, m, hm, hn => by
    by_cases q : c ∈ m
    · exact ⟨_, List.mem_cons_self, fun d hd => (mem_bagOf hl).mpr ⟨m, hm, q, hd⟩⟩
    · obtain ⟨b, hb, s⟩ := elim_cover order (leftOf_lt hl c) (left_in hl h) m (mem_leftOf.mpr (.inl ⟨hm, q⟩)) hn
      exact ⟨b, List.mem_cons_of_mem _ hb, s⟩
theorem lo_of_mem {ls : List (List Int)} {m : List Int} (h : m ∈ ls) : ∃ i, i < ls.length ∧ ls.getD i [] = m := by
  obtain ⟨i, hi, e⟩ := List.mem_iff_getElem.mp h
  exact ⟨i, hi, by rw [List.getD_eq_getElem?_getD, List.getElem?_eq_getElem hi]; exact e⟩
theorem mem_of_lo {ls : List (List Int)} {i : Nat} (h : i < ls.length) : ls.getD i [] ∈ ls := by
  rw [List.getD_eq_getElem?_getD, List.getElem?_eq_getElem h]
  exact List.getElem_mem h
/-- one more in front -/
theorem Jo.front {ls : List (List Int)} {b : List Int} {j : Nat} (J : Jo (Lo ls) (· < ls.length)) (hj : j < ls.length) (s : ∀ i c, i < ls.length → c ∈ b → Lo ls i c → Lo ls j c) : Jo (Lo (b :: ls)) (· < (b :: ls).length) := by
  have h1 := J.map (L' := Lo (b :: ls)) (· + 1) (fun i j _ _ h => Nat.succ.inj h) fun i c _ => Iff.rfl
  refine .join (A := (· = 0)) (a := 0) (b := j + 1) (fun i => ?_) (fun i e h => ?_) rfl ⟨j, hj, rfl⟩ (fun i k c hi hk h2 h3 => ?_) (.one 0 fun i => Iff.rfl) h1
  · rw [List.length_cons]
    constructor
    · intro h
      cases i with
      | zero => exact .inl rfl
      | succ i => exact .inr ⟨i, by omega, rfl⟩
    · rintro (rfl | ⟨k, hk, rfl⟩) <;> omega
  · subst e
    obtain ⟨k, _, h⟩ := h
    cases h
  · subst hi
    obtain ⟨k, hk, rfl⟩ := hk
    exact ⟨h2, s k c hk h2 h3⟩
theorem Jo.unit (b : List Int) : Jo (Lo [b]) (· < [b].length) := .one 0 fun i => by rw [List.length_singleton]; omega
theorem elim_jo : ∀ (order : List Int) {left : List (List Int)}, (∀ m ∈ left, Lt m) → (∀ m ∈ left, ∀ d ∈ m, d ∈ order) → order ≠ [] → Jo (Lo (elim left order)) (· < (elim left order).length)
  | [], _, _, _, h => absurd rfl h
  | [c], left, hl, _, _ => Jo.unit _
  | c :: c2 :: order, left, hl, h, _ => by
    have hl' := leftOf_lt hl c
    have hin := left_in hl h
    have ih := elim_jo (c2 :: order) hl' hin (by simp)
    have pos : 0 < (elim (leftOf left c) (c2 :: order)).length := by rw [elim_len, List.length_cons]; omega
    have cross : ∀ i d, i < (elim (leftOf left c) (c2 :: order)).length → d ∈ bagOf left c → Lo (elim (leftOf left c) (c2 :: order)) i d → d ∈ (bagOf left c).filter fun d => !([c] : List Int).contains d := fun i d hi hd h2 => by
      obtain ⟨m, hm, hd2⟩ := elim_sub _ hl' _ (mem_of_lo hi) d h2
      exact mem_rest.mpr ⟨hd, fun e => left_no m hm (e ▸ hd2)⟩
    by_cases q : (bagOf left c).filter (fun d => !([c] : List Int).contains d) = []
    · refine ih.front pos fun i d hi hd h2 => ?_
      have := cross i d hi hd h2
      rw [q] at this
      cases this
    · obtain ⟨b, hb, s⟩ := elim_cover (c2 :: order) hl' hin _ (mem_leftOf.mpr (.inr rfl)) q
      obtain ⟨j, hj, e⟩ := lo_of_mem hb
      refine ih.front hj fun i d hi hd h2 => ?_
      show d ∈ (elim (leftOf left c) (c2 :: order)).getD j []
      rw [e]
      exact s d (cross i d hi hd h2)
/-! ### the greatest alone -/
theorem Jo.lessL {ι κ : Type} {L : ι → κ → Prop} {F : ι → Prop} : ∀ (R : List ι), Jo L F → (∀ r ∈ R, F r → ∃ j, F j ∧ j ∉ R ∧ ∀ c, L r c → L j c) → Jo L (fun i => F i ∧ i ∉ R)
  | [], J, _ => J.congr fun i => ⟨fun h => h.1, fun h => ⟨h, List.not_mem_nil⟩⟩
  | r :: R, J, h => by
    have ih := Jo.lessL R J fun x hx hF => by
      obtain ⟨j, h1, h2, h3⟩ := h x (List.mem_cons_of_mem _ hx) hF
      exact ⟨j, h1, fun z => h2 (List.mem_cons_of_mem _ z), h3⟩
    by_cases q : F r ∧ r ∉ R
    · obtain ⟨j, h1, h2, h3⟩ := h r List.mem_cons_self q.1
      have := ih.less (x := r) (y := j) q ⟨h1, fun z => h2 (List.mem_cons_of_mem _ z)⟩ (fun e => h2 (e ▸ List.mem_cons_self)) h3
      refine this.congr fun i => ?_
      constructor
      · rintro ⟨hF, hn⟩
        exact ⟨⟨hF, fun z => hn (List.mem_cons_of_mem _ z)⟩, fun e => hn (e ▸ List.mem_cons_self)⟩
      · rintro ⟨⟨hF, hn⟩, he⟩
        exact ⟨hF, fun z => (List.mem_cons.mp z).elim he hn⟩
    · refine ih.congr fun i => ?_
      constructor
      · rintro ⟨hF, hn⟩
        exact ⟨hF, fun z => hn (List.mem_cons_of_mem _ z)⟩
      · rintro ⟨hF, hn⟩
        refine ⟨hF, fun z => (List.mem_cons.mp z).elim (fun e => ?_) hn⟩
        subst e
        exact q ⟨hF, hn⟩
/-- some of the values, each other within one of them -/
theorem Jo.pick {ls bs : List (List Int)} (J : Jo (Lo ls) (· < ls.length)) (nd : bs.Nodup) (s : ∀ b ∈ bs, b ∈ ls) (cov : ∀ m ∈ ls, ∃ b ∈ bs, ∀ c ∈ m, c ∈ b) : Jo (Lo bs) (· < bs.length) := by
  let keep : Nat → Bool := fun i => bs.contains (ls.getD i []) && ls.idxOf (ls.getD i []) == i
  have kp : ∀ {i}, keep i = true ↔ ls.getD i [] ∈ bs ∧ ls.idxOf (ls.getD i []) = i := fun {i} => by
    show (bs.contains (ls.getD i []) && ls.idxOf (ls.getD i []) == i) = true ↔ _
    rw [Bool.and_eq_true, List.contains_iff_mem, beq_iff_eq]
  have rep : ∀ b ∈ bs, ls.idxOf b < ls.length ∧ ls.getD (ls.idxOf b) [] = b := fun b hb => by
    have h := List.idxOf_lt_length_of_mem (s b hb)
    refine ⟨h, ?_⟩
    rw [List.getD_eq_getElem?_getD, List.getElem?_eq_getElem h]
    exact List.getElem_idxOf h
  have J1 := J.lessL ((List.range ls.length).filter fun i => !keep i) fun r hr hF => by
    obtain ⟨b, hb, hc⟩ := cov _ (mem_of_lo hF)
    obtain ⟨h1, h2⟩ := rep b hb
    refine ⟨ls.idxOf b, h1, fun z => ?_, fun c h => ?_⟩
    · have := (List.mem_filter.mp z).2
      rw [kp.mpr ⟨by rw [h2]; exact hb, by rw [h2]⟩] at this
      cases this
    · show c ∈ ls.getD (ls.idxOf b) []
      rw [h2]
      exact hc c h
  have J2 : Jo (Lo ls) (fun i => i < ls.length ∧ keep i = true) := J1.congr fun i => by
    constructor
    · rintro ⟨h1, h2⟩
      refine ⟨h1, fun z => ?_⟩
      have := (List.mem_filter.mp z).2
      rw [h2] at this
      cases this
    · rintro ⟨h1, h2⟩
      refine ⟨h1, ?_⟩
      cases q : keep i with
      | true => rfl
      | false => exact absurd (List.mem_filter.mpr ⟨List.mem_range.mpr h1, by rw [q]; rfl⟩) h2
  have at_ : ∀ v ∈ bs, bs.idxOf v < bs.length ∧ bs.getD (bs.idxOf v) [] = v := fun v hv => by
    have h := List.idxOf_lt_length_of_mem hv
    refine ⟨h, ?_⟩
    rw [List.getD_eq_getElem?_getD, List.getElem?_eq_getElem h]
    exact List.getElem_idxOf h
  refine (J2.map (L' := Lo bs) (fun i => bs.idxOf (ls.getD i [])) (fun i j hi hj e => ?_) fun i c hi => ?_).congr fun k => ?_
  · have h1 := kp.mp hi.2
    have h2 := kp.mp hj.2
    have e1 := (at_ _ h1.1).2
    have e2 := (at_ _ h2.1).2
    have e : bs.idxOf (ls.getD i []) = bs.idxOf (ls.getD j []) := e
    have : ls.getD i [] = ls.getD j [] := by rw [← e1, ← e2, e]
    rw [← h1.2, ← h2.2, this]
  · show c ∈ bs.getD (bs.idxOf (ls.getD i [])) [] ↔ c ∈ ls.getD i []
    rw [(at_ _ (kp.mp hi.2).1).2]
  · constructor
    · intro hk
      have hb := mem_of_lo hk
      obtain ⟨h1, h2⟩ := rep _ hb
      refine ⟨ls.idxOf (bs.getD k []), ⟨h1, kp.mpr ⟨by rw [h2]; exact hb, by rw [h2]⟩⟩, ?_⟩
      show bs.idxOf (ls.getD (ls.idxOf (bs.getD k [])) []) = k
      rw [h2, List.getD_eq_getElem?_getD, List.getElem?_eq_getElem hk]
      exact nd.idxOf_getElem k hk
    · rintro ⟨i, hi, rfl⟩
      exact (at_ _ (kp.mp hi.2).1).1
end Kb
set_option Elab.async false
set_option linter.all false
set_option maxRecDepth 100000
set_option maxHeartbeats 2000000
/-! M4: a family that can be folded away hangs together. -/
namespace Kb
open PySem L2
inductive Fo : List (List Int) → List (List Int) → Prop
  | refl (l : List (List Int)) : Fo l l
  | drop {l l' : List (List Int)} {i : Nat} {c : Int} (f : Fo l l') (hi : i < l'.length) (h : ∀ j, j < l'.length → c ∈ l'.getD j [] → j = i) : Fo l (l'.set i ((l'.getD i []).filter fun d => d != c))
  | pop {l l' : List (List Int)} {i j : Nat} (f : Fo l l') (hi : i < l'.length) (hj : j < l'.length) (n : j ≠ i) (h : ∀ c ∈ l'.getD i [], c ∈ l'.getD j []) : Fo l (l'.eraseIdx i)
def Hang (l : List (List Int)) : Prop := l = [] ∨ Jo (Lo l) (· < l.length)
theorem hang_drop {l : List (List Int)} {i : Nat} {c : Int} (hi : i < l.length) (h : ∀ j, j < l.length → c ∈ l.getD j [] → j = i) (k : Hang (l.set i ((l.getD i []).filter fun d => d != c))) : Hang l := by
  rcases k with k | k
  · rw [List.set_eq_nil_iff] at k
    exact .inl k
  · rw [List.length_set] at k
    have at_ : ∀ x d, Lo (l.set i ((l.getD i []).filter fun d => d != c)) x d ↔ Lo l x d ∧ (x = i → d ≠ c) := fun x d => by
      show d ∈ (l.set i _).getD x [] ↔ d ∈ l.getD x [] ∧ _
      by_cases e : x = i
      · subst e
        rw [List.getD_eq_getElem?_getD, List.getElem?_set_self hi]
        show d ∈ (l.getD x []).filter (fun d => d != c) ↔ _
        rw [List.mem_filter]
        simp
      · rw [List.getD_eq_getElem?_getD, List.getElem?_set_ne (Ne.symm e), ← List.getD_eq_getElem?_getD]
        exact ⟨fun z => ⟨z, fun q => absurd q e⟩, fun z => z.1⟩
    refine .inr (k.relet (L' := Lo l) (fun x y d hx hy n h1 h2 => ?_) fun x d hx h1 => ((at_ x d).mp h1).1)
    have nc : d ≠ c := fun e => by
      subst e
      exact n ((h x hx h1).trans (h y hy h2).symm)
    exact ⟨(at_ x d).mpr ⟨h1, fun _ => nc⟩, (at_ y d).mpr ⟨h2, fun _ => nc⟩⟩
theorem hang_pop {l : List (List Int)} {i j : Nat} (hi : i < l.length) (hj : j < l.length) (n : j ≠ i) (h : ∀ c ∈ l.getD i [], c ∈ l.getD j []) (k : Hang (l.eraseIdx i)) : Hang l := by
  have el : (l.eraseIdx i).length = l.length - 1 := by rw [List.length_eraseIdx, if_pos hi]
  rcases k with k | k
  · rw [k, List.length_nil] at el
    omega
  · rw [el] at k
    have h1 := k.map (L' := Lo l) (fun q => if q < i then q else q + 1) (fun a b _ _ e => by
      have e : (if a < i then a else a + 1) = if b < i then b else b + 1 := e
      split at e <;> split at e <;> omega) fun q c hq => by
        show c ∈ l.getD (if q < i then q else q + 1) [] ↔ c ∈ (l.eraseIdx i).getD q []
        rw [List.getD_eq_getElem?_getD, List.getD_eq_getElem?_getD, List.getElem?_eraseIdx]
        split <;> exact Iff.rfl
    have h2 := h1.add (x := i) (y := j) (fun ⟨q, hq, e⟩ => by
      have e : (if q < i then q else q + 1) = i := e
      split at e <;> omega) (by
      by_cases z : j < i
      · exact ⟨j, by omega, if_pos z⟩
      · refine ⟨j - 1, by omega, ?_⟩
        show (if j - 1 < i then j - 1 else j - 1 + 1) = j
        rw [if_neg (by omega)]
        omega) fun c _ _ _ hc => h c hc
    refine .inr (h2.congr fun x => ?_)
    constructor
    · intro hx
      by_cases z : x = i
      · exact .inr z
      · by_cases y : x < i
        · exact .inl ⟨x, by omega, if_pos y⟩
        · refine .inl ⟨x - 1, by omega, ?_⟩
          show (if x - 1 < i then x - 1 else x - 1 + 1) = x
          rw [if_neg (by omega)]
          omega
    · rintro (⟨q, hq, e⟩ | e)
      · have e : (if q < i then q else q + 1) = x := e
        split at e <;> omega
      · omega
theorem hang_short {l : List (List Int)} (h : l.length < 2) : Hang l := by
  cases l with
  | nil => exact .inl rfl
  | cons b r =>
    cases r with
    | nil => exact .inr (Jo.unit b)
    | cons _ _ => rw [List.length_cons, List.length_cons] at h; omega
theorem Fo.hang {l l' : List (List Int)} (f : Fo l l') : Hang l' → Hang l := by
  induction f with
  | refl => exact id
  | drop f hi h ih => exact fun k => ih (hang_drop hi h k)
  | pop f hi hj n h ih => exact fun k => ih (hang_pop hi hj n h k)
end Kb
set_option Elab.async false
set_option linter.all false
set_option maxRecDepth 100000
set_option maxHeartbeats 20000000
/-! M5: graphs on six letters: either all letters can be taken away one by one, each with its neighbours that are left all joined, or some of them stand in a ring. Worked out for every graph. -/
namespace Kb
noncomputable section
def allR (p : Nat → Bool) (l : List Nat) : Bool := List.rec true (fun a _ ih => Bool.rec false ih (p a)) l
def anyR (p : Nat → Bool) (l : List Nat) : Bool := List.rec false (fun a _ ih => Bool.rec ih true (p a)) l
def bt (n k : Nat) : Bool := Nat.beq (Nat.land (Nat.shiftRight n k) 1) 1
abbrev sx : List Nat := [0, 1, 2, 3, 4, 5]
/-- the neighbours of v, as a mask -/
def row (g v : Nat) : Nat := Nat.land (Nat.shiftRight g (Nat.mul 6 v)) 63
/-- v's neighbours among al are all joined -/
def simpM (g al v : Nat) : Bool :=
  allR (fun u => Bool.rec true (Nat.beq (Nat.land (Nat.land (row g v) al) (Nat.lor (row g u) (Nat.shiftLeft 1 u))) (Nat.land (row g v) al)) (bt (Nat.land (row g v) al) u)) sx
def peoM (g : Nat) (fuel : List Nat) : Nat → Bool := List.rec (fun al => Nat.beq al 0) (fun _ _ ih al => anyR (fun v => Bool.rec false (Bool.rec false (ih (Nat.xor al (Nat.shiftLeft 1 v))) (simpM g al v)) (bt al v)) sx) fuel
def bitM (n k m : Nat) : Nat := Nat.mul (Nat.land (Nat.shiftRight n k) 1) m
def gof (n : Nat) : Nat := Nat.lor (bitM n 0 66) (Nat.lor (bitM n 1 4100) (Nat.lor (bitM n 2 262152) (Nat.lor (bitM n 3 16777232) (Nat.lor (bitM n 4 1073741856) (Nat.lor (bitM n 5 8448) (Nat.lor (bitM n 6 524800) (Nat.lor (bitM n 7 33555456) (Nat.lor (bitM n 8 2147485696) (Nat.lor (bitM n 9 1081344) (Nat.lor (bitM n 10 67174400) (Nat.lor (bitM n 11 4295098368) (Nat.lor (bitM n 12 138412032) (Nat.lor (bitM n 13 8598323200) (bitM n 14 17716740096))))))))))))))
/-- two neighbours in W, not joined -/
def twoM (g : Nat) (W : List Nat) (m c : Nat) : Bool := anyR (fun a => anyR (fun b => Bool.rec false (Bool.rec false (Bool.rec true false (bt (row g a) b)) (Nat.beq (Nat.land (row g c) m) (Nat.lor (Nat.shiftLeft 1 a) (Nat.shiftLeft 1 b)))) (Nat.ble (Nat.succ a) b)) W) W
/-- what is met from s on, a step more each time -/
def orM (g s : Nat) (l : List Nat) : Nat := List.rec 0 (fun v _ ih => Nat.lor ih (Bool.rec 0 (row g v) (bt s v))) l
def nextM (g m s : Nat) : Nat := Nat.lor s (Nat.land m (orM g s sx))
def reachM (g m : Nat) (W : List Nat) (s : Nat) : Nat := List.rec s (fun _ _ ih => nextM g m ih) W
def rngM (g : Nat) (W : List Nat) (m : Nat) : Bool := Bool.rec false (Nat.beq (reachM g m W (Nat.shiftLeft 1 (List.rec 0 (fun v _ _ => v) W))) m) (allR (twoM g W m) W)
def masks : List (List Nat × Nat) := [([0, 1, 2, 3], 15), ([0, 1, 2, 4], 23), ([0, 1, 2, 5], 39), ([0, 1, 3, 4], 27), ([0, 1, 3, 5], 43), ([0, 1, 4, 5], 51), ([0, 2, 3, 4], 29), ([0, 2, 3, 5], 45), ([0, 2, 4, 5], 53), ([0, 3, 4, 5], 57), ([1, 2, 3, 4], 30), ([1, 2, 3, 5], 46), ([1, 2, 4, 5], 54), ([1, 3, 4, 5], 58), ([2, 3, 4, 5], 60), ([0, 1, 2, 3, 4], 31), ([0, 1, 2, 3, 5], 47), ([0, 1, 2, 4, 5], 55), ([0, 1, 3, 4, 5], 59), ([0, 2, 3, 4, 5], 61), ([1, 2, 3, 4, 5], 62), ([0, 1, 2, 3, 4, 5], 63)]
def anyW (g : Nat) (l : List (List Nat × Nat)) : Bool := List.rec false (fun a _ ih => Bool.rec ih true (rngM g a.1 a.2)) l
def chkM (n : Nat) : Bool := Nat.rec true (fun k _ => Bool.rec (anyW (Nat.succ k) masks) true (peoM (Nat.succ k) sx 63)) (gof n)
end
end Kb
set_option Elab.async false
set_option linter.all false
set_option maxRecDepth 100000
set_option maxHeartbeats 2000000
/-! M6: what the check of the graphs says. -/
namespace Kb
theorem allR_iff {p : Nat → Bool} : ∀ {l : List Nat}, allR p l = true ↔ ∀ x ∈ l, p x = true
  | [] => ⟨fun _ x h => (by cases h), fun _ => rfl⟩
  | a :: l => by
    show (Bool.rec false (allR p l) (p a) : Bool) = true ↔ _
    cases e : p a with
    | true =>
      show allR p l = true ↔ _
      rw [allR_iff]
      exact ⟨fun h x hx => (List.mem_cons.mp hx).elim (fun z => z ▸ e) (h x), fun h x hx => h x (List.mem_cons_of_mem _ hx)⟩
    | false => exact ⟨fun h => (by cases h), fun h => (by have := h a List.mem_cons_self; rw [e] at this; cases this)⟩
theorem anyR_iff {p : Nat → Bool} : ∀ {l : List Nat}, anyR p l = true ↔ ∃ x ∈ l, p x = true
  | [] => ⟨fun h => (by cases h), fun ⟨_, h, _⟩ => (by cases h)⟩
  | a :: l => by
    show (Bool.rec (anyR p l) true (p a) : Bool) = true ↔ _
    cases e : p a with
    | true => exact ⟨fun _ => ⟨a, List.mem_cons_self, e⟩, fun _ => rfl⟩
    | false =>
      show anyR p l = true ↔ _
      rw [anyR_iff]
      exact ⟨fun ⟨x, h1, h2⟩ => ⟨x, List.mem_cons_of_mem _ h1, h2⟩, fun ⟨x, h1, h2⟩ => (List.mem_cons.mp h1).elim (fun z => (by rw [z, e] at h2; cases h2)) fun z => ⟨x, z, h2⟩⟩
theorem bt_eq (n k : Nat) : bt n k = n.testBit k := by
  show Nat.beq ((n >>> k) &&& 1) 1 = _
  rw [Nat.testBit_eq_decide_div_mod_eq, Nat.and_one_is_mod, Nat.shiftRight_eq_div_pow]
  rcases Nat.mod_two_eq_zero_or_one (n / 2 ^ k) with h | h <;> rw [h] <;> rfl
theorem bitM_tb (n k m i : Nat) : (bitM n k m).testBit i = (m.testBit i && n.testBit k) := by
  show ((((n >>> k) &&& 1) * m)).testBit i = _
  rw [Nat.testBit_eq_decide_div_mod_eq (x := n), Nat.and_one_is_mod, Nat.shiftRight_eq_div_pow]
  rcases Nat.mod_two_eq_zero_or_one (n / 2 ^ k) with h | h
  · rw [h, Nat.zero_mul, Nat.zero_testBit]
    simp
  · rw [h, Nat.one_mul]
    simp
theorem gof_tb (n i : Nat) : (gof n).testBit i = ((Nat.testBit 66 i && n.testBit 0) || ((Nat.testBit 4100 i && n.testBit 1) || ((Nat.testBit 262152 i && n.testBit 2) || ((Nat.testBit 16777232 i && n.testBit 3) || ((Nat.testBit 1073741856 i && n.testBit 4) || ((Nat.testBit 8448 i && n.testBit 5) || ((Nat.testBit 524800 i && n.testBit 6) || ((Nat.testBit 33555456 i && n.testBit 7) || ((Nat.testBit 2147485696 i && n.testBit 8) || ((Nat.testBit 1081344 i && n.testBit 9) || ((Nat.testBit 67174400 i && n.testBit 10) || ((Nat.testBit 4295098368 i && n.testBit 11) || ((Nat.testBit 138412032 i && n.testBit 12) || ((Nat.testBit 8598323200 i && n.testBit 13) || (Nat.testBit 17716740096 i && n.testBit 14))))))))))))))) := by
  show (((bitM n 0 66) ||| (((bitM n 1 4100) ||| (((bitM n 2 262152) ||| (((bitM n 3 16777232) ||| (((bitM n 4 1073741856) ||| (((bitM n 5 8448) ||| (((bitM n 6 524800) ||| (((bitM n 7 33555456) ||| (((bitM n 8 2147485696) ||| (((bitM n 9 1081344) ||| (((bitM n 10 67174400) ||| (((bitM n 11 4295098368) ||| (((bitM n 12 138412032) ||| (((bitM n 13 8598323200) ||| (bitM n 14 17716740096))))))))))))))))))))))))))))).testBit i = _
  rw [Nat.testBit_or, Nat.testBit_or, Nat.testBit_or, Nat.testBit_or, Nat.testBit_or, Nat.testBit_or, Nat.testBit_or, Nat.testBit_or, Nat.testBit_or, Nat.testBit_or, Nat.testBit_or, Nat.testBit_or, Nat.testBit_or, Nat.testBit_or, bitM_tb, bitM_tb, bitM_tb, bitM_tb, bitM_tb, bitM_tb, bitM_tb, bitM_tb, bitM_tb, bitM_tb, bitM_tb, bitM_tb, bitM_tb, bitM_tb, bitM_tb]
def ixp : Nat → Nat → Nat
  | 0, 1 => 0
  | 0, 2 => 1
  | 0, 3 => 2
  | 0, 4 => 3
  | 0, 5 => 4
  | 1, 0 => 0
  | 1, 2 => 5
  | 1, 3 => 6
  | 1, 4 => 7
  | 1, 5 => 8
  | 2, 0 => 1
  | 2, 1 => 5
  | 2, 3 => 9
  | 2, 4 => 10
  | 2, 5 => 11
  | 3, 0 => 2
  | 3, 1 => 6
  | 3, 2 => 9
  | 3, 4 => 12
  | 3, 5 => 13
  | 4, 0 => 3
  | 4, 1 => 7
  | 4, 2 => 10
  | 4, 3 => 12
  | 4, 5 => 14
  | 5, 0 => 4
  | 5, 1 => 8
  | 5, 2 => 11
  | 5, 3 => 13
  | 5, 4 => 14
  | _, _ => 15
theorem gof_at (n : Nat) : ∀ v u : Nat, v < 6 → u < 6 → (gof n).testBit (6 * v + u) = (v != u && n.testBit (ixp v u))
  | 0, 0, _, _ => (gof_tb n 0).trans (rfl)
  | 0, 1, _, _ => (gof_tb n 1).trans (Bool.or_false _)
  | 0, 2, _, _ => (gof_tb n 2).trans (Bool.or_false _)
  | 0, 3, _, _ => (gof_tb n 3).trans (Bool.or_false _)
  | 0, 4, _, _ => (gof_tb n 4).trans (Bool.or_false _)
  | 0, 5, _, _ => (gof_tb n 5).trans (Bool.or_false _)
  | 1, 0, _, _ => (gof_tb n 6).trans (Bool.or_false _)
  | 1, 1, _, _ => (gof_tb n 7).trans (rfl)
  | 1, 2, _, _ => (gof_tb n 8).trans (Bool.or_false _)
  | 1, 3, _, _ => (gof_tb n 9).trans (Bool.or_false _)
  | 1, 4, _, _ => (gof_tb n 10).trans (Bool.or_false _)
  | 1, 5, _, _ => (gof_tb n 11).trans (Bool.or_false _)
  | 2, 0, _, _ => (gof_tb n 12).trans (Bool.or_false _)
  | 2, 1, _, _ => (gof_tb n 13).trans (Bool.or_false _)
  | 2, 2, _, _ => (gof_tb n 14).trans (rfl)
  | 2, 3, _, _ => (gof_tb n 15).trans (Bool.or_false _)
  | 2, 4, _, _ => (gof_tb n 16).trans (Bool.or_false _)
  | 2, 5, _, _ => (gof_tb n 17).trans (Bool.or_false _)
  | 3, 0, _, _ => (gof_tb n 18).trans (Bool.or_false _)
  | 3, 1, _, _ => (gof_tb n 19).trans (Bool.or_false _)
  | 3, 2, _, _ => (gof_tb n 20).trans (Bool.or_false _)
  | 3, 3, _, _ => (gof_tb n 21).trans (rfl)
  | 3, 4, _, _ => (gof_tb n 22).trans (Bool.or_false _)
  | 3, 5, _, _ => (gof_tb n 23).trans (Bool.or_false _)
  | 4, 0, _, _ => (gof_tb n 24).trans (Bool.or_false _)
  | 4, 1, _, _ => (gof_tb n 25).trans (Bool.or_false _)
  | 4, 2, _, _ => (gof_tb n 26).trans (Bool.or_false _)
  | 4, 3, _, _ => (gof_tb n 27).trans (Bool.or_false _)
  | 4, 4, _, _ => (gof_tb n 28).trans (rfl)
  | 4, 5, _, _ => (gof_tb n 29).trans (rfl)
  | 5, 0, _, _ => (gof_tb n 30).trans (Bool.or_false _)
  | 5, 1, _, _ => (gof_tb n 31).trans (Bool.or_false _)
  | 5, 2, _, _ => (gof_tb n 32).trans (Bool.or_false _)
  | 5, 3, _, _ => (gof_tb n 33).trans (Bool.or_false _)
  | 5, 4, _, _ => (gof_tb n 34).trans (rfl)
  | 5, 5, _, _ => (gof_tb n 35).trans (rfl)
  | v + 6, _, h, _ => absurd h (by omega)
  | _, u + 6, _, h => absurd h (by omega)
theorem row_at (g v u : Nat) (h : u < 6) : (row g v).testBit u = g.testBit (6 * v + u) := by
  show ((g >>> (6 * v)) &&& 63).testBit u = _
  rw [Nat.testBit_and, Nat.testBit_shiftRight]
  have e : ∀ u, u < 6 → Nat.testBit 63 u = true := by decide
  rw [e u h, Bool.and_true]
theorem bits_of (f : Nat → Bool) : ∀ k : Nat, ∀ f : Nat → Bool, ∃ n, n < 2 ^ k ∧ ∀ i, i < k → n.testBit i = f i
  | 0, _ => ⟨0, by decide, fun i h => absurd h (by omega)⟩
  | k + 1, f => by
    obtain ⟨n, h1, h2⟩ := bits_of f k fun i => f (i + 1)
    refine ⟨2 * n + (f 0).toNat, ?_, fun i hi => ?_⟩
    · have : (f 0).toNat ≤ 1 := by cases f 0 <;> decide
      rw [Nat.pow_succ]
      omega
    · cases i with
      | zero =>
        rw [Nat.testBit_zero]
        cases f 0 with
        | true => exact decide_eq_true (by show (2 * n + 1) % 2 = 1; omega)
        | false => exact decide_eq_false (by show ¬ (2 * n + 0) % 2 = 1; omega)
      | succ i =>
        rw [Nat.testBit_succ]
        have e : (2 * n + (f 0).toNat) / 2 = n := by
          have : (f 0).toNat ≤ 1 := by cases f 0 <;> decide
          omega
        rw [e]
        exact h2 i (by omega)
/-- taken away one by one -/
inductive Po (e : Nat → Nat → Bool) : List Nat → Prop
  | nil : Po e []
  | cons {v : Nat} {l : List Nat} (h : ∀ u ∈ l, ∀ w ∈ l, e v u = true → e v w = true → u ≠ w → e u w = true) (p : Po e l) : Po e (v :: l)
theorem one_tb (v u : Nat) : (Nat.shiftLeft 1 v).testBit u = decide (v = u) := by
  show (1 <<< v).testBit u = _
  rw [Nat.one_shiftLeft, Nat.testBit_two_pow]
theorem simp_of {e : Nat → Nat → Bool} {g al v : Nat} (hg : ∀ v u, v < 6 → u < 6 → (row g v).testBit u = e v u) (hv : v < 6) (h : simpM g al v = true) {u w : Nat} (hu : u < 6) (hw : w < 6) (au : al.testBit u = true) (aw : al.testBit w = true) (h1 : e v u = true) (h2 : e v w = true) (n : u ≠ w) : e u w = true := by
  have nb : ∀ x, x < 6 → al.testBit x = true → e v x = true → (Nat.land (row g v) al).testBit x = true := fun x hx hax hvx => by
    show (row g v &&& al).testBit x = true
    rw [Nat.testBit_and, hg v x hv hx, hvx, hax]
    rfl
  have six : ∀ x, x < 6 → x ∈ sx := by decide
  have z := allR_iff.mp h u (six u hu)
  have bu : bt (Nat.land (row g v) al) u = true := by rw [bt_eq]; exact nb u hu au h1
  rw [bu] at z
  have z : Nat.beq (Nat.land (Nat.land (row g v) al) (Nat.lor (row g u) (Nat.shiftLeft 1 u))) (Nat.land (row g v) al) = true := z
  have z := Nat.eq_of_beq_eq_true z
  have y := nb w hw aw h2
  rw [← z] at y
  have y : ((Nat.land (row g v) al) &&& (row g u ||| Nat.shiftLeft 1 u)).testBit w = true := y
  rw [Nat.testBit_and, Nat.testBit_or, Bool.and_eq_true, Bool.or_eq_true, hg u w hu hw, one_tb, decide_eq_true_eq] at y
  exact y.2.resolve_right n
theorem peo_order {e : Nat → Nat → Bool} {g : Nat} (hg : ∀ v u, v < 6 → u < 6 → (row g v).testBit u = e v u) : ∀ (fuel : List Nat) (al : Nat), peoM g fuel al = true → ∃ l : List Nat, Po e l ∧ l.Nodup ∧ ∀ v, v ∈ l ↔ v < 6 ∧ al.testBit v = true
  | [], al, h => by
    have h : Nat.beq al 0 = true := h
    have h : al = 0 := Nat.eq_of_beq_eq_true h
    subst h
    exact ⟨[], .nil, .nil, fun v => ⟨fun h => (by cases h), fun h => (by rw [Nat.zero_testBit] at h; cases h.2)⟩⟩
  | f :: fuel, al, h => by
    have h : anyR (fun v => Bool.rec false (Bool.rec false (peoM g fuel (Nat.xor al (Nat.shiftLeft 1 v))) (simpM g al v)) (bt al v)) sx = true := h
    obtain ⟨v, hv, h⟩ := anyR_iff.mp h
    have hv6 : v < 6 := (show ∀ v ∈ sx, v < 6 by decide) v hv
    cases e1 : bt al v with
    | false => rw [e1] at h; cases h
    | true =>
    cases e2 : simpM g al v with
    | false => rw [e1, e2] at h; cases h
    | true =>
    rw [e1, e2] at h
    have h : peoM g fuel (Nat.xor al (Nat.shiftLeft 1 v)) = true := h
    rw [bt_eq] at e1
    obtain ⟨l, p1, p2, p3⟩ := peo_order hg fuel _ h
    have bx : ∀ u, (Nat.xor al (Nat.shiftLeft 1 v)).testBit u = true ↔ al.testBit u = true ∧ u ≠ v := fun u => by
      show (al ^^^ Nat.shiftLeft 1 v).testBit u = true ↔ _
      rw [Nat.testBit_xor, one_tb]
      by_cases q : v = u
      · subst q
        rw [e1, decide_eq_true rfl]
        simp
      · rw [decide_eq_false q, Bool.xor_false]
        exact ⟨fun z => ⟨z, Ne.symm q⟩, fun z => z.1⟩
    refine ⟨v :: l, .cons (fun u hu w hw h1 h2 n => ?_) p1, List.nodup_cons.mpr ⟨fun z => ((bx v).mp ((p3 v).mp z).2).2 rfl, p2⟩, fun u => ?_⟩
    · have yu := (p3 u).mp hu
      have yw := (p3 w).mp hw
      exact simp_of hg hv6 e2 yu.1 yw.1 ((bx u).mp yu.2).1 ((bx w).mp yw.2).1 h1 h2 n
    · rw [List.mem_cons, p3, bx]
      constructor
      · rintro (rfl | h)
        · exact ⟨hv6, e1⟩
        · exact ⟨h.1, h.2.1⟩
      · rintro ⟨h1, h2⟩
        by_cases q : u = v
        · exact .inl q
        · exact .inr ⟨h1, h2, q⟩
/-- some stand in a ring: each has two neighbours among them, these two not joined; all are met from the first on -/
structure Ring (e : Nat → Nat → Bool) (W : List Nat) : Prop where
  six : ∀ c ∈ W, c < 6
  up : W.Pairwise (· < ·)
  len : 3 < W.length
  two : ∀ c ∈ W, ∃ a ∈ W, ∃ b ∈ W, a < b ∧ e a b = false ∧ ∀ x ∈ W, e c x = true ↔ x = a ∨ x = b
/-- a step on from those met -/
def grow1 (e : Nat → Nat → Bool) (W : List Nat) (G : List Nat) : List Nat := W.filter fun x => G.contains x || G.any fun v => e v x
def growN (e : Nat → Nat → Bool) (W : List Nat) : Nat → List Nat → List Nat
  | 0, G => G
  | k + 1, G => grow1 e W (growN e W k G)
theorem mem_grow1 {e : Nat → Nat → Bool} {W G : List Nat} {x : Nat} : x ∈ grow1 e W G ↔ x ∈ W ∧ (x ∈ G ∨ ∃ v ∈ G, e v x = true) := by
  unfold grow1
  rw [List.mem_filter, Bool.or_eq_true, List.contains_iff_mem, List.any_eq_true]
theorem fold_tb (g s x : Nat) : ∀ l : List Nat, (orM g s l).testBit x = l.any fun v => s.testBit v && (row g v).testBit x
  | [] => by
    show Nat.testBit 0 x = false
    rw [Nat.zero_testBit]
  | v :: l => by
    have ih := fold_tb g s x l
    show ((orM g s l) ||| (Bool.rec 0 (row g v) (bt s v) : Nat)).testBit x = _
    rw [Nat.testBit_or, ih, List.any_cons, Bool.or_comm, bt_eq]
    cases s.testBit v with
    | true => rw [Bool.true_and]
    | false =>
      show (Nat.testBit 0 x || _) = _
      rw [Nat.zero_testBit, Bool.false_and]
theorem next_tb {e : Nat → Nat → Bool} {g : Nat} (hg : ∀ v u, v < 6 → u < 6 → (row g v).testBit u = e v u) {m s x : Nat} (hx : x < 6) : (nextM g m s).testBit x = true ↔ s.testBit x = true ∨ (m.testBit x = true ∧ ∃ v, v < 6 ∧ s.testBit v = true ∧ e v x = true) := by
  show (s ||| (m &&& (orM g s sx))).testBit x = true ↔ _
  rw [Nat.testBit_or, Nat.testBit_and, fold_tb, Bool.or_eq_true, Bool.and_eq_true, List.any_eq_true]
  have six : ∀ v, v ∈ sx ↔ v < 6 := fun v => ⟨(show ∀ v ∈ sx, v < 6 by decide) v, (show ∀ v, v < 6 → v ∈ sx by decide) v⟩
  constructor
  · rintro (h | ⟨h1, v, h2, h3⟩)
    · exact .inl h
    · rw [Bool.and_eq_true, hg v x ((six v).mp h2) hx] at h3
      exact .inr ⟨h1, v, (six v).mp h2, h3⟩
  · rintro (h | ⟨h1, v, h2, h3, h4⟩)
    · exact .inl h
    · exact .inr ⟨h1, v, (six v).mpr h2, by rw [Bool.and_eq_true, hg v x h2 hx]; exact ⟨h3, h4⟩⟩
theorem masks_ok : ∀ a ∈ masks, (∀ v, v < 6 → (a.2.testBit v = true ↔ v ∈ a.1)) ∧ (∀ c ∈ a.1, c < 6) ∧ a.1.Pairwise (· < ·) ∧ 3 < a.1.length := by decide
theorem ring_of {e : Nat → Nat → Bool} {g : Nat} (hg : ∀ v u, v < 6 → u < 6 → (row g v).testBit u = e v u) {W : List Nat} {m : Nat} (hm : (W, m) ∈ masks) (h : rngM g W m = true) : Ring e W ∧ ∀ x ∈ W, x ∈ growN e W W.length (W.take 1) := by
  obtain ⟨k1, k2, k3, k4⟩ := masks_ok _ hm
  have k1 : ∀ v, v < 6 → (m.testBit v = true ↔ v ∈ W) := k1
  have k2 : ∀ c ∈ W, c < 6 := k2
  have k4 : 3 < W.length := k4
  have h : (Bool.rec false (Nat.beq (reachM g m W (Nat.shiftLeft 1 (List.rec 0 (fun v _ _ => v) W))) m) (allR (twoM g W m) W) : Bool) = true := h
  cases e1 : allR (twoM g W m) W with
  | false => rw [e1] at h; cases h
  | true =>
  rw [e1] at h
  have h : Nat.beq (reachM g m W (Nat.shiftLeft 1 (List.rec 0 (fun v _ _ => v) W))) m = true := h
  have h := Nat.eq_of_beq_eq_true h
  refine ⟨⟨k2, k3, k4, fun c hc => ?_⟩, fun x hx => ?_⟩
  · have z := allR_iff.mp e1 c hc
    obtain ⟨a, ha, z⟩ := anyR_iff.mp z
    obtain ⟨b, hb, z⟩ := anyR_iff.mp z
    cases q1 : Nat.ble (Nat.succ a) b with
    | false => rw [q1] at z; cases z
    | true =>
    cases q2 : Nat.beq (Nat.land (row g c) m) (Nat.lor (Nat.shiftLeft 1 a) (Nat.shiftLeft 1 b)) with
    | false => rw [q1, q2] at z; cases z
    | true =>
    cases q3 : bt (row g a) b with
    | true => rw [q1, q2, q3] at z; cases z
    | false =>
    refine ⟨a, ha, b, hb, Nat.le_of_ble_eq_true q1, ?_, fun x hx => ?_⟩
    · rw [← hg a b (k2 a ha) (k2 b hb), ← bt_eq]; exact q3
    · have q2 := Nat.eq_of_beq_eq_true q2
      have t : (row g c &&& m).testBit x = (Nat.shiftLeft 1 a ||| Nat.shiftLeft 1 b).testBit x := congrArg (fun n => Nat.testBit n x) q2
      rw [Nat.testBit_and, Nat.testBit_or, one_tb, one_tb, hg c x (k2 c hc) (k2 x hx), (k1 x (k2 x hx)).mpr hx, Bool.and_true] at t
      rw [t, Bool.or_eq_true, decide_eq_true_eq, decide_eq_true_eq]
      exact ⟨fun z => z.imp Eq.symm Eq.symm, fun z => z.imp Eq.symm Eq.symm⟩
  · cases W with
    | nil => cases hx
    | cons c0 W' =>
      have key : ∀ (l : List Nat) (x : Nat), x < 6 → ((List.rec (motive := fun _ => Nat) (Nat.shiftLeft 1 c0) (fun _ _ ih => nextM g m ih) l : Nat).testBit x = true ↔ x ∈ growN e (c0 :: W') l.length [c0]) := by
        intro l
        induction l with
        | nil =>
          intro x hx
          show (Nat.shiftLeft 1 c0).testBit x = true ↔ x ∈ [c0]
          rw [one_tb, decide_eq_true_eq, List.mem_singleton, eq_comm]
        | cons y l ih =>
          intro x hx
          show (nextM g m _).testBit x = true ↔ x ∈ grow1 e (c0 :: W') (growN e (c0 :: W') l.length [c0])
          have sub : ∀ k y, y ∈ growN e (c0 :: W') k [c0] → y ∈ c0 :: W' := by
            intro k y hy
            cases k with
            | zero => exact List.mem_cons.mpr (.inl (List.mem_singleton.mp hy))
            | succ k => exact (mem_grow1.mp hy).1
          rw [next_tb hg hx, mem_grow1, ih x hx, k1 x hx]
          constructor
          · rintro (h | ⟨h1, v, h2, h3, h4⟩)
            · exact ⟨sub _ _ h, .inl h⟩
            · exact ⟨h1, .inr ⟨v, (ih v h2).mp h3, h4⟩⟩
          · rintro ⟨h1, h | ⟨v, h2, h3⟩⟩
            · exact .inl h
            · exact .inr ⟨h1, v, k2 v (sub _ _ h2), (ih v (k2 v (sub _ _ h2))).mpr h2, h3⟩
      have h : (List.rec (motive := fun _ => Nat) (Nat.shiftLeft 1 c0) (fun _ _ ih => nextM g m ih) (c0 :: W') : Nat) = m := h
      have z := (key (c0 :: W') x (k2 x hx)).mp (by rw [h]; exact (k1 x (k2 x hx)).mpr hx)
      exact z
/-- the one or the other -/
theorem graph_cases {e : Nat → Nat → Bool} {n : Nat} (h : chkM n = true) (hg : ∀ v u, v < 6 → u < 6 → (gof n).testBit (6 * v + u) = e v u) : (∃ l, Po e l ∧ l.Nodup ∧ ∀ v, v ∈ l ↔ v < 6) ∨ ∃ W, Ring e W ∧ ∀ x ∈ W, x ∈ growN e W W.length (W.take 1) := by
  have hr : ∀ v u, v < 6 → u < 6 → (row (gof n) v).testBit u = e v u := fun v u hv hu => by rw [row_at _ _ _ hu]; exact hg v u hv hu
  have al : ∀ v, v < 6 → Nat.testBit 63 v = true := by decide
  have done : peoM (gof n) sx 63 = true → ∃ l, Po e l ∧ l.Nodup ∧ ∀ v, v ∈ l ↔ v < 6 := fun z => by
    obtain ⟨l, p1, p2, p3⟩ := peo_order hr _ _ z
    exact ⟨l, p1, p2, fun v => (p3 v).trans ⟨fun z => z.1, fun z => ⟨z, al v z⟩⟩⟩
  have h : (Nat.rec true (fun k _ => Bool.rec (anyW (Nat.succ k) masks) true (peoM (Nat.succ k) sx 63)) (gof n) : Bool) = true := h
  cases q : gof n with
  | zero =>
    refine .inl (done ?_)
    rw [q]
    decide +kernel
  | succ k =>
    rw [q] at h
    have h : (Bool.rec (anyW (Nat.succ k) masks) true (peoM (Nat.succ k) sx 63) : Bool) = true := h
    cases q2 : peoM (Nat.succ k) sx 63 with
    | true => exact .inl (done (by rw [q]; exact q2))
    | false =>
      rw [q2] at h
      have h : anyW (Nat.succ k) masks = true := h
      have key : ∀ l : List (List Nat × Nat), anyW (Nat.succ k) l = true → ∃ a ∈ l, rngM (Nat.succ k) a.1 a.2 = true := by
        intro l
        induction l with
        | nil => intro z; cases z
        | cons a l ih =>
          intro z
          have z : (Bool.rec (anyW (Nat.succ k) l) true (rngM (Nat.succ k) a.1 a.2) : Bool) = true := z
          cases q3 : rngM (Nat.succ k) a.1 a.2 with
          | true => exact ⟨a, List.mem_cons_self, q3⟩
          | false =>
            rw [q3] at z
            obtain ⟨b, hb, h⟩ := ih z
            exact ⟨b, List.mem_cons_of_mem _ hb, h⟩
      obtain ⟨⟨W, m⟩, hm, hr2⟩ := key _ h
      exact .inr ⟨W, ring_of hr hm (by rw [q]; exact hr2)⟩
/-- every graph on six has a number -/
theorem num_of (e : Nat → Nat → Bool) (sy : ∀ v u, e v u = e u v) (ir : ∀ v, e v v = false) : ∃ n, n < 32768 ∧ ∀ v u, v < 6 → u < 6 → (gof n).testBit (6 * v + u) = e v u := by
  have inv : ∃ f : Nat → Bool, ∀ v u, v < 6 → u < 6 → v ≠ u → ixp v u < 15 ∧ f (ixp v u) = e v u := by
    refine ⟨fun k => match k with
      | 0 => e 0 1
      | 1 => e 0 2
      | 2 => e 0 3
      | 3 => e 0 4
      | 4 => e 0 5
      | 5 => e 1 2
      | 6 => e 1 3
      | 7 => e 1 4
      | 8 => e 1 5
      | 9 => e 2 3
      | 10 => e 2 4
      | 11 => e 2 5
      | 12 => e 3 4
      | 13 => e 3 5
      | 14 => e 4 5
      | _ => false, ?_⟩
    intro v u hv hu n
    match v, u, hv, hu, n with
    | 0, 0, _, _, n => exact absurd rfl n
    | 0, 1, _, _, _ => exact ⟨by decide, rfl⟩
    | 0, 2, _, _, _ => exact ⟨by decide, rfl⟩
    | 0, 3, _, _, _ => exact ⟨by decide, rfl⟩
    | 0, 4, _, _, _ => exact ⟨by decide, rfl⟩
    | 0, 5, _, _, _ => exact ⟨by decide, rfl⟩
    | 1, 0, _, _, _ => exact ⟨by decide, sy 0 1⟩
    | 1, 1, _, _, n => exact absurd rfl n
    | 1, 2, _, _, _ => exact ⟨by decide, rfl⟩
    | 1, 3, _, _, _ => exact ⟨by decide, rfl⟩
    | 1, 4, _, _, _ => exact ⟨by decide, rfl⟩
    | 1, 5, _, _, _ => exact ⟨by decide, rfl⟩
    | 2, 0, _, _, _ => exact ⟨by decide, sy 0 2⟩
    | 2, 1, _, _, _ => exact ⟨by decide, sy 1 2⟩
    | 2, 2, _, _, n => exact absurd rfl n
    | 2, 3, _, _, _ => exact ⟨by decide, rfl⟩
    | 2, 4, _, _, _ => exact ⟨by decide, rfl⟩
    | 2, 5, _, _, _ => exact ⟨by decide, rfl⟩
    | 3, 0, _, _, _ => exact ⟨by decide, sy 0 3⟩
    | 3, 1, _, _, _ => exact ⟨by decide, sy 1 3⟩
    | 3, 2, _, _, _ => exact ⟨by decide, sy 2 3⟩
    | 3, 3, _, _, n => exact absurd rfl n
    | 3, 4, _, _, _ => exact ⟨by decide, rfl⟩
    | 3, 5, _, _, _ => exact ⟨by decide, rfl⟩
    | 4, 0, _, _, _ => exact ⟨by decide, sy 0 4⟩
    | 4, 1, _, _, _ => exact ⟨by decide, sy 1 4⟩
    | 4, 2, _, _, _ => exact ⟨by decide, sy 2 4⟩
    | 4, 3, _, _, _ => exact ⟨by decide, sy 3 4⟩
    | 4, 4, _, _, n => exact absurd rfl n
    | 4, 5, _, _, _ => exact ⟨by decide, rfl⟩
    | 5, 0, _, _, _ => exact ⟨by decide, sy 0 5⟩
    | 5, 1, _, _, _ => exact ⟨by decide, sy 1 5⟩
    | 5, 2, _, _, _ => exact ⟨by decide, sy 2 5⟩
    | 5, 3, _, _, _ => exact ⟨by decide, sy 3 5⟩
    | 5, 4, _, _, _ => exact ⟨by decide, sy 4 5⟩
    | 5, 5, _, _, n => exact absurd rfl n
    | v + 6, _, h, _, _ => exact absurd h (by omega)
    | _, u + 6, _, h, _ => exact absurd h (by omega)
  obtain ⟨f, hf⟩ := inv
  obtain ⟨n, h1, h2⟩ := bits_of f 15 f
  refine ⟨n, h1, fun v u hv hu => ?_⟩
  rw [gof_at n v u hv hu]
  by_cases q : v = u
  · subst q
    rw [ir]
    simp
  · obtain ⟨z1, z2⟩ := hf v u hv hu q
    rw [h2 _ z1, z2]
    simp [q]
end Kb
set_option Elab.async false
set_option linter.all false
set_option maxRecDepth 100000
set_option maxHeartbeats 20000000
/-! M7: the check, for every graph. -/
namespace Kb
theorem ck0 : allR (fun i => chkM (Nat.add 0 i)) (List.range 1024) = true := by decide +kernel
theorem ck1 : allR (fun i => chkM (Nat.add 1024 i)) (List.range 1024) = true := by decide +kernel
theorem ck2 : allR (fun i => chkM (Nat.add 2048 i)) (List.range 1024) = true := by decide +kernel
theorem ck3 : allR (fun i => chkM (Nat.add 3072 i)) (List.range 1024) = true := by decide +kernel
theorem ck4 : allR (fun i => chkM (Nat.add 4096 i)) (List.range 1024) = true := by decide +kernel
theorem ck5 : allR (fun i => chkM (Nat.add 5120 i)) (List.range 1024) = true := by decide +kernel
theorem ck6 : allR (fun i => chkM (Nat.add 6144 i)) (List.range 1024) = true := by decide +kernel
theorem ck7 : allR (fun i => chkM (Nat.add 7168 i)) (List.range 1024) = true := by decide +kernel
theorem ck8 : allR (fun i => chkM (Nat.add 8192 i)) (List.range 1024) = true := by decide +kernel
theorem ck9 : allR (fun i => chkM (Nat.add 9216 i)) (List.range 1024) = true := by decide +kernel
theorem ck10 : allR (fun i => chkM (Nat.add 10240 i)) (List.range 1024) = true := by decide +kernel
theorem ck11 : allR (fun i => chkM (Nat.add 11264 i)) (List.range 1024) = true := by decide +kernel
theorem ck12 : allR (fun i => chkM (Nat.add 12288 i)) (List.range 1024) = true := by decide +kernel
theorem ck13 : allR (fun i => chkM (Nat.add 13312 i)) (List.range 1024) = true := by decide +kernel
theorem ck14 : allR (fun i => chkM (Nat.add 14336 i)) (List.range 1024) = true := by decide +kernel
theorem ck15 : allR (fun i => chkM (Nat.add 15360 i)) (List.range 1024) = true := by decide +kernel
theorem ck16 : allR (fun i => chkM (Nat.add 16384 i)) (List.range 1024) = true := by decide +kernel
theorem ck17 : allR (fun i => chkM (Nat.add 17408 i)) (List.range 1024) = true := by decide +kernel
theorem ck18 : allR (fun i => chkM (Nat.add 18432 i)) (List.range 1024) = true := by decide +kernel
theorem ck19 : allR (fun i => chkM (Nat.add 19456 i)) (List.range 1024) = true := by decide +kernel
theorem ck20 : allR (fun i => chkM (Nat.add 20480 i)) (List.range 1024) = true := by decide +kernel
theorem ck21 : allR (fun i => chkM (Nat.add 21504 i)) (List.range 1024) = true := by decide +kernel
theorem ck22 : allR (fun i => chkM (Nat.add 22528 i)) (List.range 1024) = true := by decide +kernel
theorem ck23 : allR (fun i => chkM (Nat.add 23552 i)) (List.range 1024) = true := by decide +kernel
theorem ck24 : allR (fun i => chkM (Nat.add 24576 i)) (List.range 1024) = true := by decide +kernel
theorem ck25 : allR (fun i => chkM (Nat.add 25600 i)) (List.range 1024) = true := by decide +kernel
theorem ck26 : allR (fun i => chkM (Nat.add 26624 i)) (List.range 1024) = true := by decide +kernel
theorem ck27 : allR (fun i => chkM (Nat.add 27648 i)) (List.range 1024) = true := by decide +kernel
theorem ck28 : allR (fun i => chkM (Nat.add 28672 i)) (List.range 1024) = true := by decide +kernel
theorem ck29 : allR (fun i => chkM (Nat.add 29696 i)) (List.range 1024) = true := by decide +kernel
theorem ck30 : allR (fun i => chkM (Nat.add 30720 i)) (List.range 1024) = true := by decide +kernel
theorem ck31 : allR (fun i => chkM (Nat.add 31744 i)) (List.range 1024) = true := by decide +kernel
theorem chk_all (n : Nat) (h : n < 32768) : chkM n = true := by
  have key : ∀ k, k < 32 → allR (fun i => chkM (Nat.add (1024 * k) i)) (List.range 1024) = true
    | 0, _ => ck0
    | 1, _ => ck1
    | 2, _ => ck2
    | 3, _ => ck3
    | 4, _ => ck4
    | 5, _ => ck5
    | 6, _ => ck6
    | 7, _ => ck7
    | 8, _ => ck8
    | 9, _ => ck9
    | 10, _ => ck10
    | 11, _ => ck11
    | 12, _ => ck12
    | 13, _ => ck13
    | 14, _ => ck14
    | 15, _ => ck15
    | 16, _ => ck16
    | 17, _ => ck17
    | 18, _ => ck18
    | 19, _ => ck19
    | 20, _ => ck20
    | 21, _ => ck21
    | 22, _ => ck22
    | 23, _ => ck23
    | 24, _ => ck24
    | 25, _ => ck25
    | 26, _ => ck26
    | 27, _ => ck27
    | 28, _ => ck28
    | 29, _ => ck29
    | 30, _ => ck30
    | 31, _ => ck31
    | k + 32, h => absurd h (by omega)
  have z := allR_iff.mp (key (n / 1024) (by omega)) (n % 1024) (List.mem_range.mpr (Nat.mod_lt _ (by decide)))
  have e : Nat.add (1024 * (n / 1024)) (n % 1024) = n := Nat.div_add_mod n 1024
  rw [e] at z
  exact z
end Kb
set_option Elab.async false
set_option linter.all false
set_option maxRecDepth 100000
set_option maxHeartbeats 2000000
/-! M8: lots that do not hang together have a stuck lot: first, an elimination order with every clique within a lot makes them hang together. -/
namespace Kb
open PySem L2
/-- two letters stand together in a lot -/
def tog (ls : List (List Int)) (c d : Nat) : Bool := c != d && ls.any fun m => m.contains (c : Int) && m.contains (d : Int)
theorem tog_iff {ls : List (List Int)} {c d : Nat} : tog ls c d = true ↔ c ≠ d ∧ ∃ m ∈ ls, (c : Int) ∈ m ∧ (d : Int) ∈ m := by
  unfold tog
  rw [Bool.and_eq_true, bne_iff_ne, List.any_eq_true]
  simp only [Bool.and_eq_true, List.contains_iff_mem]
theorem tog_sy (ls : List (List Int)) (c d : Nat) : tog ls c d = tog ls d c := by
  rw [Bool.eq_iff_iff, tog_iff, tog_iff]
  exact ⟨fun ⟨h, m, h1, h2, h3⟩ => ⟨Ne.symm h, m, h1, h3, h2⟩, fun ⟨h, m, h1, h2, h3⟩ => ⟨Ne.symm h, m, h1, h3, h2⟩⟩
theorem tog_ir (ls : List (List Int)) (c : Nat) : tog ls c c = false := by
  unfold tog
  simp
/-- a set of letters, each two joined -/
def Clq (e : Nat → Nat → Bool) (K : List Int) : Prop := ∀ c d : Nat, (c : Int) ∈ K → (d : Int) ∈ K → c ≠ d → e c d = true
/-- the first letter with its neighbours that are left, and so on -/
def clqOf (e : Nat → Nat → Bool) (v : Nat) (r : List Nat) : List Int := six.filter fun c => c == (v : Int) || (r.contains c.toNat && e v c.toNat)
def clqs (e : Nat → Nat → Bool) : List Nat → List (List Int)
  | [] => []
  | v :: r => clqOf e v r :: clqs e r
theorem mem_clqOf {e : Nat → Nat → Bool} {v : Nat} {r : List Nat} {c : Nat} : (c : Int) ∈ clqOf e v r ↔ c < 6 ∧ (c = v ∨ (c ∈ r ∧ e v c = true)) := by
  unfold clqOf
  rw [List.mem_filter, six_mem, Bool.or_eq_true, beq_iff_eq, Bool.and_eq_true, List.contains_iff_mem, Int.toNat_natCast, show ((c : Int) = (v : Int)) ↔ c = v by omega, show (0 ≤ (c : Int) ∧ (c : Int) < 6) ↔ c < 6 by omega]
theorem nat_of {K : List Int} (h : Lt K) {c : Int} (hc : c ∈ K) : ∃ n : Nat, c = (n : Int) ∧ n < 6 := by
  have := h.six c hc
  exact ⟨c.toNat, by omega, by omega⟩
theorem clqOf_lt {e : Nat → Nat → Bool} {v : Nat} {r : List Nat} : Lt (clqOf e v r) := ⟨six_up.filter _, fun c hc => six_mem.mp (List.mem_filter.mp hc).1⟩
theorem clqs_lt {e : Nat → Nat → Bool} : ∀ {l : List Nat}, ∀ K ∈ clqs e l, Lt K
  | [], K, h => by cases h
  | v :: r, K, h => (List.mem_cons.mp h).elim (fun z => z ▸ clqOf_lt) (clqs_lt K)
theorem clqs_sub {e : Nat → Nat → Bool} : ∀ {l : List Nat}, ∀ K ∈ clqs e l, ∀ c : Nat, (c : Int) ∈ K → c ∈ l
  | [], K, h, _, _ => by cases h
  | v :: r, K, h, c, hc => by
    rcases List.mem_cons.mp h with h | h
    · subst h
      rcases (mem_clqOf.mp hc).2 with h | h
      · exact h ▸ List.mem_cons_self
      · exact List.mem_cons_of_mem _ h.1
    · exact List.mem_cons_of_mem _ (clqs_sub K h c hc)
/-- a clique lies within one of them -/
theorem clqs_cover {e : Nat → Nat → Bool} : ∀ {l : List Nat} {K : List Int}, Lt K → Clq e K → (∀ c : Nat, (c : Int) ∈ K → c ∈ l) → K ≠ [] → ∃ Q ∈ clqs e l, ∀ c ∈ K, c ∈ Q
  | [], K, hK, _, h, n => by
    cases K with
    | nil => exact absurd rfl n
    | cons c K =>
      obtain ⟨k, e1, _⟩ := nat_of hK (List.mem_cons_self (a := c) (l := K))
      exact absurd (h k (e1 ▸ List.mem_cons_self)) List.not_mem_nil
  | v :: r, K, hK, hq, h, n => by
    by_cases q : (v : Int) ∈ K
    · refine ⟨_, List.mem_cons_self, fun c hc => ?_⟩
      obtain ⟨k, e1, k6⟩ := nat_of hK hc
      subst e1
      refine mem_clqOf.mpr ⟨k6, ?_⟩
      by_cases z : k = v
      · exact .inl z
      · exact .inr ⟨(List.mem_cons.mp (h k hc)).resolve_left z, hq v k q hc (Ne.symm z)⟩
    · obtain ⟨Q, h1, h2⟩ := clqs_cover (l := r) hK hq (fun c hc => (List.mem_cons.mp (h c hc)).resolve_left fun z => q (z ▸ hc)) n
      exact ⟨Q, List.mem_cons_of_mem _ h1, h2⟩
theorem clqs_clq {e : Nat → Nat → Bool} (sy : ∀ c d, e c d = e d c) : ∀ {l : List Nat}, Po e l → ∀ K ∈ clqs e l, Clq e K
  | [], _, K, h => by cases h
  | v :: r, p, K, h => by
    cases p with
    | cons hv p =>
    rcases List.mem_cons.mp h with h | h
    · subst h
      intro c d hc hd n
      rcases (mem_clqOf.mp hc).2 with h1 | h1
      · subst h1
        rcases (mem_clqOf.mp hd).2 with h2 | h2
        · exact absurd h2.symm n
        · exact h2.2
      · rcases (mem_clqOf.mp hd).2 with h2 | h2
        · subst h2
          rw [sy]
          exact h1.2
        · exact hv c h1.1 d h2.1 h1.2 h2.2 n
    · exact clqs_clq sy p K h
theorem clqs_ne {e : Nat → Nat → Bool} : ∀ {l : List Nat}, (∀ c ∈ l, c < 6) → ∀ K ∈ clqs e l, K ≠ []
  | [], _, K, h => by cases h
  | v :: r, hl, K, h => by
    rcases List.mem_cons.mp h with h | h
    · subst h
      intro z
      have : (v : Int) ∈ clqOf e v r := mem_clqOf.mpr ⟨hl v List.mem_cons_self, .inl rfl⟩
      rw [z] at this
      cases this
    · exact clqs_ne (fun c hc => hl c (List.mem_cons_of_mem _ hc)) K h
theorem clqs_jo {e : Nat → Nat → Bool} (sy : ∀ c d, e c d = e d c) : ∀ {l : List Nat}, Po e l → l.Nodup → l ≠ [] → Jo (Lo (clqs e l)) (· < (clqs e l).length)
  | [], _, _, n => absurd rfl n
  | [v], _, _, _ => Jo.unit _
  | v :: v2 :: r, p, nd, _ => by
    cases p with
    | cons hv p =>
    obtain ⟨n1, n2⟩ := List.nodup_cons.mp nd
    have ih := clqs_jo sy p n2 (by simp)
    have pos : 0 < (clqs e (v2 :: r)).length := by show 0 < (clqs e r).length + 1; omega
    have cross : ∀ i c, i < (clqs e (v2 :: r)).length → c ∈ clqOf e v (v2 :: r) → Lo (clqs e (v2 :: r)) i c → c ∈ (clqOf e v (v2 :: r)).filter (fun d => d != (v : Int)) := fun i c hi hc h2 => by
      obtain ⟨k, e1, k6⟩ := nat_of clqOf_lt hc
      subst e1
      have := clqs_sub _ (mem_of_lo hi) k h2
      refine List.mem_filter.mpr ⟨hc, ?_⟩
      rw [bne_iff_ne]
      intro z
      have z : k = v := by omega
      exact n1 (z ▸ this)
    by_cases q : (clqOf e v (v2 :: r)).filter (fun d => d != (v : Int)) = []
    · refine ih.front pos fun i c hi hc h2 => ?_
      have := cross i c hi hc h2
      rw [q] at this
      cases this
    · have nb : ∀ c : Nat, (c : Int) ∈ (clqOf e v (v2 :: r)).filter (fun d => d != (v : Int)) → c ∈ v2 :: r ∧ e v c = true := fun c hc => by
        obtain ⟨h1, h2⟩ := List.mem_filter.mp hc
        rw [bne_iff_ne] at h2
        exact (mem_clqOf.mp h1).2.resolve_left fun z => h2 (by rw [z])
      obtain ⟨Q, hQ, s⟩ := clqs_cover (e := e) (l := v2 :: r) (clqOf_lt.filter _) (fun c d hc hd n => hv c (nb c hc).1 d (nb d hd).1 (nb c hc).2 (nb d hd).2 n) (fun c hc => (nb c hc).1) q
      obtain ⟨j, hj, ej⟩ := lo_of_mem hQ
      refine ih.front hj fun i c hi hc h2 => ?_
      show c ∈ (clqs e (v2 :: r)).getD j []
      rw [ej]
      exact s c (cross i c hi hc h2)
theorem Po.sub {e : Nat → Nat → Bool} (f : Nat → Bool) : ∀ {l : List Nat}, Po e l → Po e (l.filter f)
  | [], _ => .nil
  | v :: r, p => by
    cases p with
    | cons hv p =>
    have ih := Po.sub f p
    cases q : f v with
    | true =>
      rw [List.filter_cons_of_pos q]
      exact .cons (fun u hu w hw => hv u (List.mem_filter.mp hu).1 w (List.mem_filter.mp hw).1) ih
    | false =>
      rw [List.filter_cons_of_neg (by simp [q])]
      exact ih
/-- lots laid before a family, each within one of it -/
theorem jo_before {qs : List (List Int)} (J : Jo (Lo qs) (· < qs.length)) : ∀ (ls : List (List Int)), (∀ m ∈ ls, ∃ Q ∈ qs, ∀ c ∈ m, c ∈ Q) → Jo (Lo (ls ++ qs)) (· < (ls ++ qs).length)
  | [], _ => J
  | m :: ls, h => by
    have ih := jo_before J ls fun m hm => h m (List.mem_cons_of_mem _ hm)
    obtain ⟨Q, hQ, s⟩ := h m List.mem_cons_self
    obtain ⟨j, hj, ej⟩ := lo_of_mem (List.mem_append.mpr (.inr hQ) : Q ∈ ls ++ qs)
    refine ih.front hj fun i c hi hc h2 => ?_
    show c ∈ (ls ++ qs).getD j []
    rw [ej]
    exact s c hc
theorem jo_empty : ∀ {ls : List (List Int)}, ls ≠ [] → (∀ m ∈ ls, m = []) → Jo (Lo ls) (· < ls.length)
  | [], n, _ => absurd rfl n
  | [m], _, _ => Jo.unit m
  | m :: m2 :: r, _, h => by
    have ih := jo_empty (ls := m2 :: r) (by simp) fun m hm => h m (List.mem_cons_of_mem _ hm)
    refine ih.front (j := 0) (by rw [List.length_cons]; omega) fun i c _ hc _ => ?_
    rw [h m List.mem_cons_self] at hc
    cases hc
/-- every clique of their letters within a lot, and an order: they hang together -/
theorem jo_of_order {ls : List (List Int)} (hL : ∀ m ∈ ls, Lt m) (hne : ls ≠ []) {l : List Nat} (p : Po (tog ls) l) (nd : l.Nodup) (al : ∀ v, v ∈ l ↔ v < 6)
    (full : ∀ K : List Int, Lt K → Clq (tog ls) K → (∀ c ∈ K, ∃ m ∈ ls, c ∈ m) → K ≠ [] → ∃ m ∈ ls, ∀ c ∈ K, c ∈ m) : Jo (Lo ls) (· < ls.length) := by
  let l' : List Nat := l.filter fun v : Nat => ls.any fun m => m.contains (v : Int)
  have m' : ∀ v, v ∈ l' ↔ v < 6 ∧ ∃ m ∈ ls, (v : Int) ∈ m := fun v => by
    show v ∈ l.filter _ ↔ _
    rw [List.mem_filter, al, List.any_eq_true]
    simp only [List.contains_iff_mem]
  have p' : Po (tog ls) l' := p.sub _
  have nd' : l'.Nodup := nd.filter _
  by_cases q : l' = []
  · refine jo_empty hne fun m hm => ?_
    cases m with
    | nil => rfl
    | cons c m =>
      obtain ⟨k, e1, k6⟩ := nat_of (hL _ hm) (List.mem_cons_self (a := c) (l := m))
      have : k ∈ l' := (m' k).mpr ⟨k6, _, hm, e1 ▸ List.mem_cons_self⟩
      rw [q] at this
      cases this
  · have J := clqs_jo (tog_sy ls) p' nd' q
    have big : ∀ m ∈ ls, ∃ Q ∈ clqs (tog ls) l', ∀ c ∈ m, c ∈ Q := fun m hm => by
      by_cases z : m = []
      · cases e : clqs (tog ls) l' with
        | nil =>
          cases e2 : l' with
          | nil => exact absurd e2 q
          | cons v r => rw [e2] at e; cases e
        | cons Q r => exact ⟨Q, List.mem_cons_self, fun c hc => by rw [z] at hc; cases hc⟩
      · exact clqs_cover (hL m hm) (fun c d hc hd n => tog_iff.mpr ⟨n, m, hm, hc, hd⟩) (fun c hc => (m' c).mpr ⟨by have := (hL m hm).six _ hc; omega, m, hm, hc⟩) z
    have J1 := jo_before J ls big
    have low : ∀ i, i < ls.length → (ls ++ clqs (tog ls) l').getD i [] = ls.getD i [] := fun i hi => by
      rw [List.getD_eq_getElem?_getD, List.getD_eq_getElem?_getD, List.getElem?_append_left hi]
    have J2 := J1.lessL ((List.range (ls ++ clqs (tog ls) l').length).filter fun i => decide (ls.length ≤ i)) fun r hr hF => by
      have hr := of_decide_eq_true (List.mem_filter.mp hr).2
      have hm : (ls ++ clqs (tog ls) l').getD r [] ∈ clqs (tog ls) l' := by
        rw [List.length_append] at hF
        have := mem_of_lo (ls := clqs (tog ls) l') (i := r - ls.length) (by omega)
        rw [List.getD_eq_getElem?_getD, List.getElem?_append_right hr, ← List.getD_eq_getElem?_getD]
        exact this
      obtain ⟨m, hm1, s⟩ := full _ (clqs_lt _ hm) (clqs_clq (tog_sy ls) p' _ hm) (fun c hc => by
        obtain ⟨k, e1, k6⟩ := nat_of (clqs_lt _ hm) hc
        subst e1
        exact ((m' k).mp (clqs_sub _ hm k hc)).2) (clqs_ne (fun c hc => ((m' c).mp hc).1) _ hm)
      obtain ⟨j, hj, ej⟩ := lo_of_mem hm1
      refine ⟨j, by rw [List.length_append]; omega, fun z => ?_, fun c hc => ?_⟩
      · have := of_decide_eq_true (List.mem_filter.mp z).2
        omega
      · show c ∈ (ls ++ clqs (tog ls) l').getD j []
        rw [low j hj, ej]
        exact s c hc
    have J3 : Jo (Lo (ls ++ clqs (tog ls) l')) (· < ls.length) := J2.congr fun i => by
      constructor
      · intro h
        refine ⟨by rw [List.length_append]; omega, fun z => ?_⟩
        have := of_decide_eq_true (List.mem_filter.mp z).2
        omega
      · rintro ⟨h1, h2⟩
        by_cases z : i < ls.length
        · exact z
        · exact absurd (List.mem_filter.mpr ⟨List.mem_range.mpr h1, decide_eq_true (by omega)⟩) h2
    exact J3.relet (fun i j c hi hj _ h1 h2 => ⟨by show c ∈ _; rw [low i hi]; exact h1, by show c ∈ _; rw [low j hj]; exact h2⟩) fun i c hi h => by
      have h : c ∈ (ls ++ clqs (tog ls) l').getD i [] := h
      rw [low i hi] at h
      exact h
end Kb
set_option Elab.async false
set_option linter.all false
set_option maxRecDepth 100000
set_option maxHeartbeats 2000000
/-! M9: the two ways to be stuck. -/
namespace Kb
open PySem L2
def trc (K m : List Int) : List Int := m.filter fun c => K.contains c
theorem mem_trc {K m : List Int} {c : Int} : c ∈ trc K m ↔ c ∈ m ∧ c ∈ K := by
  unfold trc
  rw [List.mem_filter, List.contains_iff_mem]
structure CutP (ts cut : List (List Int)) : Prop where
  nd : cut.Nodup
  mem : ∀ t, t ∈ cut ↔ t ∈ ts ∧ ∀ t' ∈ ts, t ≠ t' → ¬ ∀ c ∈ t, c ∈ t'
def RestsS (ls : List (List Int)) (K : List Int) : Prop := 3 ≤ K.length ∧ ∀ cut, CutP (ls.map (trc K)) cut → ∀ t, t ∈ cut ↔ ∃ x ∈ K, t = K.filter fun d => d != x
abbrev ofN (W : List Nat) : List Int := W.map fun i : Nat => (i : Int)
def RingS (ls : List (List Int)) (W : List Nat) : Prop := Ring (tog ls) W ∧ (∀ x ∈ W, x ∈ growN (tog ls) W W.length (W.take 1)) ∧ ∀ cut, CutP (ls.map (trc (ofN W))) cut → ∀ t, t ∈ cut ↔ ∃ a ∈ W, ∃ b ∈ W, a < b ∧ tog ls a b = true ∧ t = [(a : Int), (b : Int)]
theorem rests_of {ls : List (List Int)} (hL : ∀ m ∈ ls, Lt m) (hne : ls ≠ []) {K : List Int} (hK : Lt K) (hq : Clq (tog ls) K) (oc : ∀ c ∈ K, ∃ m ∈ ls, c ∈ m) (bad : ∀ m ∈ ls, ¬ ∀ c ∈ K, c ∈ m) (mn : ∀ x ∈ K, ∃ m ∈ ls, ∀ c ∈ K, c ≠ x → c ∈ m) : RestsS ls K := by
  have mr : ∀ (x c : Int), c ∈ K.filter (fun d => d != x) ↔ c ∈ K ∧ c ≠ x := fun x c => by rw [List.mem_filter, bne_iff_ne]
  refine ⟨?_, fun cut hc t => ?_⟩
  · match K, hK, hq, oc, bad with
    | [], _, _, _, bad =>
      cases ls with
      | nil => exact absurd rfl hne
      | cons m r => exact absurd (fun c h => by cases h) (bad m List.mem_cons_self)
    | [c], _, _, oc, bad =>
      obtain ⟨m, hm, h⟩ := oc c List.mem_cons_self
      exact absurd (fun d hd => by rw [List.mem_singleton] at hd; rw [hd]; exact h) (bad m hm)
    | [c, d], hK, hq, _, bad =>
      obtain ⟨c', e1, _⟩ := nat_of hK (c := c) List.mem_cons_self
      obtain ⟨d', e2, _⟩ := nat_of hK (c := d) (by simp)
      have lt : c < d := (List.pairwise_cons.mp hK.up).1 d (by simp)
      subst e1 e2
      obtain ⟨_, m, hm, h1, h2⟩ := tog_iff.mp (hq c' d' List.mem_cons_self (by simp) (by omega))
      refine absurd (fun x hx => ?_) (bad m hm)
      rcases List.mem_cons.mp hx with rfl | hx
      · exact h1
      · rw [List.mem_singleton] at hx; rw [hx]; exact h2
    | _ :: _ :: _ :: r, _, _, _, _ => rw [List.length_cons, List.length_cons, List.length_cons]; omega
  -- the lot that holds all but x leaves just these
  have at_ : ∀ x ∈ K, ∃ m ∈ ls, trc K m = K.filter fun d => d != x := fun x hx => by
    obtain ⟨m, hm, h⟩ := mn x hx
    have xm : x ∉ m := fun z => bad m hm fun c hc => by
      by_cases q : c = x
      · rw [q]; exact z
      · exact h c hc q
    refine ⟨m, hm, up_same ((hL m hm).filter _).up (hK.filter _).up fun c => ?_⟩
    show c ∈ trc K m ↔ _
    rw [mem_trc, mr]
    exact ⟨fun z => ⟨z.2, fun e => xm (e ▸ z.1)⟩, fun z => ⟨h c z.1 z.2, z.1⟩⟩
  rw [hc.mem t]
  constructor
  · rintro ⟨h1, h2⟩
    obtain ⟨m, hm, rfl⟩ := List.mem_map.mp h1
    have ⟨x, hx, xm⟩ : ∃ x ∈ K, x ∉ m := by
      by_cases q : ∃ x ∈ K, x ∉ m
      · exact q
      · refine absurd (fun c hc => ?_) (bad m hm)
        by_cases z : c ∈ m
        · exact z
        · exact absurd ⟨c, hc, z⟩ q
    obtain ⟨m', hm', e⟩ := at_ x hx
    have sub : ∀ c ∈ trc K m, c ∈ K.filter fun d => d != x := fun c hc => by
      rw [mr]
      exact ⟨(mem_trc.mp hc).2, fun z => xm (z ▸ (mem_trc.mp hc).1)⟩
    refine ⟨x, hx, ?_⟩
    by_cases q : trc K m = K.filter fun d => d != x
    · exact q
    · exact absurd sub (by rw [← e]; exact h2 _ (List.mem_map.mpr ⟨m', hm', rfl⟩) (by rw [e]; exact q))
  · rintro ⟨x, hx, rfl⟩
    obtain ⟨m, hm, e⟩ := at_ x hx
    refine ⟨List.mem_map.mpr ⟨m, hm, e⟩, fun t' ht' n s => ?_⟩
    obtain ⟨m', hm', rfl⟩ := List.mem_map.mp ht'
    refine bad m' hm' fun c hc => ?_
    by_cases q : c = x
    · subst q
      by_cases z : c ∈ m'
      · exact z
      · refine absurd (up_same (hK.filter _).up ((hL m' hm').filter _).up fun d => ?_) n
        show d ∈ K.filter (fun d => d != c) ↔ d ∈ trc K m'
        exact ⟨s d, fun hd => (mr c d).mpr ⟨(mem_trc.mp hd).2, fun e => z (e ▸ (mem_trc.mp hd).1)⟩⟩
    · exact (mem_trc.mp (s c ((mr x c).mpr ⟨hc, q⟩))).1
theorem ring_cut {ls : List (List Int)} (hL : ∀ m ∈ ls, Lt m) {W : List Nat} (R : Ring (tog ls) W) {cut : List (List Int)} (hc : CutP (ls.map (trc (ofN W))) cut) (t : List Int) : t ∈ cut ↔ ∃ a ∈ W, ∃ b ∈ W, a < b ∧ tog ls a b = true ∧ t = [(a : Int), (b : Int)] := by
  have inW : ∀ {m : List Int} {c : Int}, c ∈ trc (ofN W) m → ∃ k : Nat, c = (k : Int) ∧ k ∈ W ∧ (k : Int) ∈ m := fun {m c} h => by
    obtain ⟨h1, h2⟩ := mem_trc.mp h
    obtain ⟨k, hk, rfl⟩ := List.mem_map.mp h2
    exact ⟨k, rfl, hk, h1⟩
  have upT : ∀ m ∈ ls, Up (trc (ofN W) m) := fun m hm => ((hL m hm).filter _).up
  -- no three of them in one lot
  have no3 : ∀ m ∈ ls, ∀ a b c : Nat, a ∈ W → b ∈ W → c ∈ W → (a : Int) ∈ m → (b : Int) ∈ m → (c : Int) ∈ m → a ≠ b → b ≠ c → a ≠ c → False := fun m hm a b c ha hb hc' ma mb mc n1 n2 n3 => by
    obtain ⟨p, hp, q, hq, _, hpq, two⟩ := R.two a ha
    have e1 := (two b hb).mp (tog_iff.mpr ⟨n1, m, hm, ma, mb⟩)
    have e2 := (two c hc').mp (tog_iff.mpr ⟨n3, m, hm, ma, mc⟩)
    have bc : tog ls b c = true := tog_iff.mpr ⟨n2, m, hm, mb, mc⟩
    rcases e1 with rfl | rfl <;> rcases e2 with rfl | rfl
    · exact n2 rfl
    · rw [hpq] at bc; cases bc
    · rw [tog_sy, hpq] at bc; cases bc
    · exact n2 rfl
  have pair : ∀ m ∈ ls, ∀ a b : Nat, a ∈ W → b ∈ W → a < b → (a : Int) ∈ m → (b : Int) ∈ m → trc (ofN W) m = [(a : Int), (b : Int)] := fun m hm a b ha hb lt ma mb => by
    refine up_same (upT m hm) (by simp [Up]; omega) fun c => ?_
    constructor
    · intro h
      obtain ⟨k, rfl, hk, mk⟩ := inW h
      by_cases q1 : k = a
      · subst q1; exact List.mem_cons_self
      · by_cases q2 : k = b
        · subst q2; simp
        · exact (no3 m hm a b k ha hb hk ma mb mk (by omega) (Ne.symm q2) (Ne.symm q1)).elim
    · intro h
      rcases List.mem_cons.mp h with rfl | h
      · exact mem_trc.mpr ⟨ma, List.mem_map.mpr ⟨a, ha, rfl⟩⟩
      · rw [List.mem_singleton] at h
        subst h
        exact mem_trc.mpr ⟨mb, List.mem_map.mpr ⟨b, hb, rfl⟩⟩
  have edge : ∀ a b : Nat, a ∈ W → b ∈ W → a < b → tog ls a b = true → [(a : Int), (b : Int)] ∈ ls.map (trc (ofN W)) := fun a b ha hb lt h => by
    obtain ⟨_, m, hm, ma, mb⟩ := tog_iff.mp h
    exact List.mem_map.mpr ⟨m, hm, pair m hm a b ha hb lt ma mb⟩
  -- each stands in an edge
  have some_edge : ∀ c ∈ W, ∃ t ∈ ls.map (trc (ofN W)), (c : Int) ∈ t ∧ ∃ d : Nat, (d : Int) ∈ t ∧ d ≠ c := fun c hc => by
    obtain ⟨p, hp, q, hq, _, _, two⟩ := R.two c hc
    have h := (two p hp).mpr (.inl rfl)
    have n : c ≠ p := (tog_iff.mp h).1
    by_cases lt : c < p
    · exact ⟨_, edge c p hc hp lt h, by simp, p, by simp, Ne.symm n⟩
    · exact ⟨_, edge p c hp hc (by omega) (by rw [tog_sy]; exact h), by simp, p, by simp, Ne.symm n⟩
  rw [hc.mem t]
  constructor
  · rintro ⟨h1, h2⟩
    obtain ⟨m, hm, rfl⟩ := List.mem_map.mp h1
    generalize et : trc (ofN W) m = t at h1 h2
    have up : Up t := by rw [← et]; exact upT m hm
    have mem : ∀ c ∈ t, ∃ k : Nat, c = (k : Int) ∧ k ∈ W ∧ (k : Int) ∈ m := fun c h => inW (by rw [et]; exact h)
    match t, up, mem with
    | [], _, _ =>
      exfalso
      have : 0 < W.length := by have := R.len; omega
      obtain ⟨t', ht', h3, _⟩ := some_edge W[0] (List.getElem_mem _)
      exact h2 t' ht' (fun e => by rw [← e] at h3; cases h3) fun c h => by cases h
    | [c], _, mem =>
      exfalso
      obtain ⟨k, rfl, hk, _⟩ := mem c List.mem_cons_self
      obtain ⟨t', ht', h3, d, h4, n⟩ := some_edge k hk
      refine h2 t' ht' (fun e => ?_) fun c h => by rw [List.mem_singleton] at h; rw [h]; exact h3
      rw [← e, List.mem_singleton] at h4
      omega
    | [c, d], up, mem =>
      obtain ⟨a, rfl, ha, ma⟩ := mem c List.mem_cons_self
      obtain ⟨b, rfl, hb, mb⟩ := mem d (by simp)
      have lt : (a : Int) < b := (List.pairwise_cons.mp up).1 _ (by simp)
      exact ⟨a, ha, b, hb, by omega, tog_iff.mpr ⟨by omega, m, hm, ma, mb⟩, rfl⟩
    | c :: d :: x :: r, up, mem =>
      exfalso
      obtain ⟨a, rfl, ha, ma⟩ := mem c List.mem_cons_self
      obtain ⟨b, rfl, hb, mb⟩ := mem d (by simp)
      obtain ⟨k, rfl, hk, mk⟩ := mem x (by simp)
      obtain ⟨u1, u2⟩ := List.pairwise_cons.mp up
      have l1 : (a : Int) < b := u1 _ (by simp)
      have l2 : (b : Int) < k := (List.pairwise_cons.mp u2).1 _ (by simp)
      exact no3 m hm a b k ha hb hk ma mb mk (by omega) (by omega) (by omega)
  · rintro ⟨a, ha, b, hb, lt, h, rfl⟩
    refine ⟨edge a b ha hb lt h, fun t' ht' n s => ?_⟩
    obtain ⟨m, hm, rfl⟩ := List.mem_map.mp ht'
    exact n (pair m hm a b ha hb lt (mem_trc.mp (s _ List.mem_cons_self)).1 (mem_trc.mp (s _ (by simp))).1).symm
/-- they hang together, or a lot is stuck -/
theorem hang_or_stuck {ls : List (List Int)} (hL : ∀ m ∈ ls, Lt m) (hne : ls ≠ []) (chk : ∀ n, n < 32768 → chkM n = true) : Jo (Lo ls) (· < ls.length) ∨ (∃ K, Lt K ∧ (∀ c ∈ K, ∃ m ∈ ls, c ∈ m) ∧ RestsS ls K) ∨ ∃ W : List Nat, (∀ c ∈ W, ∃ m ∈ ls, (c : Int) ∈ m) ∧ RingS ls W := by
  obtain ⟨n, hn, hg⟩ := num_of (tog ls) (tog_sy ls) (tog_ir ls)
  rcases graph_cases (chk n hn) hg with ⟨l, p, nd, al⟩ | ⟨W, R, cv⟩
  · by_cases full : ∀ K : List Int, Lt K → Clq (tog ls) K → (∀ c ∈ K, ∃ m ∈ ls, c ∈ m) → K ≠ [] → ∃ m ∈ ls, ∀ c ∈ K, c ∈ m
    · exact .inl (jo_of_order hL hne p nd al full)
    · -- a least one
      have least : ∀ (k : Nat) (K : List Int), K.length ≤ k → Lt K → Clq (tog ls) K → (∀ c ∈ K, ∃ m ∈ ls, c ∈ m) → (∀ m ∈ ls, ¬ ∀ c ∈ K, c ∈ m) → ∃ K', Lt K' ∧ (∀ c ∈ K', ∃ m ∈ ls, c ∈ m) ∧ RestsS ls K' := by
        intro k
        induction k with
        | zero =>
          intro K hk hK hq oc bad
          cases K with
          | nil =>
            cases ls with
            | nil => exact absurd rfl hne
            | cons m r => exact absurd (fun c h => by cases h) (bad m List.mem_cons_self)
          | cons _ _ => rw [List.length_cons] at hk; omega
        | succ k ih =>
          intro K hk hK hq oc bad
          by_cases mn : ∀ x ∈ K, ∃ m ∈ ls, ∀ c ∈ K, c ≠ x → c ∈ m
          · exact ⟨K, hK, oc, rests_of hL hne hK hq oc bad mn⟩
          · obtain ⟨x, hx⟩ := Classical.not_forall.mp mn
            obtain ⟨xK, hx⟩ := Classical.not_imp.mp hx
            refine ih (K.filter fun d => d != x) ?_ (hK.filter _) (fun c d hc hd => hq c d (List.mem_filter.mp hc).1 (List.mem_filter.mp hd).1) (fun c hc => oc c (List.mem_filter.mp hc).1) fun m hm h => hx ⟨m, hm, fun c hc n => h c (List.mem_filter.mpr ⟨hc, bne_iff_ne.mpr n⟩)⟩
            have : (K.filter fun d => d != x).length < K.length := List.length_filter_lt_length_iff_exists.mpr ⟨x, xK, by simp⟩
            omega
      obtain ⟨K, h⟩ := Classical.not_forall.mp full
      obtain ⟨hK, h⟩ := Classical.not_imp.mp h
      obtain ⟨hq, h⟩ := Classical.not_imp.mp h
      obtain ⟨oc, h⟩ := Classical.not_imp.mp h
      obtain ⟨_, h⟩ := Classical.not_imp.mp h
      exact .inr (.inl (least K.length K (Nat.le_refl _) hK hq oc fun m hm z => h ⟨m, hm, z⟩))
  · refine .inr (.inr ⟨W, fun c hc => ?_, R, cv, fun cut hcut t => ring_cut hL R hcut t⟩)
    obtain ⟨p, hp, q, hq, _, _, two⟩ := R.two c hc
    obtain ⟨_, m, hm, h1, _⟩ := tog_iff.mp ((two p hp).mpr (.inl rfl))
    exact ⟨m, hm, h1⟩
end Kb
set_option Elab.async false
set_option linter.all false
set_option maxRecDepth 100000
set_option maxHeartbeats 2000000
/-! S6: the stuck lots' defs. -/
namespace Kb
open PySem L2
theorem within_iff {a b : List Int} : (a.all fun c => b.contains c) = true ↔ ∀ c ∈ a, c ∈ b := by
  rw [List.all_eq_true]
  simp only [List.contains_iff_mem]
theorem sp_greatest_lots {ts : List (List Int)} {K : List PyData → Prop} (hz : ts.length ≤ 1000) (hL : ∀ m ∈ ts, Lt m) (k : ∀ cut, CutP ts cut → K (cut.map intsD)) : R_greatest_lots [.list (ts.map intsD)] K := by
  refine ⟨rfl, show 2 < 4 by decide, _, rfl, ts, rfl, by omega, ?_⟩
  have lz : (dedL ts).length ≤ ts.length := nodup_len (nodup_dedL ts) fun x hx => mem_dedL.mp hx
  refine ⟨by omega, ?_⟩
  have e0 : ((dedL ts).map intsD).length = (dedL ts).length := List.length_map ..
  refine ⟨_, rfl, by omega, ?_⟩
  refine lc_ft intsD intsD (fun t => !(dedL ts).any fun o => t != o && t.all fun c => o.contains c) (fun t ht A B h1 h2 => ?_) ?_
  · refine ⟨_, rfl, by omega, lc_mpY intsD (fun o => .bool (t != o && t.all fun c => o.contains c)) (fun o ho A h => ?_) ⟨(dedL ts).map fun o => t != o && t.all fun c => o.contains c, by rw [List.map_map]; rfl, _, rfl, ?_⟩⟩
    · refine ⟨(Sh.intsD 0 t).ok, (Sh.intsD 0 o).ok, _, rfl, ?_⟩
      rw [eqv_intsD]
      have e : (!t == o) = (t != o) := rfl
      rw [e]
      refine iteB (fun q => ?_) fun q => ?_
      · rw [q, Bool.true_and] at h
        exact sp_within_in (by have := (hL t (mem_dedL.mp ht)).len; omega) h
      · rw [q, Bool.false_and] at h
        exact h
    · have e : ((dedL ts).map fun o => t != o && t.all fun c => o.contains c).any id = (dedL ts).any fun o => t != o && t.all fun c => o.contains c := by rw [List.any_map]; rfl
      show (if (!((dedL ts).map fun o => t != o && t.all fun c => o.contains c).any id) = true then _ else _)
      rw [e]
      exact iteB h1 h2
  · refine k _ ⟨(nodup_dedL ts).filter _, fun t => ?_⟩
    rw [List.mem_filter, mem_dedL, Bool.not_eq_true', List.any_eq_false]
    refine and_congr_right fun _ => ⟨fun h t' ht' n s => ?_, fun h t' ht' q => ?_⟩
    · refine h t' (mem_dedL.mpr ht') ?_
      rw [Bool.and_eq_true, bne_iff_ne]
      exact ⟨n, within_iff.mpr s⟩
    · rw [Bool.and_eq_true, bne_iff_ne] at q
      exact h t' (mem_dedL.mp ht') q.1 (within_iff.mp q.2)
/-! sorted lists of lots -/
abbrev Srt (l : List (List Int)) : Prop := l.Pairwise fun a b => ¬ b < a
theorem lex_anti : ∀ {a b : List Int}, ¬ a < b → ¬ b < a → a = b
  | [], [], _, _ => rfl
  | [], _ :: _, h, _ => absurd (List.nil_lt_cons _ _) h
  | _ :: _, [], _, h => absurd (List.nil_lt_cons _ _) h
  | x :: a, y :: b, h1, h2 => by
    rw [List.cons_lt_cons_iff] at h1 h2
    have e : x = y := by
      by_cases q : x = y
      · exact q
      · by_cases z : x < y
        · exact absurd (.inl z) h1
        · exact absurd (.inl (by omega)) h2
    subst e
    rw [lex_anti (fun z => h1 (.inr ⟨rfl, z⟩)) fun z => h2 (.inr ⟨rfl, z⟩)]
theorem srt_same : ∀ {a b : List (List Int)}, Srt a → Srt b → a.Perm b → a = b
  | [], b, _, _, p => (List.nil_perm.mp p).symm ▸ rfl
  | x :: a, [], _, _, p => by cases (List.perm_nil.mp p)
  | x :: a, y :: b, ha, hb, p => by
    obtain ⟨a1, a2⟩ := List.pairwise_cons.mp ha
    obtain ⟨b1, b2⟩ := List.pairwise_cons.mp hb
    have e : x = y := by
      have h1 := p.mem_iff.mp (List.mem_cons_self (a := x) (l := a))
      have h2 := p.mem_iff.mpr (List.mem_cons_self (a := y) (l := b))
      rcases List.mem_cons.mp h1 with h1 | h1
      · exact h1
      · rcases List.mem_cons.mp h2 with h2 | h2
        · exact h2.symm
        · exact lex_anti (b1 x h1) (a1 y h2)
    subst e
    rw [srt_same a2 b2 (List.perm_cons x |>.mp p)]
def restsL (K : List Int) : List (List Int) := (List.range K.length).map fun i => K.take i ++ K.drop (i + 1)
theorem cut_take (m : List Int) (i : Nat) (h : i ≤ m.length) : cutD (m.map PyData.int) none (some (i : Int)) = (m.take i).map .int := by
  unfold cutD
  rw [HT.sIx_nat, List.length_map, List.map_take]
  show ((m.map PyData.int).drop 0).take (min i m.length - 0) = _
  rw [List.drop_zero, Nat.sub_zero, Nat.min_eq_left h]
theorem cut_drop (m : List Int) (i : Nat) : cutD (m.map PyData.int) (some (i : Int)) none = (m.drop i).map .int := by
  unfold cutD
  rw [HT.sIx_nat, List.length_map, List.map_drop]
  show ((m.map PyData.int).drop (min i m.length)).take (m.length - min i m.length) = _
  by_cases h : i ≤ m.length
  · rw [Nat.min_eq_left h]
    exact List.take_of_length_le (by simp)
  · rw [Nat.min_eq_right (by omega), List.drop_of_length_le (by simp), List.drop_of_length_le (by rw [List.length_map]; omega), List.take_nil]
theorem sp_lots_of_rests {m : List Int} {K : List PyData → Prop} (hm : m.length ≤ 1000) (h2 : 2 ≤ m.length) (k : ∀ ms, ms.Perm (restsL m) → Srt ms → K (ms.map intsD)) : R_lots_of_rests [intsD m] K := by
  have e0 : (m.map PyData.int).length = m.length := List.length_map ..
  refine ⟨rfl, _, rfl, _, rfl, Int.natCast_nonneg _, by rw [e0]; omega, ?_, ?_⟩
  · rw [List.length_map, List.length_range, Int.toNat_natCast, e0]; omega
  rw [Int.toNat_natCast, e0]
  refine lc_mpY natD (fun i => intsD (m.take i ++ m.drop (i + 1))) (fun i hi A h => ?_) ?_
  · have hi := List.mem_range.mp hi
    refine ⟨_, rfl, _, rfl, _, rfl, _, rfl, ?_⟩
    have e1 := cut_take m i (by omega)
    have e2 := cut_drop m (i + 1)
    show oCat (.tuple (cutD (m.map PyData.int) none (some (i : Int)))) (.tuple (cutD (m.map PyData.int) (some ((i : Int) + 1)) none)) A
    rw [e1, show ((i : Int) + 1) = ((i + 1 : Nat) : Int) by omega, e2]
    refine ⟨?_, ?_⟩
    · rw [List.length_map, List.length_map, List.length_take, List.length_drop]; omega
    · rw [← List.map_append]
      exact h
  · refine ⟨restsL m, ?_, .inl fun t ht => ?_, fun ms p s => k ms p s⟩
    · show some _ = some _
      unfold restsL
      rw [List.map_map]
      rfl
    · obtain ⟨i, hi, rfl⟩ := List.mem_map.mp ht
      have hi := List.mem_range.mp hi
      intro z
      have := congrArg List.length z
      rw [List.length_append, List.length_take, List.length_drop, List.length_nil] at this
      omega
end Kb
set_option Elab.async false
set_option linter.all false
set_option maxRecDepth 100000
set_option maxHeartbeats 2000000
/-! S7: are_rests, is_ring. -/
namespace Kb
open PySem L2
theorem sp_are_rests {m : List Int} {cut : List (List Int)} {K : PyData → Prop} (hm : m.length ≤ 1000) (hc : (∀ t ∈ cut, t ≠ []) ∨ cut.head? = some []) (k : ∀ b, (3 ≤ m.length → cut.Perm (restsL m) → b = true) → K (.bool b)) : R_are_rests [intsD m, .list (cut.map intsD)] K := by
  have e0 : (m.map PyData.int).length = m.length := List.length_map ..
  refine ⟨rfl, _, rfl, _, rfl, ?_⟩
  rw [e0]
  refine iteB (fun e => ?_) fun e => ?_
  · have h3 : 3 ≤ m.length := by have := of_decide_eq_true e; omega
    refine ⟨cut, rfl, hc, fun ms p s => sp_lots_of_rests hm (by omega) fun ms2 p2 s2 => ?_⟩
    refine ⟨(Sh.lst (.lots 0 ms)).ok, (Sh.lst (.lots 0 ms2)).ok, ?_⟩
    have e : PyData.eqv (.list (ms.map intsD)) (.list (ms2.map intsD)) = (ms == ms2) := by
      unfold PyData.eqv
      exact eqv_lots ms ms2
    rw [e]
    exact k _ fun _ q => beq_iff_eq.mpr (srt_same s s2 ((p.trans q).trans p2.symm))
  · refine k false fun h _ => ?_
    have := of_decide_eq_false e
    omega
def goneF (cut : List (List Int)) (g : List Int) : List Int := lets (g :: cut.filter fun t => t.filter (fun c => g.contains c) != [])
def goneN (cut : List (List Int)) : Nat → List Int → List Int
  | 0, g => g
  | k + 1, g => goneN cut k (goneF cut g)
structure RingQ (m : List Int) (cut : List (List Int)) : Prop where
  big : 3 < m.length
  same : cut.length = m.length
  two : ∀ t ∈ cut, t.length = 2
  deg : ∀ c ∈ m, (cut.filter fun t => t.contains c).length = 2
  all : goneN cut m.length (m.take 1) = m
theorem goneF_lt (cut : List (List Int)) (g : List Int) : Lt (goneF cut g) := lets_lt _
theorem eqv_two (n : Nat) : PyData.eqv (.int (n : Int)) (.int 2) = (n == 2) := eqv_nat n 2
theorem sp_is_ring {m : List Int} {cut : List (List Int)} {K : PyData → Prop} (hm : Lt m) (hc : ∀ t ∈ cut, Lt t) (hz : cut.length ≤ 1000) (k : ∀ b, (RingQ m cut → b = true) → K (.bool b)) : R_is_ring [intsD m, .list (cut.map intsD)] K := by
  have e0 : (m.map PyData.int).length = m.length := List.length_map ..
  have e1 : (cut.map intsD).length = cut.length := List.length_map ..
  have lm := hm.len
  refine ⟨rfl, _, rfl, _, rfl, ?_⟩
  rw [e0]
  refine iteB (fun e => ?_) fun e => ?_
  · refine ite1 rfl (k false fun q => ?_)
    have := of_decide_eq_true e
    have := q.big
    omega
  have big : 3 < m.length := by have := of_decide_eq_false e; omega
  refine ⟨_, rfl, _, rfl, (Sh.int 0 _).ok, (Sh.int 0 _).ok, _, rfl, ?_⟩
  rw [e0, e1, eqv_nat]
  refine iteB (fun e => ?_) fun e => ?_
  · refine ite1 rfl (k false fun q => ?_)
    have e : (cut.length == m.length) = false := by simpa using e
    rw [q.same] at e
    simp at e
  refine ⟨_, rfl, by omega, lc_mpY intsD (fun t => .bool (t.length == 2)) (fun t ht A h => ?_) ⟨cut.map fun t => t.length == 2, by rw [List.map_map]; rfl, _, rfl, ?_⟩⟩
  · refine ⟨_, rfl, (Sh.int 0 _).ok, (Sh.int 0 _).ok, ?_⟩
    rw [List.length_map, eqv_two]
    exact h
  have e2 : ((cut.map fun t => t.length == 2).all id) = cut.all fun t => t.length == 2 := by rw [List.all_map]; rfl
  show (if (!((cut.map fun t => t.length == 2).all id)) = true then _ else _)
  rw [e2]
  refine iteB (fun e => ?_) fun e => ?_
  · refine k false fun q => ?_
    have e : (cut.all fun t => t.length == 2) = false := by simpa using e
    rw [List.all_eq_true.mpr fun t ht => beq_iff_eq.mpr (q.two t ht)] at e
    exact e.symm
  refine ⟨_, rfl, by omega, lc_mpY PyData.int (fun c => .bool ((cut.filter fun t => t.contains c).length == 2)) (fun c hcm A h => ?_) ⟨m.map fun c => (cut.filter fun t => t.contains c).length == 2, by rw [List.map_map]; rfl, _, rfl, ?_⟩⟩
  · refine ⟨_, rfl, by omega, lc_ft intsD intsD (fun t => t.contains c) (fun t ht A B h1 h2 => ⟨_, rfl, rfl, flat_ints t, _, rfl, ?_⟩) ⟨_, rfl, (Sh.int 0 _).ok, (Sh.int 0 _).ok, ?_⟩⟩
    · rw [any_int]
      exact iteB h1 h2
    · rw [List.length_map, eqv_two]
      exact h
  have e3 : ((m.map fun c => (cut.filter fun t => t.contains c).length == 2).all id) = m.all fun c => (cut.filter fun t => t.contains c).length == 2 := by rw [List.all_map]; rfl
  show (if (!((m.map fun c => (cut.filter fun t => t.contains c).length == 2).all id)) = true then _ else _)
  rw [e3]
  refine iteB (fun e => ?_) fun e => ?_
  · refine k false fun q => ?_
    have e : (m.all fun c => (cut.filter fun t => t.contains c).length == 2) = false := by simpa using e
    rw [List.all_eq_true.mpr fun c hcm => beq_iff_eq.mpr (q.deg c hcm)] at e
    exact e.symm
  -- what is met from the first on
  obtain ⟨c0, r, em⟩ : ∃ c0 r, m = c0 :: r := by
    cases m with
    | nil => rw [List.length_nil] at big; omega
    | cons c r => exact ⟨c, r, rfl⟩
  have et : m.take 1 = [c0] := by rw [em]; rfl
  refine ⟨_, (0 : Int), .int c0, rfl, rfl, ?_, (show 1 ≤ 100000 by decide), ?_⟩
  · show atI (m.map PyData.int) ((0 : Nat) : Int) = _
    rw [atI_nat, em]
    rfl
  refine ⟨_, rfl, ?_⟩
  refine for_inv (fun rest ρ => ∃ (g : List Int) (x3 x4 x5 : Option PyData), ρ = [some (intsD m), some (.list (cut.map intsD)), some (intsD g), x3, x4, x5] ∧ Lt g ∧ goneN cut rest.length g = goneN cut m.length (m.take 1)) (fun d rest ρ hI X hX => ?_) ⟨[c0], none, none, none, rfl, ⟨by simp [Up], fun c hcc => by rw [List.mem_singleton] at hcc; subst hcc; exact hm.six _ (by rw [em]; exact List.mem_cons_self)⟩, by rw [e0, et]⟩ fun ρ hI => ?_
  · obtain ⟨g, x3, x4, x5, rfl, hg, hn⟩ := hI
    refine ⟨_, rfl, by omega, lc_ft intsD intsD (fun t => t.filter (fun c => g.contains c) != []) (fun t ht A B h1 h2 => ?_) ⟨_, rfl, ?_, ?_⟩⟩
    · refine sp_common_in (by have := (hc t ht).len; omega) ⟨by decide, (Sh.intsD 0 _).ok, (Sh.unit 0).ok, _, rfl, ?_⟩
      rw [eqv_unit]
      have e : (!((t.filter fun c => g.contains c).map PyData.int).isEmpty) = (t.filter (fun c => g.contains c) != []) := by
        cases t.filter fun c => g.contains c <;> rfl
      rw [e]
      exact iteB h1 h2
    · rw [List.append_nil, List.length_cons, List.length_map]
      have := List.length_filter_le (fun t => t.filter (fun c => g.contains c) != []) cut
      omega
    · rw [List.append_nil]
      refine sp_all_letters (ls := g :: cut.filter fun t => t.filter (fun c => g.contains c) != []) rfl ?_ (fun t ht => ?_) (hX _ ⟨goneF cut g, some d, x4, x5, rfl, goneF_lt cut g, ?_⟩)
      · rw [List.length_cons]
        have := List.length_filter_le (fun t => t.filter (fun c => g.contains c) != []) cut
        omega
      · rcases List.mem_cons.mp ht with rfl | ht
        · exact hg
        · exact hc t (List.mem_filter.mp ht).1
      · rw [← hn]
        rfl
  · obtain ⟨g, x3, x4, x5, rfl, hg, hn⟩ := hI
    refine ⟨(Sh.intsD 0 _).ok, (Sh.intsD 0 _).ok, ?_⟩
    rw [eqv_intsD]
    refine k _ fun q => beq_iff_eq.mpr ?_
    have h : g = goneN cut m.length (m.take 1) := hn
    rw [h, q.all]
end Kb
set_option Elab.async false
set_option linter.all false
set_option maxRecDepth 100000
set_option maxHeartbeats 2000000
/-! S8: a stuck lot passes the tests. -/
namespace Kb
open PySem L2
theorem rest_at {m : List Int} (hu : Up m) {i : Nat} (hi : i < m.length) : m.take i ++ m.drop (i + 1) = m.filter fun d => d != m[i] := by
  have e : m = m.take i ++ m[i] :: m.drop (i + 1) := by
    conv => lhs; rw [← List.take_append_drop i m, List.drop_eq_getElem_cons hi]
  have u : Up (m.take i ++ m[i] :: m.drop (i + 1)) := by rw [← e]; exact hu
  obtain ⟨u1, u2, u3⟩ := List.pairwise_append.mp u
  obtain ⟨u4, u5⟩ := List.pairwise_cons.mp u2
  refine up_same (List.pairwise_append.mpr ⟨u1, u5, fun a ha b hb => u3 a ha b (List.mem_cons_of_mem _ hb)⟩) (hu.filter _) fun c => ?_
  rw [List.mem_filter, bne_iff_ne, List.mem_append]
  constructor
  · rintro (h | h)
    · refine ⟨List.mem_of_mem_take h, ?_⟩
      have := u3 c h m[i] List.mem_cons_self
      omega
    · refine ⟨List.mem_of_mem_drop h, ?_⟩
      have := u4 c h
      omega
  · rintro ⟨h, n⟩
    rw [e, List.mem_append, List.mem_cons] at h
    rcases h with h | h | h
    · exact .inl h
    · exact absurd h n
    · exact .inr h
theorem rests_perm {ls : List (List Int)} {K : List Int} (hK : Lt K) (h : RestsS ls K) {cut : List (List Int)} (hc : CutP (ls.map (trc K)) cut) : cut.Perm (restsL K) := by
  have e : restsL K = K.map fun x => K.filter fun d => d != x := by
    refine List.ext_getElem? fun i => ?_
    unfold restsL
    rw [List.getElem?_map, List.getElem?_map]
    by_cases hi : i < K.length
    · rw [List.getElem?_range hi, List.getElem?_eq_getElem hi]
      exact congrArg some (rest_at hK.up hi)
    · rw [List.getElem?_eq_none (by rw [List.length_range]; omega), List.getElem?_eq_none (by omega)]
      rfl
  have nd : (restsL K).Nodup := by
    rw [e]
    refine List.pairwise_map.mpr (hK.up.nodup.imp_of_mem fun {a b} ha hb n z => ?_)
    have : b ∈ K.filter fun d => d != a := List.mem_filter.mpr ⟨hb, bne_iff_ne.mpr (Ne.symm n)⟩
    rw [z] at this
    exact absurd rfl (bne_iff_ne.mp (List.mem_filter.mp this).2)
  refine (List.perm_ext_iff_of_nodup hc.nd nd).mpr fun t => ?_
  rw [h.2 cut hc t, e, List.mem_map]
  exact ⟨fun ⟨x, h1, h2⟩ => ⟨x, h1, h2.symm⟩, fun ⟨x, h1, h2⟩ => ⟨x, h1, h2.symm⟩⟩
theorem mem_ofN {W : List Nat} {c : Int} : c ∈ ofN W ↔ ∃ k ∈ W, c = (k : Int) := by
  rw [List.mem_map]
  exact ⟨fun ⟨k, h1, h2⟩ => ⟨k, h1, h2.symm⟩, fun ⟨k, h1, h2⟩ => ⟨k, h1, h2.symm⟩⟩
theorem ofN_lt {W : List Nat} (h : ∀ c ∈ W, c < 6) (u : W.Pairwise (· < ·)) : Lt (ofN W) :=
  ⟨List.pairwise_map.mpr (u.imp fun h => by omega), fun c hc => by obtain ⟨k, hk, rfl⟩ := mem_ofN.mp hc; have := h k hk; omega⟩
theorem filt_len {α : Type} (p : α → Bool) (x : α) (l : List α) : ((x :: l).filter p).length = (if p x = true then 1 else 0) + (l.filter p).length := by
  cases q : p x with
  | true => rw [List.filter_cons_of_pos q, List.length_cons, if_pos rfl]; omega
  | false => rw [List.filter_cons_of_neg (by rw [q]; exact Bool.false_ne_true), if_neg Bool.false_ne_true]; omega
/-- the letters counted from the edges and from the letters -/
theorem count_swap (m : List Int) : ∀ cut : List (List Int), (m.map fun c => (cut.filter fun t => t.contains c).length).sum = (cut.map fun t => (m.filter fun c => t.contains c).length).sum
  | [] => by
    rw [List.map_nil]
    induction m with
    | nil => rfl
    | cons c m ih =>
      rw [List.map_cons, List.sum_cons, ih]
      rfl
  | t :: cut => by
    rw [List.map_cons, List.sum_cons, ← count_swap m cut]
    induction m with
    | nil => rfl
    | cons c m ih =>
      rw [List.map_cons, List.sum_cons, List.map_cons, List.sum_cons, ih, filt_len, filt_len]
      omega
theorem sum_two {α : Type} (f : α → Nat) : ∀ l : List α, (∀ x ∈ l, f x = 2) → (l.map f).sum = 2 * l.length
  | [], _ => rfl
  | x :: l, h => by
    rw [List.map_cons, List.sum_cons, List.length_cons, sum_two f l fun y hy => h y (List.mem_cons_of_mem _ hy), h x List.mem_cons_self]
    omega
def edgeL (a b : Nat) : List Int := if a < b then [(a : Int), (b : Int)] else [(b : Int), (a : Int)]
theorem mem_edgeL {a b : Nat} {c : Int} : c ∈ edgeL a b ↔ c = (a : Int) ∨ c = (b : Int) := by
  unfold edgeL
  split <;> simp [or_comm]
theorem ring_all {ls : List (List Int)} {W : List Nat} (R : Ring (tog ls) W) (cv : ∀ x ∈ W, x ∈ growN (tog ls) W W.length (W.take 1)) {cut : List (List Int)} (hm : ∀ t, t ∈ cut ↔ ∃ a ∈ W, ∃ b ∈ W, a < b ∧ tog ls a b = true ∧ t = [(a : Int), (b : Int)]) : goneN cut (ofN W).length ((ofN W).take 1) = ofN W := by
  have hL := ofN_lt R.six R.up
  have sub : ∀ k x, x ∈ growN (tog ls) W k (W.take 1) → x ∈ W := by
    intro k x h
    cases k with
    | zero => exact List.mem_of_mem_take h
    | succ k => exact (mem_grow1.mp h).1
  have key : ∀ (k j : Nat) (g : List Int), (∀ c, c ∈ g ↔ ∃ x ∈ growN (tog ls) W j (W.take 1), c = (x : Int)) → ∀ c, c ∈ goneN cut k g ↔ ∃ x ∈ growN (tog ls) W (j + k) (W.take 1), c = (x : Int) := by
    intro k
    induction k with
    | zero => exact fun j g h => h
    | succ k ih =>
      intro j g h
      have z := ih (j + 1) (goneF cut g) fun c => ?_
      · rw [show j + (k + 1) = j + 1 + k by omega]
        exact z
      · have letm : c ∈ goneF cut g ↔ c ∈ g ∨ ∃ t ∈ cut, c ∈ t ∧ ∃ d ∈ t, d ∈ g := by
          unfold goneF
          rw [mem_lets]
          constructor
          · rintro ⟨_, m, hmm, hcm⟩
            rcases List.mem_cons.mp hmm with rfl | hmm
            · exact .inl hcm
            · obtain ⟨h1, h2⟩ := List.mem_filter.mp hmm
              rw [bne_iff_ne] at h2
              obtain ⟨d, hd⟩ := List.exists_mem_of_ne_nil _ h2
              obtain ⟨h3, h4⟩ := List.mem_filter.mp hd
              exact .inr ⟨m, h1, hcm, d, h3, List.contains_iff_mem.mp h4⟩
          · intro q
            have six : 0 ≤ c ∧ c < 6 := by
              rcases q with q | ⟨t, ht, hct, _⟩
              · obtain ⟨x, hx, rfl⟩ := (h c).mp q
                have := R.six x (sub j x hx)
                omega
              · obtain ⟨a, ha, b, hb, _, _, rfl⟩ := (hm t).mp ht
                have := R.six a ha
                have := R.six b hb
                rcases List.mem_cons.mp hct with rfl | hct
                · omega
                · rw [List.mem_singleton] at hct; omega
            rcases q with q | ⟨t, ht, hct, d, hd, hg⟩
            · exact ⟨six, g, List.mem_cons_self, q⟩
            · refine ⟨six, t, List.mem_cons_of_mem _ (List.mem_filter.mpr ⟨ht, ?_⟩), hct⟩
              rw [bne_iff_ne]
              intro z
              have : d ∈ t.filter fun c => g.contains c := List.mem_filter.mpr ⟨hd, List.contains_iff_mem.mpr hg⟩
              rw [z] at this
              cases this
        rw [letm]
        show _ ↔ ∃ x ∈ grow1 (tog ls) W (growN (tog ls) W j (W.take 1)), _
        constructor
        · rintro (q | ⟨t, ht, hct, d, hd, hg⟩)
          · obtain ⟨x, hx, rfl⟩ := (h c).mp q
            exact ⟨x, mem_grow1.mpr ⟨sub j x hx, .inl hx⟩, rfl⟩
          · obtain ⟨a, ha, b, hb, lt, hab, rfl⟩ := (hm t).mp ht
            obtain ⟨y, hy, rfl⟩ := (h d).mp hg
            have two : ∀ c : Int, c ∈ [(a : Int), (b : Int)] → c = (a : Int) ∨ c = (b : Int) := fun c h => by
              rcases List.mem_cons.mp h with h | h
              · exact .inl h
              · exact .inr (List.mem_singleton.mp h)
            rcases two c hct with rfl | rfl <;> rcases two _ hd with e | e
            · have e : y = a := by omega
              subst e
              exact ⟨y, mem_grow1.mpr ⟨ha, .inl hy⟩, rfl⟩
            · have e : y = b := by omega
              subst e
              exact ⟨a, mem_grow1.mpr ⟨ha, .inr ⟨y, hy, by rw [tog_sy]; exact hab⟩⟩, rfl⟩
            · have e : y = a := by omega
              subst e
              exact ⟨b, mem_grow1.mpr ⟨hb, .inr ⟨y, hy, hab⟩⟩, rfl⟩
            · have e : y = b := by omega
              subst e
              exact ⟨y, mem_grow1.mpr ⟨hb, .inl hy⟩, rfl⟩
        · rintro ⟨x, hx, rfl⟩
          obtain ⟨xW, hx⟩ := mem_grow1.mp hx
          rcases hx with hx | ⟨v, hv, hvx⟩
          · exact .inl ((h _).mpr ⟨x, hx, rfl⟩)
          · have vW := sub j v hv
            have n := (tog_iff.mp hvx).1
            refine .inr ⟨edgeL v x, ?_, mem_edgeL.mpr (.inr rfl), (v : Int), mem_edgeL.mpr (.inl rfl), (h _).mpr ⟨v, hv, rfl⟩⟩
            rw [hm]
            unfold edgeL
            split
            · exact ⟨v, vW, x, xW, by omega, hvx, rfl⟩
            · exact ⟨x, xW, v, vW, by omega, by rw [tog_sy]; exact hvx, rfl⟩
  have st : ∀ c, c ∈ (ofN W).take 1 ↔ ∃ x ∈ growN (tog ls) W 0 (W.take 1), c = (x : Int) := fun c => by
    show c ∈ (W.map fun i : Nat => (i : Int)).take 1 ↔ ∃ x ∈ W.take 1, _
    rw [← List.map_take]
    exact mem_ofN
  have fin := key W.length 0 _ st
  have le : (ofN W).length = W.length := List.length_map ..
  rw [le]
  have up : Up (goneN cut W.length ((ofN W).take 1)) := by
    have : ∀ k g, Up g → Up (goneN cut k g) := by
      intro k
      induction k with
      | zero => exact fun g h => h
      | succ k ih => exact fun g _ => ih _ (goneF_lt cut g).up
    exact this _ _ (hL.up.sublist (List.take_sublist 1 _))
  refine up_same up hL.up fun c => ?_
  rw [fin, Nat.zero_add, mem_ofN]
  exact ⟨fun ⟨x, h1, h2⟩ => ⟨x, sub _ x h1, h2⟩, fun ⟨x, h1, h2⟩ => ⟨x, cv x h1, h2⟩⟩
theorem ring_q {ls : List (List Int)} {W : List Nat} (h : RingS ls W) {cut : List (List Int)} (hc : CutP (ls.map (trc (ofN W))) cut) : RingQ (ofN W) cut := by
  obtain ⟨R, cv, hm⟩ := h
  have hm := hm cut hc
  have le : (ofN W).length = W.length := List.length_map ..
  have edge_iff : ∀ a b : Nat, a ∈ W → b ∈ W → (edgeL a b ∈ cut ↔ tog ls a b = true) := fun a b ha hb => by
    rw [hm]
    unfold edgeL
    constructor
    · rintro ⟨x, hx, y, hy, lt, ht, e⟩
      split at e
      · have e1 := (List.cons.inj e).1
        have e2 := (List.cons.inj (List.cons.inj e).2).1
        rw [show a = x by omega, show b = y by omega]; exact ht
      · have e1 := (List.cons.inj e).1
        have e2 := (List.cons.inj (List.cons.inj e).2).1
        rw [tog_sy, show b = x by omega, show a = y by omega]; exact ht
    · intro ht
      have n := (tog_iff.mp ht).1
      split
      · exact ⟨a, ha, b, hb, by omega, ht, rfl⟩
      · exact ⟨b, hb, a, ha, by omega, by rw [tog_sy]; exact ht, rfl⟩
  have deg : ∀ c ∈ ofN W, (cut.filter fun t => t.contains c).length = 2 := fun c hcW => by
    obtain ⟨w, hw, rfl⟩ := mem_ofN.mp hcW
    obtain ⟨p, hp, q, hq, lt, _, two⟩ := R.two w hw
    have tp := (two p hp).mpr (.inl rfl)
    have tq := (two q hq).mpr (.inr rfl)
    have np := (tog_iff.mp tp).1
    have nq := (tog_iff.mp tq).1
    have nd2 : [edgeL w p, edgeL w q].Nodup := by
      refine List.nodup_cons.mpr ⟨fun z => ?_, by simp⟩
      rw [List.mem_singleton] at z
      have : (p : Int) ∈ edgeL w q := by rw [← z]; exact mem_edgeL.mpr (.inr rfl)
      have := mem_edgeL.mp this
      omega
    have pm : (cut.filter fun t => t.contains (w : Int)).Perm [edgeL w p, edgeL w q] := by
      refine (List.perm_ext_iff_of_nodup (hc.nd.filter _) nd2).mpr fun t => ?_
      rw [List.mem_filter, List.contains_iff_mem]
      constructor
      · rintro ⟨h1, h2⟩
        obtain ⟨a, ha, b, hb, lt2, ht, rfl⟩ := (hm t).mp h1
        rcases List.mem_cons.mp h2 with e | e
        · have e : w = a := by omega
          subst e
          rcases (two b hb).mp ht with rfl | rfl
          · unfold edgeL; rw [if_pos lt2]; simp
          · unfold edgeL; rw [if_pos lt2]; simp
        · rw [List.mem_singleton] at e
          have e : w = b := by omega
          subst e
          rcases (two a ha).mp (by rw [tog_sy]; exact ht) with rfl | rfl
          · unfold edgeL; rw [if_neg (by omega)]; simp
          · unfold edgeL
            rw [if_neg (show ¬ w < a by omega)]
            simp
      · intro h
        rcases List.mem_cons.mp h with rfl | h
        · exact ⟨(edge_iff w p hw hp).mpr tp, mem_edgeL.mpr (.inl rfl)⟩
        · rw [List.mem_singleton] at h
          subst h
          exact ⟨(edge_iff w q hw hq).mpr tq, mem_edgeL.mpr (.inl rfl)⟩
    rw [pm.length_eq]
    rfl
  have two : ∀ t ∈ cut, t.length = 2 := fun t ht => by
    obtain ⟨a, _, b, _, _, _, rfl⟩ := (hm t).mp ht
    rfl
  refine ⟨by rw [le]; exact R.len, ?_, two, deg, ?_⟩
  · have s := count_swap (ofN W) cut
    rw [sum_two _ _ deg, sum_two _ _ fun t ht => ?_] at s
    · omega
    · obtain ⟨a, ha, b, hb, lt, _, rfl⟩ := (hm t).mp ht
      have pm : ((ofN W).filter fun c => ([(a : Int), (b : Int)]).contains c).Perm [(a : Int), (b : Int)] := by
        refine (List.perm_ext_iff_of_nodup ((ofN_lt R.six R.up).up.nodup.filter _) (by simp; omega)).mpr fun c => ?_
        rw [List.mem_filter, List.contains_iff_mem]
        constructor
        · exact fun z => z.2
        · intro z
          refine ⟨?_, z⟩
          rcases List.mem_cons.mp z with rfl | z
          · exact mem_ofN.mpr ⟨a, ha, rfl⟩
          · rw [List.mem_singleton] at z
            subst z
            exact mem_ofN.mpr ⟨b, hb, rfl⟩
      rw [pm.length_eq]
      rfl
  · exact ring_all R cv hm
end Kb
set_option Elab.async false
set_option linter.all false
set_option maxRecDepth 100000
set_option maxHeartbeats 2000000
/-! S9: is_stuck_in, lots_within_in, fold_answer. -/
namespace Kb
open PySem L2
def StuckS (ls : List (List Int)) (K : List Int) : Prop := RestsS ls K ∨ ∃ W, K = ofN W ∧ RingS ls W
theorem trc_lt {ls : List (List Int)} (hL : ∀ m ∈ ls, Lt m) (K : List Int) : ∀ t ∈ ls.map (trc K), Lt t := fun t ht => by
  obtain ⟨m, hm, rfl⟩ := List.mem_map.mp ht
  exact (hL m hm).filter _
theorem sp_is_stuck_in {ls : List (List Int)} {m : List Int} {K : PyData → Prop} (hz : ls.length ≤ 1000) (hL : ∀ m ∈ ls, Lt m) (hm : Lt m) (k : ∀ b, (StuckS ls m → b = true) → K (.bool b)) : R_is_stuck_in [lotsD ls, intsD m] K := by
  have e0 : (ls.map intsD).length = ls.length := List.length_map ..
  have lm := hm.len
  refine ⟨rfl, sp_is_lot (fun ds e => ?_) ?_⟩
  · cases e
    rw [List.length_map]; omega
  rw [isLot_iff.mpr ⟨m, rfl, hm⟩]
  refine ⟨true, rfl, ite0 rfl ⟨_, rfl, by omega, lc_mpY intsD (fun t => intsD (trc m t)) (fun t ht A h => sp_common_in (by have := (hL t ht).len; omega) h) ?_⟩⟩
  have e1 : (ls.map fun t => intsD (trc m t)) = (ls.map (trc m)).map intsD := by rw [List.map_map]; rfl
  rw [e1]
  refine sp_greatest_lots (by rw [List.length_map]; exact hz) (trc_lt hL m) fun cut hc => ?_
  have cl : ∀ t ∈ cut, Lt t := fun t ht => trc_lt hL m t ((hc.mem t).mp ht).1
  have cz : cut.length ≤ 1000 := by
    have := nodup_len hc.nd (m := ls.map (trc m)) fun t ht => ((hc.mem t).mp ht).1
    rw [List.length_map] at this
    omega
  have ne : (∀ t ∈ cut, t ≠ []) ∨ cut.head? = some [] := by
    by_cases q : [] ∈ cut
    · right
      have only : ∀ t ∈ cut, t = [] := fun t ht => by
        by_cases z : t = []
        · exact z
        · exact absurd (fun c h => by cases h) (((hc.mem []).mp q).2 t ((hc.mem t).mp ht).1 (Ne.symm z))
      cases cut with
      | nil => cases q
      | cons t r => rw [only t List.mem_cons_self]; rfl
    · exact .inl fun t ht e => q (e ▸ ht)
  refine sp_are_rests (by omega) ne fun b hb => ⟨b, rfl, iteB (fun e => ?_) fun e => ?_⟩
  · exact k true fun _ => rfl
  · refine sp_is_ring hm cl cz fun b2 hb2 => k b2 fun st => ?_
    rcases st with st | ⟨W, rfl, st⟩
    · have := hb st.1 (rests_perm hm st hc)
      rw [e] at this
      cases this
    · exact hb2 (ring_q st hc)
def subsL (acc : List (List Int)) : List Int → List (List Int)
  | [] => acc
  | c :: l => subsL (acc ++ acc.map fun m => m ++ [c]) l
theorem subsL_head : ∀ (l : List Int) (acc : List (List Int)), acc.head? = some [] → (subsL acc l).head? = some []
  | [], _, h => h
  | c :: l, acc, h => subsL_head l _ (by cases acc with
    | nil => cases h
    | cons a r => exact h)
theorem subsL_len : ∀ (l : List Int) (acc : List (List Int)), (subsL acc l).length = acc.length * 2 ^ l.length
  | [], acc => by simp [subsL]
  | c :: l, acc => by
    show (subsL (acc ++ acc.map fun m => m ++ [c]) l).length = _
    rw [subsL_len l, List.length_append, List.length_map, List.length_cons, Nat.pow_succ, ← Nat.two_mul, Nat.mul_comm 2 acc.length, Nat.mul_assoc, Nat.mul_comm 2]
theorem subsL_mono : ∀ (l : List Int) (acc : List (List Int)) (m : List Int), m ∈ acc → m ∈ subsL acc l
  | [], _, _, h => h
  | c :: l, acc, m, h => subsL_mono l _ m (List.mem_append.mpr (.inl h))
theorem subsL_filter (p : Int → Bool) : ∀ (l : List Int) (acc : List (List Int)) (m : List Int), m ∈ acc → m ++ l.filter p ∈ subsL acc l
  | [], acc, m, h => by simpa [subsL] using h
  | c :: l, acc, m, h => by
    show m ++ (c :: l).filter p ∈ subsL (acc ++ acc.map fun m => m ++ [c]) l
    cases q : p c with
    | true =>
      rw [List.filter_cons_of_pos q, show m ++ c :: l.filter p = (m ++ [c]) ++ l.filter p by simp]
      exact subsL_filter p l _ _ (List.mem_append.mpr (.inr (List.mem_map.mpr ⟨m, h, rfl⟩)))
    | false =>
      rw [List.filter_cons_of_neg (by rw [q]; exact Bool.false_ne_true)]
      exact subsL_filter p l _ _ (List.mem_append.mpr (.inl h))
theorem subsL_sub : ∀ (l : List Int) (acc : List (List Int)) (m : List Int), m ∈ subsL acc l → ∃ a ∈ acc, ∃ r, m = a ++ r ∧ r.Sublist l
  | [], acc, m, h => ⟨m, h, [], by simp, List.Sublist.refl _⟩
  | c :: l, acc, m, h => by
    obtain ⟨a, ha, r, e, s⟩ := subsL_sub l _ m h
    rcases List.mem_append.mp ha with ha | ha
    · exact ⟨a, ha, r, e, s.cons c⟩
    · obtain ⟨b, hb, rfl⟩ := List.mem_map.mp ha
      exact ⟨b, hb, c :: r, by rw [e]; simp, s.cons_cons c⟩
theorem sp_lots_within_in {m : List Int} {K : List PyData → Prop} (hm : Lt m) (k : ∀ ms : List (List Int), ms.Perm (subsL [[]] m) → K (ms.map intsD)) : R_lots_within_in [intsD m] K := by
  have lm := hm.len
  refine ⟨rfl, by decide, by decide, _, rfl, ?_⟩
  refine for_inv (fun rest ρ => ∃ (l : List Int) (acc : List (List Int)) (x2 x3 : Option PyData), rest = l.map .int ∧ ρ = [some (intsD m), some (.list (acc.map intsD)), x2, x3] ∧ subsL acc l = subsL [[]] m ∧ acc.length * 2 ^ l.length ≤ 64) (fun d rest ρ hI X hX => ?_) ⟨m, [[]], none, none, rfl, rfl, rfl, ?_⟩ fun ρ hI => ?_
  · obtain ⟨l, acc, x2, x3, el, rfl, hs, hz⟩ := hI
    cases l with
    | nil => cases el
    | cons c l =>
      rw [List.map_cons] at el
      obtain ⟨rfl, rfl⟩ := List.cons.inj el
      have az : acc.length * 2 ^ l.length * 2 ≤ 64 := by rw [List.length_cons, Nat.pow_succ, ← Nat.mul_assoc] at hz; exact hz
      have pos : 1 ≤ 2 ^ l.length := Nat.one_le_two_pow
      have al : acc.length ≤ 64 := Nat.le_trans (Nat.le_mul_of_pos_right _ (Nat.lt_of_lt_of_le Nat.zero_lt_one (Nat.le_trans pos (Nat.le_refl _)))) (by omega)
      have e0 : (acc.map intsD).length = acc.length := List.length_map ..
      refine ⟨_, rfl, by omega, lc_mpY intsD (fun t => intsD (t ++ [c])) (fun t ht A h => ?_) ⟨?_, hX _ ⟨l, acc ++ acc.map fun m => m ++ [c], some (.int c), x3, rfl, ?_, hs, ?_⟩⟩⟩
      · have tl : t.length ≤ 6 := by
          have h1 : t ∈ subsL [[]] m := by rw [← hs]; exact subsL_mono (c :: l) acc t ht
          obtain ⟨a, ha, r, e, sb⟩ := subsL_sub m [[]] t h1
          rw [List.mem_singleton] at ha
          subst ha
          rw [e, List.nil_append]
          exact Nat.le_trans sb.length_le lm
        refine ⟨_, rfl, ?_, ?_⟩
        · rw [List.length_append, List.length_map]
          show t.length + 1 ≤ 100000
          omega
        · rw [show t.map PyData.int ++ [.int c] = (t ++ [c]).map .int by rw [List.map_append]; rfl]
          exact h
      · rw [List.length_map, List.length_map]; omega
      · rw [List.map_append, List.map_map]
        rfl
      · rw [List.length_append, List.length_map, ← Nat.two_mul, Nat.mul_assoc, Nat.mul_comm 2]; exact az
  · have : 2 ^ m.length ≤ 2 ^ 6 := Nat.pow_le_pow_right (by decide) lm
    simpa using this
  · obtain ⟨l, acc, x2, x3, el, rfl, hs, hz⟩ := hI
    cases l with
    | nil =>
      have hs : acc = subsL [[]] m := hs
      exact ⟨acc, rfl, .inr (by rw [hs]; exact subsL_head m [[]] rfl), fun ms p _ => k ms (hs ▸ p)⟩
    | cons _ _ => cases el
end Kb
set_option Elab.async false
set_option linter.all false
set_option maxRecDepth 100000
set_option maxHeartbeats 400000
/-! S10: fold_answer. -/
namespace Kb
open PySem L2
theorem Gr.ent {ls : List (List Int)} {f : List (Option Nat)} {tk : List Nat} (g : Gr ls f tk) : ∀ q, some q ∈ f → q < ls.length := by
  induction g with
  | start h => exact fun q hq => by rw [List.mem_replicate] at hq; cases hq.2
  | step g ha hn hb mx ih =>
    intro q hq
    rcases List.mem_or_eq_of_mem_set hq with h | h
    · exact ih q h
    · cases h; exact g.lt _ hb
theorem isTree_of {ls : List (List Int)} {t : List (Option Nat)} (h1 : t.length = ls.length) (h2 : ∀ q, some q ∈ t → q < ls.length) : isTree ls (treeD t) = treeB ls t := by
  show (((t.map optD).length == ls.length) && (t.map optD).all (optPlc ls.length) && treeB ls ((t.map optD).map toOpt)) = _
  rw [opts_back, all_opts h2, List.length_map, h1, beq_self_eq_true]
  rfl
theorem Gr.isT {ls : List (List Int)} (hL : ∀ m ∈ ls, Lt m) (J : Jo (Lo ls) (· < ls.length)) {t : List (Option Nat)} {tk : List Nat} (g : Gr ls t tk) (e : tk.length = ls.length) : isTree ls (treeD t) = true := by
  rw [isTree_of g.flen g.ent]
  exact g.tree hL J e
theorem sm_tree {t : List (Option Nat)} (h : t.length ≤ 1000) : Sm (treeD t) := by
  show (t.map optD).length ≤ 1000
  rw [List.length_map]; exact h
theorem sp_fold_answer_in {ls : List (List Int)} {K : PyData → Prop} (hz : ls.length ≤ 100) (hL : ∀ m ∈ ls, Lt m) (chk : ∀ n, n < 32768 → chkM n = true) (k1 : ∀ t, t.length = ls.length → isTree ls (treeD t) = true → K (.tuple [.str "folds", treeD t])) (k2 : ∀ x, K (.tuple [.str "stuck", x])) : R_fold_answer_in [lotsD ls] K := by
  have fin : ∀ t : List (Option Nat), t.length = ls.length → (isTree ls (treeD t) = false → ∃ m, Lt m ∧ (∀ c ∈ m, ∃ x ∈ ls, c ∈ x) ∧ StuckS ls m) → ∀ x2, (dSeq (dIfS (dBool (dCall R_is_tree_in (dCons (dVar 0) (dCons (dVar 1) dNil)))) (dRet (dTup (dCons (dC (.str "folds")) (dCons (dVar 1) dNil)))) dSkip) (dRet (dTup (dCons (dC (.str "stuck")) (dCons (dIx (dLst (dLc (dIt (dLst (dCallL R_lots_within_in (dCons (dCall R_all_letters (dCons (dVar 0) dNil)) dNil)))) (pName 2) (dBool (dCall R_is_stuck_in (dCons (dVar 0) (dCons (dVar 2) dNil)))) (dVar 2) [2])) (dC (.int 0))) dNil)))))
      { nx := fun _ => K .none, rt := K, rl := fun _ => False } [some (lotsD ls), some (treeD t), x2] := by
    intro t tl st x2
    refine sp_is_tree_in (by omega) hL (sm_tree (by omega)) ⟨_, rfl, iteB (fun e => ?_) fun e => ?_⟩
    · exact ⟨(show 2 ≤ 100000 by decide), k1 t tl e⟩
    obtain ⟨m0, hm0, oc, sk⟩ := st e
    refine sp_all_letters rfl (by omega) hL (sp_lots_within_in (lets_lt ls) fun ms p => ⟨_, rfl, ?_, ?_⟩)
    · rw [List.length_map, p.length_eq, subsL_len]
      have : 2 ^ (lets ls).length ≤ 2 ^ 6 := Nat.pow_le_pow_right (by decide) (lets_lt ls).len
      rw [List.length_singleton]
      omega
    have mem0 : m0 ∈ ms := by
      rw [p.mem_iff]
      have h := subsL_filter (fun c => m0.contains c) (lets ls) [[]] [] (by simp)
      rw [List.nil_append] at h
      have e : (lets ls).filter (fun c => m0.contains c) = m0 := up_same ((lets_lt ls).filter _).up hm0.up fun c => by
        rw [List.mem_filter, List.contains_iff_mem, mem_lets' hL]
        exact ⟨fun z => z.2, fun z => ⟨oc c z, z⟩⟩
      rw [e] at h
      exact h
    have msl : ∀ m ∈ ms, Lt m := fun m hm => by
      obtain ⟨a, ha, r, e, sb⟩ := subsL_sub (lets ls) [[]] m (p.mem_iff.mp hm)
      rw [List.mem_singleton] at ha
      subst ha
      rw [List.nil_append] at e
      subst e
      exact ⟨(lets_lt ls).up.sublist sb, fun c hc => (lets_lt ls).six c (sb.subset hc)⟩
    refine lc_any (fun rest acc => ∃ l : List (List Int), rest = l.map intsD ∧ (∀ m ∈ l, Lt m) ∧ (acc ≠ [] ∨ m0 ∈ l)) (fun d r acc hI A B h1 h2 => ?_) ⟨ms, rfl, msl, .inr mem0⟩ fun acc hI => ?_
    · obtain ⟨l, el, hl, ha⟩ := hI
      cases l with
      | nil => cases el
      | cons m l =>
        rw [List.map_cons] at el
        obtain ⟨rfl, rfl⟩ := List.cons.inj el
        have hl' : ∀ m ∈ l, Lt m := fun m hm => hl m (List.mem_cons_of_mem _ hm)
        refine sp_is_stuck_in (by omega) hL (hl m List.mem_cons_self) fun b hb => ⟨b, rfl, iteB (fun e => ?_) fun e => ?_⟩
        · exact h1 _ ⟨l, rfl, hl', .inl (by simp)⟩
        · refine h2 ⟨l, rfl, hl', ?_⟩
          rcases ha with ha | ha
          · exact .inl ha
          · rcases List.mem_cons.mp ha with rfl | ha
            · rw [hb sk] at e; cases e
            · exact .inr ha
    · obtain ⟨l, el, _, ha⟩ := hI
      cases l with
      | cons _ _ => cases el
      | nil =>
        have ha : acc ≠ [] := ha.resolve_right List.not_mem_nil
        cases acc with
        | nil => exact absurd rfl ha
        | cons a r => exact ⟨_, ((0 : Nat) : Int), a, rfl, rfl, by rw [atI_nat]; rfl, (show 2 ≤ 100000 by decide), k2 a⟩
  refine ⟨rfl, sp_nearest_tree hz hL (fun e => ?_) fun t tk g e => ?_⟩
  · subst e
    exact fin [] rfl (fun z => by cases z) none
  · refine fin t g.flen (fun z => ?_) none
    have hne : ls ≠ [] := fun e => by
      subst e
      obtain ⟨s, r, es⟩ := g.pos
      rw [es] at e
      cases e
    rcases hang_or_stuck hL hne chk with J | ⟨m, h1, h2, h3⟩ | ⟨W, h1, h2⟩
    · rw [g.isT hL J e] at z
      cases z
    · exact ⟨m, h1, h2, .inl h3⟩
    · exact ⟨ofN W, ofN_lt h2.1.six h2.1.up, fun c hc => by obtain ⟨k, hk, rfl⟩ := mem_ofN.mp hc; exact h1 k hk, .inr ⟨W, rfl, h2⟩⟩
theorem sp_fold_answer {ls : List (List Int)} {K : PyData → Prop} (hz : ls.length ≤ 12) (hL : ∀ m ∈ ls, Lt m) (chk : ∀ n, n < 32768 → chkM n = true) (k1 : ∀ t, t.length = ls.length → isTree ls (treeD t) = true → K (.tuple [.str "folds", treeD t])) (k2 : ∀ x, K (.tuple [.str "stuck", x])) : R_fold_answer [lotsD ls] K := by
  refine ⟨rfl, ?_⟩
  show R_require_web [lotsD ls] fun _ => R_fold_answer_in [lotsD ls] K
  exact sp_require_web hz hL (sp_fold_answer_in (by omega) hL chk k1 k2)
theorem sp_is_tree {ls : List (List Int)} {d : PyData} {K : PyData → Prop} (hz : ls.length ≤ 12) (hL : ∀ m ∈ ls, Lt m) (hd : Sm d) (k : K (.bool (isTree ls d))) : R_is_tree [lotsD ls, d] K := by
  refine ⟨rfl, ?_⟩
  show R_require_web [lotsD ls] fun _ => R_is_tree_in [lotsD ls, d] K
  exact sp_require_web hz hL (sp_is_tree_in (by omega) hL hd k)
end Kb
set_option Elab.async false
set_option linter.all false
set_option maxRecDepth 100000
set_option maxHeartbeats 400000
/-! S11: the law's small defs. -/
namespace Kb
open PySem L2
theorem sp_tr_is_place {d : PyData} {n : Nat} {K : PyData → Prop} (k : K (.bool (isPlc n d))) : R__law_tr_is_place [d, .int n] K := by
  refine ⟨rfl, ?_⟩
  cases d with
  | int i =>
    refine ⟨true, rfl, ite1 rfl ?_⟩
    refine ⟨false, rfl, _, rfl, ite1 rfl ⟨0, i, rfl, rfl, ?_⟩⟩
    by_cases h : (0 : Int) ≤ i
    · rw [if_pos h]
      refine ⟨n, rfl, ?_⟩
      have e : isPlc n (.int i) = decide (i < (n : Int)) := by show (decide (0 ≤ i) && decide (i < (n : Int))) = _; rw [decide_eq_true h, Bool.true_and]
      rw [e] at k
      exact k
    · rw [if_neg h]
      have e : isPlc n (.int i) = false := by show (decide (0 ≤ i) && decide (i < (n : Int))) = _; rw [decide_eq_false h, Bool.false_and]
      rw [e] at k
      exact k
  | bool b =>
    refine ⟨true, rfl, ite1 rfl ?_⟩
    exact ⟨true, rfl, _, rfl, ite0 rfl k⟩
  | none => exact ⟨false, rfl, ite0 rfl k⟩
  | str _ => exact ⟨false, rfl, ite0 rfl k⟩
  | list _ => exact ⟨false, rfl, ite0 rfl k⟩
  | tuple _ => exact ⟨false, rfl, ite0 rfl k⟩
  | dict _ => exact ⟨false, rfl, ite0 rfl k⟩
theorem sp_tr_common {a b : List Int} {K : PyData → Prop} (ha : a.length ≤ 100000) (k : K (intsD (a.filter fun c => b.contains c))) : R__law_tr_common [intsD a, intsD b] K := by
  refine ⟨rfl, _, rfl, by rw [List.length_map]; exact ha, lc_ft .int .int (fun c => b.contains c) (fun x hx A B h1 h2 => ?_) ⟨_, rfl, k⟩⟩
  refine ⟨_, rfl, rfl, flat_ints b, _, rfl, iteB (fun e => h1 ?_) fun e => h2 ?_⟩
  · rw [← any_int]; exact e
  · rw [← any_int]; exact e
theorem within_emp (a b : List Int) : (a.filter fun c => !b.contains c).isEmpty = a.all fun c => b.contains c := by
  induction a with
  | nil => rfl
  | cons c a ih =>
    cases q : b.contains c with
    | true =>
      rw [List.filter_cons_of_neg (by rw [q]; exact Bool.false_ne_true), List.all_cons, q, ih]
      rfl
    | false =>
      rw [List.filter_cons_of_pos (by rw [q]; rfl), List.all_cons, q]
      rfl
theorem sp_tr_within {a b : List Int} {K : PyData → Prop} (ha : a.length ≤ 100000) (k : K (.bool (a.all fun c => b.contains c))) : R__law_tr_within [intsD a, intsD b] K := by
  refine ⟨rfl, _, rfl, by rw [List.length_map]; exact ha, lc_ft .int .int (fun c => !b.contains c) (fun x hx A B h1 h2 => ?_) ⟨_, rfl, ?_⟩⟩
  · refine ⟨_, rfl, rfl, flat_ints b, _, rfl, iteB (fun e => h1 ?_) fun e => h2 ?_⟩
    · rw [← any_int]; exact e
    · rw [← any_int]; exact e
  · have e : ((a.filter fun c => !b.contains c).map PyData.int).isEmpty = a.all fun c => b.contains c := by
      rw [List.isEmpty_map]
      exact within_emp a b
    show K (.bool (((a.filter fun c => !b.contains c).map PyData.int).isEmpty))
    rw [e]
    exact k
theorem sp_tr_of {d : PyData} {ds : List PyData} {K : PyData → Prop} (e : seqD d = some ds) (h0 : 0 < ds.length) (hz : ds.length ≤ 1000000) (k : ∀ x ∈ ds, K x) : R__law_tr_of [d] K := by
  refine ⟨rfl, ds, e, (ds.length : Int), rfl, by omega, by omega, fun r h1 h2 => ?_⟩
  obtain ⟨n, rfl⟩ : ∃ n : Nat, r = (n : Int) := ⟨r.toNat, by omega⟩
  have hr : n < ds.length := by omega
  exact ⟨ds, (n : Int), ds[n], e, rfl, by rw [atI_nat, List.getElem?_eq_getElem hr], k _ (List.getElem_mem hr)⟩
end Kb
set_option Elab.async false
set_option linter.all false
set_option maxRecDepth 100000
set_option maxHeartbeats 400000
/-! S12: the law's letters. -/
namespace Kb
open PySem L2
theorem filt_emp (ls : List (List Int)) (c : Int) : (!(ls.filter fun m => m.contains c).isEmpty) = ls.any fun m => m.contains c := by
  induction ls with
  | nil => rfl
  | cons m ls ih =>
    cases q : m.contains c with
    | true =>
      rw [List.filter_cons_of_pos (p := fun m : List Int => m.contains c) q, List.any_cons, q]
      rfl
    | false =>
      rw [List.filter_cons_of_neg (p := fun m : List Int => m.contains c) (by rw [q]; exact Bool.false_ne_true), List.any_cons, q, ih]
      rfl
theorem sp_tr_letters {d : PyData} {ls : List (List Int)} {K : PyData → Prop} (e : seqD d = some (ls.map intsD)) (hz : ls.length ≤ 10000) (k : K (intsD (lets ls))) : R__law_tr_letters [d] K := by
  refine ⟨rfl, 6, rfl, by decide, by decide, by decide, lc_ft natD natD (fun i => ls.any fun m => m.contains (i : Int)) (fun i hi A B h1 h2 => ?_) ⟨_, rfl, ?_⟩⟩
  · refine ⟨_, e, by rw [List.length_map]; omega, lc_ft intsD intsD (fun m => m.contains (i : Int)) (fun m hm A2 B2 g1 g2 => ⟨_, rfl, rfl, flat_ints m, _, rfl, ?_⟩) ⟨_, rfl, _, rfl, ?_⟩⟩
    · rw [any_int]
      exact iteB g1 g2
    · show (if (!((ls.filter fun m => m.contains (i : Int)).map intsD).isEmpty) = true then _ else _)
      rw [List.isEmpty_map, filt_emp]
      exact iteB h1 h2
  · have e2 : ((List.range (6 : Int).toNat).filter fun i : Nat => ls.any fun m => m.contains (i : Int)).map natD = (lets ls).map .int := by
      rw [nats_ints]
      congr 1
      show ((List.range 6).filter _).map _ = ((List.range 6).map fun i : Nat => (i : Int)).filter _
      rw [List.filter_map]
      rfl
    show K (.tuple _)
    rw [e2]
    exact k
end Kb
set_option Elab.async false
set_option linter.all false
set_option maxRecDepth 100000
set_option maxHeartbeats 400000
/-! S13: a drawn part of a lot. -/
namespace Kb
open PySem L2
theorem sp_tr_some {a : List Int} {K : PyData → Prop} (ha : a.length ≤ 100000) (k : ∀ b : List Int, b.Sublist a → K (intsD b)) : R__law_tr_some [intsD a] K := by
  refine ⟨rfl, _, rfl, by rw [List.length_map]; exact ha, lc_any (fun r acc => ∃ l b pre : List Int, a = pre ++ l ∧ r = l.map .int ∧ acc = b.map .int ∧ b.Sublist pre) (fun d r acc hI A B h1 h2 => ?_) ⟨a, [], [], rfl, rfl, rfl, List.Sublist.refl _⟩ fun acc hI => ?_⟩
  · obtain ⟨l, b, pre, e1, e2, rfl, s⟩ := hI
    cases l with
    | nil => cases e2
    | cons c l =>
      rw [List.map_cons] at e2
      obtain ⟨rfl, rfl⟩ := List.cons.inj e2
      refine ⟨2, rfl, by decide, by decide, fun r _ _ => ⟨(Sh.int 0 _).ok, (Sh.int 0 _).ok, _, rfl, iteB (fun _ => h1 _ ?_) fun _ => h2 ?_⟩⟩
      · exact ⟨l, b ++ [c], pre ++ [c], by rw [e1]; simp, rfl, by rw [List.map_append]; rfl, s.append (List.Sublist.refl _)⟩
      · exact ⟨l, b, pre ++ [c], by rw [e1]; simp, rfl, rfl, s.trans (List.sublist_append_left _ _)⟩
  · obtain ⟨l, b, pre, e1, e2, rfl, s⟩ := hI
    cases l with
    | cons _ _ => cases e2
    | nil =>
      rw [List.append_nil] at e1
      subst e1
      exact ⟨_, rfl, k b s⟩
end Kb
set_option Elab.async false
set_option linter.all false
set_option maxRecDepth 100000
set_option maxHeartbeats 400000
/-! S14: a drawn order. -/
namespace Kb
open PySem L2
theorem erase_perm {α : Type} : ∀ (l : List α) (n : Nat) (h : n < l.length), (l[n] :: l.eraseIdx n).Perm l
  | [], n, h => absurd h (Nat.not_lt_zero n)
  | a :: l, 0, h => List.Perm.refl _
  | a :: l, n + 1, h => (List.Perm.swap a _ _).trans (List.Perm.cons a (erase_perm l n (Nat.lt_of_succ_lt_succ h)))
theorem sp_tr_mixed {d : PyData} {ds : List PyData} {K : PyData → Prop} (e : seqD d = some ds) (hz : ds.length ≤ 1000) (k : ∀ es : List PyData, es.Perm ds → K (.tuple es)) : R__law_tr_mixed [d] K := by
  refine ⟨rfl, ds, e, by decide, fun m ρ => ∃ left found : List PyData, m = left.length ∧ ρ = [none, some d, some (.list left), some (.list found)] ∧ (found ++ left).Perm ds, ⟨_, ds, [], rfl, rfl, List.Perm.refl _⟩, ?_⟩
  rintro m ρ ⟨left, found, rfl, rfl, p⟩
  have pl : found.length + left.length = ds.length := by rw [← p.length_eq, List.length_append]
  refine ⟨left, rfl, _, rfl, ?_⟩
  show (if (!left.isEmpty) = true then _ else _)
  refine iteB (fun q => ?_) fun q => ?_
  · have pos : 0 < left.length := by
      cases left with
      | nil => cases q
      | cons _ _ => rw [List.length_cons]; omega
    refine ⟨left, rfl, (left.length : Int), rfl, by omega, by omega, fun r h1 h2 => ?_⟩
    obtain ⟨n, rfl⟩ : ∃ n : Nat, r = (n : Int) := ⟨r.toNat, by omega⟩
    have hr : n < left.length := by omega
    refine ⟨n, left[n], rfl, List.getElem?_eq_getElem hr, by omega, by omega, _, ?_, left.eraseIdx n, found ++ [left[n]], rfl, rfl, ?_⟩
    · rw [List.length_eraseIdx, if_pos hr]; omega
    · refine List.Perm.trans ?_ p
      rw [List.append_assoc]
      exact (List.Perm.append_left found (erase_perm left n hr))
  · have : left = [] := by
      cases left with
      | nil => rfl
      | cons _ _ => cases q
    subst this
    rw [List.append_nil] at p
    exact ⟨_, rfl, k found p⟩
end Kb
set_option Elab.async false
set_option linter.all false
set_option maxRecDepth 100000
set_option maxHeartbeats 400000
/-! S15: the law's is_lot. -/
namespace Kb
open PySem L2
theorem plc_let (d : PyData) : isPlc 6 d = isLet d := by cases d <;> rfl
theorem lc_raw_ft {P : DP} {gt : DB} {ge : DE} {ρ : Env} {K : List PyData → Prop} (p : PyData → Bool) {ds : List PyData} (h : ∀ x ∈ ds, ∀ (A : PyData → Prop) (B : Prop), (p x = true → A x) → (p x = false → B) → P x ρ fun ρ2 => gt ρ2 fun b => if b = true then ge ρ2 A else B) (k : K (ds.filter p)) : lcGo P gt ge ρ ds [] K := by
  have z := lc_ft (P := P) (gt := gt) (ge := ge) (ρ := ρ) (K := K) id id p (xs := ds) h (by rw [List.map_id]; exact k)
  rw [List.map_id] at z
  exact z
theorem filt_none {α : Type} (p : α → Bool) (l : List α) : (l.filter fun x => !p x).isEmpty = l.all p := by
  induction l with
  | nil => rfl
  | cons a l ih =>
    cases q : p a with
    | true => rw [List.filter_cons_of_neg (by rw [q]; exact Bool.false_ne_true), List.all_cons, q, ih]; rfl
    | false => rw [List.filter_cons_of_pos (by rw [q]; rfl), List.all_cons, q]; rfl
theorem sp_tr_is_lot {d : PyData} {K : PyData → Prop} (hz : ∀ ds, d = .tuple ds → ds.length < 64) (k : K (.bool (isLot d))) : R__law_tr_is_lot [d] K := by
  refine ⟨rfl, ?_⟩
  cases d with
  | tuple ds =>
    have hz := hz ds rfl
    refine ⟨true, rfl, ite0 rfl ⟨_, rfl, by omega, lc_raw_ft (fun d => !isLet d) (fun x hx A B h1 h2 => sp_tr_is_place (n := 6) ⟨_, rfl, ?_⟩) ⟨_, rfl, _, rfl, ?_⟩⟩⟩
    · rw [plc_let]
      exact iteB h1 h2
    · show (if (!(ds.filter fun d => !isLet d).isEmpty) = true then _ else _)
      rw [filt_none]
      refine iteB (fun e => ?_) fun e => ?_
      · have e : ds.all isLet = false := by simpa using e
        have e2 : isLot (.tuple ds) = false := by
          show (ds.all isLet && _) = false
          rw [e]
          rfl
        rw [e2] at k
        exact k
      · have e : ds.all isLet = true := by simpa using e
        obtain ⟨m, rfl, hm⟩ := lets_of e
        rw [List.length_map] at hz
        refine ⟨_, rfl, m, rfl, hz, hz, fun ms u s => ⟨(Sh.lst (.ints 0 m)).ok, (Sh.lst (.ints 0 ms)).ok, ?_⟩⟩
        have e3 : PyData.eqv (.list (m.map .int)) (.list (ms.map .int)) = (m == ms) := by
          unfold PyData.eqv
          exact eqv_ints m ms
        rw [e3]
        have e4 : (m == ms) = decide (Up m) := by
          by_cases q : Up m
          · rw [decide_eq_true q, up_same q u fun c => (s c).symm, beq_self_eq_true]
          · rw [decide_eq_false q, beq_eq_false_iff_ne.mpr (fun z : m = ms => q (by rw [z]; exact u))]
        have k2 : K (.bool (isLot (intsD m))) := k
        rw [isLot_ints m hm, ← e4] at k2
        exact k2
  | none => exact ⟨false, rfl, ite1 rfl (ite1 rfl k)⟩
  | bool _ => exact ⟨false, rfl, ite1 rfl (ite1 rfl k)⟩
  | int _ => exact ⟨false, rfl, ite1 rfl (ite1 rfl k)⟩
  | str _ => exact ⟨false, rfl, ite1 rfl (ite1 rfl k)⟩
  | list _ => exact ⟨false, rfl, ite1 rfl (ite1 rfl k)⟩
  | dict _ => exact ⟨false, rfl, ite1 rfl (ite1 rfl k)⟩
end Kb
set_option Elab.async false
set_option linter.all false
set_option maxRecDepth 100000
set_option maxHeartbeats 400000
/-! S16: the law's tree: a greedy walk from anywhere. -/
namespace Kb
open PySem L2
def prsT (ls : List (List Int)) (tk : List Nat) (as : List Nat) : List (List Int) := (as.filter fun a => !tk.contains a).flatMap fun a => tk.map fun b => [(ov ls a b : Int), (a : Int), (b : Int)]
theorem mem_prsT {ls : List (List Int)} {tk as : List Nat} {m : List Int} : m ∈ prsT ls tk as ↔ ∃ a b, a ∈ as ∧ a ∉ tk ∧ b ∈ tk ∧ m = [(ov ls a b : Int), (a : Int), (b : Int)] := by
  unfold prsT
  rw [List.mem_flatMap]
  constructor
  · rintro ⟨a, ha, hm⟩
    obtain ⟨h1, h2⟩ := List.mem_filter.mp ha
    obtain ⟨b, hb, rfl⟩ := List.mem_map.mp hm
    exact ⟨a, b, h1, by simpa [List.contains_iff_mem] using h2, hb, rfl⟩
  · rintro ⟨a, b, h1, h2, h3, rfl⟩
    exact ⟨a, List.mem_filter.mpr ⟨h1, by simpa [List.contains_iff_mem] using h2⟩, List.mem_map.mpr ⟨b, h3, rfl⟩⟩
theorem prsT_len (ls : List (List Int)) (tk : List Nat) : ∀ as : List Nat, (prsT ls tk as).length ≤ as.length * tk.length
  | [] => Nat.zero_le _
  | a :: as => by
    have ih := prsT_len ls tk as
    unfold prsT at ih ⊢
    rw [List.length_cons, Nat.succ_mul]
    by_cases q : (!tk.contains a) = true
    · rw [List.filter_cons_of_pos (p := fun a => !tk.contains a) q, List.flatMap_cons, List.length_append, List.length_map]
      omega
    · rw [List.filter_cons_of_neg (p := fun a => !tk.contains a) q]
      omega
theorem prsT_snoc (ls : List (List Int)) (tk as : List Nat) (a : Nat) : prsT ls tk (as ++ [a]) = prsT ls tk as ++ (if tk.contains a = true then [] else tk.map fun b => [(ov ls a b : Int), (a : Int), (b : Int)]) := by
  unfold prsT
  rw [List.filter_append, List.flatMap_append]
  cases q : tk.contains a with
  | true => rw [List.filter_cons_of_neg (p := fun a => !tk.contains a) (by rw [q]; exact Bool.false_ne_true), if_pos rfl]; rfl
  | false => rw [List.filter_cons_of_pos (p := fun a => !tk.contains a) (by rw [q]; rfl), if_neg Bool.false_ne_true, List.filter_nil, List.flatMap_cons, List.flatMap_nil, List.append_nil]
theorem env_two2 {A B A' B' : List PyData} {l x4 x5 x6 x7 x8 x9 : Option PyData} (h1 : A = A') (h2 : B = B') : ([none, l, some (.list A), some (.list B), x4, x5, x6, x7, x8, x9] : Env) = [none, l, some (.list A'), some (.list B'), x4, x5, x6, x7, x8, x9] := by
  subst h1 h2
  rfl
theorem sp_tr_tree {ls : List (List Int)} {K : PyData → Prop} (hz : ls.length ≤ 100) (hL : ∀ m ∈ ls, Lt m) (k0 : ls = [] → K (.tuple [])) (k : ∀ t tk, Gr ls t tk → tk.length = ls.length → K (treeD t)) : R__law_tr_tree [lotsD ls] K := by
  have e0 : (ls.map intsD).length = ls.length := List.length_map ..
  have hS : Sh 2 (lotsD ls) := .tup (.lots 0 ls)
  refine ⟨rfl, by decide, hS.ok, (Sh.unit 0).ok, _, rfl, ?_⟩
  rw [eqv_unit]
  refine iteB (fun e => ?_) fun e => ?_
  · refine ⟨by decide, k0 ?_⟩
    cases ls with
    | nil => rfl
    | cons _ _ => cases e
  have hne : 0 < ls.length := by
    cases ls with
    | nil => cases e
    | cons m r => rw [List.length_cons]; omega
  refine ⟨by decide, _, rfl, Int.natCast_nonneg _, by rw [e0]; omega, _, rfl, _, rfl, by rw [e0]; omega, by rw [e0]; omega, fun r hr1 hr2 => ⟨(show 1 ≤ 100000 by decide), ?_⟩⟩
  rw [Int.toNat_natCast, e0]
  rw [e0] at hr2
  obtain ⟨s, rfl⟩ : ∃ n : Nat, r = (n : Int) := ⟨r.toNat, by omega⟩
  refine ⟨fun m ρ => ∃ (f : List (Option Nat)) (tk : List Nat) (x4 x5 x6 x7 x8 x9 : Option PyData), m = ls.length - tk.length ∧ Gr ls f tk ∧ ρ = [none, some (lotsD ls), some (.list (f.map optD)), some (.list (tk.map natD)), x4, x5, x6, x7, x8, x9], ⟨_, List.replicate ls.length none, [s], none, none, none, none, none, none, rfl, .start (by omega), ?_⟩, ?_⟩
  · rw [List.map_replicate]; rfl
  rintro m ρ ⟨f, tk, x4, x5, x6, x7, x8, x9, rfl, g, rfl⟩
  have e2 : (tk.map natD).length = tk.length := List.length_map ..
  refine ⟨_, rfl, _, rfl, _, rfl, ?_⟩
  rw [e2, e0]
  refine iteB (fun e => ?_) fun e => ?_
  · have hlt2 : tk.length < ls.length := by have := of_decide_eq_true e; omega
    have pl : ∀ as : List Nat, as.length ≤ 100 → (prsT ls tk as).length ≤ 10000 := fun as h => Nat.le_trans (prsT_len ls tk as) (Nat.mul_le_mul h (by omega : tk.length ≤ 100))
    refine ⟨by decide, _, rfl, _, rfl, Int.natCast_nonneg _, by rw [e0]; omega, ?_⟩
    rw [Int.toNat_natCast, e0]
    refine for_inv (fun r ρ => ∃ (as rest : List Nat) (x5 x8 : Option PyData), as ++ rest = List.range ls.length ∧ r = rest.map natD ∧ ρ = [none, some (lotsD ls), some (.list (f.map optD)), some (.list (tk.map natD)), some (.list ((prsT ls tk as).map intsD)), x5, x6, x7, x8, x9]) (fun d r ρ hI X hX => ?_) ⟨[], List.range ls.length, x5, x8, rfl, rfl, rfl⟩ fun ρ hI => ?_
    · obtain ⟨as, rest, x5, x8, ea, er, rfl⟩ := hI
      cases rest with
      | nil => cases er
      | cons a rest =>
        rw [List.map_cons] at er
        obtain ⟨rfl, rfl⟩ := List.cons.inj er
        have la : a < ls.length := List.mem_range.mp (by rw [← ea]; simp)
        have las : as.length ≤ 100 := by
          have : (as ++ a :: rest).length = ls.length := by rw [ea, List.length_range]
          rw [List.length_append] at this
          omega
        refine ⟨_, rfl, rfl, flat_nats tk, _, rfl, ?_⟩
        rw [any_nat]
        refine iteB (fun q => ?_) fun q => ?_
        · have q : tk.contains a = false := by simpa using q
          refine ⟨_, rfl, by rw [e2]; omega, lc_mpY natD (fun b => intsD [(ov ls a b : Int), (a : Int), (b : Int)]) (fun b hb A hA => ?_) ⟨?_, hX _ ⟨as ++ [a], rest, some (natD a), x8, by rw [← ea]; simp, rfl, ?_⟩⟩⟩
          · have lb := g.lt b hb
            refine ⟨_, (a : Int), _, rfl, rfl, lot_at la, _, (b : Int), _, rfl, rfl, lot_at lb, ?_⟩
            refine sp_tr_common (by have := (lt_getD hL a).len; omega) ⟨_, rfl, (show 3 ≤ 100000 by decide), ?_⟩
            rw [List.length_map]
            exact hA
          · rw [List.length_map, List.length_map]
            have := pl as las
            omega
          · rw [prsT_snoc, q, if_neg Bool.false_ne_true, List.map_append, List.map_map]
            rfl
        · have q : tk.contains a = true := by simpa using q
          refine hX _ ⟨as ++ [a], rest, some (natD a), x8, by rw [← ea]; simp, rfl, ?_⟩
          rw [prsT_snoc, q, if_pos rfl, List.append_nil]
          rfl
    · obtain ⟨as, rest, x5, x8, ea, er, rfl⟩ := hI
      cases rest with
      | cons _ _ => cases er
      | nil =>
      rw [List.append_nil] at ea
      subst ea
      generalize hp : prsT ls tk (List.range ls.length) = ps
      have mp : ∀ m, m ∈ ps ↔ ∃ a b, a < ls.length ∧ a ∉ tk ∧ b ∈ tk ∧ m = [(ov ls a b : Int), (a : Int), (b : Int)] := fun m => by
        rw [← hp, mem_prsT]
        simp only [List.mem_range]
      have lps : ps.length ≤ 10000 := by rw [← hp]; exact pl _ (by rw [List.length_range]; omega)
      have hd : ∀ m ∈ ps, atI (m.map PyData.int) 0 = some (.int (m.headD 0)) := fun m hm => by
        obtain ⟨a, b, _, _, _, rfl⟩ := (mp m).mp hm
        rfl
      refine ⟨_, rfl, by rw [List.length_map]; omega, lc_mpY intsD (fun m => .int (m.headD 0)) (fun m hm A hA => ⟨_, 0, _, rfl, rfl, hd m hm, hA⟩) ⟨ps.map fun m => m.headD 0, by rw [List.map_map]; rfl, ?_, fun mx hmx hmm => ?_⟩⟩
      · obtain ⟨a, la, na⟩ := more_left hlt2
        obtain ⟨s, r, es⟩ := g.pos
        have : [(ov ls a s : Int), (a : Int), (s : Int)] ∈ ps := (mp _).mpr ⟨a, s, la, na, by rw [es]; exact List.mem_cons_self, rfl⟩
        rw [List.length_map]
        exact List.length_pos_of_mem this
      refine ⟨_, rfl, by rw [List.length_map]; omega, lc_ft intsD intsD (fun m => m.headD 0 == mx) (fun m hm A B h1 h2 => ⟨_, 0, _, rfl, rfl, hd m hm, (Sh.int 0 _).ok, (Sh.int 0 _).ok, _, rfl, iteB h1 h2⟩) ?_⟩
      refine sp_tr_of rfl ?_ ?_ fun x hx => ?_
      · obtain ⟨m, hm, e⟩ := List.mem_map.mp hmx
        rw [List.length_map]
        exact List.length_pos_of_mem (List.mem_filter.mpr ⟨hm, by rw [e]; exact beq_self_eq_true mx⟩)
      · rw [List.length_map]
        have := List.length_filter_le (fun m : List Int => m.headD 0 == mx) ps
        omega
      obtain ⟨m, hm, rfl⟩ := List.mem_map.mp hx
      obtain ⟨hm, hq⟩ := List.mem_filter.mp hm
      obtain ⟨a, b, la, na, hb, rfl⟩ := (mp m).mp hm
      have hq : (ov ls a b : Int) = mx := eq_of_beq hq
      refine ⟨_, _, _, rfl, ?_⟩
      refine ⟨a, rfl, by rw [List.length_map, g.flen]; exact la, ?_⟩
      refine ⟨by rw [e2]; omega, ?_⟩
      refine ⟨_, ?_, _, _, _, _, _, _, _, _, rfl, .step g la na hb (fun a' b' h1 h2 h3 => ?_), env_two2 set_opts (by rw [List.map_append]; rfl)⟩
      · rw [List.length_append, List.length_singleton]; omega
      · have := hmm _ (List.mem_map.mpr ⟨_, (mp _).mpr ⟨a', b', h1, h2, h3, rfl⟩, rfl⟩)
        have this : (ov ls a' b' : Int) ≤ mx := this
        omega
  · have : tk.length = ls.length := by have := of_decide_eq_false e; have := g.len; omega
    exact ⟨_, rfl, k f tk g this⟩
end Kb
set_option Elab.async false
set_option linter.all false
set_option maxRecDepth 100000
set_option maxHeartbeats 400000
/-! S17: the program's bags of an order. -/
namespace Kb
open PySem L2
theorem sp_require_order {l o : List Int} {K : PyData → Prop} (hl : Lt l) (hp : o.Perm l) (k : K .none) : R_require_order [intsD l, intsD o] K := by
  have ho : ∀ c ∈ o, 0 ≤ c ∧ c < 6 := fun c hc => hl.six c (hp.mem_iff.mp hc)
  have len : o.length ≤ 6 := by rw [hp.length_eq]; exact hl.len
  refine ⟨rfl, true, rfl, ite0 rfl ⟨_, rfl, by rw [List.length_map]; omega, lc_mpY .int (fun _ => .bool true) (fun x hx A h => sp_is_letter ?_) ⟨o.map fun _ => true, by rw [List.map_map]; rfl, _, rfl, ite0 ?_ ⟨o, rfl, fun ms pm sm => ⟨_, rfl, (Sh.lst (.ints 0 ms)).ok, (Sh.lst (.ints 0 l)).ok, _, rfl, ite0 ?_ k⟩⟩⟩⟩⟩
  · have e : isLet (.int x) = true := by
      show (decide (0 ≤ x) && decide (x < 6)) = true
      rw [decide_eq_true (ho x hx).1, decide_eq_true (ho x hx).2]
      rfl
    rw [e]
    exact h
  · have e : ((o.map fun _ => true).all id) = true := by rw [List.all_map, List.all_eq_true]; exact fun _ _ => rfl
    show (!((o.map fun _ => true).all id)) = false
    rw [e]
    rfl
  · have e : ms = l := by
      have q := pm.trans hp
      exact up_same (up_of sm (q.nodup_iff.mpr hl.up.nodup)) hl.up fun c => q.mem_iff
    subst e
    show (!PyData.eqv (.list (ms.map .int)) (.list (ms.map .int))) = false
    unfold PyData.eqv
    rw [eqv_ints, beq_self_eq_true]
    rfl
theorem env_ab {A B A' B' : List PyData} {x0 x1 x4 x5 x6 : Option PyData} (h1 : A = A') (h2 : B = B') : ([x0, x1, some (.list A), some (.list B), x4, x5, x6] : Env) = [x0, x1, some (.list A'), some (.list B'), x4, x5, x6] := by
  subst h1 h2
  rfl
def noE (ls : List (List Int)) : List (List Int) := ls.filter fun m => m != []
theorem sp_bags_taken {ls : List (List Int)} {o : List Int} {K : List PyData → Prop} (hz : ls.length ≤ 100) (hL : ∀ m ∈ ls, Lt m) (ho : o.length ≤ 100) (k : K ((elim (noE ls) o).map intsD)) : R_bags_taken [lotsD ls, intsD o] K := by
  have nl : (noE ls).length ≤ ls.length := List.length_filter_le ..
  have hN : ∀ m ∈ noE ls, Lt m := fun m hm => hL m (List.mem_filter.mp hm).1
  refine ⟨rfl, _, rfl, by rw [List.length_map]; omega, lc_ft intsD intsD (fun m => m != []) (fun m hm A B h1 h2 => ⟨by decide, (Sh.intsD 0 m).ok, (Sh.unit 0).ok, _, rfl, ?_⟩) ⟨by decide, ?_⟩⟩
  · have e : (!PyData.eqv (intsD m) (.tuple [])) = (m != []) := by
      rw [show (PyData.tuple [] : PyData) = intsD [] from rfl, eqv_intsD]
      rfl
    rw [e]
    exact iteB h1 h2
  refine ⟨_, rfl, ?_⟩
  refine for_inv (fun r ρ => ∃ (left found : List (List Int)) (rest : List Int) (x4 x5 x6 : Option PyData), r = rest.map .int ∧ found ++ elim left rest = elim (noE ls) o ∧ (∀ m ∈ left, Lt m) ∧ left.length + rest.length ≤ ls.length + o.length ∧ found.length + rest.length = o.length ∧
      ρ = [some (lotsD ls), some (intsD o), some (.list (left.map intsD)), some (.list (found.map intsD)), x4, x5, x6]) (fun d r ρ hI X hX => ?_) ⟨noE ls, [], o, none, none, none, rfl, rfl, hN, by omega, by simp, rfl⟩ fun ρ hI => ?_
  · obtain ⟨left, found, rest, x4, x5, x6, er, ee, hl, z1, z2, rfl⟩ := hI
    cases rest with
    | nil => cases er
    | cons c rest =>
    rw [List.map_cons] at er
    obtain ⟨rfl, rfl⟩ := List.cons.inj er
    rw [List.length_cons] at z1 z2
    have fl : (left.filter (has c)).length ≤ left.length := List.length_filter_le ..
    have fl2 : (left.filter fun m => !has c m).length ≤ left.length := List.length_filter_le ..
    refine ⟨_, rfl, by rw [List.length_map]; omega, lc_ft intsD intsD (has c) (fun m hm A B h1 h2 => ⟨_, rfl, rfl, flat_ints m, _, rfl, ?_⟩) (sp_all_letters rfl (by omega) (fun m hm => hl m (List.mem_filter.mp hm).1) ⟨by rw [List.length_map]; omega, ?_⟩)⟩
    · rw [any_int]
      exact iteB h1 h2
    refine ⟨_, rfl, by rw [List.length_map]; omega, lc_ft intsD intsD (fun m => !has c m) (fun m hm A B h1 h2 => ⟨_, rfl, rfl, flat_ints m, _, rfl, ?_⟩) ⟨(show 1 ≤ 100000 by decide), ?_⟩⟩
    · rw [any_int]
      exact iteB h1 h2
    refine sp_rest_in (a := bagOf left c) (b := [c]) (by have := (bagOf_lt left c).len; omega) ⟨by rw [List.length_map]; omega, ?_⟩
    refine hX _ ⟨leftOf left c, found ++ [bagOf left c], rest, some (.int c), some (intsD (bagOf left c)), x6, rfl, by rw [← ee, List.append_assoc]; rfl, leftOf_lt hl c, ?_, by rw [List.length_append, List.length_singleton]; omega, ?_⟩
    · unfold leftOf
      rw [List.length_append, List.length_singleton]
      omega
    · exact env_ab (by unfold leftOf; rw [List.map_append]; rfl) (by rw [List.map_append]; rfl)
  · obtain ⟨left, found, rest, x4, x5, x6, er, ee, hl, z1, z2, rfl⟩ := hI
    cases rest with
    | cons _ _ => cases er
    | nil =>
    have ee : found ++ [] = elim (noE ls) o := ee
    rw [List.append_nil] at ee
    subst ee
    exact k
theorem sp_greatest_bags {ts : List (List Int)} {K : PyData → Prop} (hz : ts.length ≤ 1000) (hL : ∀ m ∈ ts, Lt m) (hne : ∀ m ∈ ts, m ≠ []) (k : ∀ cut, CutP ts cut → Srt cut → K (lotsD cut)) : R_greatest_bags [.list (ts.map intsD)] K := by
  have lz : (dedL ts).length ≤ ts.length := nodup_len (nodup_dedL ts) fun x hx => mem_dedL.mp hx
  refine ⟨rfl, show 2 < 4 by decide, _, rfl, ts, rfl, by omega, by omega, fun m hm => hne m (mem_dedL.mp hm), fun ds pm nd srt => ?_⟩
  have md : ∀ t, t ∈ ds ↔ t ∈ ts := fun t => pm.mem_iff.trans mem_dedL
  have ndd : ds.Nodup := pm.nodup_iff.mpr nd
  have lz : ds.length ≤ 1000 := by rw [pm.length_eq]; omega
  have e0 : (ds.map intsD).length = ds.length := List.length_map ..
  refine ⟨_, rfl, by omega, ?_⟩
  refine lc_ft intsD intsD (fun t => !ds.any fun o => t != o && t.all fun c => o.contains c) (fun t ht A B h1 h2 => ?_) ⟨_, rfl, ?_⟩
  · refine ⟨_, rfl, by omega, lc_mpY intsD (fun o => .bool (t != o && t.all fun c => o.contains c)) (fun o ho A h => ?_) ⟨ds.map fun o => t != o && t.all fun c => o.contains c, by rw [List.map_map]; rfl, _, rfl, ?_⟩⟩
    · refine ⟨(Sh.intsD 0 t).ok, (Sh.intsD 0 o).ok, _, rfl, ?_⟩
      rw [eqv_intsD]
      have e : (!t == o) = (t != o) := rfl
      rw [e]
      refine iteB (fun q => ?_) fun q => ?_
      · rw [q, Bool.true_and] at h
        exact sp_within_in (by have := (hL t ((md t).mp ht)).len; omega) h
      · rw [q, Bool.false_and] at h
        exact h
    · have e : (ds.map fun o => t != o && t.all fun c => o.contains c).any id = ds.any fun o => t != o && t.all fun c => o.contains c := by rw [List.any_map]; rfl
      show (if (!(ds.map fun o => t != o && t.all fun c => o.contains c).any id) = true then _ else _)
      rw [e]
      exact iteB h1 h2
  · refine k _ ⟨ndd.filter _, fun t => ?_⟩ (List.Pairwise.filter _ srt)
    rw [List.mem_filter, md, Bool.not_eq_true', List.any_eq_false]
    refine and_congr_right fun _ => ⟨fun h t' ht' n s => ?_, fun h t' ht' q => ?_⟩
    · refine h t' ((md t').mpr ht') ?_
      rw [Bool.and_eq_true, bne_iff_ne]
      exact ⟨n, within_iff.mpr s⟩
    · rw [Bool.and_eq_true, bne_iff_ne] at q
      exact h t' ((md t').mp ht') q.1 (within_iff.mp q.2)
end Kb
set_option Elab.async false
set_option linter.all false
set_option maxRecDepth 100000
set_option maxHeartbeats 400000
/-! S18: bags of an order are a tree of bags. -/
namespace Kb
open PySem L2
theorem CutP.cov {ts cut : List (List Int)} (h : CutP ts cut) (hL : ∀ m ∈ ts, Lt m) : ∀ m ∈ ts, ∃ b ∈ cut, ∀ c ∈ m, c ∈ b := by
  have key : ∀ (n : Nat), ∀ m ∈ ts, 6 - m.length ≤ n → ∃ b ∈ cut, ∀ c ∈ m, c ∈ b := by
    intro n
    induction n with
    | zero =>
      intro m hm hn
      have lm := (hL m hm).len
      refine ⟨m, (h.mem m).mpr ⟨hm, fun t' ht' ne s => ne ?_⟩, fun c hc => hc⟩
      have := (hL t' ht').len
      exact up_same (hL m hm).up (hL t' ht').up fun c => ⟨s c, sub_eq (hL m hm).up.nodup s (by omega) c⟩
    | succ n ih =>
      intro m hm hn
      by_cases q : ∃ t' ∈ ts, m ≠ t' ∧ ∀ c ∈ m, c ∈ t'
      · obtain ⟨t', ht', ne, s⟩ := q
        have l1 := nodup_len (hL m hm).up.nodup s
        have l2 : m.length ≠ t'.length := fun e => ne (up_same (hL m hm).up (hL t' ht').up fun c => ⟨s c, sub_eq (hL m hm).up.nodup s (by omega) c⟩)
        have l3 := (hL t' ht').len
        obtain ⟨b, hb, s2⟩ := ih t' ht' (by omega)
        exact ⟨b, hb, fun c hc => s2 c (s c hc)⟩
      · exact ⟨m, (h.mem m).mpr ⟨hm, fun t' ht' ne s => q ⟨t', ht', ne, s⟩⟩, fun c hc => hc⟩
  exact fun m hm => key _ m hm (Nat.le_refl _)
def coverB (ls bs : List (List Int)) : Bool := ((lets bs).all fun c => (lets ls).contains c) && ls.all fun m => bs.any fun b => m.all fun c => b.contains c
theorem coverB_of {ls bs : List (List Int)} (hL : ∀ m ∈ ls, Lt m) (hB : ∀ m ∈ bs, Lt m) (h1 : ∀ b ∈ bs, ∀ c ∈ b, ∃ m ∈ ls, c ∈ m) (h2 : ∀ m ∈ ls, ∃ b ∈ bs, ∀ c ∈ m, c ∈ b) : coverB ls bs = true := by
  unfold coverB
  rw [Bool.and_eq_true, List.all_eq_true, List.all_eq_true]
  refine ⟨fun c hc => ?_, fun m hm => ?_⟩
  · obtain ⟨b, hb, hc⟩ := (mem_lets' hB).mp hc
    exact List.contains_iff_mem.mpr ((mem_lets' hL).mpr (h1 b hb c hc))
  · obtain ⟨b, hb, s⟩ := h2 m hm
    exact List.any_eq_true.mpr ⟨b, hb, within_iff.mpr s⟩
theorem coverB_to {ls bs : List (List Int)} (hL : ∀ m ∈ ls, Lt m) (hB : ∀ m ∈ bs, Lt m) (h : coverB ls bs = true) : (∀ b ∈ bs, ∀ c ∈ b, ∃ m ∈ ls, c ∈ m) ∧ ∀ m ∈ ls, ∃ b ∈ bs, ∀ c ∈ m, c ∈ b := by
  unfold coverB at h
  rw [Bool.and_eq_true, List.all_eq_true, List.all_eq_true] at h
  refine ⟨fun b hb c hc => ?_, fun m hm => ?_⟩
  · exact (mem_lets' hL).mp (List.contains_iff_mem.mp (h.1 c ((mem_lets' hB).mpr ⟨b, hb, hc⟩)))
  · obtain ⟨b, hb, s⟩ := List.any_eq_true.mp (h.2 m hm)
    exact ⟨b, hb, within_iff.mp s⟩
structure BagsT (ls : List (List Int)) (o : List Int) (B : List (List Int)) : Prop where
  len : B.length ≤ 6
  lt : ∀ m ∈ B, Lt m
  hang : Hang B
  cov : coverB ls B = true
  cut : lets ls ≠ [] → CutP (elim (noE ls) o) B ∧ Srt B
theorem mem_noE {ls : List (List Int)} {m : List Int} : m ∈ noE ls ↔ m ∈ ls ∧ m ≠ [] := by
  unfold noE
  rw [List.mem_filter, bne_iff_ne]
theorem bags_ok {ls : List (List Int)} {o : List Int} {cut : List (List Int)} (hL : ∀ m ∈ ls, Lt m) (hp : o.Perm (lets ls)) (hc : CutP (elim (noE ls) o) cut) (srt : Srt cut) : (cut ≠ [] ∨ ls = [] → BagsT ls o cut) ∧ (cut = [] → ls ≠ [] → BagsT ls o [[]]) := by
  have hN : ∀ m ∈ noE ls, Lt m := fun m hm => hL m (mem_noE.mp hm).1
  have hE : ∀ m ∈ elim (noE ls) o, Lt m := elim_lt o _
  have hin : ∀ m ∈ noE ls, ∀ d ∈ m, d ∈ o := fun m hm d hd => hp.mem_iff.mpr ((mem_lets' hL).mpr ⟨m, (mem_noE.mp hm).1, hd⟩)
  have cov := hc.cov hE
  have hlt : ∀ m ∈ cut, Lt m := fun m hm => hE m ((hc.mem m).mp hm).1
  have olen : o.length ≤ 6 := by rw [hp.length_eq]; exact (lets_lt ls).len
  have clen : cut.length ≤ 6 := by
    have := nodup_len hc.nd (m := elim (noE ls) o) fun m hm => ((hc.mem m).mp hm).1
    rw [elim_len] at this
    omega
  have oe : cut = [] → o = [] := fun e => by
    subst e
    have : elim (noE ls) o = [] := by
      cases q : elim (noE ls) o with
      | nil => rfl
      | cons m r =>
        obtain ⟨b, hb, _⟩ := cov m (by rw [q]; exact List.mem_cons_self)
        cases hb
    have l := elim_len o (noE ls)
    rw [this] at l
    exact List.length_eq_zero_iff.mp l.symm
  refine ⟨fun hne => ⟨clen, hlt, ?_, ?_, fun _ => ⟨hc, srt⟩⟩, fun ce lne => ?_⟩
  · by_cases e : cut = []
    · exact .inl e
    · refine .inr ((elim_jo o hN hin fun q => e ?_).pick hc.nd (fun b hb => ((hc.mem b).mp hb).1) cov)
      subst q
      cases q2 : cut with
      | nil => rfl
      | cons b r =>
        have := ((hc.mem b).mp (by rw [q2]; exact List.mem_cons_self)).1
        cases this
  · refine coverB_of hL hlt (fun b hb c hc2 => ?_) fun m hm => ?_
    · obtain ⟨m, hm, hc3⟩ := elim_sub o hN b ((hc.mem b).mp hb).1 c hc2
      exact ⟨m, (mem_noE.mp hm).1, hc3⟩
    · by_cases e : m = []
      · subst e
        cases q2 : cut with
        | nil =>
          rcases hne with h | h
          · exact absurd q2 h
          · subst h; cases hm
        | cons b r => exact ⟨b, List.mem_cons_self, fun c h => by cases h⟩
      · obtain ⟨b, hb, s⟩ := elim_cover o hN hin m (mem_noE.mpr ⟨hm, e⟩) e
        obtain ⟨b2, hb2, s2⟩ := cov b hb
        exact ⟨b2, hb2, fun c hc => s2 c (s c hc)⟩
  · have le : lets ls = [] := by
      have := hp.length_eq
      rw [oe ce, List.length_nil] at this
      exact List.length_eq_zero_iff.mp this.symm
    have me : ∀ m ∈ ls, m = [] := fun m hm => by
      cases m with
      | nil => rfl
      | cons c r =>
        have : c ∈ lets ls := (mem_lets' hL).mpr ⟨_, hm, List.mem_cons_self⟩
        rw [le] at this
        cases this
    refine ⟨by decide, fun m hm => by rw [List.mem_singleton] at hm; rw [hm]; exact Lt.nil, .inr (Jo.unit []), coverB_of hL (fun m hm => by rw [List.mem_singleton] at hm; rw [hm]; exact Lt.nil) (fun b hb c hc2 => ?_) (fun m hm => ⟨[], List.mem_singleton.mpr rfl, fun c hc2 => ?_⟩), fun h => absurd le h⟩
    · rw [List.mem_singleton] at hb
      subst hb
      cases hc2
    · rw [me m hm] at hc2
      cases hc2
theorem Hang.jo {B : List (List Int)} (h : Hang B) (hn : B ≠ []) : Jo (Lo B) (· < B.length) := h.resolve_left hn
theorem Gr.hang {B : List (List Int)} {t : List (Option Nat)} {tk : List Nat} (g : Gr B t tk) : B ≠ [] := fun e => by
  obtain ⟨s, r, es⟩ := g.pos
  have := g.lt s (by rw [es]; exact List.mem_cons_self)
  rw [e] at this
  cases this
theorem isTree_nil : isTree [] (treeD []) = true := by rfl
theorem elim_ne : ∀ (order : List Int) {left : List (List Int)}, (∀ m ∈ left, Lt m) → (∀ c ∈ order, ∃ m ∈ left, c ∈ m) → order.Nodup → ∀ b ∈ elim left order, b ≠ []
  | [], _, _, _, _, b, h => by cases h
  | c :: order, left, hl, ha, nd, b, h => by
    obtain ⟨n1, n2⟩ := List.nodup_cons.mp nd
    rcases List.mem_cons.mp h with h | h
    · subst h
      obtain ⟨m, hm, hc⟩ := ha c List.mem_cons_self
      exact fun e => by
        have : c ∈ bagOf left c := (mem_bagOf hl).mpr ⟨m, hm, hc, hc⟩
        rw [e] at this
        cases this
    · refine elim_ne order (leftOf_lt hl c) (fun d hd => ?_) n2 b h
      have ne : d ≠ c := fun e => n1 (e ▸ hd)
      obtain ⟨m, hm, hdm⟩ := ha d (List.mem_cons_of_mem _ hd)
      by_cases q : c ∈ m
      · exact ⟨_, mem_leftOf.mpr (.inr rfl), mem_rest.mpr ⟨(mem_bagOf hl).mpr ⟨m, hm, q, hdm⟩, ne⟩⟩
      · exact ⟨m, mem_leftOf.mpr (.inl ⟨hm, q⟩), hdm⟩
theorem ord_met {ls : List (List Int)} {o : List Int} (hL : ∀ m ∈ ls, Lt m) (hp : o.Perm (lets ls)) : ∀ c ∈ o, ∃ m ∈ noE ls, c ∈ m := fun c hc => by
  obtain ⟨m, hm, h⟩ := (mem_lets' hL).mp (hp.mem_iff.mp hc)
  exact ⟨m, mem_noE.mpr ⟨hm, fun e => by rw [e] at h; cases h⟩, h⟩
theorem sp_bags_of_in {ls : List (List Int)} {o : List Int} {K : PyData → Prop} (hz : ls.length ≤ 12) (hL : ∀ m ∈ ls, Lt m) (hp : o.Perm (lets ls)) (k : ∀ B t, BagsT ls o B → t.length = B.length → isTree B (treeD t) = true → K (.tuple [lotsD B, treeD t])) : R_bags_of_in [lotsD ls, intsD o] K := by
  have olen : o.length ≤ 6 := by rw [hp.length_eq]; exact (lets_lt ls).len
  have hN : ∀ m ∈ noE ls, Lt m := fun m hm => hL m (mem_noE.mp hm).1
  have fin : ∀ B, BagsT ls o B → R_nearest_tree [lotsD B] (fun d => 2 ≤ 100000 ∧ K (.tuple [lotsD B, d])) := fun B hB => by
    refine sp_nearest_tree (by have := hB.len; omega) hB.lt (fun e => ⟨by decide, ?_⟩) fun t tk g e => ⟨by decide, ?_⟩
    · subst e
      exact k [] [] hB rfl isTree_nil
    · exact k B t hB g.flen (g.isT hB.lt (hB.hang.jo g.hang) e)
  refine ⟨rfl, ?_⟩
  show R_bags_taken [lotsD ls, intsD o] fun ds => R_greatest_bags [.list ds] _
  refine sp_bags_taken (by omega) hL (by omega) ?_
  refine sp_greatest_bags (by rw [elim_len]; omega) (elim_lt o _) (elim_ne o hN (ord_met hL hp) (hp.nodup_iff.mpr (lets_lt ls).up.nodup)) fun cut hc srt => ?_
  obtain ⟨b1, b2⟩ := bags_ok hL hp hc srt
  have sC : Sh 2 (lotsD cut) := .tup (.lots 0 cut)
  have sL : Sh 2 (lotsD ls) := .tup (.lots 0 ls)
  refine ⟨by decide, sC.ok, (Sh.unit 0).ok, _, rfl, ?_⟩
  rw [eqv_unit, List.isEmpty_map]
  refine iteB (fun e => ?_) fun e => ?_
  · have ce : cut = [] := List.isEmpty_iff.mp e
    refine ⟨by decide, sL.ok, (Sh.unit 0).ok, _, rfl, ?_⟩
    rw [eqv_unit, List.isEmpty_map]
    refine iteB (fun e2 => ⟨by decide, by decide, fin [[]] (b2 ce fun z => ?_)⟩) fun e2 => ?_
    · rw [z] at e2; cases e2
    · refine fin cut (b1 (.inr ?_))
      exact List.isEmpty_iff.mp (by simpa using e2)
  · exact ite0 rfl (fin cut (b1 (.inl fun z => by rw [z] at e; cases e)))
theorem sp_bags_of {ls : List (List Int)} {o : List Int} {K : PyData → Prop} (hz : ls.length ≤ 12) (hL : ∀ m ∈ ls, Lt m) (hp : o.Perm (lets ls)) (k : ∀ B t, BagsT ls o B → t.length = B.length → isTree B (treeD t) = true → K (.tuple [lotsD B, treeD t])) : R_bags_of [lotsD ls, intsD o] K := by
  refine ⟨rfl, ?_⟩
  show R_require_web [lotsD ls] fun _ => R_all_letters [lotsD ls] fun l => R_require_order [l, intsD o] fun _ => R_bags_of_in [lotsD ls, intsD o] K
  exact sp_require_web hz hL (sp_all_letters rfl (by omega) hL (sp_require_order (lets_lt ls) hp (sp_bags_of_in hz hL hp k)))
end Kb
set_option Elab.async false
set_option linter.all false
set_option maxRecDepth 100000
set_option maxHeartbeats 400000
/-! S19: what is a tree of bags. -/
namespace Kb
open PySem L2
def intOf : PyData → Int
  | .int i => i
  | _ => 0
def lotOf : PyData → List Int
  | .tuple ds => ds.map intOf
  | _ => []
def lotsOf : PyData → List (List Int)
  | .tuple ds => ds.map lotOf
  | _ => []
theorem lotOf_ints (m : List Int) : lotOf (intsD m) = m := by
  show (m.map PyData.int).map intOf = m
  rw [List.map_map]
  exact (List.map_congr_left fun _ _ => rfl).trans (List.map_id m)
theorem lotsOf_lots (ls : List (List Int)) : lotsOf (lotsD ls) = ls := by
  show (ls.map intsD).map lotOf = ls
  rw [List.map_map]
  exact (List.map_congr_left fun m _ => lotOf_ints m).trans (List.map_id ls)
def isBags (ls : List (List Int)) : PyData → Bool
  | .tuple [a, b] => isWeb a && (isTree (lotsOf a) b && coverB ls (lotsOf a))
  | _ => false
theorem isBags_len {ls : List (List Int)} {ds : List PyData} (h : ds.length ≠ 2) : isBags ls (.tuple ds) = false := by
  match ds, h with
  | [], _ => rfl
  | [_], _ => rfl
  | [_, _], h => exact absurd rfl h
  | _ :: _ :: _ :: _, _ => rfl
theorem two_list {ds : List PyData} (h : ds.length = 2) : ∃ a b, ds = [a, b] := by
  match ds, h with
  | [a, b], _ => exact ⟨a, b, rfl⟩
theorem sp_is_bags_in {ls : List (List Int)} {d : PyData} {K : PyData → Prop} (hz : ls.length ≤ 12) (hL : ∀ m ∈ ls, Lt m) (hd : ∀ a b, d = .tuple [a, b] → Sm2 a ∧ Sm b) (k : K (.bool (isBags ls d))) : R_is_bags_in [lotsD ls, d] K := by
  refine ⟨rfl, ?_⟩
  cases d with
  | none => exact ⟨false, rfl, ite1 rfl (ite1 rfl k)⟩
  | bool _ => exact ⟨false, rfl, ite1 rfl (ite1 rfl k)⟩
  | int _ => exact ⟨false, rfl, ite1 rfl (ite1 rfl k)⟩
  | str _ => exact ⟨false, rfl, ite1 rfl (ite1 rfl k)⟩
  | list _ => exact ⟨false, rfl, ite1 rfl (ite1 rfl k)⟩
  | dict _ => exact ⟨false, rfl, ite1 rfl (ite1 rfl k)⟩
  | tuple ds =>
  refine ⟨true, rfl, ite0 rfl ⟨ds, rfl, (Sh.int 0 _).ok, (Sh.int 0 _).ok, _, rfl, ?_⟩⟩
  rw [show (2 : Int) = ((2 : Nat) : Int) from rfl, eqv_nat]
  refine iteB (fun e => ?_) fun e => ?_
  · have e : (ds.length == 2) = false := by simpa using e
    rw [isBags_len (by simpa using e)] at k
    exact ite1 rfl k
  have e : (ds.length == 2) = true := by simpa using e
  obtain ⟨a, b, rfl⟩ := two_list (eq_of_beq e)
  obtain ⟨ha, hb⟩ := hd a b rfl
  have k : K (.bool (isWeb a && (isTree (lotsOf a) b && coverB ls (lotsOf a)))) := k
  refine ⟨_, 0, a, rfl, rfl, rfl, sp_is_web ha ⟨_, rfl, ?_⟩⟩
  refine iteB (fun e => ?_) fun e => ?_
  · have e : isWeb a = false := by simpa using e
    rw [e] at k
    exact ite1 rfl k
  have e : isWeb a = true := by simpa using e
  rw [e, Bool.true_and] at k
  obtain ⟨bs, rfl, lz, hB⟩ := isWeb_iff.mp e
  rw [lotsOf_lots] at k
  refine ⟨_, 0, _, rfl, rfl, rfl, _, 1, b, rfl, rfl, rfl, sp_is_tree_in (by omega) hB hb ⟨_, rfl, ?_⟩⟩
  refine iteB (fun e => ?_) fun e => ?_
  · have e : isTree bs b = false := by simpa using e
    rw [e] at k
    exact k
  have e : isTree bs b = true := by simpa using e
  rw [e, Bool.true_and] at k
  refine ⟨_, 0, _, rfl, rfl, rfl, sp_all_letters rfl (by omega) hB (sp_all_letters rfl (by omega) hL (sp_within_in (by have := (lets_lt bs).len; omega) ⟨_, rfl, ?_⟩))⟩
  unfold coverB at k
  refine iteB (fun e => ?_) fun e => ?_
  · have e : ((lets bs).all fun c => (lets ls).contains c) = false := by simpa using e
    rw [e] at k
    exact k
  have e : ((lets bs).all fun c => (lets ls).contains c) = true := by simpa using e
  rw [e, Bool.true_and] at k
  refine ⟨_, rfl, by rw [List.length_map]; omega, lc_mpY intsD (fun m => .bool (bs.any fun b => m.all fun c => b.contains c)) (fun m hm A h => ⟨_, 0, _, rfl, rfl, rfl, _, rfl, by rw [List.length_map]; omega, lc_mpY intsD (fun b => .bool (m.all fun c => b.contains c)) (fun b hb A2 h2 => sp_within_in (by have := (hL m hm).len; omega) h2) ⟨bs.map fun b => m.all fun c => b.contains c, by rw [List.map_map]; rfl, ?_⟩⟩) ⟨ls.map fun m => bs.any fun b => m.all fun c => b.contains c, by rw [List.map_map]; rfl, ?_⟩⟩
  · show A (.bool ((bs.map fun b => m.all fun c => b.contains c).any id))
    rw [List.any_map]
    exact h
  · show K (.bool ((ls.map fun m => bs.any fun b => m.all fun c => b.contains c).all id))
    rw [List.all_map]
    exact k
theorem sp_is_bags {ls : List (List Int)} {d : PyData} {K : PyData → Prop} (hz : ls.length ≤ 12) (hL : ∀ m ∈ ls, Lt m) (hd : ∀ a b, d = .tuple [a, b] → Sm2 a ∧ Sm b) (k : K (.bool (isBags ls d))) : R_is_bags [lotsD ls, d] K := by
  refine ⟨rfl, ?_⟩
  show R_require_web [lotsD ls] fun _ => R_is_bags_in [lotsD ls, d] K
  exact sp_require_web hz hL (sp_is_bags_in hz hL hd k)
end Kb
set_option Elab.async false
set_option linter.all false
set_option maxRecDepth 100000
set_option maxHeartbeats 400000
/-! S20: the law's look at a tree. -/
namespace Kb
open PySem L2
theorem numD_map {α : Type} (enc : α → PyData) (d : α) (xs : List α) : numD 0 (xs.map enc) = (List.range xs.length).map fun p => PyData.tuple [natD p, enc (xs.getD p d)] := by
  refine List.ext_getElem? fun i => ?_
  rw [List.getElem?_map]
  by_cases h : i < xs.length
  · rw [List.getElem?_range h, numD_get (d := enc xs[i]) (by rw [List.getElem?_map, List.getElem?_eq_getElem h]; rfl)]
    show _ = some (PyData.tuple [natD i, enc (xs.getD i d)])
    rw [List.getD_eq_getElem?_getD, List.getElem?_eq_getElem h, Nat.zero_add]
    rfl
  · rw [List.getElem?_eq_none (by rw [numD_len, List.length_map]; omega), List.getElem?_eq_none (by rw [List.length_range]; omega)]
    rfl
theorem up_stable {t : List (Option Nat)} (ht : In t) : ∀ p, p < t.length → upN t (t.length + 1) p = true → upN t t.length p = true := by
  have key : ∀ k, (∀ p, p < t.length → upN t (k + 1) p = true → upN t k p = true) ∨ k + 1 ≤ ((List.range t.length).filter (upN t (k + 1))).length := by
    intro k
    by_cases st : ∀ p, p < t.length → upN t (k + 1) p = true → upN t k p = true
    · exact .inl st
    refine .inr ?_
    have : ∃ p, p < t.length ∧ upN t (k + 1) p = true ∧ upN t k p = false := by
      by_cases q : ∃ p, p < t.length ∧ upN t (k + 1) p = true ∧ upN t k p = false
      · exact q
      · refine absurd (fun p hp hu => ?_) st
        cases z : upN t k p with
        | true => rfl
        | false => exact absurd ⟨p, hp, hu, z⟩ q
    obtain ⟨p, hp, h1, h2⟩ := this
    have big : ((List.range t.length).filter (upN t k)).length + 1 ≤ ((List.range t.length).filter (upN t (k + 1))).length := by
      have := nodup_len (l := p :: (List.range t.length).filter (upN t k)) (m := (List.range t.length).filter (upN t (k + 1))) (List.nodup_cons.mpr ⟨fun z => (by rw [List.mem_filter, h2] at z; cases z.2), List.nodup_range.filter _⟩) fun x hx => by
        rcases List.mem_cons.mp hx with rfl | hx
        · exact List.mem_filter.mpr ⟨List.mem_range.mpr hp, h1⟩
        · obtain ⟨q1, q2⟩ := List.mem_filter.mp hx
          exact List.mem_filter.mpr ⟨q1, upN_mono q2⟩
      rwa [List.length_cons] at this
    have low : k ≤ ((List.range t.length).filter (upN t k)).length := by
      clear big
      induction k generalizing p with
      | zero => exact Nat.zero_le _
      | succ k ih =>
        by_cases st2 : ∀ p, p < t.length → upN t (k + 1) p = true → upN t k p = true
        · refine absurd (fun p hp hu => ?_) st
          rw [upN_eq hp] at hu ⊢
          cases e : t.getD p none with
          | none => rfl
          | some q =>
            rw [e] at hu
            exact st2 q (ht.get e) hu
        · have : ∃ p, p < t.length ∧ upN t (k + 1) p = true ∧ upN t k p = false := by
            by_cases q : ∃ p, p < t.length ∧ upN t (k + 1) p = true ∧ upN t k p = false
            · exact q
            · refine absurd (fun p hp hu => ?_) st2
              cases z : upN t k p with
              | true => rfl
              | false => exact absurd ⟨p, hp, hu, z⟩ q
          obtain ⟨p', hp', g1, g2⟩ := this
          have l := ih st2 p' hp' g1 g2
          have := nodup_len (l := p' :: (List.range t.length).filter (upN t k)) (m := (List.range t.length).filter (upN t (k + 1))) (List.nodup_cons.mpr ⟨fun z => (by rw [List.mem_filter, g2] at z; cases z.2), List.nodup_range.filter _⟩) fun x hx => by
            rcases List.mem_cons.mp hx with rfl | hx
            · exact List.mem_filter.mpr ⟨List.mem_range.mpr hp', g1⟩
            · obtain ⟨q1, q2⟩ := List.mem_filter.mp hx
              exact List.mem_filter.mpr ⟨q1, upN_mono q2⟩
          rw [List.length_cons] at this
          omega
    omega
  rcases key t.length with h | h
  · exact h
  · have := List.length_filter_le (upN t (t.length + 1)) (List.range t.length)
    rw [List.length_range] at this
    omega
theorem ded_full {T : List Nat} {n : Nat} (h : ∀ p ∈ T, p < n) : ((dedL (T.map fun i : Nat => (i : Int))).length == n) = (List.range n).all fun p => T.contains p := by
  have sub : ∀ c ∈ dedL (T.map fun i : Nat => (i : Int)), c ∈ (List.range n).map fun i : Nat => (i : Int) := fun c hc => by
    obtain ⟨p, hp, rfl⟩ := List.mem_map.mp (mem_dedL.mp hc)
    exact List.mem_map.mpr ⟨p, List.mem_range.mpr (h p hp), rfl⟩
  have nr : ((List.range n).map fun i : Nat => (i : Int)).Nodup := List.nodup_range.map (f := fun i : Nat => (i : Int)) fun a b e z => e (by omega)
  have l1 := nodup_len (nodup_dedL _) sub
  rw [List.length_map, List.length_range] at l1
  cases q : (List.range n).all fun p => T.contains p with
  | true =>
    rw [List.all_eq_true] at q
    have l2 := nodup_len nr (m := dedL (T.map fun i : Nat => (i : Int))) fun c hc => by
      obtain ⟨p, hp, rfl⟩ := List.mem_map.mp hc
      exact mem_dedL.mpr (List.mem_map.mpr ⟨p, List.contains_iff_mem.mp (q p hp), rfl⟩)
    rw [List.length_map, List.length_range] at l2
    exact beq_iff_eq.mpr (by omega)
  | false =>
    refine beq_eq_false_iff_ne.mpr fun e => ?_
    have : ((List.range n).all fun p => T.contains p) = true := List.all_eq_true.mpr fun p hp => by
      have := sub_eq (X := dedL (T.map fun i : Nat => (i : Int))) (Y := (List.range n).map fun i : Nat => (i : Int)) (nodup_dedL _) sub (by rw [List.length_map, List.length_range]; omega) (p : Int) (List.mem_map.mpr ⟨p, hp, rfl⟩)
      obtain ⟨p', hp', e⟩ := List.mem_map.mp (mem_dedL.mp this)
      have e : p' = p := by omega
      exact List.contains_iff_mem.mpr (e ▸ hp')
    rw [q] at this
    cases this
/-- the letter hangs together: ties among those that have it -/
def tieB (ls : List (List Int)) (t : List (Option Nat)) (c : Int) (p : Nat) : Bool := match t.getD p none with
  | none => false
  | some q => (ls.getD q []).contains c
theorem part_len {α : Type} (p q : α → Bool) : ∀ l : List α, ((l.filter p).filter q).length + (l.filter fun x => p x && !q x).length = (l.filter p).length
  | [] => rfl
  | x :: l => by
    have ih := part_len p q l
    cases hp : p x with
    | false =>
      rw [List.filter_cons_of_neg (p := p) (by rw [hp]; exact Bool.false_ne_true), List.filter_cons_of_neg (p := fun x => p x && !q x) (by show ¬ (p x && !q x) = true; rw [hp]; exact Bool.false_ne_true)]
      exact ih
    | true =>
      rw [List.filter_cons_of_pos (p := p) hp]
      cases hq : q x with
      | true =>
        rw [List.filter_cons_of_pos (p := q) hq, List.filter_cons_of_neg (p := fun x => p x && !q x) (by show ¬ (p x && !q x) = true; rw [hp, hq]; exact Bool.false_ne_true), List.length_cons, List.length_cons]
        omega
      | false =>
        rw [List.filter_cons_of_neg (p := q) (by rw [hq]; exact Bool.false_ne_true), List.filter_cons_of_pos (p := fun x => p x && !q x) (by show (p x && !q x) = true; rw [hp, hq]; rfl), List.length_cons, List.length_cons]
        omega
theorem begs_ties (ls : List (List Int)) (t : List (Option Nat)) (c : Int) : (((List.range ls.length).filter fun p => (ls.getD p []).contains c).filter (tieB ls t c)).length + (begs ls t c).length = ((List.range ls.length).filter fun p => (ls.getD p []).contains c).length := by
  rw [← part_len (fun p => (ls.getD p []).contains c) (tieB ls t c)]
  congr 2
  unfold begs
  refine List.filter_congr fun p _ => ?_
  unfold begB tieB
  cases t.getD p none <;> rfl
theorem any_opt (T : List Nat) (o : Option Nat) : ((T.map natD).any fun z => PyData.eqv z (optD o)) = match o with
    | none => false
    | some q => T.contains q := by
  cases o with
  | some q => exact any_nat T q
  | none =>
    rw [List.any_map, List.any_eq_false]
    intro x _ h
    cases h
theorem sp_tr_is_tree {ls : List (List Int)} {d : PyData} {K : PyData → Prop} (hz : ls.length ≤ 1000) (hL : ∀ m ∈ ls, Lt m) (k : K (.bool (isTree ls d))) : R__law_tr_is_tree [lotsD ls, d] K := by
  refine ⟨rfl, ?_⟩
  have e0 : (ls.map intsD).length = ls.length := List.length_map ..
  cases d with
  | none => exact ⟨false, rfl, ite1 rfl (ite1 rfl k)⟩
  | bool _ => exact ⟨false, rfl, ite1 rfl (ite1 rfl k)⟩
  | int _ => exact ⟨false, rfl, ite1 rfl (ite1 rfl k)⟩
  | str _ => exact ⟨false, rfl, ite1 rfl (ite1 rfl k)⟩
  | list _ => exact ⟨false, rfl, ite1 rfl (ite1 rfl k)⟩
  | dict _ => exact ⟨false, rfl, ite1 rfl (ite1 rfl k)⟩
  | tuple ds =>
    have k : K (.bool ((ds.length == ls.length) && ds.all (optPlc ls.length) && treeB ls (ds.map toOpt))) := k
    refine ⟨true, rfl, ite0 rfl ⟨ds, rfl, _, rfl, (Sh.int 0 _).ok, (Sh.int 0 _).ok, _, rfl, ?_⟩⟩
    rw [e0, eqv_nat]
    refine iteB (fun e => ?_) fun e => ?_
    · have e : (ds.length == ls.length) = false := by simpa using e
      rw [e] at k
      exact k
    have e : (ds.length == ls.length) = true := by simpa using e
    have el : ds.length = ls.length := eq_of_beq e
    rw [e, Bool.true_and] at k
    refine ⟨ds, rfl, by omega, lc_raw_ft (fun d => !optPlc ls.length d) (fun x hx A B h1 h2 => ⟨_, rfl, ?_⟩) ⟨_, rfl, _, rfl, ?_⟩⟩
    · refine iteB (fun e => ⟨_, rfl, ?_⟩) fun e => ?_
      · have e : isN x = false := by simpa using e
        rw [e0]
        refine sp_tr_is_place ⟨_, rfl, ?_⟩
        have e3 : (!optPlc ls.length x) = !isPlc ls.length x := by unfold optPlc; rw [e]; rfl
        rw [e3] at h1 h2
        exact iteB h1 h2
      · have e : isN x = true := by simpa using e
        exact ite0 rfl (h2 (by unfold optPlc; rw [e]; rfl))
    show (if (!(ds.filter fun d => !optPlc ls.length d).isEmpty) = true then _ else _)
    rw [filt_none]
    refine iteB (fun e => ?_) fun e => ?_
    · have e : ds.all (optPlc ls.length) = false := by simpa using e
      rw [e] at k
      exact k
    have e : ds.all (optPlc ls.length) = true := by simpa using e
    rw [e, Bool.true_and] at k
    obtain ⟨t, rfl, ht⟩ := opts_of e
    rw [opts_back] at k
    rw [List.length_map] at el
    have hI : In t := .of ht el
    refine ⟨by decide, (Sh.tree 0 t).ok, (Sh.unit 0).ok, _, rfl, ?_⟩
    rw [eqv_unit]
    refine iteB (fun e => ?_) fun e => ?_
    · have e : t.isEmpty = true := by simpa using e
      rw [show treeB ls t = true by unfold treeB; rw [e]; rfl] at k
      exact k
    have e : t.isEmpty = false := by simpa using e
    have k : K (.bool ((t.countP (·.isNone) == 1) && (List.range t.length).all (upN t t.length) && (lets ls).all fun c => (begs ls t c).length == 1)) := by
      rw [show treeB ls t = ((t.countP (·.isNone) == 1) && (List.range t.length).all (upN t t.length) && (lets ls).all fun c => (begs ls t c).length == 1) by unfold treeB; rw [e]; rfl] at k
      exact k
    have e1 : (t.map optD).length = t.length := List.length_map ..
    refine ⟨_, rfl, by rw [numD_len, e1]; omega, ?_⟩
    rw [numD_map optD none t]
    refine lc_ft (fun p => PyData.tuple [natD p, optD (t.getD p none)]) natD (fun p => (t.getD p none).isNone) (fun p hp A B h1 h2 => ⟨_, _, rfl, _, rfl, ?_⟩) ?_
    · rw [isN_opt]
      exact iteB h1 h2
    rw [count_range] at k
    generalize hT : (List.range t.length).filter (fun p => (t.getD p none).isNone) = tops at k
    have mt : ∀ p, p ∈ tops ↔ p < t.length ∧ upN t 1 p = true := fun p => by
      rw [← hT, List.mem_filter, List.mem_range]
      refine and_congr_right fun hp => ?_
      rw [upN_eq hp]
      cases t.getD p none with
      | none => exact Iff.rfl
      | some q => exact ⟨fun z => (by cases z), fun z => (by cases z)⟩
    refine ⟨_, rfl, (Sh.int 0 _).ok, (Sh.int 0 _).ok, _, rfl, ?_⟩
    rw [List.length_map, show (1 : Int) = ((1 : Nat) : Int) from rfl, eqv_nat]
    refine iteB (fun e => ?_) fun e => ?_
    · have e : (tops.length == 1) = false := by simpa using e
      rw [e] at k
      exact k
    have e : (tops.length == 1) = true := by simpa using e
    rw [e, Bool.true_and] at k
    have lt1 : tops.length = 1 := eq_of_beq e
    refine ⟨_, rfl, _, rfl, Int.natCast_nonneg _, by rw [e1]; omega, ?_⟩
    rw [Int.toNat_natCast, e1]
    refine for_inv (fun r ρ => ∃ (i : Nat) (T : List Nat) (x4 : Option PyData), i + r.length = t.length ∧ (∀ p, p ∈ T ↔ p < t.length ∧ upN t (i + 1) p = true) ∧ T.length ≤ t.length + 1 ∧ ρ = [some (lotsD ls), some (treeD t), some (.list (tops.map natD)), some (.list (T.map natD)), x4, none, none, none, none, none, none]) (fun d r ρ hI X hX => ?_) ⟨0, tops, none, by rw [List.length_map, List.length_range, Nat.zero_add], mt, by omega, rfl⟩ fun ρ hI => ?_
    · obtain ⟨i, T, x4, hi, mT, lT, rfl⟩ := hI
      rw [List.length_cons] at hi
      refine ⟨_, rfl, by rw [numD_len, e1]; omega, ?_⟩
      rw [numD_map optD none t]
      refine lc_ft (fun p => PyData.tuple [natD p, optD (t.getD p none)]) natD (fun p => match t.getD p none with
        | none => false
        | some q => T.contains q) (fun p hp A B h1 h2 => ⟨_, _, rfl, _, rfl, ?_, flat_nats T, _, rfl, ?_⟩) ?_
      · show flatD (optD (t.getD p none)) = true
        cases t.getD p none <;> rfl
      · rw [any_opt]
        exact iteB h1 h2
      · have fl := List.length_filter_le (fun p => match t.getD p none with
          | none => false
          | some q => T.contains q) (List.range t.length)
        rw [List.length_range] at fl
        refine ⟨by rw [List.length_map, List.length_map]; omega, hX _ ⟨i + 1, tops ++ (List.range t.length).filter (fun p => match t.getD p none with
          | none => false
          | some q => T.contains q), some d, by omega, fun p => ?_, by rw [List.length_append]; omega, by rw [List.map_append]; rfl⟩⟩
        rw [List.mem_append, mt, List.mem_filter, List.mem_range, ← and_or_left]
        refine and_congr_right fun hp => ?_
        rw [upN_eq hp, upN_eq hp]
        cases eq : t.getD p none with
        | none => exact ⟨fun _ => rfl, fun _ => .inl rfl⟩
        | some q =>
          show (upN t 0 q = true ∨ T.contains q = true) ↔ upN t (i + 1) q = true
          rw [List.contains_iff_mem, mT]
          exact ⟨fun z => z.elim (fun z => (by cases z)) (fun z => z.2), fun z => .inr ⟨hI.get eq, z⟩⟩
    · obtain ⟨i, T, x4, hi, mT, lT, rfl⟩ := hI
      have hi : i = t.length := by simpa using hi
      subst hi
      refine ⟨T.map (fun i : Nat => (i : Int)), by rw [nats_ints], by rw [List.length_map]; omega, _, rfl, (Sh.int 0 _).ok, (Sh.int 0 _).ok, _, rfl, ?_⟩
      rw [e1, eqv_nat, ded_full fun p hp => ((mT p).mp hp).1]
      have ea : ((List.range t.length).all fun p => T.contains p) = (List.range t.length).all (upN t t.length) := by
        rw [Bool.eq_iff_iff, List.all_eq_true, List.all_eq_true]
        refine forall_congr' fun p => forall_congr' fun hp => ?_
        have hp := List.mem_range.mp hp
        rw [List.contains_iff_mem, mT]
        exact ⟨fun z => up_stable hI p hp z.2, fun z => ⟨hp, upN_mono z⟩⟩
      rw [ea]
      refine iteB (fun e => ?_) fun e => ?_
      · have e : (List.range t.length).all (upN t t.length) = false := by simpa using e
        rw [e] at k
        exact k
      have e : (List.range t.length).all (upN t t.length) = true := by simpa using e
      rw [e, Bool.true_and] at k
      refine ⟨6, rfl, by decide, by decide, ?_⟩
      refine for_inv (fun r ρ => ∃ (done rest : List Nat) (x5 x6 x7 : Option PyData), done ++ rest = List.range 6 ∧ r = rest.map natD ∧ (∀ c ∈ done, (c : Int) ∈ lets ls → (begs ls t c).length = 1) ∧ ρ = [some (lotsD ls), some (treeD t), some (.list (tops.map natD)), some (.list (T.map natD)), x4, x5, x6, x7, none, none, none]) (fun d r ρ hI X hX => ?_) ⟨[], List.range 6, none, none, none, rfl, rfl, (fun c h => by cases h), rfl⟩ fun ρ hI => ?_
      · obtain ⟨done, rest, x5, x6, x7, ed, er, hd, rfl⟩ := hI
        cases rest with
        | nil => cases er
        | cons c rest =>
        rw [List.map_cons] at er
        obtain ⟨rfl, rfl⟩ := List.cons.inj er
        refine ⟨_, rfl, by rw [numD_len, e0]; omega, ?_⟩
        rw [numD_map intsD [] ls]
        refine lc_ft (fun p => PyData.tuple [natD p, intsD (ls.getD p [])]) natD (fun p => (ls.getD p []).contains (c : Int)) (fun p hp A B h1 h2 => ⟨_, _, rfl, _, rfl, rfl, flat_ints _, _, rfl, ?_⟩) ?_
        · rw [any_int]
          exact iteB h1 h2
        generalize hS : (List.range ls.length).filter (fun p => (ls.getD p []).contains (c : Int)) = sm
        have lsm : sm.length ≤ ls.length := by
          rw [← hS]
          have := List.length_filter_le (fun p => (ls.getD p []).contains (c : Int)) (List.range ls.length)
          rwa [List.length_range] at this
        have msm : ∀ p ∈ sm, p < ls.length := fun p hp => by
          rw [← hS] at hp
          exact List.mem_range.mp (List.mem_filter.mp hp).1
        refine ⟨_, rfl, by rw [List.length_map]; omega, lc_ft natD natD (tieB ls t c) (fun p hp A B h1 h2 => ?_) ?_⟩
        · have hpt : p < t.length := by have := msm p hp; omega
          refine ⟨_, (p : Int), _, rfl, rfl, tree_at hpt, _, rfl, ?_⟩
          rw [isN_opt]
          unfold tieB at h1 h2
          cases eq : t.getD p none with
          | none =>
            rw [eq] at h1 h2
            exact ite0 rfl (ite0 rfl (h2 rfl))
          | some q =>
            rw [eq] at h1 h2
            have hq := hI.get eq
            refine ite1 rfl ⟨_, (p : Int), _, rfl, rfl, (tree_at hpt).trans (by rw [eq]; rfl), _, (q : Int), _, rfl, rfl, lot_at (by omega), _, rfl, rfl, flat_ints _, _, rfl, ?_⟩
            rw [any_int]
            exact iteB h1 h2
        have bt := begs_ties ls t c
        rw [hS] at bt
        refine ⟨_, rfl, _, rfl, ?_⟩
        have next : ((c : Int) ∈ lets ls → (begs ls t c).length = 1) → X [some (lotsD ls), some (treeD t), some (.list (tops.map natD)), some (.list (T.map natD)), x4, some (natD c), some (.list (sm.map natD)), some (.list ((sm.filter (tieB ls t c)).map natD)), none, none, none] := fun ok => hX _ ⟨done ++ [c], rest, _, _, _, by rw [← ed]; simp, rfl, fun x hx => by
          rcases List.mem_append.mp hx with hx | hx
          · exact hd x hx
          · rw [List.mem_singleton] at hx
            subst hx
            exact ok, rfl⟩
        show (if (!(sm.map natD).isEmpty) = true then _ else _)
        rw [List.isEmpty_map]
        refine iteB (fun e => ?_) fun e => ?_
        · have pos : 0 < sm.length := by
            cases sm with
            | nil => cases e
            | cons _ _ => rw [List.length_cons]; omega
          have cl : (c : Int) ∈ lets ls := by
            obtain ⟨p, hp⟩ := List.exists_mem_of_length_pos pos
            rw [← hS] at hp
            obtain ⟨h1, h2⟩ := List.mem_filter.mp hp
            exact (mem_lets' hL).mpr ⟨_, mem_of_lo (List.mem_range.mp h1), List.contains_iff_mem.mp h2⟩
          refine ⟨_, rfl, _, rfl, (Sh.int 0 _).ok, (Sh.int 0 _).ok, _, rfl, ?_⟩
          rw [List.length_map, List.length_map]
          have e5 : PyData.eqv (.int ((sm.filter (tieB ls t c)).length : Int)) (.int ((sm.length : Int) - 1)) = ((begs ls t c).length == 1) := by
            show (((sm.filter (tieB ls t c)).length : Int) == (sm.length : Int) - 1) = _
            by_cases q : (begs ls t c).length = 1
            · rw [q, beq_self_eq_true]
              exact beq_iff_eq.mpr (by omega)
            · rw [beq_eq_false_iff_ne.mpr q]
              exact beq_eq_false_iff_ne.mpr (by omega)
          show (if (!PyData.eqv (.int ((sm.filter (tieB ls t c)).length : Int)) (.int ((sm.length : Int) - 1))) = true then _ else _)
          rw [e5]
          refine iteB (fun q => ?_) fun q => ?_
          · have q : ((begs ls t c).length == 1) = false := by simpa using q
            have : ((lets ls).all fun c => (begs ls t c).length == 1) = false := by
              cases z : (lets ls).all fun c => (begs ls t c).length == 1 with
              | false => rfl
              | true =>
                have := List.all_eq_true.mp z c cl
                rw [q] at this
                cases this
            rw [this] at k
            exact k
          · exact next fun _ => by simpa using q
        · refine ite0 rfl (next fun cl => ?_)
          exfalso
          have es : sm = [] := by
            cases sm with
            | nil => rfl
            | cons _ _ => cases e
          obtain ⟨m, hm, hc⟩ := (mem_lets' hL).mp cl
          obtain ⟨i, hi, ei⟩ := lo_of_mem hm
          have : i ∈ sm := by rw [← hS]; exact List.mem_filter.mpr ⟨List.mem_range.mpr hi, by rw [ei]; exact List.contains_iff_mem.mpr hc⟩
          rw [es] at this
          cases this
      · obtain ⟨done, rest, x5, x6, x7, ed, er, hd, rfl⟩ := hI
        cases rest with
        | cons _ _ => cases er
        | nil =>
        rw [List.append_nil] at ed
        subst ed
        have : ((lets ls).all fun c => (begs ls t c).length == 1) = true := by
          rw [List.all_eq_true]
          intro c hc
          obtain ⟨n, rfl, hn⟩ := nat_of (lets_lt ls) hc
          exact beq_iff_eq.mpr (hd n (List.mem_range.mpr hn) hc)
        rw [this] at k
        exact k
end Kb
set_option Elab.async false
set_option linter.all false
set_option maxRecDepth 100000
set_option maxHeartbeats 400000
/-! S21: the law's look at a tree of bags. -/
namespace Kb
open PySem L2
/-- small enough to be looked at: bags and tree -/
def SmB (a : PyData) : Prop := ∀ ds, a = .tuple ds → ∀ e ∈ ds, ∀ es, e = .tuple es → es.length < 64
theorem lots_of : ∀ {ds : List PyData}, ds.all isLot = true → ∃ ls : List (List Int), ds = ls.map intsD ∧ ∀ m ∈ ls, Lt m
  | [], _ => ⟨[], rfl, fun m h => by cases h⟩
  | d :: ds, h => by
    rw [List.all_cons, Bool.and_eq_true] at h
    obtain ⟨m, rfl, hm⟩ := isLot_iff.mp h.1
    obtain ⟨ls, rfl, hl⟩ := lots_of h.2
    exact ⟨m :: ls, rfl, fun m' hm' => (List.mem_cons.mp hm').elim (fun e => e ▸ hm) (hl m')⟩
theorem filt_any {α : Type} (p : α → Bool) (l : List α) : (l.filter p).isEmpty = !l.any p := by
  induction l with
  | nil => rfl
  | cons a l ih =>
    cases q : p a with
    | true => rw [List.filter_cons_of_pos q, List.any_cons, q]; rfl
    | false => rw [List.filter_cons_of_neg (by rw [q]; exact Bool.false_ne_true), List.any_cons, q, ih]; rfl
theorem sp_tr_is_bags {ls : List (List Int)} {d : PyData} {K : PyData → Prop} (hz : ls.length ≤ 12) (hL : ∀ m ∈ ls, Lt m) (hd : ∀ a b, d = .tuple [a, b] → SmB a) (k : K (.bool (isBags ls d))) : R__law_tr_is_bags [lotsD ls, d] K := by
  refine ⟨rfl, ?_⟩
  cases d with
  | none => exact ⟨false, rfl, ite1 rfl (ite1 rfl k)⟩
  | bool _ => exact ⟨false, rfl, ite1 rfl (ite1 rfl k)⟩
  | int _ => exact ⟨false, rfl, ite1 rfl (ite1 rfl k)⟩
  | str _ => exact ⟨false, rfl, ite1 rfl (ite1 rfl k)⟩
  | list _ => exact ⟨false, rfl, ite1 rfl (ite1 rfl k)⟩
  | dict _ => exact ⟨false, rfl, ite1 rfl (ite1 rfl k)⟩
  | tuple ds =>
  refine ⟨true, rfl, ite0 rfl ⟨ds, rfl, (Sh.int 0 _).ok, (Sh.int 0 _).ok, _, rfl, ?_⟩⟩
  rw [show (2 : Int) = ((2 : Nat) : Int) from rfl, eqv_nat]
  refine iteB (fun e => ?_) fun e => ?_
  · have e : (ds.length == 2) = false := by simpa using e
    rw [isBags_len (by simpa using e)] at k
    exact ite1 rfl k
  have e : (ds.length == 2) = true := by simpa using e
  obtain ⟨a, b, rfl⟩ := two_list (eq_of_beq e)
  have ha := hd a b rfl
  have k : K (.bool (isWeb a && (isTree (lotsOf a) b && coverB ls (lotsOf a)))) := k
  refine ⟨_, 0, a, rfl, rfl, rfl, ?_⟩
  cases a with
  | none => exact ⟨false, rfl, ite1 rfl (ite1 rfl k)⟩
  | bool _ => exact ⟨false, rfl, ite1 rfl (ite1 rfl k)⟩
  | int _ => exact ⟨false, rfl, ite1 rfl (ite1 rfl k)⟩
  | str _ => exact ⟨false, rfl, ite1 rfl (ite1 rfl k)⟩
  | list _ => exact ⟨false, rfl, ite1 rfl (ite1 rfl k)⟩
  | dict _ => exact ⟨false, rfl, ite1 rfl (ite1 rfl k)⟩
  | tuple as =>
  have ha := ha as rfl
  refine ⟨true, rfl, ite0 rfl ⟨_, 0, _, rfl, rfl, rfl, as, rfl, _, rfl, ?_⟩⟩
  have kw : isWeb (.tuple as) = (decide (as.length ≤ 12) && as.all isLot) := rfl
  rw [kw] at k
  refine iteB (fun e => ?_) fun e => ?_
  · have e : decide (as.length ≤ 12) = false := decide_eq_false (by have := of_decide_eq_true e; omega)
    rw [e] at k
    exact k
  have lz : as.length ≤ 12 := by have := of_decide_eq_false e; omega
  rw [decide_eq_true lz, Bool.true_and] at k
  refine ⟨_, 0, _, rfl, rfl, rfl, _, rfl, by omega, lc_raw_ft (fun d => !isLot d) (fun x hx A B h1 h2 => sp_tr_is_lot (ha x hx) ⟨_, rfl, iteB h1 h2⟩) ⟨_, rfl, _, rfl, ?_⟩⟩
  show (if (!(as.filter fun d => !isLot d).isEmpty) = true then _ else _)
  rw [filt_none]
  refine iteB (fun e => ?_) fun e => ?_
  · have e : as.all isLot = false := by simpa using e
    rw [e] at k
    exact ite1 rfl k
  have e : as.all isLot = true := by simpa using e
  rw [e, Bool.true_and] at k
  obtain ⟨bs, rfl, hB⟩ := lots_of e
  rw [List.length_map] at lz
  rw [lotsOf_lots] at k
  refine ⟨_, 0, _, rfl, rfl, rfl, _, 1, b, rfl, rfl, rfl, sp_tr_is_tree (by omega) hB ⟨_, rfl, ?_⟩⟩
  refine iteB (fun e => ?_) fun e => ?_
  · have e : isTree bs b = false := by simpa using e
    rw [e] at k
    exact k
  have e : isTree bs b = true := by simpa using e
  rw [e, Bool.true_and] at k
  refine ⟨_, 0, _, rfl, rfl, rfl, sp_tr_letters rfl (by omega) (sp_tr_letters rfl (by omega) (sp_tr_within (by have := (lets_lt bs).len; omega) ⟨_, rfl, ?_⟩))⟩
  unfold coverB at k
  refine iteB (fun e => ?_) fun e => ?_
  · have e : ((lets bs).all fun c => (lets ls).contains c) = false := by simpa using e
    rw [e] at k
    exact k
  have e : ((lets bs).all fun c => (lets ls).contains c) = true := by simpa using e
  rw [e, Bool.true_and] at k
  have ae : ∀ m : List Int, (bs.filter fun b => m.all fun c => b.contains c).isEmpty = !(bs.any fun b => m.all fun c => b.contains c) := fun m => filt_any _ bs
  refine ⟨_, rfl, by rw [List.length_map]; omega, lc_ft intsD intsD (fun m => !(bs.any fun b => m.all fun c => b.contains c)) (fun m hm A B h1 h2 => ⟨_, 0, _, rfl, rfl, rfl, _, rfl, by rw [List.length_map]; omega, lc_ft intsD intsD (fun b => m.all fun c => b.contains c) (fun b hb A2 B2 g1 g2 => sp_tr_within (by have := (hL m hm).len; omega) ⟨_, rfl, iteB g1 g2⟩) ⟨_, rfl, _, rfl, ?_⟩⟩) ⟨_, rfl, ?_⟩⟩
  · show (if (List.map intsD (bs.filter fun b => m.all fun c => b.contains c)).isEmpty = true then _ else _)
    rw [List.isEmpty_map, ae]
    exact iteB h1 h2
  · show K (.bool (List.map intsD (ls.filter fun m => !(bs.any fun b => m.all fun c => b.contains c))).isEmpty)
    rw [List.isEmpty_map, filt_none]
    exact k
end Kb
set_option Elab.async false
set_option linter.all false
set_option maxRecDepth 100000
set_option maxHeartbeats 400000
/-! S22: the law's own bags of an order. -/
namespace Kb
open PySem L2
theorem isI_int (i k : Int) : isI (.int i) k = decide (i = k) := rfl
theorem valP_any {ps : List (PyData × PyData)} {k : Int} {d : PyData} (h : valP ps k = some d) : (ps.any fun p => isI p.1 k) = true := by
  unfold valP at h
  cases q : ps.find? fun p => isI p.1 k with
  | none => rw [q] at h; cases h
  | some p => exact List.any_eq_true.mpr ⟨p, List.mem_of_find?_eq_some q, List.find?_some (p := fun p : PyData × PyData => isI p.1 k) q⟩
theorem putP_len {ps : List (PyData × PyData)} {k : Int} {d e : PyData} (h : valP ps k = some d) : (putP ps k e).length = ps.length := by
  unfold putP
  rw [if_pos (valP_any h), List.length_map]
theorem putP_le (ps : List (PyData × PyData)) (k : Int) (e : PyData) : (putP ps k e).length ≤ ps.length + 1 := by
  unfold putP
  split
  · rw [List.length_map]; omega
  · rw [List.length_append]; exact Nat.le_refl _
theorem isI_ne {d : PyData} {j k : Int} (h : j ≠ k) (q : isI d k = true) : isI d j = false := by
  cases d with
  | int i =>
    rw [isI_int, decide_eq_true_eq] at q
    rw [isI_int, decide_eq_false_iff_not]
    omega
  | _ => cases q
theorem valP_put (ps : List (PyData × PyData)) (k j : Int) (d : PyData) : valP (putP ps k d) j = if j = k then some d else valP ps j := by
  unfold putP
  split
  · rename_i h
    unfold valP
    induction ps with
    | nil => cases h
    | cons p ps ih =>
      rw [List.map_cons, List.find?_cons, List.find?_cons]
      by_cases hp : isI p.1 k = true
      · rw [if_pos hp]
        show Option.map (fun x : PyData × PyData => x.2) (match isI p.1 j with
          | true => some (p.1, d)
          | false => List.find? (fun p : PyData × PyData => isI p.1 j) (List.map (fun p : PyData × PyData => if isI p.1 k = true then (p.1, d) else p) ps)) = _
        by_cases e : j = k
        · subst e
          rw [hp, if_pos rfl]
          rfl
        · rw [if_neg e, isI_ne e hp]
          by_cases hany : (ps.any fun p => isI p.1 k) = true
          · have := ih hany
            rw [if_neg e] at this
            exact this
          · have : ps.map (fun p => if isI p.1 k = true then (p.1, d) else p) = ps := by
              conv => rhs; rw [← List.map_id ps]
              refine List.map_congr_left fun q hq => ?_
              rw [if_neg]
              · rfl
              · intro z
                exact hany (List.any_eq_true.mpr ⟨q, hq, z⟩)
            rw [this]
      · rw [if_neg hp]
        have hany : (ps.any fun p => isI p.1 k) = true := by
          rw [List.any_cons, Bool.or_eq_true] at h
          exact h.resolve_left hp
        cases q : isI p.1 j with
        | true =>
          have e : j ≠ k := fun e => hp (e ▸ q)
          rw [if_neg e]
        | false => exact ih hany
  · rename_i h
    unfold valP
    rw [List.find?_append]
    by_cases e : j = k
    · subst e
      rw [if_pos rfl]
      have : ps.find? (fun p => isI p.1 j) = none := by
        rw [List.find?_eq_none]
        intro p hp z
        exact h (List.any_eq_true.mpr ⟨p, hp, z⟩)
      rw [this, List.find?_cons, show isI (PyData.int j) j = true by rw [isI_int]; exact decide_eq_true rfl]
      first | done | rfl
    · rw [if_neg e]
      cases q : ps.find? fun p => isI p.1 j with
      | some p => rfl
      | none =>
        rw [List.find?_cons, show isI (PyData.int k) j = false by rw [isI_int]; exact decide_eq_false (Ne.symm e)]
        rfl
def nearF (near : Int → List Int) (bag bd : List Int) (x : Int) : List Int := if bd.contains x = true then lets [near x, bag] else near x
theorem mem_lets2 {a b : List Int} (ha : Lt a) (hb : Lt b) {c : Int} : c ∈ lets [a, b] ↔ c ∈ a ∨ c ∈ b := by
  rw [mem_lets' fun m hm => by
    rcases List.mem_cons.mp hm with rfl | hm
    · exact ha
    · rw [List.mem_singleton] at hm; rw [hm]; exact hb]
  constructor
  · rintro ⟨m, hm, hc⟩
    rcases List.mem_cons.mp hm with rfl | hm
    · exact .inl hc
    · rw [List.mem_singleton] at hm; subst hm; exact .inr hc
  · rintro (h | h)
    · exact ⟨a, by simp, h⟩
    · exact ⟨b, by simp, h⟩
structure NearI (left : List (List Int)) (rest : List Int) (near : Int → List Int) : Prop where
  lt : ∀ x, Lt (near x)
  eq : ∀ x ∈ rest, ∀ d ∈ rest, d ∈ near x ↔ ∃ m ∈ left, x ∈ m ∧ d ∈ m
theorem NearI.bag {left : List (List Int)} {c : Int} {rest : List Int} {near : Int → List Int} (h : NearI left (c :: rest) near) (hl : ∀ m ∈ left, Lt m) (hin : ∀ m ∈ left, ∀ d ∈ m, d ∈ c :: rest) : (near c).filter (fun x => (c :: rest).contains x) = bagOf left c := by
  refine up_same ((h.lt c).filter _).up (bagOf_lt left c).up fun d => ?_
  rw [List.mem_filter, List.contains_iff_mem, mem_bagOf hl]
  constructor
  · rintro ⟨h1, h2⟩
    exact (h.eq c List.mem_cons_self d h2).mp h1
  · rintro ⟨m, hm, h1, h2⟩
    have hd := hin m hm d h2
    exact ⟨(h.eq c List.mem_cons_self d hd).mpr ⟨m, hm, h1, h2⟩, hd⟩
theorem NearI.step {left : List (List Int)} {c : Int} {rest : List Int} {near : Int → List Int} (h : NearI left (c :: rest) near) (hl : ∀ m ∈ left, Lt m) (nc : c ∉ rest) : NearI (leftOf left c) rest (nearF near (bagOf left c) (bagOf left c)) := by
  refine ⟨fun x => ?_, fun x hx d hd => ?_⟩
  · unfold nearF
    split
    · exact lets_lt _
    · exact h.lt x
  have xc : x ≠ c := fun e => nc (e ▸ hx)
  have dc : d ≠ c := fun e => nc (e ▸ hd)
  have ne := h.eq x (List.mem_cons_of_mem _ hx) d (List.mem_cons_of_mem _ hd)
  have mb : ∀ y, y ∈ bagOf left c ↔ ∃ m ∈ left, c ∈ m ∧ y ∈ m := fun y => mem_bagOf hl
  unfold nearF
  by_cases q : x ∈ bagOf left c
  · rw [if_pos (List.contains_iff_mem.mpr q), mem_lets2 (h.lt x) (bagOf_lt left c), ne]
    constructor
    · rintro (⟨m, hm, h1, h2⟩ | h1)
      · by_cases z : c ∈ m
        · exact ⟨_, mem_leftOf.mpr (.inr rfl), mem_rest.mpr ⟨q, xc⟩, mem_rest.mpr ⟨(mb d).mpr ⟨m, hm, z, h2⟩, dc⟩⟩
        · exact ⟨m, mem_leftOf.mpr (.inl ⟨hm, z⟩), h1, h2⟩
      · exact ⟨_, mem_leftOf.mpr (.inr rfl), mem_rest.mpr ⟨q, xc⟩, mem_rest.mpr ⟨h1, dc⟩⟩
    · rintro ⟨m, hm, h1, h2⟩
      rcases mem_leftOf.mp hm with hm | rfl
      · exact .inl ⟨m, hm.1, h1, h2⟩
      · exact .inr (mem_rest.mp h2).1
  · rw [if_neg (fun z => q (List.contains_iff_mem.mp z)), ne]
    constructor
    · rintro ⟨m, hm, h1, h2⟩
      exact ⟨m, mem_leftOf.mpr (.inl ⟨hm, fun z => q ((mb x).mpr ⟨m, hm, z, h1⟩)⟩), h1, h2⟩
    · rintro ⟨m, hm, h1, h2⟩
      rcases mem_leftOf.mp hm with hm | rfl
      · exact ⟨m, hm.1, h1, h2⟩
      · exact absurd (mem_rest.mp h1).1 q
theorem env_dic {ps ps' : List (PyData × PyData)} {x0 x1 x3 x4 x5 x6 x7 x8 x9 x10 : Option PyData} (h1 : ps = ps') : ([x0, x1, some (.dict ps), x3, x4, x5, x6, x7, x8, x9, x10] : Env) = [x0, x1, some (.dict ps'), x3, x4, x5, x6, x7, x8, x9, x10] := by
  subst h1
  rfl
theorem env_3 {A A' : List PyData} {x0 x1 x2 x4 x5 x6 x7 x8 x9 x10 : Option PyData} (h1 : A = A') : ([x0, x1, x2, some (.list A), x4, x5, x6, x7, x8, x9, x10] : Env) = [x0, x1, x2, some (.list A'), x4, x5, x6, x7, x8, x9, x10] := by
  subst h1
  rfl
theorem sp_tr_bags {ls : List (List Int)} {o : List Int} {K : PyData → Prop} (hz : ls.length ≤ 12) (hL : ∀ m ∈ ls, Lt m) (hp : o.Perm (lets ls)) (k : ∀ cut, CutP (elim (noE ls) o) cut → Srt cut → K (lotsD cut)) : R__law_tr_bags [lotsD ls, intsD o] K := by
  have olen : o.length ≤ 6 := by rw [hp.length_eq]; exact (lets_lt ls).len
  have ond : o.Nodup := hp.nodup_iff.mpr (lets_lt ls).up.nodup
  have hN : ∀ m ∈ noE ls, Lt m := fun m hm => hL m (mem_noE.mp hm).1
  have hin : ∀ m ∈ noE ls, ∀ d ∈ m, d ∈ o := fun m hm d hd => hp.mem_iff.mpr ((mem_lets' hL).mpr ⟨m, (mem_noE.mp hm).1, hd⟩)
  have e0 : (ls.map intsD).length = ls.length := List.length_map ..
  refine ⟨rfl, by decide, _, rfl, ?_⟩
  refine for_inv (fun r ρ => ∃ (done rest : List Int) (ps : List (PyData × PyData)) (x4 : Option PyData), done ++ rest = o ∧ r = rest.map .int ∧ ps.length ≤ done.length ∧ (∀ x ∈ done, valP ps x = some (intsD (bagOf ls x))) ∧
    ρ = [some (lotsD ls), some (intsD o), some (.dict ps), some (.list []), x4, none, none, none, none, none, none]) (fun d r ρ hI X hX => ?_) ⟨[], o, [], none, rfl, rfl, Nat.le_refl _, (fun x h => by cases h), rfl⟩ fun ρ hI => ?_
  · obtain ⟨done, rest, ps, x4, ed, er, hps, hv, rfl⟩ := hI
    cases rest with
    | nil => cases er
    | cons c rest =>
    rw [List.map_cons] at er
    obtain ⟨rfl, rfl⟩ := List.cons.inj er
    have dl : done.length ≤ 6 := by
      have := congrArg List.length ed
      rw [List.length_append] at this
      omega
    have fl : (ls.filter (has c)).length ≤ ls.length := List.length_filter_le ..
    refine ⟨_, rfl, by rw [e0]; omega, lc_ft intsD intsD (has c) (fun m hm A B h1 h2 => ⟨_, rfl, rfl, flat_ints m, _, rfl, ?_⟩) (sp_tr_letters rfl (by omega) ⟨c, rfl, by omega, hX _ ⟨done ++ [c], rest, putP ps c (intsD (bagOf ls c)), some (.int c), by rw [← ed]; simp, rfl, ?_, fun x hx => ?_, rfl⟩⟩)⟩
    · rw [any_int]
      exact iteB h1 h2
    · have := putP_le ps c (intsD (bagOf ls c))
      rw [List.length_append, List.length_singleton]
      omega
    · rw [valP_put]
      by_cases e : x = c
      · subst e; rw [if_pos rfl]
      · rw [if_neg e]
        refine hv x ?_
        rcases List.mem_append.mp hx with hx | hx
        · exact hx
        · rw [List.mem_singleton] at hx; exact absurd hx e
  obtain ⟨done, rest, ps, x4, ed, er, hps, hv, rfl⟩ := hI
  cases rest with
  | cons _ _ => cases er
  | nil =>
  rw [List.append_nil] at ed
  subst ed
  refine ⟨_, rfl, ?_⟩
  refine for_inv (fun r ρ => ∃ (dn rest : List Int) (ps : List (PyData × PyData)) (left found : List (List Int)) (near : Int → List Int) (x4 x5 x6 x7 : Option PyData), dn ++ rest = done ∧ r = numD dn.length (rest.map .int) ∧ ps.length ≤ 6 ∧ found ++ elim left rest = elim (noE ls) done ∧ (∀ m ∈ left, Lt m) ∧ (∀ m ∈ left, ∀ d ∈ m, d ∈ rest) ∧ found.length + rest.length = done.length ∧
      (∀ x ∈ done, valP ps x = some (intsD (near x))) ∧ NearI left rest near ∧
      ρ = [some (lotsD ls), some (intsD done), some (.dict ps), some (.list (found.map intsD)), x4, x5, x6, x7, none, none, none]) (fun d r ρ hI X hX => ?_)
    ⟨[], done, ps, noE ls, [], bagOf ls, x4, none, none, none, rfl, rfl, by omega, rfl, hN, hin, by rw [List.length_nil]; omega, hv, ⟨bagOf_lt ls, fun x _ d _ => ?_⟩, rfl⟩ fun ρ hI => ?_
  · obtain ⟨dn, rest, ps, left, found, near, x4, x5, x6, x7, ed, er, hps, ee, hl, hi, lf, hv, hn, rfl⟩ := hI
    cases rest with
    | nil => cases er
    | cons c rest =>
    rw [List.map_cons] at er
    obtain ⟨rfl, rfl⟩ := List.cons.inj er
    have co : c ∈ done := by rw [← ed]; simp
    have ro : ∀ x ∈ c :: rest, x ∈ done := fun x hx => by rw [← ed]; exact List.mem_append.mpr (.inr hx)
    have nc : c ∉ rest := by
      have : (dn ++ c :: rest).Nodup := by rw [ed]; exact ond
      have := (List.nodup_append.mp this).2.1
      exact (List.nodup_cons.mp this).1
    have eb := hn.bag hl hi
    refine ⟨_, _, rfl, c, intsD (near c), rfl, hv c co, _, rfl, by rw [List.length_map]; have := (hn.lt c).len; omega, lc_ft .int .int (fun x => (c :: rest).contains x) (fun x hx A B h1 h2 => ⟨(dn.length : Int), rfl, _, rfl, _, rfl, rfl, ?_⟩) ⟨_, rfl, ?_⟩⟩
    · rw [cut_drop, show done.drop dn.length = c :: rest by rw [← ed]; simp]
      refine ⟨flat_ints _, _, rfl, ?_⟩
      rw [any_int]
      exact iteB h1 h2
    rw [eb]
    refine ⟨_, rfl, ?_⟩
    have bl := bagOf_lt left c
    have bo : ∀ x ∈ bagOf left c, x ∈ done := fun x hx => by
      obtain ⟨m, hm, _, h⟩ := (mem_bagOf hl).mp hx
      exact ro x (hi m hm x h)
    refine for_inv (fun r ρ => ∃ (bd br : List Int) (ps : List (PyData × PyData)) (x7 : Option PyData), bd ++ br = bagOf left c ∧ r = br.map .int ∧ ps.length ≤ 6 ∧ (∀ x ∈ done, valP ps x = some (intsD (nearF near (bagOf left c) bd x))) ∧
      ρ = [some (lotsD ls), some (intsD done), some (.dict ps), some (.list (found.map intsD)), some (.int c), some (natD dn.length), some (intsD (bagOf left c)), x7, none, none, none]) (fun d r ρ hI Y hY => ?_) ⟨[], bagOf left c, ps, x7, rfl, rfl, hps, hv, rfl⟩ fun ρ hI => ?_
    · obtain ⟨bd, br, ps, x7, eB, er, hps, hv, rfl⟩ := hI
      cases br with
      | nil => cases er
      | cons y br =>
      rw [List.map_cons] at er
      obtain ⟨rfl, rfl⟩ := List.cons.inj er
      have yB : y ∈ bagOf left c := by rw [← eB]; simp
      have ny : y ∉ bd := fun z => by
        have : (bd ++ y :: br).Nodup := by rw [eB]; exact bl.up.nodup
        exact (List.nodup_append.mp this).2.2 y z y List.mem_cons_self rfl
      have en : nearF near (bagOf left c) bd y = near y := by
        unfold nearF
        rw [if_neg fun z => ny (List.contains_iff_mem.mp z)]
      refine ⟨y, _, rfl, hv y (bo y yB), (show 2 ≤ 100000 by decide), ?_⟩
      rw [en]
      refine sp_tr_letters (ls := [near y, bagOf left c]) rfl (show 2 ≤ 10000 by decide) ⟨y, rfl, by omega, hY _ ⟨bd ++ [y], br, putP ps y (intsD (lets [near y, bagOf left c])), some (.int y), by rw [← eB]; simp, rfl, by rw [putP_len (hv y (bo y yB))]; exact hps, fun x hx => ?_, rfl⟩⟩
      rw [valP_put]
      by_cases e : x = y
      · subst e
        rw [if_pos rfl]
        unfold nearF
        rw [if_pos (List.contains_iff_mem.mpr (by simp))]
      · rw [if_neg e, hv x hx]
        unfold nearF
        have : (bd ++ [y]).contains x = bd.contains x := by
          rw [Bool.eq_iff_iff, List.contains_iff_mem, List.contains_iff_mem, List.mem_append, List.mem_singleton]
          exact ⟨fun z => z.resolve_right e, .inl⟩
        rw [this]
    · obtain ⟨bd, br, ps, x7, eB, er, hps, hv, rfl⟩ := hI
      cases br with
      | cons _ _ => cases er
      | nil =>
      rw [List.append_nil] at eB
      subst eB
      rw [List.length_cons] at lf
      exact ⟨by rw [List.length_map]; omega, hX _ ⟨dn ++ [c], rest, ps, leftOf left c, found ++ [bagOf left c], _, _, _, _, _, by rw [← ed]; simp, by rw [List.length_append, List.length_singleton], hps, by rw [← ee, List.append_assoc]; rfl, leftOf_lt hl c, left_in hl hi, by rw [List.length_append, List.length_singleton]; omega, hv, hn.step hl nc, env_3 (by rw [List.map_append]; rfl)⟩⟩
  · rw [mem_bagOf hL]
    constructor
    · rintro ⟨m, hm, h1, h2⟩
      exact ⟨m, mem_noE.mpr ⟨hm, fun e => by rw [e] at h1; cases h1⟩, h1, h2⟩
    · rintro ⟨m, hm, h1, h2⟩
      exact ⟨m, (mem_noE.mp hm).1, h1, h2⟩
  obtain ⟨dn, rest, ps, left, found, near, x4, x5, x6, x7, ed, er, hps, ee, hl, hi, lf, hv2, hn, rfl⟩ := hI
  cases rest with
  | cons _ _ => cases er
  | nil =>
  have ee : found ++ [] = elim (noE ls) done := ee
  rw [List.append_nil] at ee
  rw [← ee] at k
  have hF : ∀ m ∈ found, Lt m := fun m hm => elim_lt done (noE ls) m (by rw [← ee]; exact hm)
  have hne : ∀ m ∈ found, m ≠ [] := fun m hm => elim_ne done hN (ord_met hL hp) ond m (by rw [← ee]; exact hm)
  have lf : found.length ≤ 6 := by rw [List.length_nil] at lf; omega
  have e1 : (found.map intsD).length = found.length := List.length_map ..
  refine ⟨_, rfl, by rw [e1]; omega, lc_ft intsD intsD (fun t => !found.any fun o => t != o && t.all fun c => o.contains c) (fun t ht A B h1 h2 => ⟨_, rfl, by rw [e1]; omega, lc_ft intsD intsD (fun o => t != o && t.all fun c => o.contains c) (fun o ho A2 B2 g1 g2 => ?_) ⟨_, rfl, _, rfl, ?_⟩⟩) ?_⟩
  · refine ⟨(Sh.intsD 0 t).ok, (Sh.intsD 0 o).ok, _, rfl, ?_⟩
    rw [eqv_intsD]
    have e : (!t == o) = (t != o) := rfl
    rw [e]
    refine iteB (fun q => ?_) fun q => ?_
    · rw [q, Bool.true_and] at g1 g2
      exact sp_tr_within (by have := (hF t ht).len; omega) ⟨_, rfl, iteB g1 g2⟩
    · rw [q, Bool.false_and] at g2
      exact ite0 rfl (g2 rfl)
  · show (if (List.map intsD (found.filter fun o => t != o && t.all fun c => o.contains c)).isEmpty = true then _ else _)
    rw [List.isEmpty_map, filt_any]
    exact iteB h1 h2
  have fl := List.length_filter_le (fun t => !found.any fun o => t != o && t.all fun c => o.contains c) found
  refine ⟨_, rfl, ⟨_, rfl⟩, by omega, fun ms' hm => ⟨trivial, fun m hm2 => hne m (List.mem_filter.mp ((hm m).mp hm2)).1, fun ms2 p nd srt => ⟨_, rfl, k ms2 ⟨p.nodup_iff.mpr nd, fun t => ?_⟩ srt⟩⟩⟩
  rw [p.mem_iff, hm, List.mem_filter, Bool.not_eq_true', List.any_eq_false]
  refine and_congr_right fun _ => ⟨fun h t' ht' n s => ?_, fun h t' ht' q => ?_⟩
  · refine h t' ht' ?_
    rw [Bool.and_eq_true, bne_iff_ne]
    exact ⟨n, within_iff.mpr s⟩
  · rw [Bool.and_eq_true, bne_iff_ne] at q
    exact h t' ht' q.1 (within_iff.mp q.2)
end Kb
set_option Elab.async false
set_option linter.all false
set_option maxRecDepth 100000
set_option maxHeartbeats 400000
/-! S23: a drawn web that folds: its lots. -/
namespace Kb
open PySem L2
/-- some of them, whichever -/
theorem lc_sub {α : Type} {P : DP} {gt : DB} {ge : DE} {ρ : Env} {K : List PyData → Prop} (enc enc' : α → PyData) : ∀ {xs : List α} {acc : List PyData},
    (∀ x ∈ xs, ∀ (A : PyData → Prop) (B : Prop), A (enc' x) → B → P (enc x) ρ fun ρ2 => gt ρ2 fun b => if b = true then ge ρ2 A else B) → (∀ ys : List α, ys.Sublist xs → K (acc ++ ys.map enc')) → lcGo P gt ge ρ (xs.map enc) acc K
  | [], acc, h, k => by
    have := k [] (List.Sublist.refl _)
    rw [List.map_nil, List.append_nil] at this
    exact this
  | x :: xs, acc, h, k => by
    rw [List.map_cons]
    unfold lcGo
    refine h x List.mem_cons_self (fun y => lcGo P gt ge ρ (xs.map enc) (acc ++ [y]) K) _ ?_ ?_
    · refine lc_sub enc enc' (fun y hy => h y (List.mem_cons_of_mem _ hy)) fun ys hs => ?_
      have := k (x :: ys) (hs.cons_cons x)
      rw [List.map_cons] at this
      rw [List.append_assoc]
      exact this
    · exact lc_sub enc enc' (fun y hy => h y (List.mem_cons_of_mem _ hy)) fun ys hs => k ys (hs.cons x)
theorem pur_ints (m : List Int) : pur (intsD m) = true := by
  rw [pur]
  refine purL_of fun d hd => ?_
  obtain ⟨c, _, rfl⟩ := List.mem_map.mp hd
  rw [pur]
theorem sub_range {ys : List Nat} {n : Nat} (h : ys.Sublist (List.range n)) : (ys.map fun i : Nat => (i : Int)).Pairwise (· < ·) ∧ ∀ c ∈ ys.map (fun i : Nat => (i : Int)), 0 ≤ c ∧ c < n := by
  refine ⟨?_, fun c hc => ?_⟩
  · rw [List.pairwise_map]
    exact ((List.pairwise_lt_range (n := n)).sublist h).imp fun q => by omega
  · obtain ⟨i, hi, rfl⟩ := List.mem_map.mp hc
    have := List.mem_range.mp (h.subset hi)
    omega
theorem env_23 {A B A' B' : List PyData} {x0 x1 x4 x5 x6 x7 x8 : Option PyData} (h1 : A = A') (h2 : B = B') : ([x0, x1, some (.list A), some (.list B), x4, x5, x6, x7, x8] : Env) = [x0, x1, some (.list A'), some (.list B'), x4, x5, x6, x7, x8] := by
  subst h1 h2
  rfl
theorem env_36 {A B A' B' : List PyData} {x0 x1 x2 x4 x5 x7 x8 : Option PyData} (h1 : A = A') (h2 : B = B') : ([x0, x1, x2, some (.list A), x4, x5, some (.list B), x7, x8] : Env) = [x0, x1, x2, some (.list A'), x4, x5, some (.list B'), x7, x8] := by
  subst h1 h2
  rfl
theorem erase_map {α β : Type} (f : α → β) : ∀ (l : List α) (n : Nat), (l.map f).eraseIdx n = (l.eraseIdx n).map f
  | [], _ => rfl
  | _ :: _, 0 => rfl
  | x :: l, n + 1 => congrArg (f x :: ·) (erase_map f l n)
theorem sp_tr_grown {n : Nat} {K : List PyData → Prop} (hn : n ≤ 100) (k : ∀ ls : List (List Int), ls.length ≤ n → (∀ m ∈ ls, Lt m) → K (ls.map intsD)) : R__law_tr_grown [.int (n : Int)] K := by
  refine ⟨rfl, by decide, 6, rfl, by decide, by decide, by decide, ?_⟩
  refine lc_sub natD natD (fun i hi A B a b => ⟨6, rfl, by decide, by decide, fun r _ _ => ⟨_, rfl, iteB (fun _ => a) fun _ => b⟩⟩) fun ys hys => ?_
  obtain ⟨up0, six0⟩ := sub_range hys
  rw [List.nil_append, nats_ints]
  generalize ys.map (fun i : Nat => (i : Int)) = left at up0 six0
  refine ⟨_, rfl, Int.natCast_nonneg _, by omega, ?_⟩
  rw [Int.toNat_natCast]
  have nd0 : left.Nodup := up0.imp fun h => by omega
  refine for_inv (fun r ρ => ∃ (found : List (List Int)) (left : List Int) (x4 x5 x6 x7 : Option PyData), found.length + r.length = n ∧ (∀ m ∈ found, Lt m) ∧ left.Nodup ∧ (∀ c ∈ left, 0 ≤ c ∧ c < 6) ∧ (∀ m ∈ found, ∀ c ∈ m, c ∉ left) ∧
    ρ = [none, some (.int (n : Int)), some (.list (found.map intsD)), some (.list (left.map .int)), x4, x5, x6, x7, none]) (fun d r ρ hI X hX => ?_) ⟨[], left, none, none, none, none, by rw [List.length_map, List.length_range, List.length_nil]; omega, (fun m h => by cases h), nd0, six0, (fun m h => by cases h), rfl⟩ fun ρ hI => ?_
  · obtain ⟨found, left, x4, x5, x6, x7, hl, hF, nd, sx, dj, rfl⟩ := hI
    rw [List.length_cons] at hl
    clear nd0 up0 six0 hys
    have len6 : left.length ≤ 6 := nodup_len (m := six) nd fun c hc => six_mem.mpr (sx c hc)
    have cont : ∀ old : List Int, Lt old → (∀ c ∈ old, c ∉ left) → (dSeq (dSet 6 (dLst (dDis dNil))) (dSeq (dFor (dRg (dIf (dBool (dEqN true (dOwn 3))) (dCall R__law_tr_up (dCons (dC (.int 3)) dNil)) (dC (.int 0)))) (pName 7) (dIfS (dBool (dEqN true (dOwn 3))) (dAppPop 6 3 (dCall R__law_tr_up (dCons (dB bLen (dCons (dOwn 3) dNil)) dNil))) dSkip)) (dApp 2 (dTupOf (dLst (dSortI (dLst (dCatL (dLst (dItems (dVar 5))) (dOwn 6)))))))))
        { nx := X, rt := fun _ => False, rl := K, bk := (dRetL (dOwnL 2)) { nx := fun _ => False, rt := fun _ => False, rl := K }, ct := X } [none, some (.int (n : Int)), some (.list (found.map intsD)), some (.list (left.map .int)), some d, some (intsD old), x6, x7, none] := by
      intro old ho od
      refine ⟨by decide, ?_⟩
      have inner : ∀ (ds : List PyData) (D : DEn), ds.length ≤ 10 → (∀ (left2 new : List Int) (x7 : Option PyData), (new ++ left2).Perm left → D.nx [none, some (.int (n : Int)), some (.list (found.map intsD)), some (.list (left2.map .int)), some d, some (intsD old), some (.list (new.map .int)), x7, none]) →
          fGo (pName 7) (dIfS (dBool (dEqN true (dOwn 3))) (dAppPop 6 3 (dCall R__law_tr_up (dCons (dB bLen (dCons (dOwn 3) dNil)) dNil))) dSkip) D ds [none, some (.int (n : Int)), some (.list (found.map intsD)), some (.list (left.map .int)), some d, some (intsD old), some (.list []), x7, none] := by
        intro ds D _ fin
        refine for_inv (fun r ρ => ∃ (left2 new : List Int) (x7 : Option PyData), (new ++ left2).Perm left ∧ ρ = [none, some (.int (n : Int)), some (.list (found.map intsD)), some (.list (left2.map .int)), some d, some (intsD old), some (.list (new.map .int)), x7, none]) (fun e r ρ hI Y hY => ?_) ⟨left, [], x7, List.Perm.refl _, rfl⟩ fun ρ hI => ?_
        · obtain ⟨left2, new, x7, p, rfl⟩ := hI
          have pl : new.length + left2.length = left.length := by rw [← p.length_eq, List.length_append]
          refine ⟨_, rfl, _, rfl, ?_⟩
          show (if (!(left2.map PyData.int).isEmpty) = true then _ else _)
          rw [List.isEmpty_map]
          refine iteB (fun q => ?_) fun q => hY _ ⟨left2, new, _, p, rfl⟩
          have pos : 0 < left2.length := by
            cases left2 with
            | nil => cases q
            | cons _ _ => rw [List.length_cons]; omega
          have e1 : (left2.map PyData.int).length = left2.length := List.length_map ..
          refine ⟨_, rfl, _, rfl, by rw [e1]; omega, by rw [e1]; omega, fun r h1 h2 => ?_⟩
          rw [e1] at h2
          obtain ⟨i, rfl⟩ : ∃ n : Nat, r = (n : Int) := ⟨r.toNat, by omega⟩
          have hr : i < left2.length := by omega
          refine ⟨i, .int left2[i], rfl, by rw [List.getElem?_map, List.getElem?_eq_getElem hr]; rfl, by omega, by rw [List.length_map]; omega, hY _ ⟨left2.eraseIdx i, new ++ [left2[i]], _, ?_, env_36 (erase_map ..) (by rw [List.map_append]; rfl)⟩⟩
          refine List.Perm.trans ?_ p
          rw [List.append_assoc]
          exact List.Perm.append_left new (erase_perm left2 i hr)
        · obtain ⟨left2, new, x7, p, rfl⟩ := hI
          exact fin left2 new x7 p
      have last : ∀ (left2 new : List Int) (x7 : Option PyData), (new ++ left2).Perm left → (dApp 2 (dTupOf (dLst (dSortI (dLst (dCatL (dLst (dItems (dVar 5))) (dOwn 6)))))))
          { nx := X, rt := fun _ => False, rl := K, bk := (dRetL (dOwnL 2)) { nx := fun _ => False, rt := fun _ => False, rl := K }, ct := X } [none, some (.int (n : Int)), some (.list (found.map intsD)), some (.list (left2.map .int)), some d, some (intsD old), some (.list (new.map .int)), x7, none] := by
        intro left2 new x7 p
        have pl : new.length + left2.length = left.length := by rw [← p.length_eq, List.length_append]
        have ndp := p.nodup_iff.mpr nd
        obtain ⟨n1, n2, n3⟩ := List.nodup_append.mp ndp
        have sub1 : ∀ c ∈ new, c ∈ left := fun c hc => p.mem_iff.mp (List.mem_append.mpr (.inl hc))
        have sub2 : ∀ c ∈ left2, c ∈ left := fun c hc => p.mem_iff.mp (List.mem_append.mpr (.inr hc))
        refine ⟨_, rfl, by rw [List.length_map, List.length_map]; have := ho.len; omega, old ++ new, by rw [List.map_append]; rfl, fun ms pm sm => ⟨_, rfl, by rw [List.length_map]; omega, hX _ ⟨found ++ [ms], left2, _, _, _, _, by rw [List.length_append, List.length_singleton]; omega, fun m hm => ?_, n2, fun c hc => sx c (sub2 c hc), fun m hm c hc z => ?_, env_23 (by rw [List.map_append]; rfl) rfl⟩⟩⟩
        · rcases List.mem_append.mp hm with hm | hm
          · exact hF m hm
          · rw [List.mem_singleton] at hm
            subst hm
            refine ⟨up_of sm (pm.nodup_iff.mpr (List.nodup_append.mpr ⟨ho.up.nodup, n1, fun a ha b hb e => ?_⟩)), fun c hc => ?_⟩
            · exact od a ha (e ▸ sub1 b hb)
            · rcases List.mem_append.mp (pm.mem_iff.mp hc) with h | h
              · exact ho.six c h
              · exact sx c (sub1 c h)
        · rcases List.mem_append.mp hm with hm | hm
          · exact dj m hm c hc (sub2 c z)
          · rw [List.mem_singleton] at hm
            subst hm
            rcases List.mem_append.mp (pm.mem_iff.mp hc) with h | h
            · exact od c h (sub2 c z)
            · exact n3 c h c z rfl
      refine ⟨_, rfl, _, rfl, iteB (fun _ => ?_) fun _ => ?_⟩
      · exact ⟨3, rfl, by decide, by decide, fun r h1 h2 => ⟨r, rfl, h1, by omega, inner _ _ (by rw [List.length_map, List.length_range]; omega) last⟩⟩
      · exact ⟨0, rfl, by decide, by decide, inner _ _ (by decide) last⟩
    refine ⟨_, rfl, _, rfl, ?_⟩
    show (if (!(found.map intsD).isEmpty) = true then _ else _)
    rw [List.isEmpty_map]
    refine iteB (fun q => ?_) fun q => ⟨by decide, cont [] Lt.nil fun c h => by cases h⟩
    have pos : 0 < found.length := by
      cases found with
      | nil => cases q
      | cons _ _ => rw [List.length_cons]; omega
    show R__law_tr_of [.list (found.map intsD)] fun d => pur d = true ∧ R__law_tr_some [d] _
    refine sp_tr_of rfl (by rw [List.length_map]; exact pos) (by rw [List.length_map]; omega) fun x hx => ?_
    obtain ⟨m, hm, rfl⟩ := List.mem_map.mp hx
    have lm := hF m hm
    exact ⟨pur_ints m, sp_tr_some (by have := lm.len; omega) fun b hb => cont b ⟨lm.up.sublist hb, fun c hc => lm.six c (hb.subset hc)⟩ fun c hc => dj m hm c (hb.subset hc)⟩
  · obtain ⟨found, left, x4, x5, x6, x7, hl, hF, _, _, _, rfl⟩ := hI
    exact k found (by rw [List.length_nil] at hl; omega) hF
end Kb
set_option Elab.async false
set_option linter.all false
set_option maxRecDepth 100000
set_option maxHeartbeats 400000
/-! S24: a drawn web that is stuck: its lots. -/
namespace Kb
open PySem L2
/-- some of them, whichever, of those that may be taken -/
theorem lc_subp {α : Type} {P : DP} {gt : DB} {ge : DE} {ρ : Env} {K : List PyData → Prop} (enc enc' : α → PyData) (p : α → Bool) : ∀ {xs : List α} {acc : List PyData},
    (∀ x ∈ xs, ∀ (A : PyData → Prop) (B : Prop), (p x = true → A (enc' x)) → B → P (enc x) ρ fun ρ2 => gt ρ2 fun b => if b = true then ge ρ2 A else B) → (∀ ys : List α, ys.Sublist xs → (∀ y ∈ ys, p y = true) → K (acc ++ ys.map enc')) → lcGo P gt ge ρ (xs.map enc) acc K
  | [], acc, h, k => by
    have := k [] (List.Sublist.refl _) fun y h => by cases h
    rw [List.map_nil, List.append_nil] at this
    exact this
  | x :: xs, acc, h, k => by
    rw [List.map_cons]
    unfold lcGo
    refine h x List.mem_cons_self (fun y => lcGo P gt ge ρ (xs.map enc) (acc ++ [y]) K) _ (fun hp => ?_) ?_
    · refine lc_subp enc enc' p (fun y hy => h y (List.mem_cons_of_mem _ hy)) fun ys hs hq => ?_
      have := k (x :: ys) (hs.cons_cons x) fun y hy => (List.mem_cons.mp hy).elim (fun e => e ▸ hp) (hq y)
      rw [List.map_cons] at this
      rw [List.append_assoc]
      exact this
    · exact lc_subp enc enc' p (fun y hy => h y (List.mem_cons_of_mem _ hy)) fun ys hs hq => k ys (hs.cons x) hq
theorem cutD_take (xs : List PyData) (i : Nat) (h : i ≤ xs.length) : cutD xs none (some (i : Int)) = xs.take i := by
  unfold cutD
  rw [HT.sIx_nat]
  show (xs.drop 0).take (min i xs.length - 0) = _
  rw [List.drop_zero, Nat.sub_zero, Nat.min_eq_left h]
theorem cutD_drop (xs : List PyData) (i : Nat) : cutD xs (some (i : Int)) none = xs.drop i := by
  unfold cutD
  rw [HT.sIx_nat]
  show (xs.drop (min i xs.length)).take (xs.length - min i xs.length) = _
  by_cases h : i ≤ xs.length
  · rw [Nat.min_eq_left h]
    exact List.take_of_length_le (by simp)
  · rw [Nat.min_eq_right (by omega), List.drop_of_length_le (Nat.le_refl _), List.drop_of_length_le (by omega), List.take_nil]
abbrev lstD (m : List Int) : PyData := .list (m.map .int)
def srtU (l : List Int) : List Int := six.filter fun c => l.contains c
theorem srtU_lt (l : List Int) : Lt (srtU l) := ⟨six_up.filter _, fun c hc => six_mem.mp (List.mem_filter.mp hc).1⟩
theorem srtU_eq {l ms : List Int} (nd : l.Nodup) (sx : ∀ c ∈ l, 0 ≤ c ∧ c < 6) (p : ms.Perm l) (s : ms.Pairwise (· ≤ ·)) : ms = srtU l := by
  refine up_same (up_of s (p.nodup_iff.mpr nd)) (srtU_lt l).up fun c => ?_
  unfold srtU
  rw [List.mem_filter, List.contains_iff_mem, p.mem_iff]
  exact ⟨fun h => ⟨six_mem.mpr (sx c h), h⟩, fun h => h.2⟩
theorem atI_mem {m : List Int} {i : Int} (h1 : -(m.length : Int) ≤ i) (h2 : i < m.length) : ∃ k, k < m.length ∧ (0 ≤ i → (k : Int) = i) ∧ (i < 0 → (k : Int) = i + m.length) ∧ atI (m.map PyData.int) i = some (.int (m.getD k 0)) := by
  have key : ∀ k, k < m.length → (m.map PyData.int)[k]? = some (.int (m.getD k 0)) := fun k hk => by
    rw [List.getElem?_map, List.getD_eq_getElem?_getD, List.getElem?_eq_getElem hk]
    rfl
  unfold atI ixN
  rw [List.length_map]
  by_cases h : 0 ≤ i
  · refine ⟨i.toNat, by omega, fun _ => by omega, fun z => by omega, ?_⟩
    rw [if_pos h, if_pos h2]
    exact key _ (by omega)
  · refine ⟨(i + m.length).toNat, by omega, fun z => by omega, fun _ => by omega, ?_⟩
    rw [if_neg h, if_pos h1]
    exact key _ (by omega)
theorem getD_mem {m : List Int} {k : Nat} (h : k < m.length) : m.getD k 0 ∈ m := by
  rw [List.getD_eq_getElem?_getD, List.getElem?_eq_getElem h]
  exact List.getElem_mem h
theorem getD_inj {m : List Int} (nd : m.Nodup) {i j : Nat} (hi : i < m.length) (hj : j < m.length) (e : m.getD i 0 = m.getD j 0) : i = j := by
  rw [List.getD_eq_getElem?_getD, List.getD_eq_getElem?_getD, List.getElem?_eq_getElem hi, List.getElem?_eq_getElem hj] at e
  have e : m[i] = m[j] := e
  exact (List.getElem_inj nd).mp e
theorem sp_tr_round {K : List PyData → Prop} (k : ∀ ls : List (List Int), ls.length ≤ 6 → (∀ m ∈ ls, Lt m) → K (ls.map intsD)) : R__law_tr_round [] K := by
  refine ⟨rfl, 6, rfl, by decide, by decide, by decide, ?_⟩
  refine lc_sub natD natD (fun i hi A B a b => ⟨4, rfl, by decide, by decide, fun r _ _ => ⟨_, rfl, iteB (fun _ => a) fun _ => b⟩⟩) fun ys hys => ⟨(show 3 ≤ 100000 by decide), ?_⟩
  obtain ⟨up0, six0⟩ := sub_range hys
  rw [List.nil_append, nats_ints]
  have ly : ys.length ≤ 6 := by have := hys.length_le; rwa [List.length_range] at this
  have ly2 : (ys.map fun i : Nat => (i : Int)).length = ys.length := List.length_map ..
  generalize ys.map (fun i : Nat => (i : Int)) = left at up0 six0 ly2
  refine ⟨by rw [List.length_map, List.length_cons, List.length_cons, List.length_cons, List.length_nil]; omega, ?_⟩
  refine ⟨left ++ [0, 1, 2], by rw [List.map_append]; rfl, by rw [List.length_append, List.length_cons, List.length_cons, List.length_cons, List.length_nil]; omega, by rw [List.length_append, List.length_cons, List.length_cons, List.length_cons, List.length_nil]; omega, fun sm us ms => ?_⟩
  have ss : ∀ c ∈ sm, 0 ≤ c ∧ c < 6 := fun c hc => by
    rcases List.mem_append.mp ((ms c).mp hc) with h | h
    · exact six0 c h
    · simp only [List.mem_cons, List.not_mem_nil, or_false] at h
      omega
  have us : Up sm := us
  have nds := us.nodup
  have ls6 : sm.length ≤ 6 := nodup_len (m := six) nds fun c hc => six_mem.mpr (ss c hc)
  have ls3 : 3 ≤ sm.length := nodup_len (l := ([0, 1, 2] : List Int)) (by decide) fun c hc => (ms c).mpr (List.mem_append.mpr (.inr hc))
  have e0 : (sm.map PyData.int).length = sm.length := List.length_map ..
  have cont : ∀ F : List (List Int), F.length ≤ 6 → (∀ l ∈ F, l.Nodup ∧ ∀ c ∈ l, c ∈ sm) → (dSeq (dSet 3 (dLst (dLc (dRg (dC (.int 6))) (pName 4) (dAnd (dBool (dNin (dVar 4) (dVar 1))) (dBool (dEq (dCall R__law_tr_up (dCons (dC (.int 3)) dNil)) (dC (.int 0))))) (dVar 4) [4]))) (dRetL (dLc (dIt (dVar 2)) (pName 6) dYes (dTupOf (dLst (dSortI (dLst (dCatL (dVar 6) (dVar 3)))))) [6])))
      { nx := fun _ => False, rt := fun _ => False, rl := K } [none, some (lstD sm), some (.list (F.map lstD)), none, none, none, none] := by
    intro F hF hl
    refine ⟨6, rfl, by decide, by decide, by decide, ?_⟩
    refine lc_subp natD natD (fun i => !sm.contains (i : Int)) (fun i hi A B a b => ⟨_, rfl, rfl, flat_ints sm, _, rfl, ?_⟩) fun zs hzs hp => ?_
    · rw [any_int]
      refine iteB (fun q => ⟨3, rfl, by decide, by decide, fun r _ _ => ⟨(Sh.int 0 _).ok, (Sh.int 0 _).ok, _, rfl, iteB (fun _ => a q) fun _ => b⟩⟩) fun q => ite0 rfl b
    obtain ⟨upm, sixm⟩ := sub_range hzs
    rw [List.nil_append, nats_ints]
    have dj : ∀ c ∈ zs.map (fun i : Nat => (i : Int)), c ∉ sm := fun c hc z => by
      obtain ⟨i, hi, rfl⟩ := List.mem_map.mp hc
      have := hp i hi
      rw [List.contains_iff_mem.mpr z] at this
      cases this
    have lz : zs.length ≤ 6 := by have := hzs.length_le; rwa [List.length_range] at this
    have lz2 : (zs.map fun i : Nat => (i : Int)).length = zs.length := List.length_map ..
    generalize zs.map (fun i : Nat => (i : Int)) = more at upm sixm dj lz2
    refine ⟨_, rfl, by rw [List.length_map]; omega, lc_mpY lstD (fun l => intsD (srtU (l ++ more))) (fun l hl2 A a => ?_) ?_⟩
    · obtain ⟨n1, s1⟩ := hl l hl2
      have ll : l.length ≤ 6 := Nat.le_trans (nodup_len n1 s1) ls6
      refine ⟨by rw [List.length_map, List.length_map]; omega, l ++ more, by rw [List.map_append]; rfl, fun ms p s => ⟨_, rfl, ?_⟩⟩
      rw [srtU_eq (List.nodup_append.mpr ⟨n1, upm.imp fun h => by omega, fun a ha b hb e => dj b hb (e ▸ s1 a ha)⟩) (fun c hc => ?_) p s]
      · exact a
      · rcases List.mem_append.mp hc with h | h
        · exact ss c (s1 c h)
        · exact sixm c h
    · have := k (F.map fun l => srtU (l ++ more)) (by rw [List.length_map]; exact hF) fun m hm => by
        obtain ⟨l, _, rfl⟩ := List.mem_map.mp hm
        exact srtU_lt _
      rw [List.map_map] at this
      exact this
  refine ⟨2, rfl, by decide, by decide, fun r _ _ => ⟨(Sh.int 0 _).ok, (Sh.int 0 _).ok, _, rfl, iteB (fun _ => ?_) fun _ => ?_⟩⟩
  · refine ⟨_, rfl, _, rfl, Int.natCast_nonneg _, by rw [e0]; omega, by rw [List.length_map, List.length_range, Int.toNat_natCast, e0]; omega, ?_⟩
    rw [Int.toNat_natCast, e0]
    refine lc_mpY natD (fun i => lstD (sm.take i ++ sm.drop (i + 1))) (fun i hi A a => ?_) ?_
    · have hi := List.mem_range.mp hi
      refine ⟨(i : Int), rfl, _, rfl, ((i : Int) + 1), rfl, _, rfl, ?_, ?_⟩
      · rw [cut_take sm i (by omega), show ((i : Int) + 1) = ((i + 1 : Nat) : Int) from rfl, cut_drop, List.length_map, List.length_map, List.length_take, List.length_drop]
        omega
      · rw [cut_take sm i (by omega), show ((i : Int) + 1) = ((i + 1 : Nat) : Int) from rfl, cut_drop, ← List.map_append]
        exact a
    · have := cont ((List.range sm.length).map fun i => sm.take i ++ sm.drop (i + 1)) (by rw [List.length_map, List.length_range]; exact ls6) fun l hl => by
        obtain ⟨i, hi, rfl⟩ := List.mem_map.mp hl
        rw [rest_at us (List.mem_range.mp hi)]
        exact ⟨nds.filter _, fun c hc => (List.mem_filter.mp hc).1⟩
      rw [List.map_map] at this
      exact this
  · refine ⟨_, rfl, _, rfl, Int.natCast_nonneg _, by rw [e0]; omega, by rw [List.length_map, List.length_range, Int.toNat_natCast, e0]; omega, ?_⟩
    rw [Int.toNat_natCast, e0]
    refine lc_mpY natD (fun i => lstD [sm.getD (if i = 0 then sm.length - 1 else i - 1) 0, sm.getD i 0]) (fun i hi A a => ?_) ?_
    · have hi := List.mem_range.mp hi
      obtain ⟨k1, hk1, p1, q1, e1⟩ := atI_mem (m := sm) (i := (i : Int) - 1) (by omega) (by omega)
      obtain ⟨k2, hk2, p2, q2, e2⟩ := atI_mem (m := sm) (i := (i : Int)) (by omega) (by omega)
      have ek2 : k2 = i := by have := p2 (by omega); omega
      subst ek2
      have ek1 : k1 = if k2 = 0 then sm.length - 1 else k2 - 1 := by
        by_cases z : k2 = 0
        · rw [if_pos z]
          have := q1 (by omega)
          omega
        · rw [if_neg z]
          have := p1 (by omega)
          omega
      subst ek1
      exact ⟨_, _, _, rfl, rfl, e1, _, _, _, rfl, rfl, e2, (show 2 ≤ 100000 by decide), a⟩
    · have := cont ((List.range sm.length).map fun i => [sm.getD (if i = 0 then sm.length - 1 else i - 1) 0, sm.getD i 0]) (by rw [List.length_map, List.length_range]; exact ls6) fun l hl => by
        obtain ⟨i, hi, rfl⟩ := List.mem_map.mp hl
        have hi := List.mem_range.mp hi
        have hk : (if i = 0 then sm.length - 1 else i - 1) < sm.length := by split <;> omega
        refine ⟨?_, fun c hc => ?_⟩
        · refine List.nodup_cons.mpr ⟨fun z => ?_, by simp⟩
          rw [List.mem_singleton] at z
          have := getD_inj nds hk hi z
          split at this <;> omega
        · rcases List.mem_cons.mp hc with rfl | hc
          · exact getD_mem hk
          · rw [List.mem_singleton] at hc
            subst hc
            exact getD_mem hi
      rw [List.map_map] at this
      exact this
end Kb
set_option Elab.async false
set_option linter.all false
set_option maxRecDepth 100000
set_option maxHeartbeats 400000
/-! S25: a drawn web. -/
namespace Kb
open PySem L2
theorem perm_map {α : Type} {enc : α → PyData} {dec : PyData → α} (h : ∀ x, dec (enc x) = x) {es : List PyData} {xs : List α} (p : es.Perm (xs.map enc)) : ∃ ys : List α, es = ys.map enc ∧ ys.Perm xs := by
  refine ⟨es.map dec, ?_, ?_⟩
  · rw [List.map_map]
    conv => lhs; rw [← List.map_id es]
    refine List.map_congr_left fun e he => ?_
    obtain ⟨x, _, rfl⟩ := List.mem_map.mp (p.mem_iff.mp he)
    show enc x = enc (dec (enc x))
    rw [h]
  · have := p.map dec
    rw [List.map_map, show dec ∘ enc = id from funext h, List.map_id] at this
    exact this
theorem cutD_sub {α : Type} (f : α → PyData) (xs : List α) (l u : Option Int) : ∃ ys : List α, cutD (xs.map f) l u = ys.map f ∧ ys.Sublist xs := by
  unfold cutD
  rw [← List.map_drop, ← List.map_take]
  exact ⟨_, rfl, (List.take_sublist _ _).trans (List.drop_sublist _ _)⟩
theorem pur_lots (ls : List (List Int)) : pur (lotsD ls) = true := by
  rw [pur]
  refine purL_of fun d hd => ?_
  obtain ⟨m, _, rfl⟩ := List.mem_map.mp hd
  exact pur_ints m
theorem env_w {A A' : List PyData} {x0 x1 x2 x4 : Option PyData} (h1 : A = A') : ([x0, x1, x2, some (.list A), x4] : Env) = [x0, x1, x2, some (.list A'), x4] := by
  subst h1
  rfl
theorem sp_tr_web {K : PyData → Prop} (k : ∀ ls : List (List Int), ls.length ≤ 8 → (∀ m ∈ ls, Lt m) → K (lotsD ls)) : R__law_tr_web [.int 8] K := by
  refine ⟨rfl, 5, rfl, by decide, by decide, fun w _ _ => ⟨by decide, ?_⟩⟩
  have cont : ∀ F : List (List Int), F.length ≤ 8 → (∀ m ∈ F, Lt m) → (dSeq (dFor (dRg (dIf (dBool (dEq (dVar 2) (dC (.int 4)))) (dCall R__law_tr_up (dCons (dVar 1) dNil)) (dCall R__law_tr_up (dCons (dC (.int 2)) dNil)))) (pName 4) (dIfS (dBool (dLt (dB bLen (dCons (dOwn 3) dNil)) (dVar 1))) (dApp 3 (dCall R__law_tr_some (dCons (dRgT (dC (.int 6))) dNil))) dSkip)) (dRet (dPur (dCall R__law_tr_mixed (dCons (dOwn 3) dNil)))))
      { nx := fun _ => K .none, rt := K, rl := fun _ => False } [none, some (.int 8), some (.int w), some (.list (F.map intsD)), none] := by
    intro F hF hL
    have loop : ∀ (ds : List PyData) (D : DEn), D.rt = K → D.nx = (dRet (dPur (dCall R__law_tr_mixed (dCons (dOwn 3) dNil)))) { nx := fun _ => K .none, rt := K, rl := fun _ => False } → fGo (pName 4) (dIfS (dBool (dLt (dB bLen (dCons (dOwn 3) dNil)) (dVar 1))) (dApp 3 (dCall R__law_tr_some (dCons (dRgT (dC (.int 6))) dNil))) dSkip) D ds [none, some (.int 8), some (.int w), some (.list (F.map intsD)), none] := by
      intro ds D _ hnx
      refine for_inv (fun r ρ => ∃ (F : List (List Int)) (x4 : Option PyData), F.length ≤ 8 ∧ (∀ m ∈ F, Lt m) ∧ ρ = [none, some (.int 8), some (.int w), some (.list (F.map intsD)), x4]) (fun d r ρ hI X hX => ?_) ⟨F, none, hF, hL, rfl⟩ fun ρ hI => ?_
      · obtain ⟨F, x4, hF, hL, rfl⟩ := hI
        refine ⟨_, rfl, _, rfl, iteB (fun q => ?_) fun q => hX _ ⟨F, _, hF, hL, rfl⟩⟩
        rw [List.length_map] at q
        have q : F.length < 8 := by have := of_decide_eq_true q; omega
        refine ⟨6, rfl, by decide, by decide, ?_⟩
        refine sp_tr_some (a := six) (by decide) fun b hb => ⟨by rw [List.length_map]; omega, hX _ ⟨F ++ [b], _, by rw [List.length_append, List.length_singleton]; omega, fun m hm => ?_, env_w (by rw [List.map_append]; rfl)⟩⟩
        rcases List.mem_append.mp hm with hm | hm
        · exact hL m hm
        · rw [List.mem_singleton] at hm
          subst hm
          exact ⟨six_up.sublist hb, fun c hc => six_mem.mp (hb.subset hc)⟩
      · obtain ⟨F, x4, hF, hL, rfl⟩ := hI
        rw [hnx]
        show R__law_tr_mixed [.list (F.map intsD)] fun d => pur d = true ∧ K d
        refine sp_tr_mixed rfl (by rw [List.length_map]; omega) fun es p => ?_
        obtain ⟨G, rfl, pG⟩ := perm_map lotOf_ints p
        exact ⟨pur_lots G, k G (by rw [pG.length_eq]; exact hF) fun m hm => hL m (pG.mem_iff.mp hm)⟩
    refine ⟨(Sh.int 0 _).ok, (Sh.int 0 _).ok, _, rfl, iteB (fun _ => ?_) fun _ => ?_⟩
    · exact ⟨8, rfl, by decide, by decide, fun r h1 h2 => ⟨r, rfl, h1, by omega, loop _ _ rfl rfl⟩⟩
    · exact ⟨2, rfl, by decide, by decide, fun r h1 h2 => ⟨r, rfl, h1, by omega, loop _ _ rfl rfl⟩⟩
  refine ⟨_, rfl, iteB (fun _ => ?_) fun _ => ?_⟩
  · refine ⟨9, rfl, by decide, by decide, fun r h1 h2 => ?_⟩
    obtain ⟨n, rfl⟩ : ∃ n : Nat, r = (n : Int) := ⟨r.toNat, by omega⟩
    exact sp_tr_grown (by omega) fun ls h hL => cont ls (by omega) hL
  · refine ⟨(Sh.int 0 _).ok, (Sh.int 0 _).ok, _, rfl, iteB (fun _ => ?_) fun _ => cont [] (by decide) fun m h => by cases h⟩
    show R__law_tr_round [] fun ds => _
    refine sp_tr_round fun ls hl hL => ⟨8, rfl, _, rfl, ?_⟩
    obtain ⟨ys, e, s⟩ := cutD_sub intsD ls none (some 8)
    rw [e]
    exact cont ys (by have := s.length_le; omega) fun m hm => hL m (s.subset hm)
end Kb
set_option Elab.async false
set_option linter.all false
set_option maxRecDepth 100000
set_option maxHeartbeats 400000
/-! S26: whether a web folds: what is told of it is so. -/
namespace Kb
open PySem L2
theorem sp_tr_withinS {x y : PyData} {a b : List Int} {K : PyData → Prop} (ex : seqD x = some (a.map .int)) (ey : seqD y = some (b.map .int)) (ha : a.length ≤ 100000) (k : K (.bool (a.all fun c => b.contains c))) : R__law_tr_within [x, y] K := by
  refine ⟨rfl, _, ex, by rw [List.length_map]; exact ha, lc_ft .int .int (fun c => !b.contains c) (fun x hx A B h1 h2 => ?_) ⟨_, rfl, ?_⟩⟩
  · refine ⟨_, ey, rfl, flat_ints b, _, rfl, iteB (fun e => h1 ?_) fun e => h2 ?_⟩
    · rw [← any_int]; exact e
    · rw [← any_int]; exact e
  · have e : ((a.filter fun c => !b.contains c).map PyData.int).isEmpty = a.all fun c => b.contains c := by
      rw [List.isEmpty_map]
      exact within_emp a b
    show K (.bool (((a.filter fun c => !b.contains c).map PyData.int).isEmpty))
    rw [e]
    exact k
theorem lst_at {ls : List (List Int)} {p : Nat} (h : p < ls.length) : atI (ls.map lstD) (p : Int) = some (lstD (ls.getD p [])) := by
  rw [atI_nat, List.getElem?_map, List.getD_eq_getElem?_getD, List.getElem?_eq_getElem h]; rfl
theorem env_1 {A A' : List PyData} {x0 x2 x3 x4 x5 x6 x7 x8 x9 : Option PyData} (h1 : A = A') : ([x0, some (.list A), x2, x3, x4, x5, x6, x7, x8, x9] : Env) = [x0, some (.list A'), x2, x3, x4, x5, x6, x7, x8, x9] := by
  subst h1
  rfl
theorem rgI_rev (q : Nat) : (rgI (q + 1)).reverse = (q : Int) :: (rgI q).reverse := by
  unfold rgI
  rw [List.range_succ, List.map_append, List.reverse_append]
  rfl
theorem small_getD {l : List (List Int)} (h : ∀ m ∈ l, m.length ≤ 6) (p : Nat) : (l.getD p []).length ≤ 6 := by
  rw [List.getD_eq_getElem?_getD]
  cases e : l[p]? with
  | none => exact Nat.zero_le _
  | some m => exact h m (List.mem_of_getElem? e)
def FoI (ls : List (List Int)) (ρ : Env) : Prop := ∃ (l : List (List Int)) (x2 x3 x4 x5 x6 x7 x8 x9 : Option PyData), Fo ls l ∧ l.length ≤ ls.length ∧ (∀ m ∈ l, m.length ≤ 6) ∧ ρ = [some (lotsD ls), some (.list (l.map lstD)), x2, x3, x4, x5, x6, x7, x8, x9]
theorem fold_one {ls : List (List Int)} (hz : ls.length ≤ 100) (D : DEn) : ∀ (ds : List PyData) (ρ : Env), (∀ d ∈ ds, ∃ c : Nat, d = natD c) → FoI ls ρ → (∀ ρ, FoI ls ρ → D.nx ρ) →
    fGo (pName 3) (dSeq (dSet 4 (dLst (dLc (dNum (dOwn 1)) (pTwo 5 6) (dBool (dIn (dVar 3) (dVar 6))) (dVar 5) [5, 6]))) (dIfS (dBool (dEq (dB bLen (dCons (dVar 4) dNil)) (dC (.int 1)))) (dSetI 1 (dIx (dVar 4) (dC (.int 0))) (dLst (dLc (dIt (dIx (dOwn 1) (dIx (dVar 4) (dC (.int 0))))) (pName 7) (dBool (dNe (dVar 7) (dVar 3))) (dVar 7) [7]))) dSkip)) D ds ρ := by
  intro ds ρ hds hI k
  refine for_inv (fun r ρ => (∀ d ∈ r, ∃ c : Nat, d = natD c) ∧ FoI ls ρ) (fun d r ρ hI X hX => ?_) ⟨hds, hI⟩ fun ρ hI => k ρ hI.2
  obtain ⟨hr, l, x2, x3, x4, x5, x6, x7, x8, x9, fo, hl, h6, rfl⟩ := hI
  obtain ⟨c, rfl⟩ := hr d List.mem_cons_self
  have hr : ∀ d ∈ r, ∃ c : Nat, d = natD c := fun d hd => hr d (List.mem_cons_of_mem _ hd)
  have e0 : (l.map lstD).length = l.length := List.length_map ..
  refine ⟨_, rfl, by rw [numD_len, e0]; omega, ?_⟩
  rw [numD_map lstD [] l]
  refine lc_ft (fun p => PyData.tuple [natD p, lstD (l.getD p [])]) natD (fun p => (l.getD p []).contains (c : Int)) (fun p hp A B h1 h2 => ⟨_, _, rfl, _, rfl, rfl, flat_ints _, _, rfl, ?_⟩) ?_
  · rw [any_int]
    exact iteB h1 h2
  generalize hS : (List.range l.length).filter (fun p => (l.getD p []).contains (c : Int)) = sm
  refine ⟨_, rfl, (Sh.int 0 _).ok, (Sh.int 0 _).ok, _, rfl, ?_⟩
  rw [List.length_map, show (1 : Int) = ((1 : Nat) : Int) from rfl, eqv_nat]
  refine iteB (fun e => ?_) fun e => hX _ ⟨hr, l, _, _, _, _, _, _, _, _, fo, hl, h6, rfl⟩
  have e : sm.length = 1 := eq_of_beq e
  obtain ⟨p, rfl⟩ : ∃ p, sm = [p] := by
    match sm, e with
    | [p], _ => exact ⟨p, rfl⟩
  have ms : ∀ j, j ∈ [p] ↔ j < l.length ∧ (c : Int) ∈ l.getD j [] := fun j => by
    rw [← hS, List.mem_filter, List.mem_range, List.contains_iff_mem]
  obtain ⟨hp, hc⟩ := (ms p).mp (List.mem_singleton.mpr rfl)
  have h6p := small_getD h6 p
  refine ⟨_, 0, _, rfl, rfl, rfl, _, (p : Int), _, rfl, rfl, lst_at hp, _, rfl, by rw [List.length_map]; omega, lc_ft .int .int (fun d => d != (c : Int)) (fun d hd A B h1 h2 => ⟨(Sh.int 0 _).ok, (Sh.int 0 _).ok, _, rfl, iteB h1 h2⟩) ⟨_, 0, _, rfl, rfl, rfl, p, rfl, by rw [e0]; exact hp, hX _ ⟨hr, l.set p ((l.getD p []).filter fun d => d != (c : Int)), _, _, _, _, _, _, _, _, fo.drop hp (fun j h1 h2 => List.mem_singleton.mp ((ms j).mpr ⟨h1, h2⟩)), by rw [List.length_set]; exact hl, fun m hm => ?_, env_1 (by rw [List.map_set])⟩⟩⟩
  rcases List.mem_or_eq_of_mem_set hm with hm | rfl
  · exact h6 m hm
  · have := List.length_filter_le (fun d => d != (c : Int)) (l.getD p [])
    omega
theorem fold_two {ls : List (List Int)} (hz : ls.length ≤ 100) (D : DEn) {l : List (List Int)} {x2 x3 x4 x5 x6 x7 x8 x9 : Option PyData} (fo : Fo ls l) (hl : l.length ≤ ls.length) (h6 : ∀ m ∈ l, m.length ≤ 6) (k : ∀ ρ, FoI ls ρ → D.nx ρ) :
    fGo (pName 5) (dIfS (dBool (dEqN true (dLst (dLc (dNum (dOwn 1)) (pTwo 8 9) (dAnd (dBool (dNe (dVar 8) (dVar 5))) (dBool (dCall R__law_tr_within (dCons (dIx (dOwn 1) (dVar 5)) (dCons (dVar 9) dNil))))) (dVar 9) [8, 9])))) (dPop 1 (dVar 5)) dSkip) D ((rgI l.length).reverse.map .int) [some (lotsD ls), some (.list (l.map lstD)), x2, x3, x4, x5, x6, x7, x8, x9] := by
  refine for_inv (fun r ρ => ∃ (q : Nat) (l : List (List Int)) (x2 x3 x4 x5 x6 x7 x8 x9 : Option PyData), r = (rgI q).reverse.map .int ∧ q ≤ l.length ∧ Fo ls l ∧ l.length ≤ ls.length ∧ (∀ m ∈ l, m.length ≤ 6) ∧ ρ = [some (lotsD ls), some (.list (l.map lstD)), x2, x3, x4, x5, x6, x7, x8, x9]) (fun d r ρ hI X hX => ?_) ⟨l.length, l, _, _, _, _, _, _, _, _, rfl, Nat.le_refl _, fo, hl, h6, rfl⟩ fun ρ hI => ?_
  · obtain ⟨q, l, x2, x3, x4, x5, x6, x7, x8, x9, er, hq, fo, hl, h6, rfl⟩ := hI
    cases q with
    | zero => cases er
    | succ q =>
    rw [rgI_rev, List.map_cons] at er
    obtain ⟨rfl, rfl⟩ := List.cons.inj er
    have e0 : (l.map lstD).length = l.length := List.length_map ..
    have hql : q < l.length := by omega
    have h6q := small_getD h6 q
    refine ⟨_, rfl, by rw [numD_len, e0]; omega, ?_⟩
    rw [numD_map lstD [] l]
    refine lc_ft (fun p => PyData.tuple [natD p, lstD (l.getD p [])]) (fun p => lstD (l.getD p [])) (fun p => p != q && (l.getD q []).all fun c => (l.getD p []).contains c) (fun p hp A B h1 h2 => ⟨_, _, rfl, (Sh.int 0 _).ok, (Sh.int 0 _).ok, _, rfl, ?_⟩) ⟨_, rfl, _, rfl, ?_⟩
    · rw [eqv_nat]
      have e : (!p == q) = (p != q) := rfl
      rw [e]
      refine iteB (fun z => ?_) fun z => ?_
      · rw [z, Bool.true_and] at h1 h2
        exact ⟨_, (q : Int), _, rfl, rfl, lst_at hql, sp_tr_withinS rfl rfl (by omega) ⟨_, rfl, iteB h1 h2⟩⟩
      · rw [z, Bool.false_and] at h2
        exact ite0 rfl (h2 rfl)
    · show (if (!(((List.range l.length).filter fun p => p != q && (l.getD q []).all fun c => (l.getD p []).contains c).map fun p => lstD (l.getD p [])).isEmpty) = true then _ else _)
      rw [List.isEmpty_map, filt_any, Bool.not_not]
      refine iteB (fun z => ?_) fun z => hX _ ⟨q, l, _, _, _, _, _, _, _, _, rfl, by omega, fo, hl, h6, rfl⟩
      obtain ⟨p, hp, z⟩ := List.any_eq_true.mp z
      rw [Bool.and_eq_true, bne_iff_ne] at z
      have le : (l.eraseIdx q).length = l.length - 1 := by rw [List.length_eraseIdx, if_pos hql]
      exact ⟨q, rfl, by rw [e0]; exact hql, by omega, hX _ ⟨q, l.eraseIdx q, _, _, _, _, _, _, _, _, rfl, by rw [le]; omega, fo.pop hql (List.mem_range.mp hp) z.1 (within_iff.mp z.2), by rw [le]; omega, fun m hm => h6 m (List.mem_of_mem_eraseIdx hm), env_1 (erase_map ..)⟩⟩
  · obtain ⟨q, l, x2, x3, x4, x5, x6, x7, x8, x9, er, hq, fo, hl, h6, rfl⟩ := hI
    exact k _ ⟨l, _, _, _, _, _, _, _, _, fo, hl, h6, rfl⟩
theorem sp_tr_folds {ls : List (List Int)} {K : PyData → Prop} (hz : ls.length ≤ 100) (hL : ∀ m ∈ ls, Lt m) (k : ∀ b, (b = true → ∃ l, Fo ls l ∧ l.length < 2) → K (.bool b)) : R__law_tr_folds [lotsD ls] K := by
  have e0 : (ls.map intsD).length = ls.length := List.length_map ..
  refine ⟨rfl, _, rfl, by rw [e0]; omega, lc_mpY intsD lstD (fun m hm A a => ⟨_, rfl, a⟩) ?_⟩
  refine ⟨_, rfl, .inl ⟨by decide, by decide⟩, _, rfl, by omega, by rw [e0]; omega, ?_⟩
  refine for_inv (fun r ρ => FoI ls ρ) (fun d r ρ hI X hX => ?_) ⟨ls, _, _, _, _, _, _, _, _, .refl ls, Nat.le_refl _, fun m hm => (hL m hm).len, rfl⟩ fun ρ hI => ?_
  · obtain ⟨l, x2, x3, x4, x5, x6, x7, x8, x9, fo, hl, h6, rfl⟩ := hI
    refine ⟨6, rfl, by decide, by decide, ?_⟩
    refine fold_one hz _ _ _ (fun d hd => ?_) ⟨l, _, _, _, _, _, _, _, _, fo, hl, h6, rfl⟩ fun ρ hI => ?_
    · obtain ⟨i, _, rfl⟩ := List.mem_map.mp hd
      exact ⟨i, rfl⟩
    obtain ⟨l, x2, x3, x4, x5, x6, x7, x8, x9, fo, hl, h6, rfl⟩ := hI
    have e1 : (l.map lstD).length = l.length := List.length_map ..
    refine ⟨_, rfl, _, rfl, Int.natCast_nonneg _, by rw [e1]; omega, _, rfl, _, rfl, ?_⟩
    rw [Int.toNat_natCast, e1, ← List.map_reverse]
    exact fold_two hz _ fo hl h6 hX
  · obtain ⟨l, x2, x3, x4, x5, x6, x7, x8, x9, fo, hl, h6, rfl⟩ := hI
    refine ⟨_, rfl, ?_⟩
    refine k _ fun h => ⟨l, fo, ?_⟩
    have := of_decide_eq_true h
    rw [List.length_map] at this
    omega
end Kb
set_option Elab.async false
set_option linter.all false
set_option maxRecDepth 100000
set_option maxHeartbeats 400000
/-! S27: a value near: no greater than it was, by a little. -/
namespace Kb
open PySem L2
def Fl (d : PyData) : Prop := (∃ i, d = .int i) ∨ d = .none
def Lv : Nat → Nat → PyData → Prop
  | 0, _, d => Fl d
  | m + 1, s, d => ∃ ds, d = .tuple ds ∧ ds.length ≤ s ∧ ∀ e ∈ ds, Lv m s e
def Tm : Nat → Nat → PyData → Prop
  | 0, _, d => ∀ ds, d ≠ .tuple ds
  | m + 1, s, d => ∀ ds, d = .tuple ds → ds.length ≤ s ∧ ∀ e ∈ ds, Tm m s e
theorem Lv.sh : ∀ {m s : Nat} {d : PyData}, Lv m s d → Sh m d
  | 0, s, d, h => by
    rcases h with ⟨i, rfl⟩ | rfl
    · exact .int 0 i
    · exact .non 0
  | m + 1, s, d, h => by
    obtain ⟨ds, rfl, _, h⟩ := h
    exact .tup fun e he => (h e he).sh
theorem Lv.tm : ∀ {m s : Nat} {d : PyData}, Lv m s d → Tm (m + 1) (s + 1) d
  | 0, s, d, h => fun ds e => by
    rcases h with ⟨i, rfl⟩ | rfl <;> cases e
  | m + 1, s, d, h => fun ds e => by
    obtain ⟨ds', rfl, hl, h⟩ := h
    cases e
    exact ⟨by omega, fun e he => (h e he).tm⟩
theorem cut_mid (xs : List PyData) (n : Nat) : (cutD xs (some (n : Int)) (some ((n : Int) + 1))).length ≤ 1 := by
  unfold cutD
  rw [show ((n : Int) + 1) = ((n + 1 : Nat) : Int) from rfl, HT.sIx_nat, HT.sIx_nat, List.length_take]
  omega
theorem cutD_mem {xs : List PyData} {l u : Option Int} {e : PyData} (h : e ∈ cutD xs l u) : e ∈ xs := List.mem_of_mem_drop (List.mem_of_mem_take h)
abbrev itemsL : List PyData := [.none, .int 0, .int 1, .int 5, .int (-1), .tuple [], .tuple [.int 0], .bool true, .str "1", .list [], .tuple [.none], .dict []]
theorem items_tm {m s : Nat} : ∀ x ∈ itemsL, Tm (m + 1) (s + 1) x := by
  intro x hx ds e
  subst e
  have : ds = [] ∨ ds = [.int 0] ∨ ds = [.none] := by
    simp only [itemsL, List.mem_cons, List.not_mem_nil, or_false, PyData.tuple.injEq, reduceCtorEq, false_or] at hx
    exact hx
  have nt : ∀ {m s : Nat} {d : PyData}, (∀ ds, d ≠ .tuple ds) → Tm m s d := fun {m s d} h => by
    cases m with
    | zero => exact h
    | succ m => exact fun ds e => absurd e (h ds)
  rcases this with rfl | rfl | rfl
  · exact ⟨Nat.zero_le _, fun e he => by cases he⟩
  · exact ⟨by rw [List.length_singleton]; omega, fun e he => by rw [List.mem_singleton] at he; subst he; exact nt fun ds h => by cases h⟩
  · exact ⟨by rw [List.length_singleton]; omega, fun e he => by rw [List.mem_singleton] at he; subst he; exact nt fun ds h => by cases h⟩
theorem tm_cat {m s : Nat} {as bs : List PyData} (h1 : as.length + bs.length ≤ s) (h2 : ∀ e ∈ as, Tm m s e) (h3 : ∀ e ∈ bs, Tm m s e) : Tm (m + 1) s (.tuple (as ++ bs)) := fun ds e => by
  cases e
  exact ⟨by rw [List.length_append]; exact h1, fun e he => (List.mem_append.mp he).elim (h2 e) (h3 e)⟩
theorem sp_bent : ∀ (m : Nat) {s f : Nat} {d : PyData} {K : PyData → Prop}, m < f → m ≤ 10 → s ≤ 1000 → Lv m s d → (∀ d', Tm (m + 1) (s + 1) d' → K d') → Rb__law_tr_bent f [d] K := by
  intro m
  induction m with
  | zero =>
    intro s f d K hf h10 hs hd k
    have it : R__law_tr_of [.list itemsL] K := sp_tr_of rfl (by decide) (by decide) fun x hx => k x (items_tm x hx)
    cases f with
    | zero => exact absurd hf (Nat.not_lt_zero _)
    | succ f =>
    refine ⟨rfl, ?_⟩
    rcases hd with ⟨i, rfl⟩ | rfl
    · exact ⟨false, rfl, ite1 rfl (ite1 rfl ⟨by decide, by decide, by decide, by decide, by decide, it⟩)⟩
    · exact ⟨false, rfl, ite1 rfl (ite1 rfl ⟨by decide, by decide, by decide, by decide, by decide, it⟩)⟩
  | succ m ih =>
    intro s f d K hf h10 hs hd k
    have it : R__law_tr_of [.list itemsL] K := sp_tr_of rfl (by decide) (by decide) fun x hx => k x (items_tm x hx)
    have hsh : SeqAt.shaped d = true := hd.sh.ok (by omega)
    cases f with
    | zero => exact absurd hf (Nat.not_lt_zero _)
    | succ f =>
    obtain ⟨ds, rfl, hl, hm⟩ := hd
    have tms : ∀ e ∈ ds, Tm (m + 1) (s + 1) e := fun e he => (hm e he).tm
    refine ⟨rfl, true, rfl, ite0 rfl ⟨by decide, hsh, (Sh.unit 0).ok, _, rfl, ?_⟩⟩
    rw [eqv_unit]
    refine iteB (fun e => ite1 rfl ⟨by decide, by decide, by decide, by decide, by decide, it⟩) fun e => ?_
    have pos : 0 < ds.length := by
      cases ds with
      | nil => cases e
      | cons _ _ => rw [List.length_cons]; omega
    refine ⟨9, rfl, by decide, by decide, fun r _ _ => ⟨(Sh.int 0 _).ok, (Sh.int 0 _).ok, _, rfl, iteB (fun _ => ⟨by decide, by decide, by decide, by decide, by decide, it⟩) fun _ => ?_⟩⟩
    refine ⟨_, rfl, _, rfl, by omega, by omega, fun a h1 h2 => ⟨8, rfl, by decide, by decide, fun w _ _ => ?_⟩⟩
    obtain ⟨n, rfl⟩ : ∃ n : Nat, a = (n : Int) := ⟨a.toNat, by omega⟩
    have hn : n < ds.length := by omega
    have l1 : (cutD ds none (some (n : Int))).length = n := by rw [cutD_take ds n (by omega), List.length_take]; omega
    have l2 : (cutD ds (some (n : Int)) none).length = ds.length - n := by rw [cutD_drop, List.length_drop]
    have l3 : (cutD ds (some ((n : Int) + 1)) none).length = ds.length - (n + 1) := by rw [show ((n : Int) + 1) = ((n + 1 : Nat) : Int) from rfl, cutD_drop, List.length_drop]
    have l4 := cut_mid ds n
    refine ⟨(Sh.int 0 _).ok, (Sh.int 0 _).ok, _, rfl, iteB (fun _ => ?_) fun _ => ?_⟩
    · refine ⟨(n : Int), rfl, _, rfl, (n : Int) + 1, rfl, _, rfl, by rw [l1, l3]; omega, k _ (tm_cat (by rw [l1, l3]; omega) (fun e he => tms e (cutD_mem he)) fun e he => tms e (cutD_mem he))⟩
    refine ⟨(Sh.int 0 _).ok, (Sh.int 0 _).ok, _, rfl, iteB (fun _ => ?_) fun _ => ?_⟩
    · refine ⟨(n : Int), rfl, _, rfl, (n : Int), rfl, (n : Int) + 1, rfl, _, rfl, by rw [l1]; omega, (n : Int), rfl, _, rfl, by rw [List.length_append, l1, l2]; omega, k _ (tm_cat (by rw [List.length_append, l1, l2]; omega) (fun e he => (List.mem_append.mp he).elim (fun he => tms e (cutD_mem he)) fun he => tms e (cutD_mem he)) fun e he => tms e (cutD_mem he))⟩
    refine ⟨(Sh.int 0 _).ok, (Sh.int 0 _).ok, _, rfl, iteB (fun _ => ⟨_, rfl, k _ fun ds e => by cases e⟩) fun _ => ?_⟩
    refine ⟨(Sh.int 0 _).ok, (Sh.int 0 _).ok, _, rfl, iteB (fun _ => ⟨_, rfl, k _ fun ds e => ?_⟩) fun _ => ?_⟩
    · cases e
      exact ⟨by rw [List.length_reverse]; omega, fun e he => tms e (List.mem_reverse.mp he)⟩
    refine ⟨(n : Int), rfl, _, rfl, _, (n : Int), ds[n], rfl, rfl, by rw [atI_nat, List.getElem?_eq_getElem hn], ?_⟩
    refine ih (by omega) (by omega) hs (hm _ (List.getElem_mem hn)) fun d' hd' => ⟨(show 1 ≤ 100000 by decide), ?_⟩
    refine ⟨by rw [l1, List.length_singleton]; omega, (n : Int) + 1, rfl, _, rfl, by rw [List.length_append, l1, l3, List.length_singleton]; omega, k _ (tm_cat (by rw [List.length_append, l1, l3, List.length_singleton]; omega) (fun e he => (List.mem_append.mp he).elim (fun he => tms e (cutD_mem he)) fun he => ?_) fun e he => tms e (cutD_mem he))⟩
    rw [List.mem_singleton] at he
    subst he
    exact hd'
end Kb
set_option Elab.async false
set_option linter.all false
set_option maxRecDepth 100000
set_option maxHeartbeats 400000
/-! S28: a tree of bags made wider is one still. -/
namespace Kb
open PySem L2
theorem split_at {α : Type} {B : List α} {n : Nat} (h : n < B.length) : B = B.take n ++ B[n] :: B.drop (n + 1) := by
  rw [← List.drop_eq_getElem_cons h, List.take_append_drop]
theorem env_wd {A A' : List PyData} {x0 x1 x2 x4 x5 x6 : Option PyData} (h1 : A = A') : ([x0, x1, x2, some (.tuple A), x4, x5, x6] : Env) = [x0, x1, x2, some (.tuple A'), x4, x5, x6] := by
  subst h1
  rfl
theorem sp_wider {ls B : List (List Int)} {K : PyData → Prop} (hz : ls.length ≤ 12) (hL : ∀ m ∈ ls, Lt m) (hB : B.length ≤ 6) (hBL : ∀ m ∈ B, Lt m) (hn : B ≠ []) (hh : Hang B) (hc : coverB ls B = true)
    (k : ∀ C t, C.length ≤ 12 → (∀ m ∈ C, Lt m) → t.length = C.length → isTree C (treeD t) = true → coverB ls C = true → K (.tuple [lotsD C, treeD t])) : R__law_wider [lotsD ls, lotsD B] K := by
  have pos : 0 < B.length := by
    cases B with
    | nil => exact absurd rfl hn
    | cons _ _ => rw [List.length_cons]; omega
  have e0 : (B.map intsD).length = B.length := List.length_map ..
  obtain ⟨c1, c2⟩ := coverB_to hL hBL hc
  refine ⟨rfl, _, rfl, sp_tr_letters rfl (by omega) ?_⟩
  refine ⟨_, rfl, _, rfl, by rw [e0]; omega, by rw [e0]; omega, fun a h1 h2 => ?_⟩
  rw [e0] at h2
  obtain ⟨n, rfl⟩ : ∃ n : Nat, a = (n : Int) := ⟨a.toNat, by omega⟩
  have hnB : n < B.length := by omega
  have hat : atI (B.map intsD) (n : Int) = some (intsD B[n]) := by
    rw [lot_at hnB, List.getD_eq_getElem?_getD, List.getElem?_eq_getElem hnB]
    rfl
  have bL := hBL _ (List.getElem_mem hnB)
  have lsL := (lets_lt ls).len
  refine ⟨_, (n : Int), _, rfl, rfl, hat, sp_tr_some (by omega) fun b hb => ?_⟩
  have bl := hb.length_le
  have b6 := bL.len
  refine ⟨by rw [List.length_map, List.length_map]; omega, B[n] ++ b, by rw [List.map_append]; rfl, by rw [List.length_append]; omega, by rw [List.length_append]; omega, fun W uW mW => ⟨_, rfl, ?_⟩⟩
  have hW : Lt W := ⟨uW, fun c hc => by
    rcases List.mem_append.mp ((mW c).mp hc) with h | h
    · exact bL.six c h
    · exact (lets_lt ls).six c (hb.subset h)⟩
  have fin : ∀ X : List (List Int), X.length ≤ 1 → (∀ m ∈ X, m = B[n]) → (dRet (dIf (dBool (dCall R__law_tr_folds (dCons (dVar 3) dNil))) (dTup (dCons (dVar 3) (dCons (dCall R__law_tr_tree (dCons (dVar 3) dNil)) dNil))) (dTup (dCons (dVar 2) (dCons (dCall R__law_tr_tree (dCons (dVar 2) dNil)) dNil)))))
      { nx := fun _ => K .none, rt := K, rl := fun _ => False } [none, some (lotsD ls), some (lotsD B), some (.tuple ((((B.map intsD).take n ++ [intsD W]) ++ (B.map intsD).drop (n + 1)) ++ X.map intsD)), some (intsD (lets ls)), some (.int (n : Int)), some (intsD W)] := by
    intro X hX mX
    have eC : (((B.map intsD).take n ++ [intsD W]) ++ (B.map intsD).drop (n + 1)) ++ X.map intsD = (((B.take n ++ [W]) ++ B.drop (n + 1)) ++ X).map intsD := by
      rw [List.map_append, List.map_append, List.map_append, List.map_take, List.map_drop]
      rfl
    rw [env_wd eC]
    have lC : (((B.take n ++ [W]) ++ B.drop (n + 1)) ++ X).length ≤ 12 := by
      rw [List.length_append, List.length_append, List.length_append, List.length_take, List.length_drop, List.length_singleton]
      omega
    have mC : ∀ m, m ∈ (((B.take n ++ [W]) ++ B.drop (n + 1)) ++ X) → m ∈ B ∨ m = W := fun m hm => by
      rcases List.mem_append.mp hm with hm | hm
      · rcases List.mem_append.mp hm with hm | hm
        · rcases List.mem_append.mp hm with hm | hm
          · exact .inl (List.mem_of_mem_take hm)
          · exact .inr (List.mem_singleton.mp hm)
        · exact .inl (List.mem_of_mem_drop hm)
      · exact .inl (mX m hm ▸ List.getElem_mem hnB)
    have inC : ∀ b ∈ B, ∃ c ∈ (((B.take n ++ [W]) ++ B.drop (n + 1)) ++ X), ∀ x ∈ b, x ∈ c := fun x hx => by
      rw [split_at hnB] at hx
      rcases List.mem_append.mp hx with hx | hx
      · exact ⟨x, by simp [hx], fun c h => h⟩
      · rcases List.mem_cons.mp hx with rfl | hx
        · exact ⟨W, by simp, fun c h => (mW c).mpr (List.mem_append.mpr (.inl h))⟩
        · exact ⟨x, by simp [hx], fun c h => h⟩
    have nC : (((B.take n ++ [W]) ++ B.drop (n + 1)) ++ X) ≠ [] := by simp
    generalize (((B.take n ++ [W]) ++ B.drop (n + 1)) ++ X) = C at lC mC inC nC ⊢
    have hCL : ∀ m ∈ C, Lt m := fun m hm => (mC m hm).elim (hBL m) fun e => e ▸ hW
    have cC : coverB ls C = true := coverB_of hL hCL (fun m hm c hc => by
      rcases mC m hm with h | rfl
      · exact c1 m h c hc
      · rcases List.mem_append.mp ((mW c).mp hc) with h | h
        · exact c1 _ (List.getElem_mem hnB) c h
        · exact (mem_lets' hL).mp (hb.subset h)) fun m hm => by
      obtain ⟨b, hb, s⟩ := c2 m hm
      obtain ⟨c, hc, s2⟩ := inC b hb
      exact ⟨c, hc, fun x hx => s2 x (s x hx)⟩
    show R__law_tr_folds [lotsD C] fun d => _
    refine sp_tr_folds (by omega) hCL fun f hf => ⟨f, rfl, iteB (fun q => ?_) fun _ => ?_⟩
    · obtain ⟨l, fo, hl⟩ := hf q
      have hC : Hang C := fo.hang (hang_short hl)
      exact sp_tr_tree (by omega) hCL (fun e => absurd e nC) fun t tk g e => ⟨(show 2 ≤ 100000 by decide), k C t lC hCL g.flen (g.isT hCL (hC.jo nC) e) cC⟩
    · exact sp_tr_tree (by omega) hBL (fun e => absurd e hn) fun t tk g e => ⟨(show 2 ≤ 100000 by decide), k B t (by omega) hBL g.flen (g.isT hBL (hh.jo hn) e) hc⟩
  have ct : cutD (B.map intsD) none (some (n : Int)) = (B.map intsD).take n := cutD_take _ n (by rw [e0]; omega)
  have cd : cutD (B.map intsD) (some ((n : Int) + 1)) none = (B.map intsD).drop (n + 1) := by rw [show ((n : Int) + 1) = ((n + 1 : Nat) : Int) from rfl, cutD_drop]
  refine ⟨(n : Int), rfl, _, rfl, (show 1 ≤ 100000 by decide), ?_⟩
  rw [ct]
  refine ⟨by rw [List.length_take, e0, List.length_singleton]; omega, (n : Int) + 1, rfl, _, rfl, ?_⟩
  rw [cd]
  refine ⟨by rw [List.length_append, List.length_take, List.length_drop, e0, List.length_singleton]; omega, _, rfl, _, rfl, iteB (fun _ => ?_) fun _ => ?_⟩
  · refine ⟨_, (n : Int), _, rfl, rfl, hat, (show 1 ≤ 100000 by decide), by rw [List.length_append, List.length_append, List.length_take, List.length_drop, e0, List.length_singleton, List.length_singleton]; omega, _, rfl, ?_⟩
    exact fin [B[n]] (by rw [List.length_singleton]; exact Nat.le_refl _) fun m hm => List.mem_singleton.mp hm
  · refine ⟨by decide, by rw [List.length_append, List.length_append, List.length_take, List.length_drop, e0, List.length_singleton, List.length_nil]; omega, _, rfl, ?_⟩
    exact fin [] (by decide) fun m hm => by cases hm
end Kb
set_option Elab.async false
set_option linter.all false
set_option maxRecDepth 100000
set_option maxHeartbeats 400000
/-! S29: all that is drawn is right. -/
namespace Kb
open PySem L2
/-- values that can be looked at -/
def Nok (v : PyData) : Prop := ∀ a b, v = .tuple [a, b] → (Sm2 a ∧ Sm b) ∧ SmB a
theorem nok_pair {a b : PyData} (h1 : Sm2 a) (h2 : Sm b) (h3 : SmB a) : Nok (.tuple [a, b]) := fun a' b' e => by
  cases e
  exact ⟨⟨h1, h2⟩, h3⟩
theorem tm_sm2 {a : PyData} (h : Tm 3 13 a) : Sm2 a := by
  refine ⟨?_, fun ds e d hd => ?_⟩
  · cases a with
    | tuple ds =>
      show ds.length ≤ 1000
      have := (h ds rfl).1
      omega
    | _ => trivial
  · have h2 := (h ds e).2 d hd
    cases d with
    | tuple es =>
      show es.length ≤ 1000
      have := (h2 es rfl).1
      omega
    | _ => trivial
theorem tm_smb {a : PyData} (h : Tm 3 13 a) : SmB a := fun ds e d hd es ee => by
  have := ((h ds e).2 d hd es ee).1
  omega
theorem tm_sm {a : PyData} {m : Nat} (h : Tm (m + 1) 13 a) : Sm a := by
  cases a with
  | tuple ds =>
    show ds.length ≤ 1000
    have := (h ds rfl).1
    omega
  | _ => trivial
theorem lv_lots {B : List (List Int)} (h : B.length ≤ 12) (hL : ∀ m ∈ B, Lt m) : Lv 2 12 (lotsD B) := by
  refine ⟨_, rfl, by rw [List.length_map]; exact h, fun d hd => ?_⟩
  obtain ⟨m, hm, rfl⟩ := List.mem_map.mp hd
  refine ⟨_, rfl, by rw [List.length_map]; have := (hL m hm).len; omega, fun e he => ?_⟩
  obtain ⟨c, _, rfl⟩ := List.mem_map.mp he
  exact .inl ⟨c, rfl⟩
theorem lv_tree {t : List (Option Nat)} (h : t.length ≤ 12) : Lv 1 12 (treeD t) := by
  refine ⟨_, rfl, by rw [List.length_map]; exact h, fun d hd => ?_⟩
  obtain ⟨o, _, rfl⟩ := List.mem_map.mp hd
  cases o with
  | none => exact .inr rfl
  | some i => exact .inl ⟨_, rfl⟩
theorem tm_up {s : Nat} {d : PyData} (h : Tm 2 s d) : Tm 3 s d := fun ds e => by
  obtain ⟨h1, h2⟩ := h ds e
  refine ⟨h1, fun x hx es ee => ?_⟩
  obtain ⟨h3, h4⟩ := h2 x hx es ee
  exact ⟨h3, fun y hy zs ez => absurd ez (h4 y hy zs)⟩
theorem isBags_ok {ls B : List (List Int)} {t : List (Option Nat)} (hB : B.length ≤ 12) (hBL : ∀ m ∈ B, Lt m) (ht : isTree B (treeD t) = true) (hc : coverB ls B = true) : isBags ls (.tuple [lotsD B, treeD t]) = true := by
  show (isWeb (lotsD B) && (isTree (lotsOf (lotsD B)) (treeD t) && coverB ls (lotsOf (lotsD B)))) = true
  rw [isWeb_iff.mpr ⟨B, rfl, hB, hBL⟩, lotsOf_lots, ht, hc]
  rfl
theorem nok_bt {a : PyData} {t : List (Option Nat)} (ha : Tm 3 13 a) (ht : t.length ≤ 12) : Nok (.tuple [a, treeD t]) := nok_pair (tm_sm2 ha) (sm_tree (by omega)) (tm_smb ha)
/-- each value near is judged alike -/
theorem judge {ls : List (List Int)} (hz : ls.length ≤ 12) (hL : ∀ m ∈ ls, Lt m) (D : DEn) (ds : List PyData) (h : ∀ v ∈ ds, Nok v) {x2 x3 x4 x5 x6 x7 x8 x9 x10 x11 : Option PyData} (k : ∀ x10, D.nx [none, some (lotsD ls), x2, x3, x4, x5, x6, x7, none, x9, x10, x11]) :
    oGo 8 (pName 10) (dIfS (dBool (dNe (dCall R_is_bags (dCons (dVar 1) (dCons (dVar 10) dNil))) (dCall R__law_tr_is_bags (dCons (dVar 1) (dCons (dVar 10) dNil))))) (dRet (dC (.bool false))) dSkip) D ds [none, some (lotsD ls), x2, x3, x4, x5, x6, x7, x8, x9, x10, x11] := by
  refine for_inv (fun r ρ => (∀ v ∈ r, Nok v) ∧ ∃ x10, ρ = [none, some (lotsD ls), x2, x3, x4, x5, x6, x7, x8, x9, x10, x11]) (fun d r ρ hI X hX => ?_) ⟨h, x10, rfl⟩ fun ρ hI => ?_
  · obtain ⟨hr, x10, rfl⟩ := hI
    have hd := hr d List.mem_cons_self
    refine sp_is_bags hz hL (fun a b e => (hd a b e).1) ?_
    refine sp_tr_is_bags hz hL (fun a b e => (hd a b e).2) ⟨(Sh.bool 0 _).ok, (Sh.bool 0 _).ok, _, rfl, ite0 ?_ (hX _ ⟨fun v hv => hr v (List.mem_cons_of_mem _ hv), _, rfl⟩)⟩
    show (!(isBags ls d == isBags ls d)) = false
    rw [beq_self_eq_true]
    rfl
  · obtain ⟨_, x10, rfl⟩ := hI
    exact k x10
theorem env_n8 {A A' : List PyData} {x1 x2 x3 x4 x5 x6 x7 x9 x10 x11 : Option PyData} (h1 : A = A') : ([none, x1, x2, x3, x4, x5, x6, x7, some (.list A), x9, x10, x11] : Env) = [none, x1, x2, x3, x4, x5, x6, x7, some (.list A'), x9, x10, x11] := by
  subst h1
  rfl
/-- six values more that are near -/
theorem more_near {B : List (List Int)} {t : List (Option Nat)} (hB : B.length ≤ 12) (hBL : ∀ m ∈ B, Lt m) (ht : t.length ≤ 12) (D : DEn) {x1 x2 x3 x4 x7 x9 x10 x11 : Option PyData} {near : List PyData} (hn : near.length ≤ 20) (hN : ∀ v ∈ near, Nok v)
    (k : ∀ near x9, (∀ v ∈ near, Nok v) → D.nx [none, x1, x2, x3, x4, some (lotsD B), some (treeD t), x7, some (.list near), x9, x10, x11]) :
    fGo (pName 9) (dApp 8 (dIf (dBool (dLt (dVar 9) (dC (.int 3)))) (dTup (dCons (dCall R__law_tr_bent (dCons (dVar 5) dNil)) (dCons (dVar 6) dNil))) (dTup (dCons (dVar 5) (dCons (dCall R__law_tr_bent (dCons (dVar 6) dNil)) dNil))))) D ((List.range 6).map natD) [none, x1, x2, x3, x4, some (lotsD B), some (treeD t), x7, some (.list near), x9, x10, x11] := by
  refine for_inv (fun r ρ => (∀ d ∈ r, ∃ c : Nat, d = natD c) ∧ ∃ near x9, near.length + r.length ≤ 26 ∧ (∀ v ∈ near, Nok v) ∧ ρ = [none, x1, x2, x3, x4, some (lotsD B), some (treeD t), x7, some (.list near), x9, x10, x11]) (fun d r ρ hI X hX => ?_) ⟨fun d hd => ?_, near, x9, by rw [List.length_map, List.length_range]; omega, hN, rfl⟩ fun ρ hI => ?_
  · obtain ⟨hr, near, x9, hn, hN, rfl⟩ := hI
    obtain ⟨c, rfl⟩ := hr d List.mem_cons_self
    have hr : ∀ d ∈ r, ∃ c : Nat, d = natD c := fun d hd => hr d (List.mem_cons_of_mem _ hd)
    rw [List.length_cons] at hn
    have put : ∀ v, Nok v → X [none, x1, x2, x3, x4, some (lotsD B), some (treeD t), x7, some (.list (near ++ [v])), some (natD c), x10, x11] := fun v hv => hX _ ⟨hr, near ++ [v], _, by rw [List.length_append, List.length_singleton]; omega, fun u hu => (List.mem_append.mp hu).elim (hN u) fun z => by rw [List.mem_singleton] at z; subst z; exact hv, rfl⟩
    refine ⟨_, rfl, iteB (fun _ => ?_) fun _ => ?_⟩
    · exact sp_bent 2 (by decide) (by decide) (by decide) (lv_lots hB hBL) fun a ha => ⟨(show 2 ≤ 100000 by decide), by omega, put _ (nok_bt ha ht)⟩
    · exact sp_bent 1 (by decide) (by decide) (by decide) (lv_tree ht) fun b hb => ⟨(show 2 ≤ 100000 by decide), by omega, put _ (nok_pair (tm_sm2 (lv_lots hB hBL).tm) (tm_sm hb) (tm_smb (lv_lots hB hBL).tm))⟩
  · obtain ⟨i, _, rfl⟩ := List.mem_map.mp hd
    exact ⟨i, rfl⟩
  · obtain ⟨_, near, x9, _, hN, rfl⟩ := hI
    exact k near x9 hN
theorem at_last (ds : List PyData) (d : PyData) : atI (ds ++ [d]) (-1) = some d := by
  unfold atI ixN
  rw [if_neg (by decide), if_pos (by rw [List.length_append, List.length_singleton]; omega)]
  show (ds ++ [d])[((-1 : Int) + (ds ++ [d]).length).toNat]? = some d
  rw [List.length_append, List.length_singleton, show ((-1 : Int) + ((ds.length + 1 : Nat) : Int)).toNat = ds.length by omega]
  simp
end Kb
set_option Elab.async false
set_option linter.all false
set_option maxRecDepth 100000
set_option maxHeartbeats 400000
/-! S30: a round of what is drawn, in parts. -/
namespace Kb
open PySem L2
structure RndH (ls B : List (List Int)) (t : List (Option Nat)) : Prop where
  hz : ls.length ≤ 12
  hL : ∀ m ∈ ls, Lt m
  hB : B.length ≤ 6
  hBL : ∀ m ∈ B, Lt m
  tl : t.length = B.length
  hh : Hang B
  hc : coverB ls B = true
  ht : isTree B (treeD t) = true
theorem part3 {ls B : List (List Int)} {t : List (Option Nat)} (h : RndH ls B t) (D : DEn) {x2 x3 x4 x7 x9 x10 x11 : Option PyData} {near : List PyData} (hn : near.length ≤ 20) (hN : ∀ v ∈ near, Nok v) (k : ∀ x9 x10, D.nx [none, some (lotsD ls), x2, x3, x4, some (lotsD B), some (treeD t), x7, none, x9, x10, x11]) :
    (dSeq (dFor (dRg (dC (.int 6))) (pName 9) (dApp 8 (dIf (dBool (dLt (dVar 9) (dC (.int 3)))) (dTup (dCons (dCall R__law_tr_bent (dCons (dVar 5) dNil)) (dCons (dVar 6) dNil))) (dTup (dCons (dVar 5) (dCons (dCall R__law_tr_bent (dCons (dVar 6) dNil)) dNil)))))) (dForO 8 (pName 10) (dIfS (dBool (dNe (dCall R_is_bags (dCons (dVar 1) (dCons (dVar 10) dNil))) (dCall R__law_tr_is_bags (dCons (dVar 1) (dCons (dVar 10) dNil))))) (dRet (dC (.bool false))) dSkip))) D [none, some (lotsD ls), x2, x3, x4, some (lotsD B), some (treeD t), x7, some (.list near), x9, x10, x11] := by
  have sju := @judge
  have smo := @more_near
  generalize R_is_bags = Rib at sju ⊢
  generalize R__law_tr_bent = Rbe at smo ⊢
  generalize R__law_tr_is_bags = Rtib at sju ⊢
  have tl := h.tl
  have hB := h.hB
  refine ⟨6, rfl, by decide, by decide, ?_⟩
  refine smo (by omega) h.hBL (by omega) _ hn hN fun near2 x9 hN2 => ?_
  exact sju h.hz h.hL _ near2 hN2 fun x10 => k x9 x10
theorem part2 {ls B : List (List Int)} {t : List (Option Nat)} (h : RndH ls B t) (D : DEn) {x2 x3 x4 x7 x8 x9 x10 x11 : Option PyData} (k : ∀ x9 x10, D.nx [none, some (lotsD ls), x2, x3, x4, some (lotsD B), some (treeD t), x7, none, x9, x10, x11]) :
    (dSeq (dSet 8 (dLst (dDis (dCons (dTup (dCons (dVar 5) (dCons (dVar 6) dNil))) (dCons (dTup (dCons (dVar 6) (dCons (dVar 5) dNil))) (dCons (dTup (dCons (dVar 5) dNil)) (dCons (dLst (dDis (dCons (dVar 5) (dCons (dVar 6) dNil)))) (dCons (dTup (dCons (dVar 5) (dCons (dVar 6) (dCons (dC (.int 0)) dNil)))) (dCons (dC .none) (dCons (dTup dNil) (dCons (dTup (dCons (dVar 5) (dCons (dC .none) dNil))) dNil))))))))))) (dSeq (dSet 8 (dLst (dCatL (dOwn 8) (dLst (dDis (dCons (dTup (dCons (dCutT (dVar 5) dNo (dAt (dNeg (dC (.int 1))))) (dCons (dVar 6) dNil))) (dCons (dTup (dCons (dRevT (dVar 5)) (dCons (dVar 6) dNil))) dNil))))))) (dSeq (dIfS (dBool (dNe (dVar 5) (dTup dNil))) (dSeq (dApp 8 (dCall R__law_wider (dCons (dVar 1) (dCons (dVar 5) dNil)))) (dIfS (dNot (dBool (dCall R_is_bags (dCons (dVar 1) (dCons (dIx (dOwn 8) (dNeg (dC (.int 1)))) dNil))))) (dRet (dC (.bool false))) dSkip)) dSkip) (dSeq (dFor (dRg (dC (.int 6))) (pName 9) (dApp 8 (dIf (dBool (dLt (dVar 9) (dC (.int 3)))) (dTup (dCons (dCall R__law_tr_bent (dCons (dVar 5) dNil)) (dCons (dVar 6) dNil))) (dTup (dCons (dVar 5) (dCons (dCall R__law_tr_bent (dCons (dVar 6) dNil)) dNil)))))) (dForO 8 (pName 10) (dIfS (dBool (dNe (dCall R_is_bags (dCons (dVar 1) (dCons (dVar 10) dNil))) (dCall R__law_tr_is_bags (dCons (dVar 1) (dCons (dVar 10) dNil))))) (dRet (dC (.bool false))) dSkip)))))) D [none, some (lotsD ls), x2, x3, x4, some (lotsD B), some (treeD t), x7, x8, x9, x10, x11] := by
  have sib := @sp_is_bags
  have swi := @sp_wider
  have spt := @part3
  generalize R_is_bags = Rib at sib spt ⊢
  generalize R__law_wider = Rwi at swi ⊢
  generalize R__law_tr_bent = Rbe at spt ⊢
  generalize R__law_tr_is_bags = Rtib at spt ⊢
  have tl := h.tl
  have hB := h.hB
  have hBL := h.hBL
  have smB : Sm2 (lotsD B) := sm_lots (by omega) hBL
  have smT : Sm (treeD t) := sm_tree (by omega)
  have nokB : SmB (lotsD B) := tm_smb (lv_lots (by omega) hBL).tm
  have smT2 : Sm2 (treeD t) := tm_sm2 (tm_up (lv_tree (by omega)).tm)
  have nokT : SmB (treeD t) := tm_smb (tm_up (lv_tree (by omega)).tm)
  have sB : SeqAt.shaped (lotsD B) = true := (Sh.tup (.lots 0 B)).ok (n := 2)
  refine ⟨(show 2 ≤ 100000 by decide), (show 2 ≤ 100000 by decide), (show 1 ≤ 100000 by decide), (show 2 ≤ 100000 by decide), (show 3 ≤ 100000 by decide), (show 0 ≤ 100000 by decide), (show 2 ≤ 100000 by decide), (show 8 ≤ 100000 by decide), ?_⟩
  obtain ⟨ys, ey, sy⟩ := cutD_sub intsD B none (some (-1))
  refine ⟨-1, rfl, _, rfl, (show 2 ≤ 100000 by decide), _, rfl, (show 2 ≤ 100000 by decide), (show 2 ≤ 100000 by decide), (show 10 ≤ 100000 by decide), ?_⟩
  rw [ey, ← List.map_reverse]
  have n1 : Nok (.tuple [lotsD ys, treeD t]) := nok_bt (lv_lots (by have := sy.length_le; omega) fun m hm => hBL m (sy.subset hm)).tm (by omega)
  have n2 : Nok (.tuple [lotsD B.reverse, treeD t]) := nok_bt (lv_lots (by rw [List.length_reverse]; omega) fun m hm => hBL m (List.mem_reverse.mp hm)).tm (by omega)
  have hN : ∀ v ∈ ([.tuple [lotsD B, treeD t], .tuple [treeD t, lotsD B], .tuple [lotsD B], .list [lotsD B, treeD t], .tuple [lotsD B, treeD t, .int 0], .none, .tuple [], .tuple [lotsD B, .none]] ++ [.tuple [lotsD ys, treeD t], .tuple [lotsD B.reverse, treeD t]] : List PyData), Nok v := by
    intro v hv
    rcases List.mem_append.mp hv with hv | hv
    · simp only [List.mem_cons, List.not_mem_nil, or_false] at hv
      rcases hv with rfl | rfl | rfl | rfl | rfl | rfl | rfl | rfl
      · exact nok_pair smB smT nokB
      · exact nok_pair smT2 smB.1 nokT
      · exact fun a b e => by cases e
      · exact fun a b e => by cases e
      · exact fun a b e => by cases e
      · exact fun a b e => by cases e
      · exact fun a b e => by cases e
      · exact nok_pair smB trivial nokB
    · simp only [List.mem_cons, List.not_mem_nil, or_false] at hv
      rcases hv with rfl | rfl
      · exact n1
      · exact n2
  refine ⟨by decide, sB, (Sh.unit 0).ok, _, rfl, ?_⟩
  rw [eqv_unit, List.isEmpty_map]
  refine iteB (fun q => ?_) fun _ => spt h _ (show 10 ≤ 20 by decide) hN k
  have hne : B ≠ [] := fun e => by rw [e] at q; cases q
  refine swi h.hz h.hL hB hBL hne h.hh h.hc fun C t2 lC hCL tl2 ht2 cC => ?_
  refine ⟨(show 10 < 100000 by decide), _, -1, _, rfl, rfl, at_last _ _, ?_⟩
  have nC : Nok (.tuple [lotsD C, treeD t2]) := nok_bt (lv_lots lC hCL).tm (by omega)
  refine sib h.hz h.hL (fun a b e => (nC a b e).1) ?_
  rw [isBags_ok lC hCL ht2 cC]
  refine ⟨true, rfl, ite0 rfl ?_⟩
  exact spt h _ (show 11 ≤ 20 by decide) (fun v hv => (List.mem_append.mp hv).elim (hN v) fun z => by rw [List.mem_singleton] at z; subst z; exact nC) k
theorem look {ls B : List (List Int)} {t : List (Option Nat)} (h : RndH ls B t) {x2 x3 x4 x7 x8 x9 x10 x11 : Option PyData} {P Q : Prop} (k : Q) :
    (dOr (dNot (dBool (dCall R_is_tree (dCons (dVar 5) (dCons (dVar 6) dNil))))) (dNot (dBool (dCall R_is_bags (dCons (dVar 1) (dCons (dTup (dCons (dVar 5) (dCons (dVar 6) dNil))) dNil)))))) [none, some (lotsD ls), x2, x3, x4, some (lotsD B), some (treeD t), x7, x8, x9, x10, x11] fun b => if b = true then P else Q := by
  have sit := @sp_is_tree
  have sib := @sp_is_bags
  generalize R_is_tree = Rit at sit ⊢
  generalize R_is_bags = Rib at sib ⊢
  have tl := h.tl
  have hB := h.hB
  have smB : Sm2 (lotsD B) := sm_lots (by omega) h.hBL
  have smT : Sm (treeD t) := sm_tree (by omega)
  refine sit (by omega) h.hBL smT ?_
  rw [h.ht]
  refine ⟨true, rfl, ite0 rfl ⟨(show 2 ≤ 100000 by decide), ?_⟩⟩
  refine sib h.hz h.hL (fun a b e => by cases e; exact ⟨smB, smT⟩) ?_
  rw [isBags_ok (by omega) h.hBL h.ht h.hc]
  exact ⟨true, rfl, ite0 rfl k⟩
theorem Sh.str (n : Nat) (s : Str) (h : PyData.strOk s = true := by decide +kernel) : Sh n (.str s) := ⟨by rw [PyData.canLay0]; exact h, by rw [PyData.depth]; exact Nat.zero_le _⟩
theorem eqv_str (a b : Str) : PyData.eqv (.str a) (.str b) = (a == b) := by unfold PyData.eqv; rfl
theorem last {ls : List (List Int)} (hz : ls.length ≤ 12) (hL : ∀ m ∈ ls, Lt m) {x2 x3 x4 x5 x6 x7 x8 x9 x10 x11 : Option PyData} (D : DEn) (k : D.rt (.bool true)) :
    (dSeq (dSet 11 (dCall R_fold_answer (dCons (dVar 1) dNil))) (dRet (dOrV (dNe (dIx (dVar 11) (dC (.int 0))) (dC (.str "folds"))) (dCall R_is_bags (dCons (dVar 1) (dCons (dTup (dCons (dVar 1) (dCons (dIx (dVar 11) (dC (.int 1))) dNil))) dNil)))))) D [none, some (lotsD ls), x2, x3, x4, x5, x6, x7, x8, x9, x10, x11] := by
  have sfo := @sp_fold_answer
  have sib := @sp_is_bags
  generalize R_fold_answer = Rfo at sfo ⊢
  generalize R_is_bags = Rib at sib ⊢
  refine sfo hz hL chk_all (fun t tl ht => ?_) fun x => ?_
  · refine ⟨_, 0, _, rfl, rfl, rfl, (Sh.str 0 _).ok, (Sh.str 0 _).ok, _, rfl, ?_⟩
    rw [eqv_str, beq_self_eq_true]
    refine ite0 rfl ⟨_, 1, _, rfl, rfl, rfl, (show 2 ≤ 100000 by decide), ?_⟩
    refine sib hz hL (fun a b e => ?_) ?_
    · cases e
      exact ⟨sm_lots hz hL, sm_tree (by omega)⟩
    · rw [isBags_ok hz hL ht (coverB_of hL hL (fun b hb c hc => ⟨b, hb, hc⟩) fun m hm => ⟨m, hm, fun c hc => hc⟩)]
      exact k
  · refine ⟨_, 0, _, rfl, rfl, rfl, (Sh.str 0 _).ok, (Sh.str 0 _).ok, _, rfl, ?_⟩
    rw [eqv_str, show (Str.ofString "stuck" == Str.ofString "folds") = false by decide +kernel]
    exact ite1 rfl k
end Kb
set_option Elab.async false
set_option linter.all false
set_option maxRecDepth 100000
set_option maxHeartbeats 400000
/-! S31: all that is drawn is right. -/
namespace Kb
open PySem L2
theorem k_skip {g : DS} {D0 : DEn} {rt : PyData → Prop} {rl : List PyData → Prop} {bk ct : Env → Prop} {ρ : Env} (h : g D0 ρ) : dSkip { nx := g D0, rt := rt, rl := rl, bk := bk, ct := ct } ρ := h
theorem right_holds : R__law_right [] fun d => d = .bool true := by
  refine ⟨rfl, ?_⟩
  unfold g__law_right
  have sweb := @sp_tr_web
  have slet := @sp_tr_letters
  have smix := @sp_tr_mixed
  have sbo := @sp_bags_of
  have stb := @sp_tr_bags
  have sp2 := @part2
  have slo := @look
  have sla := @last
  generalize R__law_tr_web = Rweb at sweb ⊢
  generalize R__law_tr_letters = Rlet at slet ⊢
  generalize R__law_tr_mixed = Rmix at smix ⊢
  generalize R_bags_of = Rbo at sbo ⊢
  generalize R__law_tr_bags = Rtb at stb ⊢
  generalize R_is_tree = Rit at slo ⊢
  generalize R_is_bags = Rib at sp2 slo sla ⊢
  generalize R__law_wider = Rwi at sp2 ⊢
  generalize R__law_tr_bent = Rbe at sp2 ⊢
  generalize R__law_tr_is_bags = Rtib at sp2 ⊢
  generalize R_fold_answer = Rfo at sla ⊢
  refine sweb fun ls hl hL => ?_
  have hz : ls.length ≤ 12 := by omega
  refine slet (ls := ls) rfl (by omega) ?_
  have lsL := (lets_lt ls).len
  refine ⟨2, rfl, by decide, by decide, ?_⟩
  refine for_inv (fun r ρ => ∃ x3 x4 x5 x6 x7 x8 x9 x10 x11 : Option PyData, ρ = [none, some (lotsD ls), some (intsD (lets ls)), x3, x4, x5, x6, x7, x8, x9, x10, x11]) (fun d r ρ hI X hX => ?_) ⟨_, _, _, _, _, _, _, _, _, rfl⟩ fun ρ hI => ?_
  · obtain ⟨x3, x4, x5, x6, x7, x8, x9, x10, x11, rfl⟩ := hI
    refine smix (d := intsD (lets ls)) rfl (by rw [List.length_map]; omega) fun es p => ?_
    obtain ⟨o, rfl, hp⟩ := perm_map (enc := PyData.int) (dec := intOf) (fun _ => rfl) p
    refine sbo hz hL hp fun B t hB tl ht => ⟨_, _, rfl, ?_⟩
    have h : RndH ls B t := ⟨hz, hL, hB.len, hB.lt, tl, hB.hang, hB.cov, ht⟩
    have sB : SeqAt.shaped (lotsD B) = true := (Sh.tup (.lots 0 B)).ok (n := 2)
    refine stb hz hL hp fun cut hcut srt => ?_
    have sC : SeqAt.shaped (lotsD cut) = true := (Sh.tup (.lots 0 cut)).ok (n := 2)
    refine ⟨by decide, (Sh.intsD 0 _).ok, (Sh.unit 0).ok, _, rfl, ?_⟩
    rw [eqv_unit]
    refine iteB (fun q => ?_) fun _ => ite0 rfl (slo h (k_skip (sp2 h _ fun x9 x10 => hX _ ⟨_, _, _, _, _, _, _, _, _, rfl⟩)))
    have hne : lets ls ≠ [] := fun e => by rw [e] at q; cases q
    obtain ⟨c1, c2⟩ := hB.cut hne
    have ec : B = cut := srt_same c2 srt ((List.perm_ext_iff_of_nodup c1.nd hcut.nd).mpr fun m => by rw [c1.mem, hcut.mem])
    refine ⟨sB, sC, _, rfl, ite0 ?_ (slo h (k_skip (sp2 h _ fun x9 x10 => hX _ ⟨_, _, _, _, _, _, _, _, _, rfl⟩)))⟩
    subst ec
    unfold PyData.eqv
    rw [eqv_lots, beq_self_eq_true]
    rfl
  · obtain ⟨x3, x4, x5, x6, x7, x8, x9, x10, x11, rfl⟩ := hI
    exact sla hz hL _ rfl
end Kb
set_option Elab.async false
set_option linter.all false
set_option maxRecDepth 100000
set_option maxHeartbeats 400000
/-! S32: the wheel. -/
namespace Kb
open PySem L2
abbrev wheel : List (List Int) := [[0, 1], [1, 2], [2, 3], [0, 3]]
def ltB (m : List Int) : Bool := decide (Up m) && m.all fun c => decide (0 ≤ c) && decide (c < 6)
theorem lt_of {m : List Int} (h : ltB m = true) : Lt m := by
  unfold ltB at h
  rw [Bool.and_eq_true, decide_eq_true_eq, List.all_eq_true] at h
  refine ⟨h.1, fun c hc => ?_⟩
  have := h.2 c hc
  rw [Bool.and_eq_true, decide_eq_true_eq, decide_eq_true_eq] at this
  exact this
theorem lts_of {ls : List (List Int)} (h : ls.all ltB = true) : ∀ m ∈ ls, Lt m := fun m hm => lt_of (List.all_eq_true.mp h m hm)
def cutF (ts : List (List Int)) : List (List Int) := (dedL ts).filter fun t => !ts.any fun o => t != o && t.all fun c => o.contains c
theorem cutF_perm {ts cut : List (List Int)} (h : CutP ts cut) : cut.Perm (cutF ts) := by
  refine (List.perm_ext_iff_of_nodup h.nd ((nodup_dedL ts).filter _)).mpr fun t => ?_
  rw [h.mem, List.mem_filter, mem_dedL, Bool.not_eq_true', List.any_eq_false]
  refine and_congr_right fun _ => ⟨fun h t' ht' q => ?_, fun h t' ht' n s => ?_⟩
  · rw [Bool.and_eq_true, bne_iff_ne] at q
    exact h t' ht' q.1 (within_iff.mp q.2)
  · refine h t' ht' ?_
    rw [Bool.and_eq_true, bne_iff_ne]
    exact ⟨n, within_iff.mpr s⟩
theorem tail_bags {o : List Int} {E : List (List Int)} {K : PyData → Prop} (hp : o.Perm (lets wheel)) (e : cutF (elim (noE wheel) o) = E) (srt : Srt E) (k : ∀ t, K (.tuple [lotsD E, treeD t])) : R_bags_of [lotsD wheel, intsD o] K := by
  refine sp_bags_of (by decide) (lts_of (by decide)) hp fun B t hB tl ht => ?_
  obtain ⟨c1, c2⟩ := hB.cut (by decide)
  have : B = E := srt_same c2 srt (e ▸ cutF_perm c1)
  subst this
  exact k t
theorem tail_call {ls bs : List (List Int)} {t : List (Option Nat)} {v : Bool} {K : PyData → Prop} (hz : ls.length ≤ 12) (hL : ls.all ltB = true) (hb : bs.length ≤ 12) (hB : bs.all ltB = true) (ht : t.length ≤ 1000) (e : isBags ls (.tuple [lotsD bs, treeD t]) = v) (k : K (.bool v)) : R_is_bags [lotsD ls, .tuple [lotsD bs, treeD t]] K := by
  refine sp_is_bags hz (lts_of hL) (fun a b e => ?_) (by rw [e]; exact k)
  cases e
  exact ⟨sm_lots hb (lts_of hB), sm_tree ht⟩
theorem eqv_lotsD (a b : List (List Int)) : PyData.eqv (lotsD a) (lotsD b) = (a == b) := by
  unfold PyData.eqv
  exact eqv_lots a b
theorem eqv_two_lots (a b c d : List (List Int)) : PyData.eqv (.list [lotsD a, lotsD b]) (.list [lotsD c, lotsD d]) = (a == c && (b == d && true)) := by
  unfold PyData.eqv
  rw [PyData.eqvAll, PyData.eqvAll, eqv_lotsD, eqv_lotsD]
  rfl
theorem sh_two (a b : List (List Int)) : SeqAt.shaped (.list [lotsD a, lotsD b]) = true := by
  refine (Sh.lst (n := 2) fun d hd => ?_).ok
  simp only [List.mem_cons, List.not_mem_nil, or_false] at hd
  rcases hd with rfl | rfl
  · exact .tup (.lots 0 a)
  · exact .tup (.lots 0 b)
theorem tail_holds : g_tail { nx := fun _ => False, rt := fun d => d = .bool true, rl := fun _ => False } [none, none, none, none, none, none] := by
  unfold g_tail
  have sbo := @tail_bags
  have sib := @tail_call
  generalize R_bags_of = Rbo at sbo ⊢
  generalize R_is_bags = Rib at sib ⊢
  refine ⟨(show 2 ≤ 100000 by decide), (show 2 ≤ 100000 by decide), (show 2 ≤ 100000 by decide), (show 2 ≤ 100000 by decide), (show 4 ≤ 100000 by decide), ?_⟩
  refine ⟨(show 4 ≤ 100000 by decide), ?_⟩
  refine sbo (o := [0, 1, 2, 3]) (E := [[0, 1, 3], [1, 2, 3]]) (by decide) (by decide) (by decide) fun t => ⟨_, 0, _, rfl, rfl, rfl, (show 4 ≤ 100000 by decide), ?_⟩
  refine sbo (o := [1, 0, 2, 3]) (E := [[0, 1, 2], [0, 2, 3]]) (by decide) (by decide) (by decide) fun t2 => ⟨_, 0, _, rfl, rfl, rfl, (show 2 ≤ 100000 by decide), ?_⟩
  refine ⟨(show 3 ≤ 100000 by decide), (show 3 ≤ 100000 by decide), (show 2 ≤ 100000 by decide), (show 3 ≤ 100000 by decide), (show 3 ≤ 100000 by decide), (show 2 ≤ 100000 by decide), (show 2 ≤ 100000 by decide), sh_two [[0, 1, 3], [1, 2, 3]] [[0, 1, 2], [0, 2, 3]], sh_two [[0, 1, 3], [1, 2, 3]] [[0, 1, 2], [0, 2, 3]], _, rfl, ite0 ?_ ?_⟩
  · show (!PyData.eqv (.list [lotsD [[0, 1, 3], [1, 2, 3]], lotsD [[0, 1, 2], [0, 2, 3]]]) (.list [lotsD [[0, 1, 3], [1, 2, 3]], lotsD [[0, 1, 2], [0, 2, 3]]])) = false
    rw [eqv_two_lots]
    decide
  refine ⟨(show 3 ≤ 100000 by decide), (show 3 ≤ 100000 by decide), (show 2 ≤ 100000 by decide), (show 2 ≤ 100000 by decide), (show 2 ≤ 100000 by decide), ?_⟩
  refine sib (ls := wheel) (bs := [[0, 1, 2], [0, 2, 3]]) (t := [none, some 0]) (v := true) (by decide) (by decide) (by decide) (by decide) (by decide) (by decide +kernel) ⟨true, rfl, ite0 rfl ?_⟩
  refine ⟨(show 4 ≤ 100000 by decide), (show 2 ≤ 100000 by decide), ?_⟩
  refine sib (ls := wheel) (bs := wheel) (t := [none, some 0, some 1, some 2]) (v := false) (by decide) (by decide) (by decide) (by decide) (by decide) (by decide +kernel) ⟨false, rfl, ite0 rfl ?_⟩
  refine ⟨(show 5 ≤ 100000 by decide), (show 1 ≤ 100000 by decide), (show 1 ≤ 100000 by decide), (show 2 ≤ 100000 by decide), ?_⟩
  refine sib (ls := wheel) (bs := [[0, 1, 2, 3, 4]]) (t := [none]) (v := false) (by decide) (by decide) (by decide) (by decide) (by decide) (by decide +kernel) ⟨false, rfl, ite0 rfl ?_⟩
  refine ⟨(show 4 ≤ 100000 by decide), (show 1 ≤ 100000 by decide), (show 1 ≤ 100000 by decide), (show 2 ≤ 100000 by decide), ?_⟩
  refine sib (ls := wheel) (bs := [[0, 1, 2, 3]]) (t := [none]) (v := true) (by decide) (by decide) (by decide) (by decide) (by decide) (by decide +kernel) ⟨true, rfl, ite0 rfl ?_⟩
  refine ⟨(show 0 ≤ 100000 by decide), (show 0 ≤ 100000 by decide), (show 0 ≤ 100000 by decide), (show 2 ≤ 100000 by decide), ?_⟩
  refine sib (ls := []) (bs := []) (t := []) (v := true) (by decide) (by decide) (by decide) (by decide) (by decide) (by decide +kernel) ⟨true, rfl, ite1 rfl ?_⟩
  refine ⟨(show 0 ≤ 100000 by decide), (show 1 ≤ 100000 by decide), (show 0 ≤ 100000 by decide), (show 1 ≤ 100000 by decide), (show 1 ≤ 100000 by decide), (show 2 ≤ 100000 by decide), ?_⟩
  refine sib (ls := [[]]) (bs := [[]]) (t := [none]) (v := true) (by decide) (by decide) (by decide) (by decide) (by decide) (by decide +kernel) ⟨true, rfl, ite1 rfl ?_⟩
  refine ⟨(show 0 ≤ 100000 by decide), (show 1 ≤ 100000 by decide), (show 0 ≤ 100000 by decide), (show 0 ≤ 100000 by decide), (show 2 ≤ 100000 by decide), ?_⟩
  exact sib (ls := [[]]) (bs := []) (t := []) (v := false) (by decide) (by decide) (by decide) (by decide) (by decide) (by decide +kernel) ⟨false, rfl, rfl⟩
end Kb
set_option Elab.async false
set_option linter.all false
set_option maxRecDepth 100000
set_option maxHeartbeats 0
namespace Kb
open PySem PySem.Spec PyProof.Rows L2
abbrev R : PySem.W.OpenRow := PySem.W.OpenLaw.row PySem.Challenge.rw_crestjoin_k74_whole_trees_of_bags
abbrev hk : PySem.W.Hook := He.hookD 4 fa fn
def ob (s : PySem.W.SharedT) : He.AlD := He.obsDG 4 fa fn (HandSHeadRun.getT s)
theorem ob_eq (s : PySem.W.SharedT) : ob s = hk.obs s.abs := He.obsDG_eq (HandSHeadRun.getT_eq s)
theorem run (w : World) : HandSHeadRun.RunEq R (PySem.W.view R.prog [67]) hk ob 3000 loose1 w := by
  intro os
  kernel_rfl

theorem facts {P : Program} {w : World} {K : PySem.W.Frag} {h : Heap} {mg : Str → Option Value} {f : Addr} (h1 : R__law_right [] fun d => d = .bool true) (h2 : g_tail { nx := fun _ => False, rt := fun d => d = .bool true, rl := fun _ => False } [none, none, none, none, none, none])
    (X : K.In h) (G : h.Ns mainGlobals mg) (hfa : mg ("law" : Str) = some (.ref f)) (c : He.SaysD fa fn K) :
    ∃ fd : FuncData, (∀ (s : Shared) (v : Value), BindsTo s fd ⟨[v], []⟩ [("_law_script", v)]) ∧ ∀ base : Heap, K.In base → base.Ns mainGlobals mg → FnOk P w K mg base CX0 9 f fd ["_law_script"] (spLaw K) := by
  have E : Ev K mg := ⟨⟨h, X, G, c⟩⟩
  obtain ⟨fd, F⟩ := f_law E
  have e := hfa.symm.trans (q_law E)
  cases e
  have b := FunD.bindsA (ps := ["_law_script"]) F fun _ _ _ _ _ _ us hl => match us, hl with | [_], _ => rfl
  exact ⟨fd, fun s v => b s [v] rfl, fun base _ _ => c_law E h1 h2 F⟩
end Kb
open PySem PySem.W PySem.Calls PyProof.Rows
theorem PySem.Challenge.cw_crestjoin_k74_whole_trees_of_bags_holds : PySem.Challenge.rw_crestjoin_k74_whole_trees_of_bags.Holds := by
  have h1 := Kb.right_holds
  have h2 := Kb.tail_holds
  w_on; o_law
  refine HandSHeadRun.head_any (r := OpenLaw.row PySem.Challenge.rw_crestjoin_k74_whole_trees_of_bags) (q := view (OpenLaw.row PySem.Challenge.rw_crestjoin_k74_whole_trees_of_bags).prog [67]) (H := Kb.hk) (ob := Kb.ob) (M := 3000) (loose := Kb.loose1) (d := HandSHeadRun.topDef (OpenLaw.row PySem.Challenge.rw_crestjoin_k74_whole_trees_of_bags).prog 67) (kwd := []) Kb.ob_eq
    (by kernel_rfl) (fun s => by kernel_rfl) Kb.run (by kernel_rfl) (by kernel_rfl) (by kernel_rfl) (by rfl) (by first | assumption | decide +kernel) (by decide +kernel) ⟨rfl, rfl, rfl, rfl, rfl, by decide +kernel⟩ ?hw ?hc
  case hw => w_witness2
  case hc =>
    refine L2.walk_ofE (l := PySem.Challenge.rw_crestjoin_k74_whole_trees_of_bags) (n := 63) (k := 9) (x := "_law_script") (CX := L2.CX0) rfl (by decide) (by kernel_rfl) ⟨rfl, by decide, by decide⟩ ?F (fun _ _ _ _ z => z)
    intro w mg fa h Y G hmg0
    obtain ⟨K, KX, c⟩ := Y
    have hmg : mg ("law" : PySem.Str) = some (.ref fa) := by
      have e : (HandSHeadRun.topDef (OpenLaw.row PySem.Challenge.rw_crestjoin_k74_whole_trees_of_bags).prog 67).name = ("law" : PySem.Str) := by kernel_rfl
      rw [← e]
      exact hmg0
    obtain ⟨fd, hb, hF⟩ := Kb.facts (P := (PySem.Challenge.rw_crestjoin_k74_whole_trees_of_bags).prog) (w := w) h1 h2 KX G hmg c
    exact ⟨K, fd, Kb.spLaw K, KX, hb, fun H a ns hl _ hS => ⟨a, ns, rfl, Nat.le_trans hl (by decide), hS, fun _ => rfl⟩, hF⟩
