import PyProof.Rows.All
import HandS.TupAny
import HandS.TupMul
import HandS.CallSlots
import HandS.Style
import KE.KRevSl
import HandS.WordsExc
import HandS.EndBits
import Wide.All
import OpenK.AllK
import Wide.FinOn
import HandS.ForSpec
import HandS.ForMost
import HandS.Wide
import HandS.Deep
import HandS.IsInst
import HandS.Iter
import HandS.Conv
import HandS.Text
import HandS.RaiseMore
import HandS.Exc
import HandS.TryOnly
import PyProof.StrLawsChain
import HandS.Dict
import KE.KDictDisplayH
import KE.KDictPairs
import HandS.TupLen
import HandS.WordsDict
import PyProof.ReprRoads
import PyProof.CallFns
import PyProof.ReprLen
import HandS.ExcIs
import PySem.Challenge.RW_zipspring_k72_whole_told_signs_stay
set_option Elab.async false
set_option linter.all false
set_option maxRecDepth 100000
set_option autoImplicit false
namespace L2
open PySem PySem.Spec PyProof.Rows
/-! ### new tuples: free, or held fast with their object, which bears no dict -/
def NewT (H : Hp) (p : Addr) (xs : List V) (Q : VK) : Prop := Q (.ref p) (upd H p (.tup xs)) ∨ ∀ o : Obj, o.dict = none → Q (.ref p) (upd H p (.frz o (.tup xs)))
section
variable {X : Cx} {pins : List (Addr × Obj)} {σ : St} {H : Hp} {s : Shared}
theorem Inv.newT {xs : List V} {its : List Value} {Q : VK} {t' : Tok} (I : Inv X pins σ H s) (r : Vals xs its) (z : xs.length ≤ sizeLine) (q : NewT H s.heap.objs.size xs Q) :
    EP X pins σ Q (.ref s.heap.objs.size) { s with heap := s.heap.push { cls := .type "tuple", data := .seq its.toArray }, toks := t' } := by
  rcases q with q | q
  · exact ⟨.ref s.heap.objs.size, _, I.laid (t' := t') (o := .tup xs) (fun b ob q => Heap.get?_push_of_some _ q) (Nat.le_refl _) ⟨z, _, r, IsTup.new _ _⟩, rfl, q⟩
  · exact ⟨.ref s.heap.objs.size, _, I.laid (t' := t') (o := .frz { cls := .type "tuple", data := .seq its.toArray } (.tup xs)) (fun b ob q => Heap.get?_push_of_some _ q) (Nat.le_refl _) ⟨Heap.get?_push_size _ rfl, z, _, r, IsTup.new _ _⟩, rfl, q _ rfl⟩
end
section
variable {X : Cx} {es : List Expr} {t : TA} {pos : Pos}
def tTup2 (t : TA) : TE := fun σ H Q => t σ H fun xs H1 => xs.length ≤ sizeLine ∧ ∀ p, H1 p = none → NewT H1 p xs Q
theorem pe_tup2 {x1} (h : PA X es t) : PE X (.Tuple es x1 pos) (tTup2 t) := by
  refine ⟨fun pins s σ H Q I hq => ?_⟩
  refine wpAny_Tuple_spliced (thn (h.run pos pins s σ H _ I hq) fun us s1 ⟨xs, H1, I1, r, z, q⟩ => ⟨by rw [← r.length]; exact z, ?_⟩)
  exact I1.newT (t' := s1.toks) r z (q _ (I1.hok.fresh (Nat.le_refl _)))
/-- t + u -/
def rCat2 (K : PySem.W.Frag) : R2 := fun x y H Q => ∃ a b xs ys, x = .ref a ∧ y = .ref b ∧ SqT K H a xs ∧ SqT K H b ys ∧ xs.length + ys.length ≤ sizeLine ∧
  (xs = [] → Q (.ref b) H) ∧ (xs ≠ [] → ys = [] → Q (.ref a) H) ∧ (xs ≠ [] → ys ≠ [] → ∀ p, H p = none → NewT H p (xs ++ ys) Q)
theorem op_cat2 : OpR X (binaryOp .Add) (rCat2 X.K) := by
  intro pins s σ H x y v u Q I rx ry h
  obtain ⟨a, b, xs, ys, rfl, rfl, ha, hb, hz, q0, q1, q2⟩ := h
  cases rx
  cases ry
  obtain ⟨its, r1, p1, _⟩ := I.tuple ha
  obtain ⟨its2, r2, p2, _⟩ := I.tuple hb
  by_cases hx : xs = []
  · subst hx
    cases r1
    exact cat_tup0 p1 p2 ⟨.ref b, H, I, rfl, q0 rfl⟩
  · refine HT.cat_tup p1 p2 (fun z => hx (r1.nil_iff.mp z)) (fun z => ⟨.ref a, H, I, rfl, q1 hx (r2.nil_iff.mp z)⟩) (fun z => ?_) (by rw [← r1.length, ← r2.length]; exact hz)
    exact I.newT (t' := s.toks) (r1.append r2) (by rw [List.length_append]; exact hz) (q2 hx (fun w => z (r2.nil_iff.mpr w)) _ (I.hok.fresh (Nat.le_refl _)))
/-- t[lo:hi]: the whole of it is t itself -/
def rSl2 (K : PySem.W.Frag) : V → Option Int → Option Int → Hp → VK → Prop := fun x lo hi H Q => ∃ a xs, x = .ref a ∧ SqT K H a xs ∧
  (HT.sIx xs.length 0 lo = 0 ∧ HT.sIx xs.length xs.length hi = xs.length → Q (.ref a) H) ∧ (¬ (HT.sIx xs.length 0 lo = 0 ∧ HT.sIx xs.length xs.length hi = xs.length) → ∀ p, H p = none → NewT H p (cutV xs lo hi) Q)
theorem sl_tup2 : SlR X (rSl2 X.K) := by
  intro pins s σ H x v vl vu lo hi sl Q I rx hs pl pu h
  obtain ⟨a, xs, rfl, hx, q1, q2⟩ := h
  cases rx
  obtain ⟨its, r, ht, hz⟩ := I.tuple hx
  have hlen : its.toArray.size = xs.length := by rw [List.size_toArray]; exact r.length.symm
  refine ⟨"tuple", _, PyProof.Rows.slot_tuple_getitem.lookup, ht.typeIs, ?_⟩
  by_cases hw : HT.sIx xs.length 0 lo = 0 ∧ HT.sIx xs.length xs.length hi = xs.length
  · exact getItem_tuple_whole ht hs pl pu (by rw [hlen]; exact hw) ⟨.ref a, H, I, rfl, q1 hw⟩
  · refine HT.getItem_tuple_cut ht hs pl pu (by rw [hlen]; exact hw) ?_ (by rw [hlen]; exact hz)
    rw [hlen]
    exact I.newT (t' := s.toks) ((r.drop (HT.sIx xs.length 0 lo)).take (HT.sIx xs.length xs.length hi - HT.sIx xs.length 0 lo)) (Nat.le_trans (cutV_length xs lo hi) hz) (q2 hw _ (I.hok.fresh (Nat.le_refl _)))
/-- tuple(x) -/
theorem call_tuple2 : CallR X (.type "tuple") (fun xs H Q => ∃ p ys, xs = [.ref p] ∧ ((SqL X.K H p ys ∧ ∀ l, H l = none → NewT H l ys Q) ∨ (SqT X.K H p ys ∧ Q (.ref p) H))) := by
  intro pins s σ H xs us Q I r h
  obtain ⟨p, ys, rfl, h⟩ := h
  obtain ⟨u, rfl, rx⟩ := vals1 r
  cases rx
  rcases h with ⟨hq, q⟩ | ⟨hq, q⟩
  · obtain ⟨its, r', pl, hz⟩ := I.list hq
    have hlen := r'.length
    refine call_tuple_list pl.isList (fun h' kp => ?_) (by simp only [List.size_toArray] <;> omega)
    have I1 : Inv X pins σ H { s with heap := h' } := I.kept (t' := s.toks) kp
    exact I1.newT (t' := s.toks) r' hz (q _ (I1.hok.fresh (Nat.le_refl _)))
  · obtain ⟨its, r', pl, hz⟩ := I.tuple hq
    exact call_tuple_same pl ⟨.ref p, H, I, rfl, q⟩
/-- t * k -/
def rRep2 (K : PySem.W.Frag) : R2 := fun x y H Q => ∃ l k xs, x = .ref l ∧ y = .int k ∧ SqT K H l xs ∧ xs ≠ [] ∧ 2 ≤ k ∧ k ≤ 1000 ∧ xs.length ≤ 1000 ∧ ∀ p, H p = none → NewT H p (List.replicate k.toNat xs).flatten Q
theorem op_rep2 : OpR X (binaryOp .Mult) (rRep2 X.K) := by
  intro pins s σ H x y v u Q I rx ry h
  obtain ⟨l, k, xs, rfl, rfl, hT, hne, h1, h2, hz, q⟩ := h
  cases rx
  obtain ⟨t, rfl⟩ := ry
  obtain ⟨its, r, ⟨⟨cls, dd, data, sl⟩, ho, hc, n, hd⟩, hs⟩ := I.tuple hT
  simp only at hc hd
  subst hc hd
  have hle : its.length = xs.length := r.length.symm
  have hn : its ≠ [] := fun e => hne (by
    rw [e] at hle
    exact List.eq_nil_of_length_eq_zero hle.symm)
  have hi : its.toArray.isEmpty = false := by
    cases its with
    | nil => exact absurd rfl hn
    | cons a b => rfl
  have hsz0 : its.toArray.size = xs.length := by rw [List.size_toArray, hle]
  have hm : ((its.toArray.size : Nat) : Int) * k ≤ 1000000 := by
    rw [hsz0]
    have a1 : ((xs.length : Nat) : Int) * k ≤ 1000 * k := Int.mul_le_mul_of_nonneg_right (by omega) (by omega)
    omega
  have flen : (List.replicate k.toNat its).flatten.length ≤ sizeLine := by
    rw [PyProof.Rows.lm_len_rep_flat, hle, sizeLine_eq]
    have a1 : k.toNat * xs.length ≤ 1000 * 1000 := Nat.mul_le_mul (by omega) hz
    omega
  have c0 : (decide (k < -(2 ^ 63)) || decide (k ≥ 2 ^ 63)) = false := by
    rw [decide_eq_false (by omega), decide_eq_false (by omega)] <;> rfl
  have c1 : (its.toArray.isEmpty || k == 1) = false := by
    rw [hi, Bool.false_or]
    exact beq_eq_false_iff_ne.mpr (by omega)
  have c2 : (decide (k ≤ 0) || its.toArray.isEmpty) = false := by
    rw [hi, Bool.or_false]
    exact decide_eq_false (by omega)
  have c4 : Builtin.Tuple.tupleTooMany (((its.toArray.size : Nat) : Int) * k) = false := by
    unfold Builtin.Tuple.tupleTooMany
    rw [sizeLine_eq]
    exact decide_eq_false (by omega)
  refine wpAny_binaryOp_repeat_ref (T := "tuple") (U := "int") (by decide) ⟨_, ho, rfl⟩ (fun s' => typeIs_int s' k t) noFill_tuple_mul F.fills_int_mul F.slot_int_rmul repeat_tuple F.slot_int_index.lookup
    (call_meets F.slot_int_rmul (typeIs_int s k t) F.entry_int_rmul (F.args_int_rmul_2 _ _) (int_rmul_tuple k t l its.toArray n dd sl)
      ⟨ho, rfl, ⟨_, ho, rfl⟩, call_meets F.slot_tuple_mul ⟨_, ho, rfl⟩ F.entry_tuple_mul (F.args_tuple_mul_2 _ _) (tuple_mulW l its.toArray n dd sl k t c0 c1 c2 (by omega) c4 (by rw [size_rep, List.size_toArray]; exact flen)) ⟨ho, ?_⟩⟩)
  rw [size_rep]
  exact I.newT (t' := s.toks) (r.rep k.toNat) (by rw [PyProof.Rows.lm_len_rep_flat, sizeLine_eq]; have a1 : k.toNat * xs.length ≤ 1000 * 1000 := Nat.mul_le_mul (by omega) hz; omega) (q _ (I.hok.fresh (Nat.le_refl _)))
end
/-! ### t[::-1], a tuple -/
section
variable {prog : Program} {w : World} {A : Around} {E : Value → Shared → Prop} {s : Shared}
theorem pick_back (xs : Array Value) : ((List.range xs.size).filterMap fun (k : Nat) => xs[(((xs.size : Int) - 1) + (k : Int) * (-1)).toNat]?).toArray = xs.toList.reverse.toArray := by
  have e : (List.range xs.size).filterMap (fun (k : Nat) => xs[(((xs.size : Int) - 1) + (k : Int) * (-1)).toNat]?) = ((List.range xs.size).map fun k => xs.size - 1 - k).filterMap (xs[·]?) := by
    rw [List.filterMap_map]
    congr 1
    funext k
    have : (((xs.size : Int) - 1) + (k : Int) * (-1)).toNat = xs.size - 1 - k := by omega
    rw [this]
    rfl
  rw [e, PySem.W.krv_range, List.filterMap_reverse, PySem.W.krv_all]
theorem sliceApplied_back {sl : Addr} {n : Nat} {vl vu vs : Value} {Q : Int × Int × Nat → Shared → Prop} (hs : s.heap.IsSliceOf sl vl vu vs) (pl : IsPart vl none) (pu : IsPart vu none) (ps : IsPart vs (some (-1)))
    (h : Q ((n : Int) - 1, -1, n) s) : wpAny (model prog w) A (Builtin.Slice.sliceApplied (.ref sl) (pure (n : Int))) Q E s := by
  obtain ⟨os, hos, hcs, hds⟩ := id hs
  unfold Builtin.Slice.sliceApplied Builtin.Slice.sliceFields
  refine wpAny_bind (wpAny_bind (wpAny_field hos hds (x := vl) rfl (wpAny_bind (wpAny_field hos hds (x := vu) rfl (wpAny_bind (wpAny_field hos hds (x := vs) rfl (wpAny_pure ?_)))))))
  refine wpAny_bind (HT.slicePart_ ps ?_)
  show wpAny _ _ (if ((-1 : Int) == 0) = true then _ else _) _ _ s
  rw [if_neg (by decide)]
  refine wpAny_bind (HT.slicePart_ pl (wpAny_bind (HT.slicePart_ pu (wpAny_bind (wpAny_pure ?_)))))
  have ea : Builtin.Slice.sliceAdjust none none (-1) (n : Int) = ((n : Int) - 1, -1) := by
    unfold Builtin.Slice.sliceAdjust
    simp
  have ep : Builtin.Slice.slicePlaces ((n : Int) - 1) (-1) (-1) = n := by
    unfold Builtin.Slice.slicePlaces
    have h1 : ¬ ((-1 : Int) > 0) := by omega
    simp only [h1, if_false]
    split
    · have : ((n : Int) - 1 - -1 - 1) / (- -1) = (n : Int) - 1 := by simp
      rw [this]; omega
    · omega
  show wpAny _ _ (match Builtin.Slice.sliceAdjust none none (-1) (n : Int) with | (lo, hi) => pure (lo, (-1 : Int), Builtin.Slice.slicePlaces lo hi (-1))) _ _ s
  rw [ea]
  show wpAny _ _ (pure ((n : Int) - 1, (-1 : Int), Builtin.Slice.slicePlaces ((n : Int) - 1) (-1) (-1))) _ _ s
  rw [ep]
  exact wpAny_pure h
theorem getItem_tuple_back {t sl : Addr} {items : Array Value} {vl vu vs : Value} {Q : Value → Shared → Prop} (ht : IsTup s.heap t items) (hs : s.heap.IsSliceOf sl vl vu vs) (pl : IsPart vl none) (pu : IsPart vu none) (ps : IsPart vs (some (-1)))
    (h : Q (.ref s.heap.objs.size) { s with heap := s.heap.push { cls := .type "tuple", data := .seq items.toList.reverse.toArray } }) (hsz : items.size ≤ sizeLine) : wpAny (model prog w) A (getItem (.ref t) (.ref sl)) Q E s := by
  have htake : sizeOk (.seq items.toList.reverse.toArray) := by
    show items.toList.reverse.toArray.size ≤ sizeLine
    rw [List.size_toArray, List.length_reverse, Array.length_toList]; exact hsz
  obtain ⟨os, hos, hcs, hds⟩ := id hs
  have hTs : s.TypeIs (.ref sl) "slice" := ⟨os, hos, hcs⟩
  unfold getItem
  try with_reducible refine wpAny_holding ?_
  first | refine wpAny_bind (wpAny_pure ?_) | skip
  refine wpAny_bind (wpAny_sequenceKey ht.typeIs (by decide) ?_)
  refine wpAny_bind (wpAny_callSpecial?_slot (name := Str.ofString "__getitem__") ht.typeIs PyProof.Rows.slot_tuple_getitem
    (wpAny_call_entry PyProof.Rows.slot_tuple_getitem ht.typeIs entry_tuple_getitem ?_ (args_tuple_getitem _ _)))
  show wpAny _ _ (Builtin.Tuple.tupleItemsOf (.ref t) >>= _) _ _ s
  refine wpAny_bind (PyProof.Rows.tupleItemsOf_ ht ?_)
  refine wpAny_bind (wpAny_typeOf hTs ?_)
  rw [if_pos (by decide)]
  refine wpAny_bind (sliceApplied_back (n := items.size) hs pl pu ps ?_)
  have hno : ¬ ((((items.size : Int) - 1) == 0 && (-1 : Int) == 1 && items.size == items.size) = true) := by
    intro q
    rw [Bool.and_eq_true, Bool.and_eq_true] at q
    exact absurd q.1.2 (by decide)
  show wpAny _ _ (if (((items.size : Int) - 1) == 0 && (-1 : Int) == 1 && items.size == items.size) = true then _ else _) _ _ s
  rw [if_neg hno, pick_back]
  first
    | exact wpAny_bind (m := Builtin.Tuple.tupleExact _) (wpAny_newObj_type (wpAny_pure ⟨_, rfl, wpAny_pure h⟩) htake)
    | exact wpAny_bind (m := Builtin.Tuple.tupleExact _) (wpAny_newObj_type (wpAny_bind (wpAny_pure (wpAny_pure ⟨_, rfl, wpAny_pure h⟩))) htake)
    | exact wpAny_bind (wpAny_bind (m := Builtin.Tuple.tupleExact _) (wpAny_newObj_type (wpAny_pure (wpAny_pure ⟨_, rfl, wpAny_pure h⟩)) htake))
    | exact wpAny_bind (wpAny_bind (m := Builtin.Tuple.tupleExact _) (wpAny_newObj_type (wpAny_pure ⟨_, rfl, wpAny_pure h⟩) htake))
end
section
variable {X : Cx}
def tRevT (K : PySem.W.Frag) (te : TE) : TE := fun σ H Q => te σ H fun x H1 => ∃ a xs, x = .ref a ∧ SqT K H1 a xs ∧ ∀ p, H1 p = none → NewT H1 p xs.reverse Q
theorem pe_revT {e : Expr} {te : TE} {k : Nat} {p1 p2 p3 pos : Pos} (he : PE X e te) : PE X (.Subscript e (.Slice none none (some (.UnaryOp .USub (.Constant (.int 1) k p1) p2)) p3) pos) (tRevT X.K te) := by
  refine ⟨fun pins s σ H Q I h => ?_⟩
  refine Subscript_ (thn (he.run pins s σ H _ I h) fun v s1 ⟨x, H1, I1, r1, q1⟩ => ?_)
  obtain ⟨a, xs, ex, hx, q⟩ := q1
  subst ex
  cases r1
  have hst : PO X (some (.UnaryOp .USub (.Constant (.int 1) k p1) p2)) (tPart (tUn (rU fun i => .int (-i)) (tC (.int 1)))) := po_some (pe_un un_neg pe_int)
  refine wpAny_Slice (thn (po_none.run pins s1 σ H1 (fun o H2 => o = none ∧ H2 = H1) I1 ⟨rfl, rfl⟩) fun vl s2 ⟨l, H2, I2, pl, el, e2⟩ => ?_)
  subst el e2
  refine thn (po_none.run pins s2 σ H2 (fun o H3 => o = none ∧ H3 = H2) I2 ⟨rfl, rfl⟩) fun vu s3 ⟨u, H3, I3, pu, eu, e3⟩ => ?_
  subst eu e3
  refine thn (hst.run pins s3 σ H3 (fun o H4 => o = some (-1) ∧ H4 = H3) I3 ⟨1, rfl, -1, rfl, rfl, rfl⟩) fun vs s4 ⟨o, H4, I4, ps, eo, e4⟩ => ?_
  subst eo e4
  have I5 : Inv X pins σ H4 { s4 with heap := s4.heap.push { cls := .type "slice", data := .fields #[vl, vu, vs] } } := I4.kept (t' := s4.toks) fun b ob q => Heap.get?_push_of_some _ q
  obtain ⟨its, r, ht, hz⟩ := I5.tuple hx
  have hlen := r.length
  show wpAny (model X.prog X.w) X.A (subscriptTail e (.Slice none none (some (.UnaryOp .USub (.Constant (.int 1) k p1) p2)) p3) (.ref a) (.ref s4.heap.objs.size)) (EP X pins σ Q) X.xe { s4 with heap := s4.heap.push { cls := .type "slice", data := .fields #[vl, vu, vs] } }
  refine tail_any (ops := [.ref a, .ref s4.heap.objs.size]) ht.typeIs (PyProof.Rows.slot_tuple_getitem.lookup) ?_ (by with_unfolding_all rfl)
  refine getItem_tuple_back ht (Heap.IsSliceOf.new _ vl vu vs) pl pu ps ?_ (by rw [List.size_toArray]; omega)
  exact I5.newT (t' := s4.toks) r.reverse (by rw [List.length_reverse]; exact hz) (q _ (I5.hok.fresh (Nat.le_refl _)))
end
end L2
namespace L2
open PySem PySem.Spec PyProof.Rows
/-! ### defs that are called where no guard stands (so repr can be told) -/
/-- room, and no guard around -/
structure RoomG (k : Nat) (A : Around) : Prop where
  r : Room k A
  g : A.guards = some []
theorem RoomG.mono {j k : Nat} {A : Around} (h : RoomG k A) (l : j ≤ k) : RoomG j A := ⟨h.r.mono l, h.g⟩
theorem RoomG.deeper {k : Nat} {A : Around} (h : RoomG (k + 1) A) (env : Env) : RoomG k (A.deeper env) := ⟨h.r.deeper env, h.g⟩
/-- as FnOk, asked only there -/
structure FnG (P : Program) (w : World) (K : PySem.W.Frag) (mg : Str → Option Value) (base : Heap) (CX : CXT) (k : Nat) (f : Addr) (fd : FuncData) (ps : List Str) (sp : Sp) : Prop where
  len : ∀ vs H Q E, sp vs H Q E → vs.length = ps.length
  run : ∀ (A : Around) (outer : List Env) (s : Shared) (H : Hp) (args : Args) (us : List Value) (vs : List V) (Q : VK) (E : XK), RoomG k A → Env0 P w K mg base A outer s H → BindsTo s fd args (ps.zip us) → Vals vs us → sp vs H Q E →
    codeAny (model P w) A (.call (.ref f) args) (CR CX outer P w H s Q E) s
theorem FnG.imp {P : Program} {w : World} {K : PySem.W.Frag} {mg : Str → Option Value} {base : Heap} {CX : CXT} {k : Nat} {f : Addr} {fd : FuncData} {ps : List Str} {sp sp' : Sp} (F : FnG P w K mg base CX k f fd ps sp)
    (h : ∀ vs H Q E, sp' vs H Q E → sp vs H Q E) : FnG P w K mg base CX k f fd ps sp' :=
  ⟨fun vs H Q E q => F.len vs H Q E (h _ _ _ _ q), fun A outer s H args us vs Q E hr he hb hv hs => F.run A outer s H args us vs Q E hr he hb hv (h _ _ _ _ hs)⟩
theorem fn_ofG {CX : CXT} {P : Program} {w : World} {K : PySem.W.Frag} {mg : Str → Option Value} {base : Heap} {k : Nat} {f : Addr} {name qual : Str} {params : Arguments} {body : List Stmt} {scope : Scope} {dV kV doc pm cdv ct oc : Value} {an od : Option Addr}
    {osl : Array (Option Value)} {N ps : List Str} {sp : Sp} (lk : K.lookup f = some ⟨oc, od, .func (PySem.W.fnOf name qual params body scope dV kV doc pm an cdv ct), osl⟩) (hcd : PySem.W.codeIn K cdv qual = true) (S : FnScope N ps scope)
    (len : ∀ vs H Q E, sp vs H Q E → vs.length = ps.length)
    (hbody : ∀ (A : Around) (outer : List Env) (s : Shared) (H : Hp) (vs : List V) (Q : VK) (E : XK), RoomG k (A.deeper (envOfC qual scope s.heap.objs.size f cdv)) → sp vs H Q E →
      ∃ t, PSs (cxOf CX P w K mg base N qual scope f cdv A outer s H E) body t ∧ t { nx := fun _ H' => Q .non H', rt := Q } (start N vs) H) :
    FnG P w K mg base CX (k + 1) f (PySem.W.fnOf name qual params body scope dV kV doc pm an cdv ct) ps sp := by
  refine ⟨len, fun A outer s H args us vs Q E hr e0 hb r hsp => ?_⟩
  have hl := len _ _ _ _ hsp
  have KX : K.In s.heap := e0.mod.kin.keeps fun b o e => (e0.bs b o e).1
  have lim : s.heap.NoLimit := e0.mod.nolimit.keeps fun b o e => (e0.bs b o e).1
  have hkind : ∀ y ∈ ps.zip us, scope.names.lookup y.1 = some .local ∨ (scope.names.lookup y.1 = some .cell ∧ ((cellsFrom (s.heap.objs.size + 1) scope.names []).lookup y.1).isSome = true) := fun ⟨n, v⟩ hy => by
    rcases S.par n (List.of_mem_zip hy).1 with q | q
    · exact .inl q
    · exact .inr ⟨q, PySem.W.cellsFrom_some _ _ _ (.inl q)⟩
  refine codeAny_call_function hr.r.depth (KX _ _ lk) rfl S.co S.gen rfl (PySem.W.codeRec_of KX hcd) (hb _ _ _ _ ?_)
  refine wpAny_newFunctionEnv_cells S.kind hkind fun env he s1 x => ?_
  subst he
  refine ⟨lim.keeps x.toInCall.keep, codeAny_func ?_⟩
  obtain ⟨t, ht, hq⟩ := hbody A outer s H vs Q E (hr.deeper _) hsp
  have I : Inv (cxOf CX P w K mg base N qual scope f cdv A outer s H E) [] (start N vs) H s1 := inv_start S hr.r.hd e0 hl r x
  refine wpAny_mono (ht.run [] s1 (start N vs) H _ I hq) (fun fl s' hs => ?_) fun e s' hs => hs
  have fin : ∀ {σ' : St} {H' : Hp} {v : V} {u : Value}, Inv (cxOf CX P w K mg base N qual scope f cdv A outer s H E) [] σ' H' s' → RelV v u → Q v H' → CE outer P w H s Q u s' :=
    fun {σ' H' v u} J rv q => ⟨v, H', J.os, J.bare, J.base, J.hok, rv, q⟩
  cases fl with
  | ret u =>
    obtain ⟨v, σ', H', J, rv, q⟩ := hs
    exact fin J rv q
  | next =>
    obtain ⟨σ', H', J, q⟩ := hs
    exact fin (v := V.non) (u := Value.none) J rfl q
  | brk =>
    obtain ⟨_, _, _, q⟩ := hs
    exact False.elim q
  | cont =>
    obtain ⟨_, _, _, q⟩ := hs
    exact False.elim q
section
variable {P : Program} {w : World} {K : PySem.W.Frag} {mg : Str → Option Value} {base : Heap}
theorem Fun.okG {x qual : Str} {st : Stmt} {f : Addr} {fd : FuncData} {N ps : List Str} {k : Nat} {sp : Sp} (F : Fun K x qual st f fd) (S : FnScope N ps (defScope st)) (len : ∀ vs H Q E, sp vs H Q E → vs.length = ps.length)
    (hbody : ∀ (cdv : Value) (A : Around) (outer : List Env) (s : Shared) (H : Hp) (vs : List V) (Q : VK) (E : XK), RoomG k (A.deeper (envOfC qual (defScope st) s.heap.objs.size f cdv)) → sp vs H Q E →
      ∃ t, PSs (cxOf (L2.CX P w) P w K mg base N qual (defScope st) f cdv A outer s H E) (defBody st) t ∧ t { nx := fun _ H' => Q .non H', rt := Q } (start N vs) H) : FnG P w K mg base (L2.CX P w) (k + 1) f fd ps sp := by
  obtain ⟨oc, od, kV, doc, pm, an, cdv, ct, osl, rfl, lk, hcd⟩ := F.ex
  exact fn_ofG lk hcd S len fun A outer s H vs Q E hr hsp => hbody cdv A outer s H vs Q E hr hsp
end
section
variable {X : Cx} {CX : CXT} {k : Nat} {f : Addr} {fd : FuncData} {ps : List Str} {sp : Sp} {dvs : List V} {ds : List Value} {E : St → XK} {x : Str} {p pos : Pos} {e : Expr} {es : List Expr} {t : TA}
theorem run_fnG {pins : List (Addr × Obj)} {σ : St} {H : Hp} {s : Shared} {Q : VK} {us : List Value} {vs : List V} (F : FnG X.prog X.w X.K X.mg X.base CX k f fd ps sp) (hr : RoomG k X.A) (hb : Binds X.K fd ps ds) (hd : Vals dvs ds) (hx : PassesAt CX X σ (E σ))
    (I : Inv X pins σ H s) (r : Vals vs us) (h : sp (vs ++ dvs) H Q (E σ)) : wpAny (model X.prog X.w) X.A (call (.ref f) us) (EP X pins σ Q) X.xe s := by
  have r2 : Vals (vs ++ dvs) (us ++ ds) := r.append hd
  have hl : (us ++ ds).length = ps.length := by rw [← r2.length]; exact F.len _ _ _ _ h
  refine wpAny_call (codeAny_mono (F.run X.A X.stack s H ⟨us, []⟩ (us ++ ds) (vs ++ dvs) Q (E σ) hr I.env0 (hb s us I.kIn hl) r2 h) fun r s' hq => ?_)
  cases r with
  | error e => exact hx pins H s e s' I hq
  | ok fl =>
    cases fl with
    | ret u => exact I.after hq
    | next => exact False.elim hq
    | brk => exact False.elim hq
    | cont => exact False.elim hq
theorem pe_callG (F : FnG X.prog X.w X.K X.mg X.base CX k f fd ps sp) (hr : RoomG k X.A) (hg : Gl X x) (hm : X.mg x = some (.ref f)) (hk : PySem.W.keepIn X.K (.ref f) = true) (hb : Binds X.K fd ps ds) (hd : Vals dvs ds) (hx : ∀ σ, PassesAt CX X σ (E σ))
    (ha : PA X (e :: es) t) (hdb : (x == ("__debug__" : Str)) = false := by decide) (he : starEach (e :: es) X.env = (false, eval e X.env) :: starEach es X.env := by rfl) (hpl : (backTo pos (starEach es X.env)).any (·.1) = false := by rfl) :
    PE X (.Call (.Name x p) (e :: es) [] pos) (tCallSD sp dvs E t) := by
  refine ⟨fun pins s σ H Q I h => ?_⟩
  refine wpAny_Call_Name_kw (ld_glob I hg hm ?_ hdb)
  refine PySem.W.callWith_K (h₀ := X.base) I.ok.mod.kin hk (thn (ha.run pos pins s σ H _ I h) fun us s1 ⟨vs, H1, I1, r, q⟩ => ⟨I1.kIn, ?_⟩) he hpl
  exact run_fnG F hr hb hd (hx σ) I1 r q
end
/-- the law's promise, at the heap behind the top -/
theorem law_callG {P : Program} {w : World} {K : PySem.W.Frag} {mg mb : Str → Option Value} {CX : CXT} {k : Nat} {fa a : Addr} {fd : FuncData} {x : Str} {sp : Sp} {s₁ : Shared} {vs : List Value} {ns : List Int}
    (KX : K.In s₁.heap) (hns : s₁.heap.Ns mainGlobals mg) (hb : s₁.heap.Ns builtinsNs mb) (hbb : ∀ x : Str, x ≠ "__name__" → mb x = bootBuiltins x) (hlim : s₁.heap.NoLimit) (hg : s₁.gens = #[])
    (ha : s₁.heap.get? a = some { cls := .type "list", data := .seq vs.toArray }) (hi : IntsAre vs ns) (hl : ns.length ≤ sizeLine) (hr : RoomG k callerA)
    (F : ∀ base : Heap, K.In base → base.Ns mainGlobals mg → FnG P w K mg base CX k fa fd [x] sp) (hbind : ∀ (s : Shared) (u : Value), BindsTo s fd ⟨[u], []⟩ [(x, u)])
    (hsp : ∀ H : Hp, Only H → SqL K H a (ns.map V.int) → sp [.ref a] H (fun v _ => v = .bl true) fun _ _ _ => False)
    (hCX : ∀ H e s', CX [] H s₁ (fun _ _ _ => False) e s' → False) :
    codeAny (model P w) callerA (.call (.ref fa) ⟨[.ref a], []⟩) (fun r s' => r = .ok (.ret (.bool true)) ∧ OldK s₁.heap s'.heap ∧ s'.os = s₁.os ∧ AllBare s'.gens) s₁ := by
  have rv := vals_ints hi
  have lenV := hi.length
  have core : ∀ H : Hp, Only H → SqL K H a (ns.map V.int) → HOk P w H s₁.heap → (∀ b, H b ≠ none → b = a) → (H a ≠ none → K.lookup a = none) →
      codeAny (model P w) callerA (.call (.ref fa) ⟨[.ref a], []⟩) (fun r s' => r = .ok (.ret (.bool true)) ∧ OldK s₁.heap s'.heap ∧ s'.os = s₁.os ∧ AllBare s'.gens) s₁ := by
    intro H hO hS hok hA hK
    have base_of : ∀ {b : Addr} {o : Obj}, s₁.heap.get? b = some o → H b = none → (hidT s₁.heap H).get? b = some o := fun e n => hidT_get e n
    have hisA : ∀ {b : Addr} {u : HO}, H b = some u → b = a := fun {b u} q => hA b (by rw [q]; simp)
    have noA : ∀ {b : Addr} {o : Obj} {es : Array DictEntry} {ep : Nat}, s₁.heap.get? b = some o → o.data = .dict es ep → H b = none := fun {b o es ep} e d => by
      cases q : H b with
      | none => rfl
      | some u =>
        obtain rfl := hisA q
        rw [ha] at e; cases e
        exact nomatch (show Data.seq vs.toArray _ = Data.dict es ep from d)
    have nsK : ∀ {b : Addr} {m : Str → Option Value}, s₁.heap.Ns b m → (hidT s₁.heap H).Ns b m := fun {b m} ⟨o, es, ep, e, d, r⟩ => ⟨o, es, ep, base_of e (noA e d), d, r⟩
    have hKb : K.In (hidT s₁.heap H) := fun b o e => base_of (KX b o e) (by
      cases q : H b with
      | none => rfl
      | some u =>
        obtain rfl := hisA q
        rw [hK (by rw [q]; simp)] at e; cases e)
    have hM : Mod K mg (hidT s₁.heap H) := ⟨hKb, nsK hns, ⟨mb, nsK hb, hbb⟩, let ⟨mc, h1, h2⟩ := hlim; ⟨mc, nsK h1, h2⟩⟩
    have e0 : Env0 P w K mg (hidT s₁.heap H) callerA [] s₁ H := ⟨rfl, hM, fun b o e => of_hidT e, Nat.le_of_eq (hidT_size _ _), trivial, fun b hb => absurd (show b ∈ ([] : List Addr) from hb) (by simp), hok, .of_eq hg⟩
    refine codeAny_mono ((F _ hKb (nsK hns)).run callerA [] s₁ H ⟨[.ref a], []⟩ [.ref a] [.ref a] _ _ hr e0 (hbind s₁ (.ref a)) (.cons rfl .nil) (hsp H hO hS)) fun r s' h => ?_
    match r, h with
    | .error e, h => exact (hCX H e s' h).elim
    | .ok .next, h => exact False.elim h
    | .ok .brk, h => exact False.elim h
    | .ok .cont, h => exact False.elim h
    | .ok (.ret u), h =>
      obtain ⟨v, H', os, bare, un, hok', r', q⟩ := h
      obtain rfl : v = .bl true := q
      obtain rfl : u = Value.bool true := r'
      refine ⟨rfl, OldK.of_keep fun b o e => ?_, os, bare⟩
      cases q : H b with
      | none => exact un.keep b o e q (by intro z; exact absurd (show b ∈ ([] : List Addr) from z) (by simp)) (by simp)
      | some u =>
        rcases hO b with z | ⟨ob, xs, z⟩
        · rw [q] at z; cases z
        · obtain ⟨e1, _⟩ := hok b _ z
          obtain ⟨e2, _⟩ := hok' b _ (un.frzs b ob _ z)
          rw [e] at e1; cases e1
          exact e2
  cases hk : K.lookup a with
  | some o =>
    have e := KX a o hk
    rw [ha] at e
    cases e
    exact core (fun _ => none) (fun _ => .inl rfl) (.inr ⟨_, vs.toArray, _, hk, rfl, rfl, rfl, by rw [List.size_toArray, lenV]; exact hl, by simpa using rv⟩) (fun b u z => by cases (show (none : Option HO) = some u from z)) (fun b z => absurd rfl z) fun z => absurd rfl z
  | none =>
    refine core (fun b => if b = a then some (.frz { cls := .type "list", data := .seq vs.toArray } (.lst (ns.map V.int))) else none) (fun b => ?_) (.inl (.inr ⟨{ cls := .type "list", data := .seq vs.toArray }, if_pos rfl⟩)) (fun b u z => ?_) (fun b z => ?_) fun _ => hk
    · by_cases hb : b = a
      · exact .inr ⟨_, _, if_pos hb⟩
      · exact .inl (if_neg hb)
    · by_cases hb : b = a
      · cases (if_pos hb).symm.trans z
        subst hb
        exact ⟨ha, by rw [List.length_map]; exact hl, vs, _, rv, ha⟩
      · cases (if_neg hb).symm.trans z
    · by_cases hb : b = a
      · exact hb
      · exact absurd (if_neg hb) z
theorem walk_ofG {l : PySem.W.OpenLaw} {n k : Nat} {q : Program} {loose : List Str} {XP : (Str → Option Value) → Heap → Prop} {YP : World → Heap → Prop} {d : DefRec} {K : Params → PySem.W.Frag} {CX : World → CXT} {sp : World → Sp} {x : Str}
    (hn : l.most = some n) (hn2 : n ≤ sizeLine) (hdf : d.params.defaults = []) (hr : RoomG k callerA)
    (hY : ∀ (w : World) (h : Heap), YP w h → (K w.params).In h)
    (F : ∀ (w : World) (mg : Str → Option Value) (fa : Addr) (h : Heap), (K w.params).In h → h.Ns mainGlobals mg → mg d.name = some (.ref fa) →
      ∃ fd : FuncData, (∀ (s : Shared) (u : Value), BindsTo s fd ⟨[u], []⟩ [(x, u)]) ∧
        ∀ base : Heap, (K w.params).In base → base.Ns mainGlobals mg → FnG l.prog w (K w.params) mg base (CX w) k fa fd [x] (sp w))
    (hsp : ∀ (w : World) (H : Hp) (a : Addr) (ns : List Int), ns.length ≤ n → (∀ z ∈ ns, Builtin.Int.intBits z ≤ 1048576) → Only H → SqL (K w.params) H a (ns.map V.int) → sp w [.ref a] H (fun v _ => v = .bl true) fun _ _ _ => False)
    (hCX : ∀ (w : World) (H : Hp) (s : Shared) (e : Value) (s' : Shared), CX w [] H s (fun _ _ _ => False) e s' → False) :
    PySem.W.WalkO q loose XP YP l.row.toRowW d [] (fun f vs => PySem.call f vs) := by
  refine Att.attach_callB hn hdf fun w s₀ s₁ mg mb fa o pm cd doc a vs ns G Y ho hd hcd hmg hobj hints hlen hbits hg => ?_
  have KX := hY w _ Y
  obtain ⟨fd, hb, hF⟩ := F w mg fa _ KX G.T.g hmg
  exact law_callG KX G.T.g G.T.b G.T.builtins G.T.nolimit hg hobj hints (Nat.le_trans hlen hn2) hr hF hb (fun H hO hS => hsp w H a ns hlen hbits hO hS) fun H e s' => hCX w H s₁ e s'
end L2
namespace Z
/-! values without addresses; lists, dicts, sets and instances stand in a store, by number -/
inductive D where
  | non | bl (b : Bool) | int (i : Int) | str (s : List Nat) | tup (xs : List D) | ref (n : Nat) | fl (xs : List D)
inductive MO where
  | lst (xs : List D) | dct (kvs : List (List D × D)) | st (kvs : List (List D × D)) | ins (c : String) (fs : List (String × D)) | exn (c : String) | dk (kvs : List (D × D)) | dkl (kvs : List (D × D))
abbrev Store := List MO
inductive Res (α : Type) where
  | ok (a : α) (S : Store) | ex (c : String) (S : Store)
abbrev M (α : Type) := Option (Res α)
abbrev Env := List (Option D)
inductive Out where
  | nx (ρ : Env) (S : Store) | rt (d : D) (S : Store) | bk (ρ : Env) (S : Store) | ct (ρ : Env) (S : Store) | ex (c : String) (ρ : Env) (S : Store)
def k0 : D → Bool
  | .int _ => true
  | .str _ => true
  | _ => false
/-- the most that a list or a text holds -/
@[irreducible] def LINE : Nat := 16777216
theorem LINE_eq : LINE = 16777216 := by unfold LINE; rfl
def bd {α β : Type} : M α → (α → Store → M β) → M β
  | none, _ => none
  | some (.ok a S), f => f a S
  | some (.ex c S), _ => some (.ex c S)
@[simp] theorem bd_ok {α β : Type} (a : α) (S : Store) (f : α → Store → M β) : bd (some (.ok a S)) f = f a S := rfl
@[simp] theorem bd_no {α β : Type} (f : α → Store → M β) : bd none f = none := rfl
@[simp] theorem bd_ex {α β : Type} (c : String) (S : Store) (f : α → Store → M β) : bd (some (.ex c S)) f = some (.ex c S) := rfl
/-- what raises is not told -/
def bq {α β : Type} : M α → (α → Store → M β) → M β
  | some (.ok a S), f => f a S
  | _, _ => none
@[simp] theorem bq_ok {α β : Type} (a : α) (S : Store) (f : α → Store → M β) : bq (some (.ok a S)) f = f a S := rfl
@[simp] theorem bq_no {α β : Type} (f : α → Store → M β) : bq none f = none := rfl
@[simp] theorem bq_ex {α β : Type} (c : String) (S : Store) (f : α → Store → M β) : bq (some (.ex c S)) f = none := rfl
def bo {α : Type} : M α → Env → (α → Store → Option Out) → Option Out
  | none, _, _ => none
  | some (.ok a S), _, f => f a S
  | some (.ex c S), ρ, _ => some (.ex c ρ S)
@[simp] theorem bo_ok {α : Type} (a : α) (S : Store) (ρ : Env) (f : α → Store → Option Out) : bo (some (.ok a S)) ρ f = f a S := rfl
@[simp] theorem bo_no {α : Type} (ρ : Env) (f : α → Store → Option Out) : bo none ρ f = none := rfl
@[simp] theorem bo_ex {α : Type} (c : String) (S : Store) (ρ : Env) (f : α → Store → Option Out) : bo (some (.ex c S)) ρ f = some (.ex c ρ S) := rfl
abbrev SE := Env → Store → M D
abbrev ST := Env → Store → M Bool
abbrev SS := Env → Store → Option Out
abbrev Fn := List D → Store → M D
def ok1 (d : D) (S : Store) : M D := some (.ok d S)
def new1 (o : MO) (S : Store) : M D := some (.ok (.ref S.length) (S ++ [o]))
/-! ### expressions -/
def eVar (i : Nat) : SE := fun ρ S => match ρ[i]? with | some (some d) => some (.ok d S) | _ => none
def eC (d : D) : SE := fun _ S => some (.ok d S)
def e1 (f : D → Store → M D) (a : SE) : SE := fun ρ S => bd (a ρ S) f
def e2 (f : D → D → Store → M D) (a b : SE) : SE := fun ρ S => bd (a ρ S) fun x S1 => bd (b ρ S1) fun y S2 => f x y S2
def evL : List SE → Env → Store → M (List D)
  | [], _, S => some (.ok [] S)
  | a :: r, ρ, S => bd (a ρ S) fun x S1 => bd (evL r ρ S1) fun xs S2 => some (.ok (x :: xs) S2)
def eTup (es : List SE) : SE := fun ρ S => bd (evL es ρ S) fun xs S1 => some (.ok (.tup xs) S1)
def eLst (es : List SE) : SE := fun ρ S => bd (evL es ρ S) fun xs S1 => new1 (.lst xs) S1
def eCall (F : Fn) (es : List SE) : SE := fun ρ S => bd (evL es ρ S) F
def eAnd (a b : SE) : SE := fun ρ S => bd (a ρ S) fun x S1 => match x with | .bl true => b ρ S1 | .bl false => some (.ok (.bl false) S1) | _ => none
def eOr (a b : SE) : SE := fun ρ S => bd (a ρ S) fun x S1 => match x with | .bl false => b ρ S1 | .bl true => some (.ok (.bl true) S1) | _ => none
def eNot (a : SE) : SE := fun ρ S => bd (a ρ S) fun x S1 => match x with | .bl b => some (.ok (.bl !b) S1) | _ => none
/-- a op b op' c -/
def eCh (f g : D → D → Store → M D) (a b c : SE) : SE := fun ρ S => bd (a ρ S) fun x S1 => bd (b ρ S1) fun y S2 => bd (f x y S2) fun z S3 =>
  match z with | .bl true => bd (c ρ S3) fun w S4 => g y w S4 | .bl false => some (.ok (.bl false) S3) | _ => none
def tVal (e : SE) : ST := fun ρ S => bd (e ρ S) fun x S1 => match x with | .bl b => some (.ok b S1) | _ => none
def tAnd (a b : ST) : ST := fun ρ S => bd (a ρ S) fun x S1 => if x = true then b ρ S1 else some (.ok false S1)
def tOr (a b : ST) : ST := fun ρ S => bd (a ρ S) fun x S1 => if x = true then some (.ok true S1) else b ρ S1
def tNot (a : ST) : ST := fun ρ S => bd (a ρ S) fun x S1 => some (.ok (!x) S1)
def eIf (t : ST) (a b : SE) : SE := fun ρ S => bd (t ρ S) fun x S1 => if x = true then a ρ S1 else b ρ S1
/-! ### what is walked: the items, and what must stay -/
structure Itm where
  xs : List D
  chk : Store → Prop
abbrev SI := Env → Store → M Itm
abbrev SG := D → Env → Store → Option (Env × Store)
def gName (i : Nat) : SG := fun d ρ S => some (ρ.set i (some d), S)
def gAll : List SG → List D → Env → Store → Option (Env × Store)
  | [], [], ρ, S => some (ρ, S)
  | g :: gs, d :: ds, ρ, S => match g d ρ S with | some (ρ1, S1) => gAll gs ds ρ1 S1 | none => none
  | _, _, _, _ => none
def gTup (gs : List SG) : SG := fun d ρ S => match d with | .tup ds => gAll gs ds ρ S | _ => none
open Classical in
/-- a comprehension: the items made so far stand in the new list at l -/
noncomputable def lcL (chk : Store → Prop) (g : SG) (t : ST) (e : SE) (l : Nat) : List D → Env → Store → M D
  | [], _, S => if chk S then some (.ok (.ref l) S) else none
  | x :: r, ρ, S => if chk S then (match g x ρ S with
      | none => none
      | some (ρ1, S1) => bq (t ρ1 S1) fun b S2 => if b = true then bq (e ρ1 S2) fun y S3 => (match S3[l]? with
            | some (.lst acc) => if acc.length < LINE then lcL chk g t e l r ρ (S3.set l (.lst (acc ++ [y]))) else none
            | _ => none)
          else lcL chk g t e l r ρ S2)
    else none
def wipe (ρ : Env) : List Nat → Env
  | [] => ρ
  | v :: vs => (wipe ρ vs).set v none
noncomputable def eLc (it : SI) (g : SG) (t : ST) (e : SE) (own : List Nat) : SE := fun ρ S => bd (it ρ S) fun J S1 => lcL J.chk g t e S1.length J.xs (wipe ρ own) (S1 ++ [.lst []])
def tYes : ST := fun _ S => some (.ok true S)
/-! ### statements -/
def sq (a b : SS) : SS := fun ρ S => match a ρ S with | some (.nx ρ1 S1) => b ρ1 S1 | o => o
def sNx : SS := fun ρ S => some (.nx ρ S)
def sBk : SS := fun ρ S => some (.bk ρ S)
def sCt : SS := fun ρ S => some (.ct ρ S)
def sExp (e : SE) : SS := fun ρ S => bo (e ρ S) ρ fun _ S1 => some (.nx ρ S1)
def sRet (e : SE) : SS := fun ρ S => bo (e ρ S) ρ fun d S1 => some (.rt d S1)
def sIf (t : ST) (a b : SS) : SS := fun ρ S => bo (t ρ S) ρ fun x S1 => if x = true then a ρ S1 else b ρ S1
def sAsg (e : SE) (g : SG) : SS := fun ρ S => bo (e ρ S) ρ fun d S1 => match g d ρ S1 with | some (ρ2, S2) => some (.nx ρ2 S2) | none => none
def sAug (i : Nat) (f : D → D → Store → M D) (e : SE) : SS := fun ρ S => bo (e2 f (eVar i) e ρ S) ρ fun d S1 => some (.nx (ρ.set i (some d)) S1)
open Classical in
noncomputable def forL (chk : Store → Prop) (g : SG) (b : SS) : List D → SS
  | [], ρ, S => if chk S then some (.nx ρ S) else none
  | x :: r, ρ, S => if chk S then (match g x ρ S with
      | none => none
      | some (ρ1, S1) => match b ρ1 S1 with
        | some (.nx ρ2 S2) => forL chk g b r ρ2 S2
        | some (.ct ρ2 S2) => forL chk g b r ρ2 S2
        | some (.bk ρ2 S2) => some (.nx ρ2 S2)
        | o => o)
    else none
noncomputable def sFor (it : SI) (g : SG) (b : SS) : SS := fun ρ S => bo (it ρ S) ρ fun J S1 => forL J.chk g b J.xs ρ S1
def sWh (t : ST) (b : SS) (ρ : Env) (S : Store) : Option Out :=
  match t ρ S with
  | none => none
  | some (.ex c S1) => some (.ex c ρ S1)
  | some (.ok false S1) => some (.nx ρ S1)
  | some (.ok true S1) => match b ρ S1 with
    | some (.nx ρ2 S2) => sWh t b ρ2 S2
    | some (.ct ρ2 S2) => sWh t b ρ2 S2
    | some (.bk ρ2 S2) => some (.nx ρ2 S2)
    | some (.rt d S2) => some (.rt d S2)
    | some (.ex c ρ2 S2) => some (.ex c ρ2 S2)
    | none => none
partial_fixpoint
def sRaise (c : String) : SS := fun ρ S => some (.ex c ρ S)
/-- the parameters' values, then the other names -/
def env0 (n : Nat) (ds : List D) : Env := ds.map some ++ List.replicate (n - ds.length) none
end Z
namespace Z
/-! ### data, for == and repr -/
inductive PD where
  | non | bl (b : Bool) | int (i : Int) | str (s : List Nat) | lst (xs : List PD) | tup (xs : List PD)
def b2i (b : Bool) : Int := if b then 1 else 0
mutual
def PD.eqv : PD → PD → Bool
  | .non, .non => true
  | .bl a, .bl b => a == b
  | .bl a, .int j => b2i a == j
  | .int i, .bl b => i == b2i b
  | .int i, .int j => i == j
  | .str x, .str y => x == y
  | .lst xs, .lst ys => eqvL xs ys
  | .tup xs, .tup ys => eqvL xs ys
  | .non, .bl _ | .non, .int _ | .non, .str _ | .non, .lst _ | .non, .tup _ => false
  | .bl _, .non | .bl _, .str _ | .bl _, .lst _ | .bl _, .tup _ => false
  | .int _, .non | .int _, .str _ | .int _, .lst _ | .int _, .tup _ => false
  | .str _, .non | .str _, .bl _ | .str _, .int _ | .str _, .lst _ | .str _, .tup _ => false
  | .lst _, .non | .lst _, .bl _ | .lst _, .int _ | .lst _, .str _ | .lst _, .tup _ => false
  | .tup _, .non | .tup _, .bl _ | .tup _, .int _ | .tup _, .str _ | .tup _, .lst _ => false
def eqvL : List PD → List PD → Bool
  | [], [] => true
  | x :: xs, y :: ys => PD.eqv x y && eqvL xs ys
  | [], _ :: _ => false
  | _ :: _, [] => false
end
mutual
def PD.dep : PD → Nat
  | .lst xs => depL xs + 1
  | .tup xs => depL xs + 1
  | _ => 0
def depL : List PD → Nat
  | [] => 0
  | x :: xs => max (PD.dep x) (depL xs)
end
mutual
/-- the data of a value; g: of what stands at a number -/
def D.pd (g : Nat → Option PD) : D → Option PD
  | .non => some .non
  | .bl b => some (.bl b)
  | .int i => some (.int i)
  | .str s => some (.str s)
  | .tup xs => (pdL g xs).map .tup
  | .fl xs => (pdL g xs).map .lst
  | .ref n => g n
def pdL (g : Nat → Option PD) : List D → Option (List PD)
  | [] => some []
  | x :: xs => match D.pd g x, pdL g xs with
    | some y, some ys => some (y :: ys)
    | _, _ => none
end
def rdR : Nat → Store → Nat → Option PD
  | 0, _, _ => none
  | n + 1, S, r => match S[r]? with
    | some (.lst xs) => (pdL (rdR n S) xs).map .lst
    | _ => none
def dat (S : Store) (d : D) : Option PD := d.pd (rdR 70 S)
def eqD (d e : D) (S : Store) : M D := match dat S d, dat S e with
  | some x, some y => if x.dep ≤ 64 ∧ y.dep ≤ 64 then some (.ok (.bl (x.eqv y)) S) else none
  | _, _ => none
/-- two lists of unlike lengths -/
def neL (d e : D) (S : Store) : M D := match d, e with
  | .ref n, .ref m => (match S[n]?, S[m]? with
    | some (.lst xs), some (.lst ys) => if xs.length = ys.length then none else some (.ok (.bl true) S)
    | _, _ => none)
  | _, _ => none
def neD (d e : D) (S : Store) : M D := match dat S d, dat S e with
  | some x, some y => if x.dep ≤ 64 ∧ y.dep ≤ 64 then some (.ok (.bl (!x.eqv y)) S) else neL d e S
  | _, _ => none
/-! ### numbers -/
def addD : D → D → Store → M D
  | .int i, .int j, S => some (.ok (.int (i + j)) S)
  | .str a, .str b, S => if a.length + b.length ≤ LINE then some (.ok (.str (a ++ b)) S) else none
  | .tup a, .tup b, S => if a.length + b.length ≤ LINE then some (.ok (.tup (a ++ b)) S) else none
  | .ref m, .ref n, S => match S[m]?, S[n]? with
    | some (.lst a), some (.lst b) => if a.length + b.length ≤ LINE then new1 (.lst (a ++ b)) S else none
    | _, _ => none
  | _, _, _ => none
/-- += -/
def iaddD : D → D → Store → M D
  | .int i, .int j, S => some (.ok (.int (i + j)) S)
  | _, _, _ => none
def subD : D → D → Store → M D
  | .int i, .int j, S => some (.ok (.int (i - j)) S)
  | _, _, _ => none
@[irreducible] def small (i : Int) : Prop := -18446744073709551616 < i ∧ i < 18446744073709551616
theorem small_iff (i : Int) : small i ↔ -18446744073709551616 < i ∧ i < 18446744073709551616 := by unfold small; exact Iff.rfl
noncomputable instance (i : Int) : Decidable (small i) := Classical.propDecidable _
noncomputable def mulD : D → D → Store → M D
  | .int i, .int j, S => if (small i ∨ small j) ∨ i.natAbs.log2 + j.natAbs.log2 < 1000000 then some (.ok (.int (i * j)) S) else none
  | .ref m, .int k, S => match S[m]? with
    | some (.lst a) => if -9223372036854775808 ≤ k ∧ k < 9223372036854775808 ∧ a.length * k.toNat ≤ LINE then new1 (.lst (List.replicate k.toNat a).flatten) S else none
    | _ => none
  | .tup a, .int k, S => if 0 < a.length ∧ a.length ≤ 1000 ∧ 2 ≤ k ∧ k ≤ 1000 then some (.ok (.tup (List.replicate k.toNat a).flatten) S) else none
  | _, _, _ => none
def fdivD : D → D → Store → M D
  | .int i, .int j, S => if 0 < j ∧ j.natAbs.log2 < 9000 then some (.ok (.int (i / j)) S) else none
  | _, _, _ => none
def modD : D → D → Store → M D
  | .int i, .int j, S => if 0 < j then some (.ok (.int (i % j)) S) else none
  | _, _, _ => none
noncomputable def powD : D → D → Store → M D
  | .int i, .int j, S => if 0 ≤ j ∧ j ≤ 1000000 ∧ small i then some (.ok (.int (i ^ j.toNat)) S) else none
  | _, _, _ => none
def negD : D → Store → M D
  | .int i, S => some (.ok (.int (-i)) S)
  | _, _ => none
def ltD : D → D → Store → M D
  | .int i, .int j, S => some (.ok (.bl (decide (i < j))) S)
  | _, _, _ => none
def leD : D → D → Store → M D
  | .int i, .int j, S => some (.ok (.bl (decide (i ≤ j))) S)
  | _, _, _ => none
def gtD : D → D → Store → M D
  | .int i, .int j, S => some (.ok (.bl (decide (j < i))) S)
  | _, _, _ => none
def geD : D → D → Store → M D
  | .int i, .int j, S => some (.ok (.bl (decide (j ≤ i))) S)
  | _, _, _ => none
def isNonB : D → Bool
  | .non => true
  | _ => false
/-- is None, is True -/
def isD : D → D → Store → M D
  | x, .non, S => some (.ok (.bl (isNonB x)) S)
  | .bl a, .bl b, S => some (.ok (.bl (a == b)) S)
  | _, _, _ => none
def isntD : D → D → Store → M D
  | x, .non, S => some (.ok (.bl (!isNonB x)) S)
  | .bl a, .bl b, S => some (.ok (.bl (!(a == b))) S)
  | _, _, _ => none
/-! ### sequences -/
def ixN (n : Nat) (i : Int) : Option Nat := if 0 ≤ i then (if i < n then some i.toNat else none) else if -(n : Int) ≤ i then some (i + n).toNat else none
def atI {α : Type} (xs : List α) (i : Int) : Option α := (ixN xs.length i).bind fun j => xs[j]?
/-- the items of a sequence -/
def seqOf (S : Store) : D → Option (List D)
  | .tup xs => some xs
  | .fl xs => some xs
  | .ref n => match S[n]? with
    | some (.lst xs) => some xs
    | _ => none
  | _ => none
def ixD (d e : D) (S : Store) : M D := match e with
  | .int i => (match d with
    | .str s => if s.length ≤ LINE then (match atI s i with | some c => some (.ok (.str [c]) S) | none => none) else none
    | d => match seqOf S d with
      | some xs => (match atI xs i with | some x => some (.ok x S) | none => none)
      | none => none)
  | _ => none
def sIx (n d : Nat) : Option Int → Nat
  | none => d
  | some v => if v < 0 then (v + (n : Int)).toNat else min v.toNat n
def cut {α : Type} (xs : List α) (lo hi : Option Int) : List α := (xs.drop (sIx xs.length 0 lo)).take (sIx xs.length xs.length hi - sIx xs.length 0 lo)
def slD (lo hi : Option Int) (d : D) (S : Store) : M D := match d with
  | .str s => if s.length ≤ LINE then some (.ok (.str (cut s lo hi)) S) else none
  | .tup xs => some (.ok (.tup (cut xs lo hi)) S)
  | .ref n => (match S[n]? with
    | some (.lst xs) => new1 (.lst (cut xs lo hi)) S
    | _ => none)
  | _ => none
/-- d[lo:hi] -/
def eSl (a : SE) (lo hi : Option SE) : SE := fun ρ S => bd (a ρ S) fun d S1 =>
  bd (match lo with | none => some (.ok none S1) | some m => bd (m ρ S1) fun x S2 => match x with | .int i => some (.ok (some i) S2) | _ => none) fun l S3 =>
  bd (match hi with | none => some (.ok none S3) | some m => bd (m ρ S3) fun x S4 => match x with | .int i => some (.ok (some i) S4) | _ => none) fun h S5 => slD l h d S5
def eqB : D → D → Bool
  | .str x, .str y => x == y
  | .int x, .int y => x == y
  | .bl x, .bl y => x == y
  | .non, .non => true
  | _, _ => false
/-- x in c -/
def inB (x c : D) (S : Store) : Option Bool := match c with
  | .str z => (match x with | .str [k] => some (decide (k ∈ z)) | _ => none)
  | .ref n => (match dat S x, dat S (.ref n) with
    | some y, some (.lst ys) => if y.dep ≤ 64 ∧ (PD.lst ys).dep ≤ 64 then some (ys.any fun z => z.eqv y) else none
    | _, _ => none)
  | _ => none
def inD (x c : D) (S : Store) : M D := match inB x c S with | some b => some (.ok (.bl b) S) | none => none
def ninD (x c : D) (S : Store) : M D := match inB x c S with | some b => some (.ok (.bl (!b)) S) | none => none
/-! ### built-ins -/
def lenF : Fn := fun ds S => match ds with
  | [.str s] => if s.length ≤ LINE then some (.ok (.int s.length) S) else none
  | [d] => (match seqOf S d with | some xs => some (.ok (.int xs.length) S) | none => none)
  | _ => none
def absF : Fn := fun ds S => match ds with
  | [.int i] => some (.ok (.int (if i < 0 then -i else i)) S)
  | _ => none
def maxF : Fn := fun ds S => match ds with
  | [.int i, .int j] => some (.ok (.int (if j > i then j else i)) S)
  | _ => none
def minF : Fn := fun ds S => match ds with
  | [.int i, .int j] => some (.ok (.int (if j < i then j else i)) S)
  | _ => none
/-- bools alone -/
def blsOf : List D → Option (List Bool)
  | [] => some []
  | .bl b :: r => (blsOf r).map (b :: ·)
  | _ :: _ => none
def allF : Fn := fun ds S => match ds with
  | [.ref n] => (match S[n]? with
    | some (.lst xs) => (match blsOf xs with | some bs => some (.ok (.bl (bs.all id)) S) | none => none)
    | _ => none)
  | _ => none
def listF : Fn := fun ds S => match ds with
  | [d] => (match seqOf S d with | some xs => new1 (.lst xs) S | none => none)
  | _ => none
def tupleF : Fn := fun ds S => match ds with
  | [d] => (match seqOf S d with | some xs => some (.ok (.tup xs) S) | none => none)
  | _ => none
inductive Ty where | str | int | bool | tuple | list
def isiB (S : Store) (t : Ty) : D → Option Bool
  | .non => some false
  | .bl _ => some (match t with | .int => true | .bool => true | _ => false)
  | .int _ => some (match t with | .int => true | _ => false)
  | .str _ => some (match t with | .str => true | _ => false)
  | .tup _ => some (match t with | .tuple => true | _ => false)
  | .fl _ => some (match t with | .list => true | _ => false)
  | .ref n => match S[n]? with
    | some (.lst _) => some (match t with | .list => true | _ => false)
    | _ => none
/-- isinstance(x, T) -/
def isiD (t : Ty) (d : D) (S : Store) : M D := match isiB S t d with | some b => some (.ok (.bl b) S) | none => none
/-! ### methods -/
def appendF : Fn := fun ds S => match ds with
  | [.ref n, x] => (match S[n]? with
    | some (.lst xs) => if xs.length < LINE then some (.ok .non (S.set n (.lst (xs ++ [x])))) else none
    | _ => none)
  | _ => none
def popF : Fn := fun ds S => match ds with
  | [.ref n] => (match S[n]? with
    | some (.lst xs) => (match xs[xs.length - 1]? with | some x => some (.ok x (S.set n (.lst xs.dropLast))) | none => none)
    | _ => none)
  | [.ref n, .int i] => (match S[n]? with
    | some (.lst xs) => (match ixN xs.length i with
      | some k => (match xs[k]? with | some x => some (.ok x (S.set n (.lst (xs.eraseIdx k)))) | none => none)
      | none => none)
    | _ => none)
  | _ => none
def extendF : Fn := fun ds S => match ds with
  | [.ref n, .ref m] => (match S[n]?, S[m]? with
    | some (.lst xs), some (.lst ys) => if xs.length + ys.length ≤ LINE then some (.ok .non (S.set n (.lst (xs ++ ys)))) else none
    | _, _ => none)
  | _ => none
/-- o[i] = v -/
def setF (o i : SE) : SG := fun d ρ S => match bq (o ρ S) fun x S1 => bq (i ρ S1) fun y S2 => (match x, y with
    | .ref n, .int k => (match S2[n]? with
      | some (.lst xs) => (match ixN xs.length k with
        | some j => some (.ok () (S2.set n (.lst (xs.set j d))))
        | none => none)
      | _ => none)
    | _, _ => none) with
  | some (.ok _ S3) => some (ρ, S3)
  | _ => none
/-! ### what is walked -/
/-- a list, a tuple, a text -/
def itmOf (d : D) (S : Store) : M Itm := match d with
  | .ref n => (match S[n]? with
    | some (.lst xs) => some (.ok ⟨xs, fun S => S[n]? = some (.lst xs)⟩ S)
    | _ => none)
  | .tup xs => some (.ok ⟨xs, fun _ => True⟩ S)
  | .fl xs => some (.ok ⟨xs, fun _ => True⟩ S)
  | .str s => some (.ok ⟨s.map fun c => .str [c], fun _ => True⟩ S)
  | _ => none
def iAny (a : SE) : SI := fun ρ S => bd (a ρ S) itmOf
@[irreducible] def r62 (i : Int) : Prop := -4611686018427387904 ≤ i ∧ i < 4611686018427387904
theorem r62_iff (i : Int) : r62 i ↔ -4611686018427387904 ≤ i ∧ i < 4611686018427387904 := by unfold r62; exact Iff.rfl
noncomputable instance (i : Int) : Decidable (r62 i) := Classical.propDecidable _
/-- range(n) -/
noncomputable def iR1 (a : SE) : SI := fun ρ S => bd (a ρ S) fun d S1 => match d with
  | .int n => if r62 n then some (.ok ⟨(List.range n.toNat).map fun (k : Nat) => .int k, fun _ => True⟩ S1) else none
  | _ => none
end Z
namespace Z
inductive Rc where | list | str | dict
/-- the receiver of a method -/
def rcB (S : Store) (t : Rc) : D → Bool
  | .str _ => (match t with | .str => true | _ => false)
  | .ref n => (match S[n]?, t with | some (.lst _), .list => true | some (.st _), .dict => true | _, _ => false)
  | _ => false
/-- o.m(..), m a built-in type's -/
def eMt (t : Rc) (F : Fn) (o : SE) (es : List SE) : SE := fun ρ S => bd (o ρ S) fun d S1 => if rcB S1 t d = true then bd (evL es ρ S1) fun ds S2 => F (d :: ds) S2 else none
end Z
namespace Z
open PySem PySem.Spec PyProof.Rows L2
/-! ### what a value in the heap stands for -/
abbrev str (s : List Nat) : Str := ⟨s.toArray⟩
/-- a list that is never changed: the script -/
def FzL (K : PySem.W.Frag) (H : Hp) (a : Addr) (xs : List V) : Prop :=
  (∃ o, H a = some (.frz o (.lst xs))) ∨
    ∃ (o : Obj) (its : Array Value) (n : Nat), K.lookup a = some o ∧ o.cls = .type "list" ∧ o.dict = none ∧ o.data = .seq its n ∧ its.size ≤ sizeLine ∧ Vals xs its.toList
theorem FzL.seq {K : PySem.W.Frag} {H : Hp} {a : Addr} {xs : List V} (h : FzL K H a xs) : SqL K H a xs := by
  rcases h with h | h
  · exact .inl (.inr h)
  · exact .inr h
/-- a tuple: of flat items it is free (it may be a key), else it is held fast, and bears no dict -/
def TupAt (H : Hp) (a : Addr) (vs : List V) : Bool → Prop
  | true => H a = some (.tup vs)
  | false => ∃ o : Obj, o.dict = none ∧ H a = some (.frz o (.tup vs))
theorem TupAt.sq {K : PySem.W.Frag} {H : Hp} {a : Addr} {vs : List V} : ∀ {b : Bool}, TupAt H a vs b → SqT K H a vs
  | true, h => SqT.of h
  | false, ⟨o, _, h⟩ => .inl (.inr ⟨o, h⟩)
mutual
def Rep (K : PySem.W.Frag) (ι : List Addr) (H : Hp) : D → V → Prop
  | .non, v => v = .non
  | .bl b, v => v = .bl b
  | .int i, v => v = .int i
  | .str s, v => v = .str (str s) ∧ ∀ c ∈ s, c < 128
  | .tup xs, v => ∃ a vs, v = .ref a ∧ TupAt H a vs (xs.all k0) ∧ RepL K ι H xs vs
  | .ref n, v => ∃ a, v = .ref a ∧ ι[n]? = some a
  | .fl xs, v => ∃ a vs, v = .ref a ∧ FzL K H a vs ∧ RepL K ι H xs vs
def RepL (K : PySem.W.Frag) (ι : List Addr) (H : Hp) : List D → List V → Prop
  | [], vs => vs = []
  | x :: xs, vs => ∃ v r, vs = v :: r ∧ Rep K ι H x v ∧ RepL K ι H xs r
end
section
variable {K : PySem.W.Frag} {ι ι' ι'' : List Addr} {H H' H'' : Hp}
/-- what stays: the numbers' addresses, the tuples, what is locked -/
structure Ext (ι : List Addr) (H : Hp) (ι' : List Addr) (H' : Hp) : Prop where
  pre : ∃ t, ι' = ι ++ t
  tup : ∀ a xs, H a = some (.tup xs) → H' a = some (.tup xs)
  frz : ∀ a o u, H a = some (.frz o u) → H' a = some (.frz o u)
theorem Ext.refl : Ext ι H ι H := ⟨⟨[], by simp⟩, fun _ _ h => h, fun _ _ _ h => h⟩
theorem Ext.trans (a : Ext ι H ι' H') (b : Ext ι' H' ι'' H'') : Ext ι H ι'' H'' :=
  ⟨by obtain ⟨t, rfl⟩ := a.pre; obtain ⟨u, rfl⟩ := b.pre; exact ⟨t ++ u, by simp⟩, fun _ _ h => b.tup _ _ (a.tup _ _ h), fun _ _ _ h => b.frz _ _ _ (a.frz _ _ _ h)⟩
theorem Ext.at (e : Ext ι H ι' H') {n : Nat} {a : Addr} (h : ι[n]? = some a) : ι'[n]? = some a := by
  obtain ⟨t, rfl⟩ := e.pre
  rw [List.getElem?_append_left (List.getElem?_eq_some_iff.mp h).1]
  exact h
theorem Ext.tupAt (e : Ext ι H ι' H') {a : Addr} {xs : List V} : ∀ {b : Bool}, TupAt H a xs b → TupAt H' a xs b
  | true, h => e.tup _ _ h
  | false, ⟨o, h1, h2⟩ => ⟨o, h1, e.frz _ _ _ h2⟩
theorem Ext.sqT (e : Ext ι H ι' H') {a : Addr} {xs : List V} (h : SqT K H a xs) : SqT K H' a xs := by
  rcases h with (h | ⟨o, h⟩) | h
  · exact .inl (.inl (e.tup _ _ h))
  · exact .inl (.inr ⟨o, e.frz _ _ _ h⟩)
  · exact .inr h
theorem Ext.fzL (e : Ext ι H ι' H') {a : Addr} {xs : List V} (h : FzL K H a xs) : FzL K H' a xs := by
  rcases h with ⟨o, h⟩ | h
  · exact .inl ⟨o, e.frz _ _ _ h⟩
  · exact .inr h
mutual
theorem Rep.ext (e : Ext ι H ι' H') : ∀ (d : D) (v : V), Rep K ι H d v → Rep K ι' H' d v
  | .non, _, h => h
  | .bl _, _, h => h
  | .int _, _, h => h
  | .str _, _, h => h
  | .tup xs, _, h => by
    rw [Rep] at h ⊢
    obtain ⟨a, vs, e1, h1, h2⟩ := h
    exact ⟨a, vs, e1, e.tupAt h1, RepL.ext e xs vs h2⟩
  | .ref n, _, h => by
    rw [Rep] at h ⊢
    obtain ⟨a, e1, h1⟩ := h
    exact ⟨a, e1, e.at h1⟩
  | .fl xs, _, h => by
    rw [Rep] at h ⊢
    obtain ⟨a, vs, e1, h1, h2⟩ := h
    exact ⟨a, vs, e1, e.fzL h1, RepL.ext e xs vs h2⟩
theorem RepL.ext (e : Ext ι H ι' H') : ∀ (ds : List D) (vs : List V), RepL K ι H ds vs → RepL K ι' H' ds vs
  | [], _, h => h
  | x :: xs, _, h => by
    rw [RepL] at h ⊢
    obtain ⟨v, r, e1, h1, h2⟩ := h
    exact ⟨v, r, e1, Rep.ext e x v h1, RepL.ext e xs r h2⟩
end
theorem RepL.length : ∀ {ds : List D} {vs : List V}, RepL K ι H ds vs → vs.length = ds.length
  | [], _, h => by rw [RepL] at h; subst h; rfl
  | x :: xs, _, h => by
    rw [RepL] at h
    obtain ⟨v, r, rfl, _, h2⟩ := h
    simp [RepL.length h2]
theorem RepL.get : ∀ {ds : List D} {vs : List V} {i : Nat} {d : D}, RepL K ι H ds vs → ds[i]? = some d → ∃ v, vs[i]? = some v ∧ Rep K ι H d v
  | [], _, _, _, _, e => by simp at e
  | x :: xs, _, 0, d, h, e => by
    rw [RepL] at h
    obtain ⟨v, r, rfl, h1, _⟩ := h
    simp at e; subst e
    exact ⟨v, rfl, h1⟩
  | x :: xs, _, i + 1, d, h, e => by
    rw [RepL] at h
    obtain ⟨v, r, rfl, _, h2⟩ := h
    obtain ⟨u, a, b⟩ := RepL.get (i := i) h2 (by simpa using e)
    exact ⟨u, by simpa using a, b⟩
theorem RepL.get' : ∀ {ds : List D} {vs : List V} {i : Nat} {v : V}, RepL K ι H ds vs → vs[i]? = some v → ∃ d, ds[i]? = some d ∧ Rep K ι H d v := by
  intro ds vs i v h e
  have hi : i < ds.length := by rw [← h.length]; exact (List.getElem?_eq_some_iff.mp e).1
  obtain ⟨u, a, b⟩ := h.get (List.getElem?_eq_getElem hi)
  rw [e] at a; cases a
  exact ⟨_, List.getElem?_eq_getElem hi, b⟩
theorem RepL.append : ∀ {xs ys : List D} {vs ws : List V}, RepL K ι H xs vs → RepL K ι H ys ws → RepL K ι H (xs ++ ys) (vs ++ ws)
  | [], _, _, _, h, g => by rw [RepL] at h; subst h; simpa using g
  | x :: xs, _, _, _, h, g => by
    rw [RepL] at h
    obtain ⟨v, r, rfl, h1, h2⟩ := h
    rw [List.cons_append, RepL]
    exact ⟨v, _, rfl, h1, RepL.append h2 g⟩
theorem RepL.of_get : ∀ {ds : List D} {vs : List V}, vs.length = ds.length → (∀ (i : Nat) (d : D) (v : V), ds[i]? = some d → vs[i]? = some v → Rep K ι H d v) → RepL K ι H ds vs
  | [], vs, hl, _ => by rw [RepL]; exact List.eq_nil_of_length_eq_zero hl
  | x :: xs, [], hl, _ => by simp at hl
  | x :: xs, v :: r, hl, h => by
    rw [RepL]
    exact ⟨v, r, rfl, h 0 x v rfl rfl, RepL.of_get (by simpa using hl) fun i d u a b => h (i + 1) d u (by simpa using a) (by simpa using b)⟩
theorem RepL.one {d : D} {v : V} (h : Rep K ι H d v) : RepL K ι H [d] [v] := by rw [RepL]; exact ⟨v, [], rfl, h, by rw [RepL]⟩
/-! ### the store -/
/-- keys of dicts: ints and texts, tuples of them -/
def keyD : D → Option Key
  | .int i => some (.inl i)
  | .str s => some (.inr (str s))
  | _ => none
def keysD : List D → Option (List Key)
  | [] => some []
  | x :: r => match keyD x, keysD r with
    | some k, some ks => some (k :: ks)
    | _, _ => none
/-- a dict's entries -/
def KsR {α κ : Type} (key : α → Option κ) (K : PySem.W.Frag) (ι : List Addr) (H : Hp) : List (α × D) → List (κ × V) → Prop
  | [], ks => ks = []
  | p :: r, ks => ∃ k v t, ks = (k, v) :: t ∧ key p.1 = some k ∧ Rep K ι H p.2 v ∧ KsR key K ι H r t
theorem KsR.ext {α κ : Type} {key : α → Option κ} (e : Ext ι H ι' H') : ∀ (kvs : List (α × D)) (ks : List (κ × V)), KsR key K ι H kvs ks → KsR key K ι' H' kvs ks
  | [], ks, h => h
  | p :: r, ks, h => by
    rw [KsR] at h ⊢
    obtain ⟨k, v, t, e1, e2, e3, e4⟩ := h
    exact ⟨k, v, t, e1, e2, Rep.ext e _ _ e3, KsR.ext e r t e4⟩
theorem KsR.length {α κ : Type} {key : α → Option κ} : ∀ {kvs : List (α × D)} {ks : List (κ × V)}, KsR key K ι H kvs ks → ks.length = kvs.length
  | [], ks, h => by rw [KsR] at h; rw [h]; rfl
  | p :: r, ks, h => by
    rw [KsR] at h
    obtain ⟨k, v, t, rfl, _, _, e4⟩ := h
    rw [List.length_cons, List.length_cons, KsR.length e4]
/-- names of fields -/
def keyF (s : String) : Option Str := some (Str.ofString s)
def ObjR (K : PySem.W.Frag) (ι : List Addr) (H : Hp) (a : Addr) : MO → Prop
  | .lst xs => ∃ vs, H a = some (.lst vs) ∧ RepL K ι H xs vs
  | .dct kvs => ∃ o ks, H a = some (.frz o (.dT ks)) ∧ KsR keysD K ι H kvs ks
  | .st kvs => ∃ ks, H a = some (.dT ks) ∧ KsR keysD K ι H kvs ks
  | .dk kvs => ∃ ks, H a = some (.dK ks) ∧ KsR keyD K ι H kvs ks
  | .dkl kvs => ∃ o ks, H a = some (.frz o (.dK ks)) ∧ KsR keyD K ι H kvs ks
  | .ins c fs => ∃ C dx fvs, PySem.W.nsIn K mainGlobals (Str.ofString c) = some (some (.ref C)) ∧ H a = some (.ins C dx fvs) ∧ KsR keyF K ι H fs fvs
  | _ => False
structure Sim (K : PySem.W.Frag) (ι : List Addr) (S : Store) (H : Hp) : Prop where
  len : ι.length = S.length
  nd : ι.Nodup
  obj : ∀ (i : Nat) (o : MO) (a : Addr), S[i]? = some o → ι[i]? = some a → ObjR K ι H a o
theorem Sim.get {S : Store} (s : Sim K ι S H) {n : Nat} {o : MO} {a : Addr} (h : ι[n]? = some a) (g : S[n]? = some o) : ObjR K ι H a o := s.obj n o a g h
/-- an object of the store is there, and no tuple, and not locked -/
def Mob (o : HO) : Prop := match o with | .tup _ => False | .frz _ _ => False | _ => True
theorem ObjR.there {a : Addr} {o : MO} (h : ObjR K ι H a o) : ∃ u, H a = some u := by
  cases o with
  | lst xs => obtain ⟨vs, e, _⟩ := h; exact ⟨_, e⟩
  | dct _ => obtain ⟨_, ks, e, _⟩ := h; exact ⟨_, e⟩
  | st _ => obtain ⟨ks, e, _⟩ := h; exact ⟨_, e⟩
  | dk _ => obtain ⟨ks, e, _⟩ := h; exact ⟨_, e⟩
  | dkl _ => obtain ⟨_, ks, e, _⟩ := h; exact ⟨_, e⟩
  | ins _ _ => obtain ⟨C, dx, fvs, _, e, _⟩ := h; exact ⟨_, e⟩
  | exn _ => exact h.elim
theorem ext_new {p : Addr} {o : HO} {t : List Addr} (hp : H p = none) : Ext ι H (ι ++ t) (upd H p o) :=
  ⟨⟨t, rfl⟩, fun a xs h => by rw [upd_ne (ne_of_none h hp)]; exact h, fun a q u h => by rw [upd_ne (ne_of_none h hp)]; exact h⟩
theorem ext_tup {p : Addr} {o : HO} (hp : H p = none) : Ext ι H ι (upd H p o) := by simpa using ext_new (ι := ι) (t := []) (o := o) hp
theorem ext_mut {p : Addr} {o u : HO} (hp : H p = some u) (hm : Mob u) : Ext ι H ι (upd H p o) :=
  ⟨⟨[], by simp⟩, fun a xs h => by rw [upd_ne (ne_of h hp (by rintro rfl; exact hm))]; exact h, fun a q x h => by rw [upd_ne (ne_of h hp (by rintro rfl; exact hm))]; exact h⟩
theorem ObjR.move {a : Addr} {o : MO} (h : ObjR K ι H a o) (e : Ext ι H ι' H') (k : H' a = H a) : ObjR K ι' H' a o := by
  cases o with
  | lst xs => obtain ⟨vs, e1, h1⟩ := h; exact ⟨vs, k.trans e1, RepL.ext e _ _ h1⟩
  | dct _ => obtain ⟨q, ks, e1, h1⟩ := h; exact ⟨q, ks, k.trans e1, KsR.ext e _ _ h1⟩
  | st _ => obtain ⟨ks, e1, h1⟩ := h; exact ⟨ks, k.trans e1, KsR.ext e _ _ h1⟩
  | dk _ => obtain ⟨ks, e1, h1⟩ := h; exact ⟨ks, k.trans e1, KsR.ext e _ _ h1⟩
  | dkl _ => obtain ⟨q, ks, e1, h1⟩ := h; exact ⟨q, ks, k.trans e1, KsR.ext e _ _ h1⟩
  | ins _ _ => obtain ⟨C, dx, fvs, n, e1, h1⟩ := h; exact ⟨C, dx, fvs, n, k.trans e1, KsR.ext e _ _ h1⟩
  | exn _ => exact h.elim
theorem Sim.tup {S : Store} (s : Sim K ι S H) {p : Addr} {o : HO} (hp : H p = none) : Sim K ι S (upd H p o) :=
  ⟨s.len, s.nd, fun i o' a h1 h2 => by
    have q := s.obj i o' a h1 h2
    obtain ⟨u, hu⟩ := q.there
    exact q.move (ext_tup hp) (by rw [upd_ne (ne_of_none hu hp)])⟩
/-- a new object -/
theorem Sim.new {S : Store} (s : Sim K ι S H) {p : Addr} {o : HO} {m : MO} (hp : H p = none) (h : ObjR K (ι ++ [p]) (upd H p o) p m) : Sim K (ι ++ [p]) (S ++ [m]) (upd H p o) := by
  refine ⟨by simp [s.len], ?_, fun i o' a h1 h2 => ?_⟩
  · refine List.nodup_append.mpr ⟨s.nd, by simp, fun a ha b hb => ?_⟩
    obtain rfl : b = p := by simpa using hb
    obtain ⟨i, hi⟩ := List.getElem?_of_mem ha
    have hl : i < S.length := by rw [← s.len]; exact (List.getElem?_eq_some_iff.mp hi).1
    obtain ⟨u, hu⟩ := (s.obj i _ a (List.getElem?_eq_getElem hl) hi).there
    exact ne_of_none hu hp
  · by_cases hi : i < S.length
    · rw [List.getElem?_append_left hi] at h1
      rw [List.getElem?_append_left (by rw [s.len]; exact hi)] at h2
      have q := s.obj i o' a h1 h2
      obtain ⟨u, hu⟩ := q.there
      exact q.move (ext_new hp) (by rw [upd_ne (ne_of_none hu hp)])
    · have e : i = S.length := by
        have := (List.getElem?_eq_some_iff.mp h1).1
        simp at this; omega
      subst e
      rw [List.getElem?_append_right (Nat.le_refl _)] at h1
      rw [← s.len, List.getElem?_append_right (Nat.le_refl _)] at h2
      simp at h1 h2
      subst h1 h2
      exact h
/-- an object written -/
theorem Sim.put {S : Store} (s : Sim K ι S H) {n : Nat} {p : Addr} {o : HO} {m : MO} (hp : ι[n]? = some p) (h : ObjR K ι (upd H p o) p m) (hx : ∃ u, H p = some u ∧ Mob u) : Sim K ι (S.set n m) (upd H p o) := by
  have hl : n < S.length := by rw [← s.len]; exact (List.getElem?_eq_some_iff.mp hp).1
  obtain ⟨u, hu, hm⟩ := hx
  refine ⟨by simp [s.len], s.nd, fun i o' a h1 h2 => ?_⟩
  by_cases hi : n = i
  · subst hi
    rw [List.getElem?_set_self hl] at h1
    cases h1
    rw [hp] at h2; cases h2
    exact h
  · rw [List.getElem?_set_ne hi] at h1
    have q := s.obj i o' a h1 h2
    refine q.move (ext_mut hu hm) ?_
    rw [upd_ne]
    rintro rfl
    obtain ⟨l1, e1⟩ := List.getElem?_eq_some_iff.mp hp
    obtain ⟨l2, e2⟩ := List.getElem?_eq_some_iff.mp h2
    exact hi ((List.getElem_inj s.nd).mp (e1.trans e2.symm))
end
end Z
namespace Z
open PySem PySem.Spec PyProof.Rows L2
/-! ### readings by meanings -/
abbrev Mg := Str → Option Value
section
variable {K : PySem.W.Frag} {mg : Mg} {ι ι' ι1 ι2 : List Addr} {H H' H1 H2 : Hp}
def EnvR (K : PySem.W.Frag) (ι : List Addr) (H : Hp) (ρ : Env) (σ : L2.St) : Prop := ρ.length = σ.length ∧ ∀ (i : Nat) (d : D), ρ[i]? = some (some d) → ∃ v, σ[i]? = some (some v) ∧ Rep K ι H d v
theorem EnvR.ext {ρ : Env} {σ : L2.St} (e : Ext ι H ι' H') (h : EnvR K ι H ρ σ) : EnvR K ι' H' ρ σ := ⟨h.1, fun i d g => let ⟨v, a, b⟩ := h.2 i d g; ⟨v, a, Rep.ext e _ _ b⟩⟩
theorem EnvR.set {ρ : Env} {σ : L2.St} (h : EnvR K ι H ρ σ) {i : Nat} {d : D} {v : V} (r : Rep K ι H d v) : EnvR K ι H (ρ.set i (some d)) (σ.set i (some v)) := by
  refine ⟨by simp [h.1], fun j e g => ?_⟩
  by_cases hj : i = j
  · subst hj
    by_cases hl : i < ρ.length
    · rw [List.getElem?_set_self hl] at g
      cases g
      exact ⟨v, by rw [List.getElem?_set_self (by rw [← h.1]; exact hl)], r⟩
    · rw [List.getElem?_eq_none (by simpa using hl)] at g; cases g
  · rw [List.getElem?_set_ne hj] at g ⊢
    exact h.2 j e g
theorem EnvR.wipe {ρ : Env} {σ : L2.St} (h : EnvR K ι H ρ σ) : ∀ own : List Nat, EnvR K ι H (Z.wipe ρ own) (L2.wipe σ own)
  | [] => h
  | v :: vs => by
    have q := EnvR.wipe h vs
    refine ⟨by unfold Z.wipe L2.wipe; simp [q.1], fun j e g => ?_⟩
    unfold Z.wipe at g
    unfold L2.wipe
    by_cases hj : v = j
    · subst hj
      by_cases hl : v < (Z.wipe ρ vs).length
      · rw [List.getElem?_set_self hl] at g; cases g
      · rw [List.getElem?_eq_none (by simpa using hl)] at g; cases g
    · rw [List.getElem?_set_ne hj] at g ⊢
      exact q.2 j e g
/-- what is wanted of an outcome -/
def Po {α β : Type} (R : List Addr → Hp → α → β → Prop) (K : PySem.W.Frag) (mg : Mg) (ι : List Addr) (H : Hp) (Q : β → Hp → Prop) (E : XK) : M α → Prop
  | none => False
  | some (.ok a S) => ∀ ι' H' x, Ext ι H ι' H' → Sim K ι' S H' → R ι' H' a x → Q x H'
  | some (.ex c S) => ∀ ι' H' cls, Ext ι H ι' H' → Sim K ι' S H' → mg (Str.ofString c) = some cls → E cls none H'
theorem Po.mono {α β : Type} {R : List Addr → Hp → α → β → Prop} {Q : β → Hp → Prop} {E : XK} (e : Ext ι H ι' H') : ∀ {m : M α}, Po R K mg ι H Q E m → Po R K mg ι' H' Q E m
  | none, h => h
  | some (.ok _ _), h => fun ι2 H2 x e2 s r => h ι2 H2 x (e.trans e2) s r
  | some (.ex _ _), h => fun ι2 H2 x e2 s r => h ι2 H2 x (e.trans e2) s r
theorem Po.imp {α β : Type} {R : List Addr → Hp → α → β → Prop} {Q Q' : β → Hp → Prop} {E : XK} (k : ∀ x H', Q x H' → Q' x H') : ∀ {m : M α}, Po R K mg ι H Q E m → Po R K mg ι H Q' E m
  | none, h => h
  | some (.ok _ _), h => fun ι2 H2 x e2 s r => k _ _ (h ι2 H2 x e2 s r)
  | some (.ex _ _), h => h
/-- the first step of a sequence -/
theorem Po.bd {α β α' β' : Type} {R : List Addr → Hp → α → β → Prop} {R' : List Addr → Hp → α' → β' → Prop} {Q : β → Hp → Prop} {Q' : β' → Hp → Prop} {E : XK} {m : M α} {f : α → Store → M α'}
    (h : Po R' K mg ι H Q' E (Z.bd m f)) (k : ∀ a S ι1 H1 x, Ext ι H ι1 H1 → Sim K ι1 S H1 → R ι1 H1 a x → Po R' K mg ι1 H1 Q' E (f a S) → Q x H1) : Po R K mg ι H Q E m := by
  match m, h with
  | some (.ok a S), h => exact fun ι1 H1 x e s r => k a S ι1 H1 x e s r (Po.mono e h)
  | some (.ex c S), h => exact h
theorem Po.ret {α β : Type} {R : List Addr → Hp → α → β → Prop} {Q : β → Hp → Prop} {E : XK} {a : α} {S : Store} {x : β} (h : Po R K mg ι H Q E (some (.ok a S))) (s : Sim K ι S H) (r : R ι H a x) : Q x H := h ι H x .refl s r
abbrev RB : List Addr → Hp → Bool → Bool → Prop := fun _ _ a b => b = a
/-- outcomes of statements -/
def PoS (K : PySem.W.Frag) (mg : Mg) (W : WX) (ι : List Addr) (H : Hp) (En : Ends) : Option Out → Prop
  | none => False
  | some (.nx ρ S) => ∀ ι' H' σ, Ext ι H ι' H' → Sim K ι' S H' → EnvR K ι' H' ρ σ → En.nx σ H'
  | some (.bk ρ S) => ∀ ι' H' σ, Ext ι H ι' H' → Sim K ι' S H' → EnvR K ι' H' ρ σ → En.bk σ H'
  | some (.ct ρ S) => ∀ ι' H' σ, Ext ι H ι' H' → Sim K ι' S H' → EnvR K ι' H' ρ σ → En.ct σ H'
  | some (.rt d S) => ∀ ι' H' v, Ext ι H ι' H' → Sim K ι' S H' → Rep K ι' H' d v → En.rt v H'
  | some (.ex c ρ S) => ∀ ι' H' σ cls, Ext ι H ι' H' → Sim K ι' S H' → EnvR K ι' H' ρ σ → mg (Str.ofString c) = some cls → W cls none σ H'
theorem PoS.mono {W : WX} {En : Ends} (e : Ext ι H ι' H') : ∀ {o : Option Out}, PoS K mg W ι H En o → PoS K mg W ι' H' En o
  | none, h => h
  | some (.nx _ _), h => fun ι2 H2 σ e2 s r => h ι2 H2 σ (e.trans e2) s r
  | some (.bk _ _), h => fun ι2 H2 σ e2 s r => h ι2 H2 σ (e.trans e2) s r
  | some (.ct _ _), h => fun ι2 H2 σ e2 s r => h ι2 H2 σ (e.trans e2) s r
  | some (.rt _ _), h => fun ι2 H2 v e2 s r => h ι2 H2 v (e.trans e2) s r
  | some (.ex _ _ _), h => fun ι2 H2 σ c e2 s r => h ι2 H2 σ c (e.trans e2) s r
theorem PoS.bo {α β : Type} {R : List Addr → Hp → α → β → Prop} {Q : β → Hp → Prop} {W : WX} {En : Ends} {m : M α} {ρ : Env} {σ : L2.St} {f : α → Store → Option Out} (hρ : EnvR K ι H ρ σ)
    (h : PoS K mg W ι H En (Z.bo m ρ f)) (k : ∀ a S ι1 H1 x, Ext ι H ι1 H1 → Sim K ι1 S H1 → R ι1 H1 a x → EnvR K ι1 H1 ρ σ → PoS K mg W ι1 H1 En (f a S) → Q x H1) : Po R K mg ι H Q (fun cls d H' => W cls d σ H') m := by
  match m, h with
  | some (.ok a S), h => exact fun ι1 H1 x e s r => k a S ι1 H1 x e s r (hρ.ext e) (PoS.mono e h)
  | some (.ex c S), h => exact fun ι1 H1 cls e s g => h ι1 H1 σ cls e s (hρ.ext e) g
end
/-- an expression's, a test's, an argument list's, a statement's reading -/
def tE (K : PySem.W.Frag) (mg : Mg) (W : WX) (m : SE) : TE := fun σ H Q => ∃ ι ρ S, Sim K ι S H ∧ EnvR K ι H ρ σ ∧ Po (Rep K) K mg ι H Q (fun cls d H' => W cls d σ H') (m ρ S)
def tT (K : PySem.W.Frag) (mg : Mg) (W : WX) (m : ST) : TT := fun σ H Q => ∃ ι ρ S, Sim K ι S H ∧ EnvR K ι H ρ σ ∧ Po RB K mg ι H Q (fun cls d H' => W cls d σ H') (m ρ S)
def tA (K : PySem.W.Frag) (mg : Mg) (W : WX) (ms : List SE) : TA := fun σ H Q => ∃ ι ρ S, Sim K ι S H ∧ EnvR K ι H ρ σ ∧ Po (RepL K) K mg ι H Q (fun cls d H' => W cls d σ H') (evL ms ρ S)
def tS (K : PySem.W.Frag) (mg : Mg) (W : WX) (m : SS) : TS := fun En σ H => ∃ ι ρ S, Sim K ι S H ∧ EnvR K ι H ρ σ ∧ PoS K mg W ι H En (m ρ S)
def GE (X : Cx) (W : WX) (e : Expr) (m : SE) : Prop := PE X e (tE X.K X.mg W m)
def GT (X : Cx) (W : WX) (e : Expr) (m : ST) : Prop := PT X e (tT X.K X.mg W m)
def GW (X : Cx) (W : WX) (e : Expr) (m : ST) : Prop := PW X e (tT X.K X.mg W m)
def GA (X : Cx) (W : WX) (es : List Expr) (ms : List SE) : Prop := PA X es (tA X.K X.mg W ms)
def GS (X : Cx) (W : WX) (st : Stmt) (m : SS) : Prop := PS X st (tS X.K X.mg W m)
def GSs (X : Cx) (W : WX) (st : List Stmt) (m : SS) : Prop := PSs X st (tS X.K X.mg W m)
section
variable {X : Cx}
theorem _root_.L2.PE.imp {e : Expr} {t t' : TE} (h : PE X e t) (k : ∀ σ H Q, t' σ H Q → t σ H Q) : PE X e t' := ⟨fun pins s σ H Q I q => h.run pins s σ H Q I (k _ _ _ q)⟩
theorem _root_.L2.PT.imp {e : Expr} {t t' : TT} (h : PT X e t) (k : ∀ σ H Q, t' σ H Q → t σ H Q) : PT X e t' := ⟨fun pins s σ H Q I q => h.run pins s σ H Q I (k _ _ _ q)⟩
theorem _root_.L2.PW.imp {e : Expr} {t t' : TT} (h : PW X e t) (k : ∀ σ H Q, t' σ H Q → t σ H Q) : PW X e t' := ⟨fun wh pins s σ H Q I q => h.run wh pins s σ H Q I (k _ _ _ q)⟩
theorem _root_.L2.PA.imp {es : List Expr} {t t' : TA} (h : PA X es t) (k : ∀ σ H Q, t' σ H Q → t σ H Q) : PA X es t' := ⟨fun pos pins s σ H Q I q => h.run pos pins s σ H Q I (k _ _ _ q)⟩
theorem _root_.L2.PS.imp {st : Stmt} {t t' : TS} (h : PS X st t) (k : ∀ D σ H, t' D σ H → t D σ H) : PS X st t' := ⟨fun pins s σ H D I q => h.run pins s σ H D I (k _ _ _ q)⟩
theorem _root_.L2.PSs.imp {st : List Stmt} {t t' : TS} (h : PSs X st t) (k : ∀ D σ H, t' D σ H → t D σ H) : PSs X st t' := ⟨fun pins s σ H D I q => h.run pins s σ H D I (k _ _ _ q)⟩
variable {W : WX} {a b c e : Expr} {ma mb mc : SE} {pos : Pos}
/-! ### names, constants -/
theorem ge_var (i : Nat) {x : Str} (hN : X.N[i]? = some x := by rfl) (hv : Vis X.env.scope x := by first | exact Or.inl rfl | exact Or.inr (Or.inl rfl) | exact Or.inr (Or.inr rfl)) (hd : (x == ("__debug__" : Str)) = false := by decide)
    (hcd : (x == ("__classdict__" : Str)) = false := by decide) : GE X W (.Name x pos) (eVar i) := (pe_var hN hv hd hcd).imp fun σ H Q ⟨ι, ρ, S, s, r, p⟩ => by
  unfold eVar at p
  cases g : ρ[i]? with
  | none => rw [g] at p; exact p.elim
  | some o =>
    cases o with
    | none => rw [g] at p; exact p.elim
    | some d =>
      rw [g] at p
      obtain ⟨v, hv, hr⟩ := r.2 i d g
      exact ⟨v, hv, Po.ret p s hr⟩
theorem ge_c {v : V} {d : D} (h : PE X e (tC v)) (r : ∀ ι H, Rep X.K ι H d v) : GE X W e (eC d) := h.imp fun σ H Q ⟨ι, ρ, S, s, _, p⟩ => Po.ret p s (r ι H)
theorem ge_int {i j} : GE X W (.Constant (.int i) j pos) (eC (.int i)) := ge_c pe_int fun _ _ => by rw [Rep]
theorem ge_bl {b j} : GE X W (.Constant (.bool b) j pos) (eC (.bl b)) := ge_c pe_bl fun _ _ => by rw [Rep]
theorem ge_non {j} : GE X W (.Constant .none j pos) (eC .non) := ge_c pe_non fun _ _ => by rw [Rep]
theorem ge_str {x : Str} {s : List Nat} {j} (h : x = str s := by decide +kernel) (h2 : (s.all fun c => decide (c < 128)) = true := by decide +kernel) : GE X W (.Constant (.str x) j pos) (eC (.str s)) :=
  ge_c pe_str fun _ _ => by rw [Rep]; exact ⟨by rw [h], fun c hc => of_decide_eq_true (List.all_eq_true.mp h2 c hc)⟩
/-- a constant of the module -/
theorem ge_glob {x : Str} {v : V} {u : Value} {d : D} (hg : Gl X x) (hm : X.mg x = some u) (q : RelV v u) (r : ∀ ι H, Rep X.K ι H d v) (hd : (x == ("__debug__" : Str)) = false := by decide) : GE X W (.Name x pos) (eC d) := ge_c (pe_glob hg hm q hd) r
/-! ### operators by values -/
def r2 (X : Cx) (f : D → D → Store → M D) : R2 := fun x y H Q => ∃ ι S d e, Sim X.K ι S H ∧ Rep X.K ι H d x ∧ Rep X.K ι H e y ∧ Po (Rep X.K) X.K X.mg ι H Q (fun _ _ _ => False) (f d e S)
def NoEx (f : D → D → Store → M D) : Prop := ∀ d e S c S', f d e S ≠ some (.ex c S')
theorem Po.noex {α β : Type} {R : List Addr → Hp → α → β → Prop} {K mg ι H} {Q : β → Hp → Prop} {E E' : XK} {m : M α} (h : Po R K mg ι H Q E m) (n : ∀ c S', m ≠ some (.ex c S')) : Po R K mg ι H Q E' m := by
  match m, h with
  | some (.ok a S), h => exact h
  | some (.ex c S), h => exact absurd rfl (n c S)
theorem e2_read {f : D → D → Store → M D} (n : NoEx f) {σ : L2.St} {H : Hp} {Q : VK} (h : tE X.K X.mg W (e2 f ma mb) σ H Q) : tOp (r2 X f) (tE X.K X.mg W ma) (tE X.K X.mg W mb) σ H Q := by
  obtain ⟨ι, ρ, S, s, r, p⟩ := h
  refine ⟨ι, ρ, S, s, r, Po.bd p fun d S1 ι1 H1 x e1 s1 r1 p1 => ?_⟩
  refine ⟨ι1, ρ, S1, s1, r.ext e1, Po.bd p1 fun d' S2 ι2 H2 y e2 s2 r2 p2 => ?_⟩
  exact ⟨ι2, S2, d, d', s2, Rep.ext e2 _ _ r1, r2, p2.noex fun c S' => n d d' S2 c S'⟩
theorem ge_op {op : Operator} {f : D → D → Store → M D} (n : NoEx f) (ho : OpR X (binaryOp op) (r2 X f)) (ha : GE X W a ma) (hb : GE X W b mb) : GE X W (.BinOp a op b pos) (e2 f ma mb) := (pe_op ho ha hb).imp fun σ H Q h => e2_read n h
theorem ge_cmp {op : CmpOp} {f : D → D → Store → M D} (n : NoEx f) (ho : OpR X (compareOp op) (r2 X f)) (ha : GE X W a ma) (hb : GE X W b mb) (hm : behindInMarks op b = false := by first | exact nobehind _ (by decide) (by decide) | rfl) :
    GE X W (.Compare a [op] [b] pos) (e2 f ma mb) := (pe_cmpR ho ha hb hm).imp fun σ H Q h => e2_read n h
theorem chain_read {f g : D → D → Store → M D} (n : NoEx f) (n' : NoEx g) {σ : L2.St} {H : Hp} {Q : VK} (h : tE X.K X.mg W (eCh f g ma mb mc) σ H Q) : tChain (r2 X f) (r2 X g) (tE X.K X.mg W ma) (tE X.K X.mg W mb) (tE X.K X.mg W mc) σ H Q := by
  obtain ⟨ι, ρ, S, s, r, p⟩ := h
  refine ⟨ι, ρ, S, s, r, Po.bd p fun d S1 ι1 H1 x e1 s1 r1 p1 => ?_⟩
  refine ⟨ι1, ρ, S1, s1, r.ext e1, Po.bd p1 fun d' S2 ι2 H2 y e2 s2 q2 p2 => ?_⟩
  refine ⟨ι2, S2, d, d', s2, Rep.ext e2 _ _ r1, q2, ?_⟩
  refine Po.noex (Po.bd p2 fun z S3 ι3 H3 w e3 s3 r3 p3 => ?_) fun c S' => n d d' S2 c S'
  cases z with
  | bl k =>
    rw [Rep] at r3
    subst r3
    refine ⟨k, rfl, ?_⟩
    cases k with
    | true =>
      rw [if_pos rfl]
      refine ⟨ι3, ρ, S3, s3, ((r.ext e1).ext e2).ext e3, Po.bd p3 fun z4 S4 ι4 H4 u e4 s4 r4 p4 => ?_⟩
      exact ⟨ι4, S4, d', z4, s4, Rep.ext e4 _ _ (Rep.ext e3 _ _ q2), r4, p4.noex fun c S' => n' d' z4 S4 c S'⟩
    | false =>
      rw [if_neg Bool.false_ne_true]
      exact Po.ret p3 s3 (by rw [Rep])
  | _ => exact p3.elim
theorem ge_chain {op op' : CmpOp} {f g : D → D → Store → M D} (n : NoEx f) (n' : NoEx g) (ho : OpR X (compareOp op) (r2 X f)) (ho' : OpR X (compareOp op') (r2 X g)) (ha : GE X W a ma) (hb : GE X W b mb) (hc : GE X W c mc)
    (hm : lastMarks [op, op'] [b, c] = false := by with_unfolding_all rfl) : GE X W (.Compare a [op, op'] [b, c] pos) (eCh f g ma mb mc) := (pe_chain ho ho' ha hb hc hm).imp fun σ H Q h => chain_read n n' h
theorem ge_un {op : UnaryOp} {f : D → Store → M D} (n : ∀ d S c S', f d S ≠ some (.ex c S')) (ho : UnR X (unaryOp op) (fun x H Q => ∃ ι S d, Sim X.K ι S H ∧ Rep X.K ι H d x ∧ Po (Rep X.K) X.K X.mg ι H Q (fun _ _ _ => False) (f d S))) (ha : GE X W a ma) :
    GE X W (.UnaryOp op a pos) (e1 f ma) := (pe_un ho ha).imp fun σ H Q h => by
  obtain ⟨ι, ρ, S, s, r, p⟩ := h
  refine ⟨ι, ρ, S, s, r, Po.bd p fun d S1 ι1 H1 x e1 s1 r1 p1 => ?_⟩
  exact ⟨ι1, S1, d, s1, r1, p1.noex fun c S' => n d S1 c S'⟩
/-! ### arguments, displays -/
theorem ga_nil : GA X W [] [] := pa_nil.imp fun σ H Q ⟨ι, ρ, S, s, r, p⟩ => Po.ret p s (by rw [RepL])
theorem ga_cons {es : List Expr} {ms : List SE} (ha : GE X W e ma) (hr : GA X W es ms) (hs : starEach (e :: es) X.env = (false, eval e X.env) :: starEach es X.env := by rfl) : GA X W (e :: es) (ma :: ms) := (pa_cons ha hr hs).imp fun σ H Q h => by
  obtain ⟨ι, ρ, S, s, r, p⟩ := h
  refine ⟨ι, ρ, S, s, r, Po.bd p fun d S1 ι1 H1 x e1 s1 r1 p1 => ?_⟩
  refine ⟨ι1, ρ, S1, s1, r.ext e1, Po.bd p1 fun ds S2 ι2 H2 ys e2 s2 r2 p2 => ?_⟩
  exact Po.ret p2 s2 (by rw [RepL]; exact ⟨x, ys, rfl, Rep.ext e2 _ _ r1, r2⟩)
theorem evL_length : ∀ {ms : List SE} {ρ : Env} {S S' : Store} {ds : List D}, evL ms ρ S = some (.ok ds S') → ds.length = ms.length
  | [], _, _, _, _, h => by cases h; rfl
  | m :: ms, ρ, S, S', ds, h => by
    unfold evL at h
    match g : m ρ S, h with
    | some (.ok x S1), h =>
      simp only [bd_ok] at h
      match g2 : evL ms ρ S1, h with
      | some (.ok xs S2), h =>
        simp only [bd_ok] at h
        cases h
        simp [evL_length g2]
      | some (.ex _ _), h => simp at h
      | none, h => simp at h
    | some (.ex _ _), h => simp at h
    | none, h => simp at h
theorem Po.evL {ms : List SE} {ρ : Env} {S : Store} {ι : List Addr} {H : Hp} {α' β' : Type} {R' : List Addr → Hp → α' → β' → Prop} {Q : List V → Hp → Prop} {Q' : β' → Hp → Prop} {E : XK} {f : List D → Store → M α'}
    (h : Po R' X.K X.mg ι H Q' E (Z.bd (Z.evL ms ρ S) f)) (k : ∀ ds S ι1 H1 vs, ds.length = ms.length → Ext ι H ι1 H1 → Sim X.K ι1 S H1 → RepL X.K ι1 H1 ds vs → Po R' X.K X.mg ι1 H1 Q' E (f ds S) → Q vs H1) : Po (RepL X.K) X.K X.mg ι H Q E (Z.evL ms ρ S) := by
  match g : Z.evL ms ρ S, h with
  | some (.ok a S), h => exact fun ι1 H1 x e s r => k a S ι1 H1 x (evL_length g) e s r (Po.mono e h)
  | some (.ex c S), h => exact h
  | none, h => exact h
theorem Sim.newTup {K : PySem.W.Frag} {mg : Mg} {ι : List Addr} {S : Store} {H : Hp} {ds : List D} {vs : List V} {Q : VK} {E : XK} {p : Addr} (s : Sim K ι S H) (hp : H p = none) (r : RepL K ι H ds vs) (po : Po (Rep K) K mg ι H Q E (some (.ok (.tup ds) S))) : NewT H p vs Q := by
  cases c : ds.all k0
  · refine .inr fun o ho => ?_
    have e := ext_tup (ι := ι) (o := .frz o (.tup vs)) hp
    exact Po.ret (Po.mono e po) (s.tup hp) (by rw [Rep]; exact ⟨p, vs, rfl, by rw [c]; exact ⟨o, ho, upd_same⟩, RepL.ext e _ _ r⟩)
  · refine .inl ?_
    have e := ext_tup (ι := ι) (o := .tup vs) hp
    exact Po.ret (Po.mono e po) (s.tup hp) (by rw [Rep]; exact ⟨p, vs, rfl, by rw [c]; exact upd_same, RepL.ext e _ _ r⟩)
theorem ge_tup {es : List Expr} {ms : List SE} {x1} (h : GA X W es ms) (hl : ms.length ≤ 1000 := by exact Nat.le_of_ble_eq_true rfl) : GE X W (.Tuple es x1 pos) (eTup ms) := (pe_tup2 h).imp fun σ H Q h => by
  obtain ⟨ι, ρ, S, s, r, p⟩ := h
  refine ⟨ι, ρ, S, s, r, Po.evL p fun ds S1 ι1 H1 vs hd e1 s1 r1 p1 => ⟨?_, fun q hq => ?_⟩⟩
  · rw [r1.length, hd]; exact Nat.le_trans hl (by decide)
  · exact s1.newTup hq r1 p1
theorem Sim.newL {K : PySem.W.Frag} {ι : List Addr} {S : Store} {H : Hp} (s : Sim K ι S H) {p : Addr} {ds : List D} {vs : List V} (hp : H p = none) (r : RepL K ι H ds vs) : Sim K (ι ++ [p]) (S ++ [.lst ds]) (upd H p (.lst vs)) :=
  s.new hp ⟨vs, upd_same, RepL.ext (ext_new hp) _ _ r⟩
theorem Rep.newL {K : PySem.W.Frag} {ι : List Addr} {S : Store} {H H' : Hp} (s : Sim K ι S H) {p : Addr} : Rep K (ι ++ [p]) H' (.ref S.length) (.ref p) := by
  rw [Rep]
  exact ⟨p, rfl, by rw [← s.len, List.getElem?_append_right (Nat.le_refl _)]; simp⟩
theorem ge_lst {es : List Expr} {ms : List SE} (h : GA X W es ms) (hl : ms.length ≤ 1000 := by exact Nat.le_of_ble_eq_true rfl) : GE X W (.List es pos) (eLst ms) := (pe_lst h).imp fun σ H Q h => by
  obtain ⟨ι, ρ, S, s, r, p⟩ := h
  refine ⟨ι, ρ, S, s, r, Po.evL p fun ds S1 ι1 H1 vs hd e1 s1 r1 p1 => ⟨?_, fun q hq => ?_⟩⟩
  · rw [r1.length, hd]; exact Nat.le_trans hl (by decide)
  · exact Po.ret (Po.mono (ext_new (t := [q]) (o := .lst vs) hq) p1) (s1.newL hq r1) (Rep.newL s1)
/-! ### calls -/
/-- what a def promises: its meaning -/
def spF (K : PySem.W.Frag) (mg : Mg) (F : Fn) : Sp := fun vs H Q E => ∃ ι S ds, Sim K ι S H ∧ RepL K ι H ds vs ∧ Po (Rep K) K mg ι H Q E (F ds S)
/-- a def of the module -/
structure GF (P : Program) (w : World) (K : PySem.W.Frag) (mg : Mg) (base : Heap) (x : Str) (k : Nat) (F : Fn) : Prop where
  ex : ∃ f fd ps, mg x = some (.ref f) ∧ PySem.W.keepIn K (.ref f) = true ∧ Binds K fd ps [] ∧ FnG P w K mg base (L2.CX P w) k f fd ps (spF K mg F)
theorem ge_call {x : Str} {p : Pos} {k : Nat} {F : Fn} {es : List Expr} {ms : List SE} (G : GF X.prog X.w X.K X.mg X.base x k F) (hr : RoomG k X.A) (tk : Takes X W) (hg : Gl X x) (ha : GA X W (e :: es) ms)
    (hdb : (x == ("__debug__" : Str)) = false := by decide) (he : starEach (e :: es) X.env = (false, eval e X.env) :: starEach es X.env := by rfl) (hpl : (backTo pos (starEach es X.env)).any (·.1) = false := by rfl) :
    GE X W (.Call (.Name x p) (e :: es) [] pos) (eCall F ms) := by
  obtain ⟨f, fd, ps, hm, hk, hb, G⟩ := G.ex
  refine (pe_callG (E := fun σ cls d H' => W cls d σ H') G hr hg hm hk hb .nil (fun σ => passAt tk σ) ha hdb he hpl).imp fun σ H Q h => ?_
  obtain ⟨ι, ρ, S, s, r, p⟩ := h
  refine ⟨ι, ρ, S, s, r, Po.evL p fun ds S1 ι1 H1 vs hd e1 s1 r1 p1 => ?_⟩
  rw [List.append_nil]
  exact ⟨ι1, S1, ds, s1, r1, p1⟩
/-- a built-in by values -/
def rB (X : Cx) (F : Fn) : List V → Hp → VK → Prop := fun vs H Q => ∃ ι S ds, Sim X.K ι S H ∧ RepL X.K ι H ds vs ∧ Po (Rep X.K) X.K X.mg ι H Q (fun _ _ _ => False) (F ds S)
def NoExF (F : Fn) : Prop := ∀ ds S c S', F ds S ≠ some (.ex c S')
theorem ge_callB {x : Str} {id : String} {p : Pos} {F : Fn} {es : List Expr} {ms : List SE} (n : NoExF F) (hc : CallR X (.builtin id) (rB X F)) (hg : Gl X x) (hm : X.mg x = none) (hv : bootBuiltins x = some (.builtin id)) (ha : GA X W (e :: es) ms)
    (hn : x ≠ "__name__" := by decide) (hdb : (x == ("__debug__" : Str)) = false := by decide) (he : starEach (e :: es) X.env = (false, eval e X.env) :: starEach es X.env := by rfl) (hpl : (backTo pos (starEach es X.env)).any (·.1) = false := by rfl) :
    GE X W (.Call (.Name x p) (e :: es) [] pos) (eCall F ms) := (pe_callB hc hg hm hv ha hn hdb he hpl).imp fun σ H Q h => by
  obtain ⟨ι, ρ, S, s, r, p⟩ := h
  refine ⟨ι, ρ, S, s, r, Po.evL p fun ds S1 ι1 H1 vs hd e1 s1 r1 p1 => ?_⟩
  exact ⟨ι1, S1, ds, s1, r1, p1.noex fun c S' => n ds S1 c S'⟩
theorem ge_callTy {x : Str} {T : String} {p : Pos} {F : Fn} {es : List Expr} {ms : List SE} (n : NoExF F) (hc : CallR X (.type T) (rB X F)) (hg : Gl X x) (hm : X.mg x = none) (hv : bootBuiltins x = some (.type T)) (ha : GA X W (e :: es) ms)
    (hn : x ≠ "__name__" := by decide) (hdb : (x == ("__debug__" : Str)) = false := by decide) (he : starEach (e :: es) X.env = (false, eval e X.env) :: starEach es X.env := by rfl) (hpl : (backTo pos (starEach es X.env)).any (·.1) = false := by rfl) :
    GE X W (.Call (.Name x p) (e :: es) [] pos) (eCall F ms) := (pe_callTy hc hg hm hv ha hn hdb he hpl).imp fun σ H Q h => by
  obtain ⟨ι, ρ, S, s, r, p⟩ := h
  refine ⟨ι, ρ, S, s, r, Po.evL p fun ds S1 ι1 H1 vs hd e1 s1 r1 p1 => ?_⟩
  exact ⟨ι1, S1, ds, s1, r1, p1.noex fun c S' => n ds S1 c S'⟩
/-! ### and, or, not; tests -/
theorem ge_one {op} (h : GE X W a ma) : GE X W (.BoolOp op [a] pos) ma := pe_one h
theorem ge_and {rest : List Expr} (ha : GE X W a ma) (hb : GE X W (.BoolOp .And (b :: rest) pos) mb) : GE X W (.BoolOp .And (a :: b :: rest) pos) (eAnd ma mb) := (pe_and ha hb).imp fun σ H Q h => by
  obtain ⟨ι, ρ, S, s, r, p⟩ := h
  refine ⟨ι, ρ, S, s, r, Po.bd p fun d S1 ι1 H1 x e1 s1 r1 p1 => ?_⟩
  cases d with
  | bl k =>
    rw [Rep] at r1
    refine ⟨k, r1, ?_⟩
    cases k with
    | true => rw [if_pos rfl]; exact ⟨ι1, ρ, S1, s1, r.ext e1, p1⟩
    | false => rw [if_neg Bool.false_ne_true]; exact Po.ret p1 s1 (by rw [Rep])
  | _ => exact p1.elim
theorem ge_or {rest : List Expr} (ha : GE X W a ma) (hb : GE X W (.BoolOp .Or (b :: rest) pos) mb) : GE X W (.BoolOp .Or (a :: b :: rest) pos) (eOr ma mb) := (pe_or ha hb).imp fun σ H Q h => by
  obtain ⟨ι, ρ, S, s, r, p⟩ := h
  refine ⟨ι, ρ, S, s, r, Po.bd p fun d S1 ι1 H1 x e1 s1 r1 p1 => ?_⟩
  cases d with
  | bl k =>
    rw [Rep] at r1
    refine ⟨k, r1, ?_⟩
    cases k with
    | false => rw [if_neg Bool.false_ne_true]; exact ⟨ι1, ρ, S1, s1, r.ext e1, p1⟩
    | true => rw [if_pos rfl]; exact Po.ret p1 s1 (by rw [Rep])
  | _ => exact p1.elim
theorem ge_not (ha : GE X W a ma) : GE X W (.UnaryOp .Not a pos) (eNot ma) := (pe_not ha).imp fun σ H Q h => by
  obtain ⟨ι, ρ, S, s, r, p⟩ := h
  refine ⟨ι, ρ, S, s, r, Po.bd p fun d S1 ι1 H1 x e1 s1 r1 p1 => ?_⟩
  cases d with
  | bl k =>
    rw [Rep] at r1
    exact ⟨k, r1, Po.ret p1 s1 (by rw [Rep])⟩
  | _ => exact p1.elim
theorem tVal_read {m : SE} {σ : L2.St} {H : Hp} {Q : Bool → Hp → Prop} (h : tT X.K X.mg W (tVal m) σ H Q) : tE X.K X.mg W m σ H fun x H1 => ∃ k, x = .bl k ∧ Q k H1 := by
  obtain ⟨ι, ρ, S, s, r, p⟩ := h
  refine ⟨ι, ρ, S, s, r, Po.bd p fun d S1 ι1 H1 x e1 s1 r1 p1 => ?_⟩
  cases d with
  | bl k =>
    rw [Rep] at r1
    exact ⟨k, r1, Po.ret p1 s1 rfl⟩
  | _ => exact p1.elim
/-- an expression that gives True or False, as a test -/
theorem gt_val {m : SE} (h : GE X W e m) (he : ∀ whole, isTrue e X.env whole = (do let v ← whole; standAt e.pos; holding [v] (truthy v)) := by intro _; rfl) : GT X W e (tVal m) := (pt_val h he).imp fun σ H Q h => tVal_read h
theorem gt_cmp {op : CmpOp} {f : D → D → Store → M D} (n : NoEx f) (ho : OpR X (compareOp op) (r2 X f)) (ha : GE X W a ma) (hb : GE X W b mb) (hm : behindInMarks op b = false := by first | exact nobehind _ (by decide) (by decide) | rfl) :
    GT X W (.Compare a [op] [b] pos) (tVal (e2 f ma mb)) := (pt_cmpR ho ha hb hm).imp fun σ H Q h => e2_read n (tVal_read h)
theorem gt_chain {op op' : CmpOp} {f g : D → D → Store → M D} (n : NoEx f) (n' : NoEx g) (ho : OpR X (compareOp op) (r2 X f)) (ho' : OpR X (compareOp op') (r2 X g)) (ha : GE X W a ma) (hb : GE X W b mb) (hc : GE X W c mc)
    (hm : lastMarks [op, op'] [b, c] = false := by with_unfolding_all rfl) : GT X W (.Compare a [op, op'] [b, c] pos) (tVal (eCh f g ma mb mc)) := (pt_chain ho ho' ha hb hc hm).imp fun σ H Q h => chain_read n n' (tVal_read h)
variable {ta tb : ST}
theorem gw_and1 (ha : GT X W a ta) : GW X W (.BoolOp .And [a] pos) ta := pw_and1 ha
theorem gw_or1 (ha : GT X W a ta) : GW X W (.BoolOp .Or [a] pos) ta := pw_or1 ha
theorem gw_and {rest : List Expr} (ha : GT X W a ta) (hb : GW X W (.BoolOp .And (b :: rest) pos) tb) : GW X W (.BoolOp .And (a :: b :: rest) pos) (tAnd ta tb) := (pw_and ha hb).imp fun σ H Q h => by
  obtain ⟨ι, ρ, S, s, r, p⟩ := h
  refine ⟨ι, ρ, S, s, r, Po.bd p fun d S1 ι1 H1 x e1 s1 r1 p1 => ?_⟩
  obtain rfl : x = d := r1
  cases x with
  | true => rw [if_pos rfl] at p1 ⊢; exact ⟨ι1, ρ, S1, s1, r.ext e1, p1⟩
  | false => rw [if_neg Bool.false_ne_true] at p1 ⊢; exact Po.ret p1 s1 rfl
theorem gw_or {rest : List Expr} (ha : GT X W a ta) (hb : GW X W (.BoolOp .Or (b :: rest) pos) tb) : GW X W (.BoolOp .Or (a :: b :: rest) pos) (tOr ta tb) := (pw_or ha hb).imp fun σ H Q h => by
  obtain ⟨ι, ρ, S, s, r, p⟩ := h
  refine ⟨ι, ρ, S, s, r, Po.bd p fun d S1 ι1 H1 x e1 s1 r1 p1 => ?_⟩
  obtain rfl : x = d := r1
  cases x with
  | true => rw [if_pos rfl] at p1 ⊢; exact Po.ret p1 s1 rfl
  | false => rw [if_neg Bool.false_ne_true] at p1 ⊢; exact ⟨ι1, ρ, S1, s1, r.ext e1, p1⟩
theorem GW.gt (h : GW X W e ta) : GT X W e ta := L2.PW.pt h
theorem gt_not (ha : GT X W a ta) : GT X W (.UnaryOp .Not a pos) (tNot ta) := (pt_not ha).imp fun σ H Q h => by
  obtain ⟨ι, ρ, S, s, r, p⟩ := h
  refine ⟨ι, ρ, S, s, r, Po.bd p fun d S1 ι1 H1 x e1 s1 r1 p1 => ?_⟩
  obtain rfl : x = d := r1
  exact Po.ret p1 s1 rfl
theorem ge_ifExp (hc : GT X W c ta) (ha : GE X W a ma) (hb : GE X W b mb) : GE X W (.IfExp c a b pos) (eIf ta ma mb) := (pe_ifExp hc ha hb).imp fun σ H Q h => by
  obtain ⟨ι, ρ, S, s, r, p⟩ := h
  refine ⟨ι, ρ, S, s, r, Po.bd p fun d S1 ι1 H1 x e1 s1 r1 p1 => ?_⟩
  obtain rfl : x = d := r1
  cases x with
  | true => rw [if_pos rfl] at p1 ⊢; exact ⟨ι1, ρ, S1, s1, r.ext e1, p1⟩
  | false => rw [if_neg Bool.false_ne_true] at p1 ⊢; exact ⟨ι1, ρ, S1, s1, r.ext e1, p1⟩
end
end Z
namespace Z
open PySem PySem.Spec PyProof.Rows L2
section
variable {X : Cx} {W : WX} {a b c e : Expr} {ma mb mc : SE} {pos : Pos}
/-! ### statements -/
theorem gss_nil : GSs X W [] sNx := pss_nil.imp fun D σ H ⟨ι, ρ, S, s, r, p⟩ => p ι H σ .refl s r
theorem gss_cons {st : Stmt} {rest : List Stmt} {m m' : SS} (h1 : GS X W st m) (h2 : GSs X W rest m') : GSs X W (st :: rest) (sq m m') := (pss_cons h1 h2).imp fun D σ H ⟨ι, ρ, S, s, r, p⟩ => by
  refine ⟨ι, ρ, S, s, r, ?_⟩
  unfold sq at p
  match g : m ρ S, p with
  | none, p => exact p
  | some (.nx ρ1 S1), p => exact fun ι1 H1 σ1 e1 s1 r1 => ⟨ι1, ρ1, S1, s1, r1, PoS.mono e1 p⟩
  | some (.rt d S1), p => exact p
  | some (.bk ρ1 S1), p => exact p
  | some (.ct ρ1 S1), p => exact p
  | some (.ex c ρ1 S1), p => exact p
theorem gss_one {st : Stmt} {m : SS} (h1 : GS X W st m) : GSs X W [st] m := pss_one h1
theorem gs_pass : GS X W (.Pass pos) sNx := ps_pass.imp fun D σ H ⟨ι, ρ, S, s, r, p⟩ => p ι H σ .refl s r
theorem gs_break : GS X W (.Break pos) sBk := ps_break.imp fun D σ H ⟨ι, ρ, S, s, r, p⟩ => p ι H σ .refl s r
theorem gs_continue : GS X W (.Continue pos) sCt := ps_continue.imp fun D σ H ⟨ι, ρ, S, s, r, p⟩ => p ι H σ .refl s r
theorem gs_expr (he : GE X W e ma) (hs : swapsWith e none pos.line X.env = pure false := by rfl) : GS X W (.Expr e pos) (sExp ma) := (ps_expr he hs).imp fun D σ H ⟨ι, ρ, S, s, r, p⟩ =>
  ⟨ι, ρ, S, s, r, PoS.bo r p fun d S1 ι1 H1 x e1 s1 r1 r2 p1 => p1 ι1 H1 σ .refl s1 r2⟩
theorem gs_ret (he : GE X W e ma) : GS X W (.Return (some e) pos) (sRet ma) := (ps_ret he).imp fun D σ H ⟨ι, ρ, S, s, r, p⟩ =>
  ⟨ι, ρ, S, s, r, PoS.bo r p fun d S1 ι1 H1 x e1 s1 r1 r2 p1 => p1 ι1 H1 x .refl s1 r1⟩
theorem gs_if {t : ST} {p q : List Stmt} {m m' : SS} (hc : GT X W c t) (ha : GSs X W p m) (hb : GSs X W q m') : GS X W (.If c p q pos) (sIf t m m') := (ps_if hc ha hb).imp fun D σ H ⟨ι, ρ, S, s, r, p⟩ => by
  refine ⟨ι, ρ, S, s, r, PoS.bo r p fun d S1 ι1 H1 x e1 s1 r1 r2 p1 => ?_⟩
  obtain rfl : x = d := r1
  cases x with
  | true => rw [if_pos rfl] at p1 ⊢; exact ⟨ι1, ρ, S1, s1, r2, p1⟩
  | false => rw [if_neg Bool.false_ne_true] at p1 ⊢; exact ⟨ι1, ρ, S1, s1, r2, p1⟩
/-! ### targets -/
/-- σ' is σ but at these places -/
def Off (sl : List Nat) (σ σ' : L2.St) : Prop := σ'.length = σ.length ∧ ∀ i, i ∉ sl → σ'[i]? = σ[i]?
theorem Off.refl {sl : List Nat} {σ : L2.St} : Off sl σ σ := ⟨rfl, fun _ _ => rfl⟩
theorem Off.trans {sl sl' : List Nat} {σ σ' σ'' : L2.St} (a : Off sl σ σ') (b : Off sl' σ' σ'') : Off (sl ++ sl') σ σ'' :=
  ⟨b.1.trans a.1, fun i h => by simp only [List.mem_append, not_or] at h; exact (b.2 i h.2).trans (a.2 i h.1)⟩
theorem wipe_get (σ : L2.St) : ∀ (vs : List Nat) (i : Nat), (L2.wipe σ vs)[i]? = if i ∈ vs ∧ i < σ.length then some none else σ[i]?
  | [], i => by simp [L2.wipe]
  | v :: vs, i => by
    unfold L2.wipe
    by_cases hv : v = i
    · subst hv
      by_cases hl : v < σ.length
      · rw [List.getElem?_set_self (by rw [L2.wipe_length]; exact hl)]
        simp [hl]
      · rw [List.getElem?_eq_none (by simp [L2.wipe_length]; omega)]
        simp [hl]
    · rw [List.getElem?_set_ne hv, wipe_get σ vs i]
      have : (i ∈ v :: vs) ↔ i ∈ vs := by simp [Ne.symm hv]
      simp [this]
theorem Off.wipe {sl own : List Nat} {σ σ' : L2.St} (h : Off sl σ σ') (k : ∀ i ∈ sl, i ∈ own) : L2.wipe σ' own = L2.wipe σ own := by
  apply List.ext_getElem?
  intro i
  rw [wipe_get, wipe_get, h.1]
  by_cases hi : i ∈ own
  · by_cases hl : i < σ.length
    · simp [hi, hl]
    · have h1 : σ[i]? = none := List.getElem?_eq_none (by omega)
      have h2 : σ'[i]? = none := List.getElem?_eq_none (by rw [h.1]; omega)
      simp [hl, h1, h2]
  · simp only [hi, false_and, if_false]
    exact h.2 i fun z => hi (k i z)
def tG (K : PySem.W.Frag) (g : SG) (sl : List Nat) : TG := fun v σ H Q => ∃ ι ρ S d ρ' S', Sim K ι S H ∧ EnvR K ι H ρ σ ∧ Rep K ι H d v ∧ g d ρ S = some (ρ', S') ∧
  ∀ ι' H' σ', Ext ι H ι' H' → Sim K ι' S' H' → EnvR K ι' H' ρ' σ' → Off sl σ σ' → Q σ' H'
def tGs (K : PySem.W.Frag) (gs : List SG) (sl : List Nat) : TGs := fun vs σ H Q => ∃ ι ρ S ds ρ' S', Sim K ι S H ∧ EnvR K ι H ρ σ ∧ RepL K ι H ds vs ∧ gAll gs ds ρ S = some (ρ', S') ∧
  ∀ ι' H' σ', Ext ι H ι' H' → Sim K ι' S' H' → EnvR K ι' H' ρ' σ' → Off sl σ σ' → Q σ' H'
def GG (X : Cx) (e : Expr) (g : SG) (sl : List Nat) : Prop := PG X e (tG X.K g sl)
def GGs (X : Cx) (es : List Expr) (gs : List SG) (sl : List Nat) : Prop := PGs X es (tGs X.K gs sl)
theorem _root_.L2.PG.imp {e : Expr} {t t' : TG} (h : PG X e t) (k : ∀ v σ H Q, t' v σ H Q → t v σ H Q) : PG X e t' := ⟨fun pins s σ H v u Q I r q => h.run pins s σ H v u Q I r (k _ _ _ _ q)⟩
theorem _root_.L2.PGs.imp {es : List Expr} {t t' : TGs} (h : PGs X es t) (k : ∀ v σ H Q, t' v σ H Q → t v σ H Q) : PGs X es t' := ⟨fun pins s σ H v u Q I r q => h.run pins s σ H v u Q I r (k _ _ _ _ q)⟩
theorem gg_name (i : Nat) {x : Str} (hN : X.N.Nodup) (hi : X.N[i]? = some x := by rfl) (hx : Loc X.env.scope x := by first | exact Or.inl rfl | exact Or.inr rfl) (hf : X.fn x = true ∨ X.env.scope.names.lookup x = some .local := by first | exact .inl rfl | exact .inr rfl) : GG X (.Name x pos) (gName i) [i] :=
  (pg_name hN hi hx hf).imp fun v σ H Q ⟨ι, ρ, S, d, ρ', S', s, r, rd, g, k⟩ => by
    unfold Z.gName at g
    cases g
    exact k ι H _ .refl s (r.set rd) ⟨by simp, fun j hj => by rw [List.getElem?_set_ne (by rintro rfl; simp at hj)]⟩
theorem ggs_nil : GGs X [] [] [] := pgs_nil.imp fun vs σ H Q ⟨ι, ρ, S, ds, ρ', S', s, r, rd, g, k⟩ => by
  match ds, g with
  | [], g =>
    unfold gAll at g
    cases g
    rw [RepL] at rd
    exact ⟨rd, k ι H σ .refl s r .refl⟩
  | _ :: _, g => unfold gAll at g; cases g
theorem ggs_cons {es : List Expr} {g : SG} {gs : List SG} {sl sl' : List Nat} (h1 : GG X e g sl) (h2 : GGs X es gs sl')
    (hs : (assignEach (e :: es) X.env).map (·.2) = assign e X.env :: (assignEach es X.env).map (·.2) := by rfl) : GGs X (e :: es) (g :: gs) (sl ++ sl') := (pgs_cons h1 h2 hs).imp fun vs σ H Q ⟨ι, ρ, S, ds, ρ', S', s, r, rd, q, k⟩ => by
  match ds, q with
  | [], q => unfold gAll at q; cases q
  | d :: ds, q =>
    unfold gAll at q
    rw [RepL] at rd
    obtain ⟨v, vr, rfl, rv, rr⟩ := rd
    refine ⟨v, vr, rfl, ?_⟩
    match q1 : g d ρ S, q with
    | some (ρ1, S1), q =>
      refine ⟨ι, ρ, S, d, ρ1, S1, s, r, rv, q1, fun ι1 H1 σ1 e1 s1 r1 o1 => ?_⟩
      exact ⟨ι1, ρ1, S1, ds, ρ', S', s1, r1, RepL.ext e1 _ _ rr, q, fun ι2 H2 σ2 e2 s2 r2 o2 => k ι2 H2 σ2 (e1.trans e2) s2 r2 (o1.trans o2)⟩
theorem gAll_len : ∀ {gs : List SG} {ds : List D} {ρ : Env} {S : Store} {o : Env × Store}, gAll gs ds ρ S = some o → ds.length = gs.length
  | [], [], _, _, _, _ => rfl
  | [], _ :: _, _, _, _, h => by unfold gAll at h; cases h
  | _ :: _, [], _, _, _, h => by unfold gAll at h; cases h
  | g :: gs, d :: ds, ρ, S, o, h => by
    unfold gAll at h
    match q : g d ρ S, h with
    | some (ρ1, S1), h => simp [gAll_len h]
theorem gg_tup {es : List Expr} {k : Nat} {gs : List SG} {sl : List Nat} (hc : X.calm = true) (h : GGs X es gs sl) (hn : (assignEach es X.env).length = gs.length := by rfl) (hst : (assignEach es X.env).findIdx? (·.1) = none := by rfl) : GG X (.Tuple es k pos) (Z.gTup gs) sl :=
  (pg_tup (n := gs.length) hc h hn hst).imp fun v σ H Q ⟨ι, ρ, S, d, ρ', S', s, r, rd, q, k⟩ => by
    match d, q with
    | .tup ds, q =>
      rw [Rep] at rd
      obtain ⟨a, vs, rfl, h1, h2⟩ := rd
      have q' : gAll gs ds ρ S = some (ρ', S') := q
      exact ⟨a, vs, rfl, h1.sq, by rw [h2.length, gAll_len q'], ι, ρ, S, ds, ρ', S', s, r, h2, q', k⟩
theorem gs_asg {tg : Expr} {g : SG} {sl : List Nat} (he : GE X W e ma) (hg : GG X tg g sl) (hs : swapsWithSole [tg] e pos.line X.env = pure false := by rfl) (hw : swappedStores [tg] e X.env = pure none := by rfl)
    (h1 : (assignEach [tg] X.env).map (·.2) = [assign tg X.env] := by rfl) : GS X W (.Assign [tg] e pos) (sAsg ma g) := (ps_asg he hg hs hw h1).imp fun D σ H ⟨ι, ρ, S, s, r, p⟩ => by
  refine ⟨ι, ρ, S, s, r, PoS.bo r p fun d S1 ι1 H1 x e1 s1 r1 r2 p1 => ?_⟩
  match q : g d ρ S1, p1 with
  | some (ρ2, S2), p1 => exact ⟨ι1, ρ, S1, d, ρ2, S2, s1, r2, r1, q, fun ι2 H2 σ2 e2 s2 r3 _ => p1 ι2 H2 σ2 e2 s2 r3⟩
theorem gs_set (i : Nat) {x : Str} {pos' : Pos} (hN : X.N.Nodup) (he : GE X W e ma) (hi : X.N[i]? = some x := by rfl) (hx : Loc X.env.scope x := by first | exact Or.inl rfl | exact Or.inr rfl) (hs : swapsWith e (some (.Name x pos')) pos.line X.env = pure false := by rfl) (hf : X.fn x = true ∨ X.env.scope.names.lookup x = some .local := by first | exact .inl rfl | exact .inr rfl) :
    GS X W (.Assign [.Name x pos'] e pos) (sAsg ma (Z.gName i)) := (ps_set hN hi hx he hs hf).imp fun D σ H ⟨ι, ρ, S, s, r, p⟩ => by
  refine ⟨ι, ρ, S, s, r, PoS.bo r p fun d S1 ι1 H1 x e1 s1 r1 r2 p1 => ?_⟩
  exact p1 ι1 H1 _ .refl s1 (r2.set r1)
theorem gs_aug (i : Nat) {x : Str} {op : Operator} {f : D → D → Store → M D} {pos' : Pos} (hN : X.N.Nodup) (n : NoEx f) (ho : OpR X (inplaceOp op) (r2 X f)) (he : GE X W e ma) (hi : X.N[i]? = some x := by rfl) (hx : Loc X.env.scope x := by first | exact Or.inl rfl | exact Or.inr rfl) (hf : X.fn x = true ∨ X.env.scope.names.lookup x = some .local := by first | exact .inl rfl | exact .inr rfl) :
    GS X W (.AugAssign (.Name x pos') op e pos) (sAug i f ma) := (ps_aug (ti := fun x y H Q => r2 X f x y H Q) hN hi hx he (fun pins s σ H x y v u Q I r1 r2 h => ho pins s σ H x y v u Q I r1 r2 h) hf).imp fun D σ H ⟨ι, ρ, S, s, r, p⟩ => by
  unfold sAug e2 eVar at p
  cases g : ρ[i]? with
  | none => rw [g] at p; exact p.elim
  | some o =>
    cases o with
    | none => rw [g] at p; exact p.elim
    | some d =>
      rw [g] at p
      simp only [bd_ok] at p
      obtain ⟨v, hv, hr⟩ := r.2 i d g
      refine ⟨v, hv, ι, ρ, S, s, r, ?_⟩
      match q : ma ρ S, p with
      | none, p => exact p
      | some (.ex _ _), p => exact fun ι1 H1 cls e1 s1 g1 => p ι1 H1 σ cls e1 s1 (r.ext e1) g1
      | some (.ok d2 S2), p =>
        simp only [bd_ok] at p
        intro ι2 H2 y e2 s2 q2
        refine ⟨ι2, S2, d, d2, s2, Rep.ext e2 _ _ hr, q2, ?_⟩
        have p := PoS.mono e2 p
        match q3 : f d d2 S2, p with
        | none, p => exact p
        | some (.ex c S'), p => exact absurd q3 (n _ _ _ _ _)
        | some (.ok z S3), p => exact fun ι3 H3 w e3 s3 r3 => p ι3 H3 _ e3 s3 (((r.ext e2).ext e3).set r3)
/-! ### while -/
/-- the loop ends within n turns, so -/
def whN (t : ST) (b : SS) : Nat → Env → Store → Out → Prop
  | 0, _, _, _ => False
  | n + 1, ρ, S, o => match t ρ S with
    | none => False
    | some (.ex c S1) => o = .ex c ρ S1
    | some (.ok false S1) => o = .nx ρ S1
    | some (.ok true S1) => match b ρ S1 with
      | none => False
      | some (.nx ρ2 S2) => whN t b n ρ2 S2 o
      | some (.ct ρ2 S2) => whN t b n ρ2 S2 o
      | some (.bk ρ2 S2) => o = .nx ρ2 S2
      | some (.rt d S2) => o = .rt d S2
      | some (.ex c ρ2 S2) => o = .ex c ρ2 S2
theorem sWh_ends (t : ST) (b : SS) : ∀ (ρ : Env) (S : Store) (o : Out), sWh t b ρ S = some o → ∃ n, whN t b n ρ S o :=
  sWh.partial_correctness t b (fun ρ S o => ∃ n, whN t b n ρ S o) fun f ih ρ S o h => by
    match g : t ρ S, h with
    | none, h => cases h
    | some (.ex c S1), h => cases h; exact ⟨1, by unfold whN; rw [g]⟩
    | some (.ok false S1), h => cases h; exact ⟨1, by unfold whN; rw [g]⟩
    | some (.ok true S1), h =>
      dsimp only at h
      match g2 : b ρ S1, h with
      | none, h => cases h
      | some (.nx ρ2 S2), h => obtain ⟨n, q⟩ := ih ρ2 S2 o h; exact ⟨n + 1, by unfold whN; rw [g]; simp only [g2]; exact q⟩
      | some (.ct ρ2 S2), h => obtain ⟨n, q⟩ := ih ρ2 S2 o h; exact ⟨n + 1, by unfold whN; rw [g]; simp only [g2]; exact q⟩
      | some (.bk ρ2 S2), h => cases h; exact ⟨1, by unfold whN; rw [g]; simp only [g2]⟩
      | some (.rt d S2), h => cases h; exact ⟨1, by unfold whN; rw [g]; simp only [g2]⟩
      | some (.ex c ρ2 S2), h => cases h; exact ⟨1, by unfold whN; rw [g]; simp only [g2]⟩
theorem gs_while {t : ST} {body : List Stmt} {m : SS} (hp : PassesOwn (model X.prog X.w) X.A X.env X.xe) (hc : GT X W c t) (hb : GSs X W body m) : GS X W (.While c body [] pos) (sWh t m) := (ps_while hp hc hb).imp fun D σ H ⟨ι, ρ, S, s, r, p⟩ => by
  match g : sWh t m ρ S, p with
  | some o, p =>
    obtain ⟨n, hn⟩ := sWh_ends t m ρ S o g
    refine ⟨fun n σ H => ∃ ι ρ S, Sim X.K ι S H ∧ EnvR X.K ι H ρ σ ∧ whN t m n ρ S o ∧ PoS X.K X.mg W ι H D (some o), ⟨n, ι, ρ, S, s, r, hn, p⟩, ?_⟩
    rintro n σ H ⟨ι, ρ, S, s, r, hn, p⟩
    refine ⟨ι, ρ, S, s, r, ?_⟩
    cases n with
    | zero => exact hn.elim
    | succ n =>
      unfold whN at hn
      match g1 : t ρ S, hn with
      | some (.ex c S1), hn => subst hn; exact fun ι1 H1 cls e1 s1 g1 => p ι1 H1 σ cls e1 s1 (r.ext e1) g1
      | some (.ok false S1), hn =>
        subst hn
        intro ι1 H1 x e1 s1 r1
        obtain rfl : x = false := r1
        rw [if_neg Bool.false_ne_true]
        exact p ι1 H1 σ e1 s1 (r.ext e1)
      | some (.ok true S1), hn =>
        intro ι1 H1 x e1 s1 r1
        obtain rfl : x = true := r1
        rw [if_pos rfl]
        refine ⟨fun σ' H' => ∃ ι ρ S, Sim X.K ι S H' ∧ EnvR X.K ι H' ρ σ' ∧ whN t m n ρ S o ∧ PoS X.K X.mg W ι H' D (some o), fun σ' H' h => ⟨n, Nat.lt_succ_self n, h⟩, ι1, ρ, S1, s1, r.ext e1, ?_⟩
        have p := PoS.mono e1 p
        simp only [] at hn
        match g2 : m ρ S1, hn with
        | some (.nx ρ2 S2), hn => exact fun ι2 H2 σ2 e2 s2 r2 => ⟨ι2, ρ2, S2, s2, r2, hn, PoS.mono e2 p⟩
        | some (.ct ρ2 S2), hn => exact fun ι2 H2 σ2 e2 s2 r2 => ⟨ι2, ρ2, S2, s2, r2, hn, PoS.mono e2 p⟩
        | some (.bk ρ2 S2), hn => subst hn; exact fun ι2 H2 σ2 e2 s2 r2 => p ι2 H2 σ2 e2 s2 r2
        | some (.rt d S2), hn => subst hn; exact p
        | some (.ex c ρ2 S2), hn => subst hn; exact p
/-! ### for -/
/-- j walks J -/
def RItm (K : PySem.W.Frag) (ι : List Addr) (H : Hp) (J : Itm) (j : It) : Prop := ∀ ι' H' S', Ext ι H ι' H' → Sim K ι' S' H' → J.chk S' →
  (∀ i x, J.xs[i]? = some x → j.go i H' ∧ ∀ v H'', j.yld i H' v H'' → Ext ι' H' ι' H'' ∧ Sim K ι' S' H'' ∧ Rep K ι' H'' x v) ∧ j.stop J.xs.length H'
theorem RItm.ext {K : PySem.W.Frag} {ι ι' : List Addr} {H H' : Hp} {J : Itm} {j : It} (e : Ext ι H ι' H') (h : RItm K ι H J j) : RItm K ι' H' J j := fun ι2 H2 S2 e2 s c => h ι2 H2 S2 (e.trans e2) s c
def tI (K : PySem.W.Frag) (mg : Mg) (W : WX) (m : SI) : TI := fun σ H R => ∃ ι ρ S, Sim K ι S H ∧ EnvR K ι H ρ σ ∧ Po (RItm K) K mg ι H R (fun cls d H' => W cls d σ H') (m ρ S)
def GI (X : Cx) (W : WX) (tg iter : Expr) (m : SI) : Prop := PI X tg iter (tI X.K X.mg W m)
theorem _root_.L2.PI.imp {tg iter : Expr} {t t' : TI} (h : PI X tg iter t) (k : ∀ σ H Q, t' σ H Q → t σ H Q) : PI X tg iter t' := ⟨fun pins s σ H R I q => h.run pins s σ H R I (k _ _ _ q)⟩
theorem forL_step {chk : Store → Prop} {g : SG} {m : SS} {x : D} {r : List D} {ρ : Env} {S : Store} (hc : chk S) : forL chk g m (x :: r) ρ S = (match g x ρ S with
      | none => none
      | some (ρ1, S1) => match m ρ1 S1 with
        | some (.nx ρ2 S2) => forL chk g m r ρ2 S2
        | some (.ct ρ2 S2) => forL chk g m r ρ2 S2
        | some (.bk ρ2 S2) => some (.nx ρ2 S2)
        | o => o) := by
  rw [forL, if_pos hc]
  all_goals rfl
theorem gs_for {tg iter : Expr} {it : SI} {g : SG} {sl : List Nat} {body : List Stmt} {m : SS} (hp : PassesOwn (model X.prog X.w) X.A X.env X.xe) (hc : X.calm = true) (hi : GI X W tg iter it) (hg : GG X tg g sl) (hb : GSs X W body m)
    (hs : ∀ x, foldedSetIterable iter X.env x = pure x := by intro _; rfl) : GS X W (.For tg iter body [] pos) (sFor it g m) := (ps_for hp hc hi hg hb hs).imp fun D σ H ⟨ι, ρ, S, s, r, p⟩ => by
  refine ⟨ι, ρ, S, s, r, PoS.bo r p fun J S1 ι1 H1 j e1 s1 r1 r2 p1 => ?_⟩
  refine ⟨fun i n σ' H' => ∃ ι' ρ' S', Ext ι1 H1 ι' H' ∧ Sim X.K ι' S' H' ∧ EnvR X.K ι' H' ρ' σ' ∧ n = J.xs.length - i ∧ i ≤ J.xs.length ∧ PoS X.K X.mg W ι' H' D (forL J.chk g m (J.xs.drop i) ρ' S'), ⟨J.xs.length, ι1, ρ, S1, .refl, s1, r2, rfl, Nat.zero_le _, p1⟩, ?_⟩
  rintro i n σ' H' ⟨ι', ρ', S', e', s', r', hn, hi, p'⟩
  by_cases hck : J.chk S'
  rotate_left
  · exfalso
    cases q : J.xs.drop i with
    | nil => rw [q, forL, if_neg hck] at p'; exact p'
    | cons x t => rw [q, forL, if_neg hck] at p'; exact p'
  obtain ⟨hitem, hstop⟩ := r1 ι' H' S' e' s' hck
  by_cases hlt : i < J.xs.length
  · refine .inr ⟨(hitem i _ (List.getElem?_eq_getElem hlt)).1, ?_⟩
    rw [List.drop_eq_getElem_cons hlt, forL_step hck] at p'
    match q : g J.xs[i] ρ' S', p' with
    | some (ρ2, S2), p' =>
      simp only [] at p'
      refine ⟨fun σ3 H3 => ∃ ι3 ρ3 S3, Ext ι1 H1 ι3 H3 ∧ Sim X.K ι3 S3 H3 ∧ EnvR X.K ι3 H3 ρ3 σ3 ∧ PoS X.K X.mg W ι3 H3 D (forL J.chk g m (J.xs.drop (i + 1)) ρ3 S3), fun σ3 H3 ⟨ι3, ρ3, S3, a1, a2, a3, a4⟩ => ⟨n - 1, by omega, ι3, ρ3, S3, a1, a2, a3, by omega, by omega, a4⟩, fun v H2 y => ?_⟩
      obtain ⟨e2, s2, rv⟩ := (hitem i _ (List.getElem?_eq_getElem hlt)).2 v H2 y
      refine ⟨ι', ρ', S', J.xs[i], ρ2, S2, s2, r'.ext e2, rv, q, fun ι3 H3 σ3 e3 s3 r3 _ => ?_⟩
      have eT : Ext ι1 H1 ι3 H3 := (e'.trans e2).trans e3
      have p' := PoS.mono (e2.trans e3) p'
      refine ⟨ι3, ρ2, S2, s3, r3, ?_⟩
      match q2 : m ρ2 S2, p' with
      | none, p' => exact p'
      | some (.nx ρ4 S4), p' => exact fun ι4 H4 σ4 e4 s4 r4 => ⟨ι4, ρ4, S4, eT.trans e4, s4, r4, PoS.mono e4 p'⟩
      | some (.ct ρ4 S4), p' => exact fun ι4 H4 σ4 e4 s4 r4 => ⟨ι4, ρ4, S4, eT.trans e4, s4, r4, PoS.mono e4 p'⟩
      | some (.bk ρ4 S4), p' => exact p'
      | some (.rt d S4), p' => exact p'
      | some (.ex c ρ4 S4), p' => exact p'
  · have e : i = J.xs.length := by omega
    subst e
    refine .inl ⟨hstop, ?_⟩
    rw [List.drop_length, forL, if_pos hck] at p'
    exact p' ι' H' σ' .refl s' r'
/-! ### comprehensions -/
def GTs (X : Cx) (W : WX) (es : List Expr) (m : ST) : Prop := PTs X es (tT X.K X.mg W m)
theorem _root_.L2.PTs.imp {es : List Expr} {t t' : TT} (h : PTs X es t) (k : ∀ σ H Q, t' σ H Q → t σ H Q) : PTs X es t' := ⟨fun pins s σ H Q I q => h.run pins s σ H Q I (k _ _ _ q)⟩
theorem gts_nil : GTs X W [] Z.tYes := pts_nil.imp fun σ H Q ⟨ι, ρ, S, s, r, p⟩ => Po.ret p s rfl
theorem gts_one {t : ST} (h : GT X W c t) : GTs X W [c] t := pts_one h
abbrev W0 : WX := fun _ _ _ _ => False
theorem lcL_step {chk : Store → Prop} {g : SG} {t : ST} {m : SE} {l : Nat} {x : D} {r : List D} {ρ : Env} {S : Store} (hc : chk S) : lcL chk g t m l (x :: r) ρ S = (match g x ρ S with
      | none => none
      | some (ρ1, S1) => Z.bq (t ρ1 S1) fun b S2 => if b = true then Z.bq (m ρ1 S2) fun y S3 => (match S3[l]? with
            | some (.lst acc) => if acc.length < LINE then lcL chk g t m l r ρ (S3.set l (.lst (acc ++ [y]))) else none
            | _ => none)
          else lcL chk g t m l r ρ S2) := by
  rw [lcL, if_pos hc]
  all_goals rfl
/-- no exception is told -/
def Calm {α : Type} (m : Env → Store → M α) : Prop := ∀ ρ S c S', m ρ S ≠ some (.ex c S')
theorem lc_read {it : SI} {g : SG} {t : ST} {m : SE} {own sl : List Nat} {σ : L2.St} {H : Hp} {Q : VK} (hsl : ∀ i ∈ sl, i ∈ own)
    (h : tE X.K X.mg W (eLc it g t m own) σ H Q) : tLc (tI X.K X.mg W it) (tG X.K g sl) (tT X.K X.mg W0 t) (tE X.K X.mg W0 m) own σ H Q := by
  obtain ⟨ι, ρ, S, s, r, p⟩ := h
  refine ⟨ι, ρ, S, s, r, ?_⟩
  unfold eLc at p
  match g0 : it ρ S, p with
  | none, p => exact p
  | some (.ex _ _), p => exact p
  | some (.ok J S1), p =>
  rw [bd_ok] at p
  intro ι1 H1 j e1 s1 r1 Da hD
  have p := Po.mono e1 p
  have hl1 : ι1.length = S1.length := s1.len
  have eD : Ext ι1 H1 (ι1 ++ [Da]) (upd H1 Da (.lst [])) := ext_new hD
  have r2 := ((r.ext e1).ext eD).wipe own
  have atD : ∀ {ι' H'}, Ext (ι1 ++ [Da]) (upd H1 Da (.lst [])) ι' H' → ι'[S1.length]? = some Da := fun e => e.at (by rw [← hl1, List.getElem?_append_right (Nat.le_refl _)]; simp)
  refine ⟨fun i n H' => ∃ ι' S', Ext (ι1 ++ [Da]) (upd H1 Da (.lst [])) ι' H' ∧ Sim X.K ι' S' H' ∧ n = J.xs.length - i ∧ i ≤ J.xs.length ∧ Po (Rep X.K) X.K X.mg ι' H' Q (fun cls d H' => W cls d σ H') (lcL J.chk g t m S1.length (J.xs.drop i) (Z.wipe ρ own) S'),
    ⟨J.xs.length, _, _, .refl, s1.newL hD (by rw [RepL]), rfl, Nat.zero_le _, Po.mono eD p⟩, ?_⟩
  rintro i n H' ⟨ι', S', e', s', hn, hi, p'⟩
  by_cases hck : J.chk S'
  rotate_left
  · exfalso
    cases q : J.xs.drop i with
    | nil => rw [q, lcL, if_neg hck] at p'; exact p'
    | cons x t => rw [q, lcL, if_neg hck] at p'; exact p'
  obtain ⟨hitem, hstop⟩ := r1 ι' H' S' (eD.trans e') s' hck
  by_cases hlt : i < J.xs.length
  · refine .inr ⟨(hitem i _ (List.getElem?_eq_getElem hlt)).1, ?_⟩
    rw [List.drop_eq_getElem_cons hlt, lcL_step hck] at p'
    match q : g J.xs[i] (Z.wipe ρ own) S', p' with
    | some (ρ2, S2), p' =>
      dsimp only at p'
      refine ⟨fun H3 => ∃ ι3 S3, Ext (ι1 ++ [Da]) (upd H1 Da (.lst [])) ι3 H3 ∧ Sim X.K ι3 S3 H3 ∧ Po (Rep X.K) X.K X.mg ι3 H3 Q (fun cls d H' => W cls d σ H') (lcL J.chk g t m S1.length (J.xs.drop (i + 1)) (Z.wipe ρ own) S3),
        fun H3 ⟨ι3, S3, a1, a2, a3⟩ => ⟨n - 1, by omega, ι3, S3, a1, a2, by omega, by omega, a3⟩, fun v H2 y => ?_⟩
      obtain ⟨e2, s2, rv⟩ := (hitem i _ (List.getElem?_eq_getElem hlt)).2 v H2 y
      refine ⟨ι', Z.wipe ρ own, S', J.xs[i], ρ2, S2, s2, (r2.ext e').ext e2, rv, q, fun ι3 H3 σ3 e3 s3 r3 o3 => ⟨?_, ?_⟩⟩
      · rw [o3.wipe hsl]
        apply List.ext_getElem?
        intro k
        rw [wipe_get, wipe_get, L2.wipe_length]
        by_cases hk : k ∈ own ∧ k < σ.length <;> simp [hk]
      have p' := Po.mono (e2.trans e3) p'
      have eT := (e'.trans e2).trans e3
      refine ⟨ι3, ρ2, S2, s3, r3, ?_⟩
      match q2 : t ρ2 S2, p' with
      | none, p' => exact p'
      | some (.ex _ _), p' => exact p'.elim
      | some (.ok b S4), p' =>
        rw [bq_ok] at p'
        intro ι4 H4 x e4 s4 r4
        obtain rfl : x = b := r4
        have p' := Po.mono e4 p'
        cases x with
        | false => rw [if_neg Bool.false_ne_true] at p' ⊢; exact ⟨ι4, S4, eT.trans e4, s4, p'⟩
        | true =>
          rw [if_pos rfl] at p' ⊢
          refine ⟨ι4, ρ2, S4, s4, r3.ext e4, ?_⟩
          match q5 : m ρ2 S4, p' with
          | none, p' => exact p'
          | some (.ex _ _), p' => exact p'.elim
          | some (.ok d S5), p' =>
            rw [bq_ok] at p'
            intro ι5 H5 v5 e5 s5 r5
            have p' := Po.mono e5 p'
            have e5T := (eT.trans e4).trans e5
            match q6 : S5[S1.length]?, p' with
            | some (.lst acc), p' =>
              dsimp only at p'
              by_cases hz : acc.length < LINE
              rotate_left
              · rw [if_neg hz] at p'; exact p'.elim
              rw [if_pos hz] at p'
              obtain ⟨vs, hv, hr⟩ := s5.get (atD e5T) q6
              refine ⟨vs, hv, by rw [hr.length]; rw [LINE_eq] at hz; exact hz, ?_⟩
              have em : Ext ι5 H5 ι5 (upd H5 Da (.lst (vs ++ [v5]))) := ext_mut hv trivial
              exact ⟨ι5, S5.set S1.length (.lst (acc ++ [d])), e5T.trans em, s5.put (atD e5T) ⟨_, upd_same, RepL.ext em _ _ (hr.append (RepL.one r5))⟩ ⟨_, hv, trivial⟩, Po.mono em p'⟩
            | some (.dct _), p' => exact p'.elim
            | some (.st _), p' => exact p'.elim
            | some (.ins _ _), p' => exact p'.elim
            | some (.exn _), p' => exact p'.elim
            | some (.dkl _), p' => exact p'.elim
            | some (.dk _), p' => exact p'.elim
            | none, p' => exact p'.elim
  · have e : i = J.xs.length := by omega
    subst e
    refine .inl ⟨hstop, ?_⟩
    rw [List.drop_length, lcL, if_pos hck] at p'
    exact Po.ret p' s' (by rw [Rep]; exact ⟨Da, rfl, atD e'⟩)
end
end Z
namespace Z
open PySem PySem.Spec PyProof.Rows L2
section
variable {K : PySem.W.Frag} {mg : Mg} {ι ι' ι'' : List Addr} {H H' : Hp}
theorem EnvR.start {N : List Str} {ds : List D} {vs : List V} (r : RepL K ι H ds vs) (hl : ds.length ≤ N.length) : EnvR K ι H (env0 N.length ds) (L2.start N vs) := by
  unfold env0 L2.start
  refine ⟨by simp [r.length], fun i d h => ?_⟩
  by_cases hi : i < ds.length
  · rw [List.getElem?_append_left (by simpa using hi), List.getElem?_map, List.getElem?_eq_getElem hi] at h
    simp only [Option.map_some, Option.some.injEq] at h
    obtain ⟨v, h1, h2⟩ := r.get (List.getElem?_eq_getElem hi)
    subst h
    refine ⟨v, ?_, h2⟩
    rw [List.getElem?_append_left (by rw [List.length_map, r.length]; exact hi), List.getElem?_map, h1]; rfl
  · rw [List.getElem?_append_right (by simpa using hi), List.getElem?_replicate] at h
    split at h <;> cases h
end
section
variable {P : Program} {w : World} {K : PySem.W.Frag} {mg : Mg} {base : Heap}
abbrev cx (P : Program) (w : World) (K : PySem.W.Frag) (mg : Mg) (base : Heap) (N : List Str) (qual : Str) (st : Stmt) (f : Addr) (cdv : Value) (A : Around) (outer : List PySem.Env) (s : Shared) (H : Hp) (E : XK) : Cx :=
  cxOf (L2.CX P w) P w K mg base N qual (defScope st) f cdv A outer s H E
abbrev wE (E : XK) : WX := fun cls d _ H => E cls d H
theorem gf_of {x : Str} {f : Addr} {fd : FuncData} {ps : List Str} {k : Nat} {F : Fn} (hm : mg x = some (.ref f)) (kp : PySem.W.keepIn K (.ref f) = true) (b : Binds K fd ps []) (h : FnG P w K mg base (L2.CX P w) k f fd ps (spF K mg F)) : GF P w K mg base x k F := ⟨f, fd, ps, hm, kp, b, h⟩
end
section
variable {X : Cx} {W : WX} {pos : Pos}
theorem ge_lc {elt tg iter : Expr} {ifs : List Expr} {scope : Scope} (own : List (Str × Nat)) {it : SI} {g : SG} {sl : List Nat} {t : ST} {m : SE} (hc : X.calm = true) (hN : X.N.Nodup) (hi : GI X W tg iter it) (ok : BlkOk X.N X.env.scope scope own)
    (hg : ∀ (s : Shared) (H : Hp) (C : Addr) (cl : List (Str × Addr)) (fp : List Addr), GG (X.blk s H scope (compEnvC scope cl C X.env) fp) tg g sl)
    (ht : ∀ (s : Shared) (H : Hp) (C : Addr) (cl : List (Str × Addr)) (fp : List Addr), GTs (X.blk s H scope (compEnvC scope cl C X.env) fp) W0 ifs t)
    (he : ∀ (s : Shared) (H : Hp) (C : Addr) (cl : List (Str × Addr)) (fp : List Addr), GE (X.blk s H scope (compEnvC scope cl C X.env) fp) W0 elt m)
    (hsl : ∀ i ∈ sl, i ∈ own.map (·.2) := by decide) (hs : ∀ x, foldedSetIterable iter X.env x = pure x := by intro _; rfl) : GE X W (.ListComp elt [⟨tg, iter, ifs, 0⟩] scope pos) (eLc it g t m (own.map (·.2))) :=
  L2.PE.imp (pe_lc (g := tG X.K g sl) (tt := tT X.K X.mg W0 t) (te := tE X.K X.mg W0 m) hc hN hi ok hg ht he hs) fun σ H Q h => lc_read hsl h
/-- name = [..] on one line -/
theorem gs_setLc (i : Nat) {y : Str} {py : Pos} {elt tg iter : Expr} {ifs : List Expr} {scope : Scope} {spos : Pos} (own : List (Str × Nat)) {it : SI} {g : SG} {sl : List Nat} {t : ST} {m : SE} (hc : X.calm = true) (hN : X.N.Nodup) (hi : GI X W tg iter it) (ok : BlkOk X.N X.env.scope scope own)
    (hg : ∀ (s : Shared) (H : Hp) (C : Addr) (cl : List (Str × Addr)) (fp : List Addr), GG (X.blk s H scope (compEnvC scope cl C X.env) fp) tg g sl)
    (ht : ∀ (s : Shared) (H : Hp) (C : Addr) (cl : List (Str × Addr)) (fp : List Addr), GTs (X.blk s H scope (compEnvC scope cl C X.env) fp) W0 ifs t)
    (he : ∀ (s : Shared) (H : Hp) (C : Addr) (cl : List (Str × Addr)) (fp : List Addr), GE (X.blk s H scope (compEnvC scope cl C X.env) fp) W0 elt m)
    (hy : X.N[i]? = some y := by rfl) (hyl : X.env.scope.names.lookup y = some .local := by rfl)
    (hsw : swapsWith (.ListComp elt [⟨tg, iter, ifs, 0⟩] scope pos) (some (.Name y py)) spos.line X.env = pure true := by exact sw_true rfl rfl rfl (by decide +kernel))
    (hsl : ∀ i ∈ sl, i ∈ own.map (·.2) := by decide) (hs : ∀ x, foldedSetIterable iter X.env x = pure x := by intro _; rfl) : GS X W (.Assign [.Name y py] (.ListComp elt [⟨tg, iter, ifs, 0⟩] scope pos) spos) (sAsg (eLc it g t m (own.map (·.2))) (Z.gName i)) :=
  L2.PS.imp (ps_setLc (g := tG X.K g sl) (tt := tT X.K X.mg W0 t) (te := tE X.K X.mg W0 m) hc hN hy hyl hsw hi ok hg ht he hs) fun D σ H ⟨ι, ρ, S, s, r, p⟩ => by
    have h : tE X.K X.mg W (eLc it g t m (own.map (·.2))) σ H (fun x H1 => D.nx (σ.set i (some x)) H1) := ⟨ι, ρ, S, s, r, PoS.bo r p fun d S1 ι1 H1 x e1 s1 r1 r2 p1 => p1 ι1 H1 _ .refl s1 (r2.set r1)⟩
    exact lc_read hsl h
end
end Z
namespace Z
open PySem PySem.Spec PyProof.Rows L2
/-! ### data -/
mutual
def PD.py : PD → PyData
  | .non => .none
  | .bl b => .bool b
  | .int i => .int i
  | .str s => .str (Z.str s)
  | .lst xs => .list (pyL xs)
  | .tup xs => .tuple (pyL xs)
def pyL : List PD → List PyData
  | [] => []
  | x :: xs => PD.py x :: pyL xs
end
mutual
def PD.asc : PD → Prop
  | .str s => ∀ c ∈ s, c < 128
  | .lst xs => ascL xs
  | .tup xs => ascL xs
  | _ => True
def ascL : List PD → Prop
  | [] => True
  | x :: xs => PD.asc x ∧ ascL xs
end
theorem str_beq (a b : List Nat) : (Z.str a == Z.str b) = (a == b) := by
  by_cases h : a = b
  · subst h; simp
  · have h' : Z.str a ≠ Z.str b := fun e => h (by have := congrArg (fun z : Str => z.cps.toList) e; simpa using this)
    rw [beq_eq_false_iff_ne.mpr h, beq_eq_false_iff_ne.mpr h']
mutual
theorem py_eqv : ∀ x y : PD, PyData.eqv x.py y.py = x.eqv y
  | .non, y => by cases y <;> simp [PD.py, PyData.eqv, PD.eqv]
  | .bl a, y => by cases y <;> simp [PD.py, PyData.eqv, PD.eqv, b2i]
  | .int i, y => by cases y <;> simp [PD.py, PyData.eqv, PD.eqv, b2i]
  | .str s, y => by cases y <;> simp [PD.py, PyData.eqv, PD.eqv, str_beq]
  | .lst xs, y => by cases y <;> simp [PD.py, PyData.eqv, PD.eqv, py_eqvL xs]
  | .tup xs, y => by cases y <;> simp [PD.py, PyData.eqv, PD.eqv, py_eqvL xs]
theorem py_eqvL : ∀ xs ys : List PD, PyData.eqvAll (pyL xs) (pyL ys) = eqvL xs ys
  | [], ys => by cases ys <;> simp [pyL, PyData.eqvAll, eqvL]
  | x :: xs, ys => by cases ys <;> simp [pyL, PyData.eqvAll, eqvL, py_eqv x, py_eqvL xs]
end
mutual
theorem py_depth : ∀ x : PD, x.py.depth = x.dep
  | .non => rfl
  | .bl _ => rfl
  | .int _ => rfl
  | .str _ => rfl
  | .lst xs => by simp only [PD.py, PyData.depth, PD.dep, py_depthL xs]
  | .tup xs => by simp only [PD.py, PyData.depth, PD.dep, py_depthL xs]
theorem py_depthL : ∀ xs : List PD, PyData.depthAll (pyL xs) = depL xs
  | [] => rfl
  | x :: xs => by simp only [pyL, PyData.depthAll, depL, py_depth x, py_depthL xs]
end
mutual
theorem py_lay : ∀ x : PD, x.asc → x.py.canLay0 = true
  | .non, _ => rfl
  | .bl _, _ => rfl
  | .int _, _ => rfl
  | .str s, h => by
    rw [PD.asc] at h
    rw [PD.py, PyData.canLay0]
    unfold PyData.strOk
    rw [Array.all_eq_true']
    intro c hc
    exact decide_eq_true (Nat.lt_trans (h c (by simpa using hc)) (by decide))
  | .lst xs, h => by rw [PD.asc] at h; rw [PD.py, PyData.canLay0]; exact py_layL xs h
  | .tup xs, h => by rw [PD.asc] at h; rw [PD.py, PyData.canLay0]; exact py_layL xs h
theorem py_layL : ∀ xs : List PD, ascL xs → PyData.canLayAll0 (pyL xs) = true
  | [], _ => rfl
  | x :: xs, h => by rw [ascL] at h; rw [pyL, PyData.canLayAll0, py_lay x h.1, py_layL xs h.2]; rfl
end
theorem py_shaped {x : PD} (h : x.asc) (d : x.dep ≤ 64) : SeqAt.shaped x.py = true := by
  unfold SeqAt.shaped
  rw [py_lay x h, py_depth]
  simpa using d
theorem pyL_map : ∀ xs : List PD, pyL xs = xs.map PD.py
  | [] => rfl
  | x :: xs => by simp [pyL, pyL_map xs]
section
variable {K : PySem.W.Frag} {ι : List Addr} {H : Hp}
mutual
theorem pd_ok {g : Nat → Option PD} (hg : ∀ n y a, g n = some y → ι[n]? = some a → Dp K H (.ref a) y.py ∧ y.asc) : ∀ (d : D) (v : V) (x : PD), Rep K ι H d v → d.pd g = some x → Dp K H v x.py ∧ x.asc
  | .non, v, x, r, h => by rw [Rep] at r; rw [D.pd] at h; cases h; subst r; exact ⟨.non, trivial⟩
  | .bl b, v, x, r, h => by rw [Rep] at r; rw [D.pd] at h; cases h; subst r; exact ⟨.bl b, trivial⟩
  | .int i, v, x, r, h => by rw [Rep] at r; rw [D.pd] at h; cases h; subst r; exact ⟨.int i, trivial⟩
  | .str s, v, x, r, h => by rw [Rep] at r; rw [D.pd] at h; cases h; obtain ⟨rfl, r⟩ := r; exact ⟨.str _, r⟩
  | .tup xs, v, x, r, h => by
    rw [Rep] at r
    rw [D.pd] at h
    obtain ⟨a, vs, rfl, r1, r2⟩ := r
    obtain ⟨ys, h1, rfl⟩ := Option.map_eq_some_iff.mp h
    obtain ⟨q1, q2⟩ := pdL_ok hg xs vs ys r2 h1
    exact ⟨.tup r1.sq q1, q2⟩
  | .fl xs, v, x, r, h => by
    rw [Rep] at r
    rw [D.pd] at h
    obtain ⟨a, vs, rfl, r1, r2⟩ := r
    obtain ⟨ys, h1, rfl⟩ := Option.map_eq_some_iff.mp h
    obtain ⟨q1, q2⟩ := pdL_ok hg xs vs ys r2 h1
    exact ⟨.lst r1.seq q1, q2⟩
  | .ref n, v, x, r, h => by
    rw [Rep] at r
    rw [D.pd] at h
    obtain ⟨a, rfl, r1⟩ := r
    exact hg n x a h r1
theorem pdL_ok {g : Nat → Option PD} (hg : ∀ n y a, g n = some y → ι[n]? = some a → Dp K H (.ref a) y.py ∧ y.asc) : ∀ (ds : List D) (vs : List V) (xs : List PD), RepL K ι H ds vs → pdL g ds = some xs → DpAll K H vs (pyL xs) ∧ ascL xs
  | [], vs, xs, r, h => by rw [RepL] at r; rw [pdL] at h; cases h; subst r; exact ⟨.nil, trivial⟩
  | d :: ds, vs, xs, r, h => by
    rw [RepL] at r
    rw [pdL] at h
    obtain ⟨v, t, rfl, r1, r2⟩ := r
    match g1 : d.pd g, g2 : pdL g ds, h with
    | some y, some ys, h =>
      cases h
      obtain ⟨a1, a2⟩ := pd_ok hg d v y r1 g1
      obtain ⟨b1, b2⟩ := pdL_ok hg ds t ys r2 g2
      exact ⟨.cons a1 b1, a2, b2⟩
end
theorem rdR_ok {S : Store} (s : Sim K ι S H) : ∀ (n : Nat) (r : Nat) (y : PD) (a : Addr), rdR n S r = some y → ι[r]? = some a → Dp K H (.ref a) y.py ∧ y.asc
  | 0, _, _, _, h, _ => by cases h
  | n + 1, r, y, a, h, ha => by
    unfold rdR at h
    match g : S[r]?, h with
    | some (.lst xs), h =>
      obtain ⟨ys, h1, rfl⟩ := Option.map_eq_some_iff.mp h
      obtain ⟨vs, e1, e2⟩ := s.get ha g
      obtain ⟨q1, q2⟩ := pdL_ok (rdR_ok s n) xs vs ys e2 h1
      exact ⟨.lst (SqL.of e1) q1, q2⟩
theorem dat_ok {S : Store} (s : Sim K ι S H) {d : D} {v : V} {x : PD} (r : Rep K ι H d v) (h : dat S d = some x) : Dp K H v x.py ∧ x.asc := pd_ok (rdR_ok s 70) d v x r h
theorem seq_ok {S : Store} (s : Sim K ι S H) {d : D} {v : V} {xs : List D} (r : Rep K ι H d v) (h : seqOf S d = some xs) : ∃ a vs, v = .ref a ∧ (SqL K H a vs ∨ TupAt H a vs (xs.all k0)) ∧ RepL K ι H xs vs := by
  cases d with
  | tup ys => rw [Rep] at r; obtain ⟨a, vs, rfl, r1, r2⟩ := r; cases h; exact ⟨a, vs, rfl, .inr r1, r2⟩
  | fl ys => rw [Rep] at r; obtain ⟨a, vs, rfl, r1, r2⟩ := r; cases h; exact ⟨a, vs, rfl, .inl r1.seq, r2⟩
  | ref n =>
    rw [Rep] at r
    obtain ⟨a, rfl, r1⟩ := r
    unfold seqOf at h
    dsimp only at h
    split at h
    · rename_i g
      cases h
      obtain ⟨vs, e1, e2⟩ := s.get r1 g
      exact ⟨a, vs, rfl, .inl (SqL.of e1), e2⟩
    · cases h
  | _ => cases h
theorem lst_ok {S : Store} (s : Sim K ι S H) {n : Nat} {v : V} {xs : List D} (r : Rep K ι H (.ref n) v) (h : S[n]? = some (.lst xs)) : ∃ a vs, v = .ref a ∧ ι[n]? = some a ∧ H a = some (.lst vs) ∧ RepL K ι H xs vs := by
  rw [Rep] at r
  obtain ⟨a, rfl, r1⟩ := r
  obtain ⟨vs, e1, e2⟩ := s.get r1 h
  exact ⟨a, vs, rfl, r1, e1, e2⟩
theorem Rep.str {s : List Nat} {v : V} (r : Rep K ι H (.str s) v) : v = .str (Z.str s) ∧ ∀ c ∈ s, c < 128 := by rw [Rep] at r; exact r
theorem RepL.nil {vs : List V} (r : RepL K ι H [] vs) : vs = [] := by rw [RepL] at r; exact r
theorem RepL.cons {d : D} {ds : List D} {vs : List V} (r : RepL K ι H (d :: ds) vs) : ∃ v r, vs = v :: r ∧ Rep K ι H d v ∧ RepL K ι H ds r := by rw [RepL] at r; exact r
theorem RepL.set {v : V} {d : D} (q : Rep K ι H d v) : ∀ {ds : List D} {vs : List V} (i : Nat), RepL K ι H ds vs → RepL K ι H (ds.set i d) (vs.set i v)
  | [], vs, i, r => by rw [r.nil]; simp [RepL]
  | x :: xs, vs, i, r => by
    obtain ⟨u, t, rfl, r1, r2⟩ := r.cons
    cases i with
    | zero => rw [List.set_cons_zero, List.set_cons_zero, RepL]; exact ⟨v, t, rfl, q, r2⟩
    | succ i => rw [List.set_cons_succ, List.set_cons_succ, RepL]; exact ⟨u, _, rfl, r1, RepL.set q i r2⟩
theorem RepL.sub {ds ds' : List D} {vs vs' : List V} (r : RepL K ι H ds vs) (hl : ds'.length = vs'.length) (h : ∀ (i : Nat) (d : D) (v : V), ds'[i]? = some d → vs'[i]? = some v → ∃ j : Nat, ds[j]? = some d ∧ vs[j]? = some v) : RepL K ι H ds' vs' :=
  .of_get hl.symm fun i d v h1 h2 => by
    obtain ⟨j, a, b⟩ := h i d v h1 h2
    obtain ⟨u, c, e⟩ := r.get a
    rw [b] at c; cases c
    exact e
theorem RepL.drop {ds : List D} {vs : List V} (r : RepL K ι H ds vs) (n : Nat) : RepL K ι H (ds.drop n) (vs.drop n) := r.sub (by simp [r.length]) fun i d v h1 h2 => ⟨n + i, by simpa using h1, by simpa using h2⟩
theorem RepL.take {ds : List D} {vs : List V} (r : RepL K ι H ds vs) (n : Nat) : RepL K ι H (ds.take n) (vs.take n) := r.sub (by simp [r.length]) fun i d v h1 h2 => by
  rw [List.getElem?_take] at h1 h2
  by_cases hi : i < n
  · exact ⟨i, by simpa [hi] using h1, by simpa [hi] using h2⟩
  · simp [hi] at h1
theorem RepL.eraseIdx {ds : List D} {vs : List V} (r : RepL K ι H ds vs) (n : Nat) : RepL K ι H (ds.eraseIdx n) (vs.eraseIdx n) := r.sub (by simp [List.length_eraseIdx, r.length]) fun i d v h1 h2 => by
  rw [List.getElem?_eraseIdx] at h1 h2
  by_cases hi : i < n
  · exact ⟨i, by simpa [hi] using h1, by simpa [hi] using h2⟩
  · exact ⟨i + 1, by simpa [hi] using h1, by simpa [hi] using h2⟩
theorem RepL.flat {ds : List D} {vs : List V} (r : RepL K ι H ds vs) : ∀ n : Nat, RepL K ι H (List.replicate n ds).flatten (List.replicate n vs).flatten
  | 0 => by simp [RepL]
  | n + 1 => by simp only [List.replicate_succ, List.flatten_cons]; exact r.append (RepL.flat r n)
theorem RepL.cut {ds : List D} {vs : List V} (r : RepL K ι H ds vs) (lo hi : Option Int) : RepL K ι H (Z.cut ds lo hi) (cutV vs lo hi) := by
  unfold Z.cut cutV
  have e : ∀ n d o, Z.sIx n d o = HT.sIx n d o := fun n d o => by cases o <;> rfl
  rw [e, e, r.length]
  exact (r.drop _).take _
end
/-! ### operators -/
section
variable {X : Cx}
theorem no_add : NoEx addD := by
  intro d e S c S'
  unfold addD
  split <;> (try split) <;> (try split) <;> simp [new1]
theorem zo_add : OpR X (binaryOp .Add) (r2 X addD) := by
  intro pins s σ H x y v u Q I rx ry ⟨ι, S, d, e, sm, rd, re, po⟩
  cases d <;> cases e <;> first
    | exact False.elim po
    | skip
  case int.int i j =>
    rw [Rep] at rd re
    exact op_add pins s σ H _ _ v u Q I rx ry ⟨i, j, rd, re, Po.ret po sm (by rw [Rep])⟩
  case str.str a b =>
    obtain ⟨rfl, h1⟩ := rd.str
    obtain ⟨rfl, h2⟩ := re.str
    dsimp only [addD] at po
    by_cases hl : a.length + b.length ≤ LINE
    · rw [if_pos hl] at po
      refine op_add_str pins s σ H _ _ v u Q I rx ry ⟨_, _, rfl, rfl, by rw [LINE_eq] at hl; simpa [Str.length, sizeLine] using hl, Po.ret po sm ?_⟩
      rw [Rep]
      refine ⟨?_, fun c hc => (List.mem_append.mp hc).elim (h1 c) (h2 c)⟩
      show V.str (⟨a.toArray ++ b.toArray⟩ : Str) = _
      simp
    · rw [if_neg hl] at po; exact po.elim
  case tup.tup a b =>
    rw [Rep] at rd re
    obtain ⟨p, vs, rfl, h1, h2⟩ := rd
    obtain ⟨q, ws, rfl, h3, h4⟩ := re
    dsimp only [addD] at po
    by_cases hl : a.length + b.length ≤ LINE
    · rw [if_pos hl] at po
      refine op_cat2 pins s σ H _ _ v u Q I rx ry ⟨p, q, vs, ws, rfl, rfl, h1.sq, h3.sq, by rw [h2.length, h4.length]; rw [LINE_eq] at hl; exact hl, fun e => ?_, fun _ e => ?_, fun _ _ t ht => ?_⟩
      · subst e
        have : a = [] := List.eq_nil_of_length_eq_zero (by rw [← h2.length]; rfl)
        subst this
        exact Po.ret po sm (by rw [Rep]; exact ⟨q, ws, rfl, h3, by simpa using h4⟩)
      · subst e
        have : b = [] := List.eq_nil_of_length_eq_zero (by rw [← h4.length]; rfl)
        subst this
        exact Po.ret po sm (by rw [Rep, List.append_nil]; exact ⟨p, vs, rfl, h1, h2⟩)
      · exact sm.newTup ht (h2.append h4) po
    · rw [if_neg hl] at po; exact po.elim
  case ref.ref m n =>
    dsimp only [addD] at po
    match g1 : S[m]?, g2 : S[n]?, po with
    | some (.lst a), some (.lst b), po =>
      obtain ⟨p, vs, rfl, i1, e1, r1⟩ := lst_ok sm rd g1
      obtain ⟨q, ws, rfl, i2, e2, r2⟩ := lst_ok sm re g2
      dsimp only at po
      by_cases hl : a.length + b.length ≤ LINE
      · rw [if_pos hl] at po
        refine op_cat pins s σ H _ _ v u Q I rx ry ⟨p, q, vs, ws, rfl, rfl, e1, e2, by rw [r1.length, r2.length]; rw [LINE_eq] at hl; exact hl, fun t ht => ?_⟩
        exact Po.ret (Po.mono (ext_new (t := [t]) (o := .lst (vs ++ ws)) ht) po) (sm.newL ht (r1.append r2)) (Rep.newL sm)
      · rw [if_neg hl] at po; exact po.elim
theorem no_sub : NoEx subD := by intro d e S c S'; unfold subD; split <;> simp
theorem zo_sub : OpR X (binaryOp .Sub) (r2 X subD) := by
  intro pins s σ H x y v u Q I rx ry ⟨ι, S, d, e, sm, rd, re, po⟩
  cases d <;> cases e <;> first
    | exact False.elim po
    | skip
  case int.int i j =>
    rw [Rep] at rd re
    exact op_sub pins s σ H _ _ v u Q I rx ry ⟨i, j, rd, re, Po.ret po sm (by rw [Rep])⟩
theorem no_mul : NoEx mulD := by
  intro d e S c S'
  unfold mulD
  split <;> (try split) <;> (try split) <;> simp [new1]
theorem zo_mul : OpR X (binaryOp .Mult) (r2 X mulD) := by
  intro pins s σ H x y v u Q I rx ry ⟨ι, S, d, e, sm, rd, re, po⟩
  cases d <;> cases e <;> first
    | exact False.elim po
    | skip
  case int.int i j =>
    rw [Rep] at rd re
    dsimp only [mulD] at po
    by_cases hc : (small i ∨ small j) ∨ i.natAbs.log2 + j.natAbs.log2 < 1000000
    · rw [if_pos hc] at po
      have q := Po.ret (x := V.int (i * j)) po sm (by rw [Rep])
      rcases hc with hc | hc
      · exact op_mul pins s σ H _ _ v u Q I rx ry ⟨i, j, rd, re, by rw [small_iff, small_iff] at hc; exact hc, q⟩
      · exact op_mulW pins s σ H _ _ v u Q I rx ry ⟨i, j, rd, re, hc, q⟩
    · rw [if_neg hc] at po; exact po.elim
  case ref.int m k =>
    dsimp only [mulD] at po
    match g1 : S[m]?, po with
    | some (.lst a), po =>
      obtain ⟨p, vs, rfl, i1, e1, r1⟩ := lst_ok sm rd g1
      rw [Rep] at re
      dsimp only at po
      by_cases hl : -9223372036854775808 ≤ k ∧ k < 9223372036854775808 ∧ a.length * k.toNat ≤ LINE
      · rw [if_pos hl] at po
        refine op_rep pins s σ H _ _ v u Q I rx ry ⟨p, k, vs, rfl, re, e1, hl.1, hl.2.1, by rw [r1.length]; have := hl.2.2; rw [LINE_eq] at this; exact this, fun t ht => ?_⟩
        exact Po.ret (Po.mono (ext_new (t := [t]) (o := .lst (List.replicate k.toNat vs).flatten) ht) po) (sm.newL ht (r1.flat _)) (Rep.newL sm)
      · rw [if_neg hl] at po; exact po.elim
  case tup.int a k =>
    dsimp only [mulD] at po
    rw [Rep] at rd
    rw [Rep] at re
    obtain ⟨p, vs, rfl, h1, h2⟩ := rd
    by_cases hc : 0 < a.length ∧ a.length ≤ 1000 ∧ 2 ≤ k ∧ k ≤ 1000
    · rw [if_pos hc] at po
      refine op_rep2 pins s σ H _ _ v u Q I rx ry ⟨p, k, vs, rfl, re, h1.sq, fun e => by rw [← h2.length, e] at hc; exact absurd hc.1 (by decide), hc.2.2.1, hc.2.2.2, by rw [h2.length]; exact hc.2.1, fun t ht => ?_⟩
      exact sm.newTup ht (h2.flat _) po
    · rw [if_neg hc] at po; exact po.elim
theorem no_fdiv : NoEx fdivD := by intro d e S c S'; unfold fdivD; split <;> (try split) <;> simp
theorem zo_fdiv : OpR X (binaryOp .FloorDiv) (r2 X fdivD) := by
  intro pins s σ H x y v u Q I rx ry ⟨ι, S, d, e, sm, rd, re, po⟩
  cases d <;> cases e <;> first
    | exact False.elim po
    | skip
  case int.int i j =>
    rw [Rep] at rd re
    dsimp only [fdivD] at po
    by_cases hc : 0 < j ∧ j.natAbs.log2 < 9000
    · rw [if_pos hc] at po
      exact op_fdivW pins s σ H _ _ v u Q I rx ry ⟨i, j, rd, re, hc, Po.ret po sm (by rw [Rep])⟩
    · rw [if_neg hc] at po; exact po.elim
theorem no_mod : NoEx modD := by intro d e S c S'; unfold modD; split <;> (try split) <;> simp
theorem zo_mod : OpR X (binaryOp .Mod) (r2 X modD) := by
  intro pins s σ H x y v u Q I rx ry ⟨ι, S, d, e, sm, rd, re, po⟩
  cases d <;> cases e <;> first
    | exact False.elim po
    | skip
  case int.int i j =>
    rw [Rep] at rd re
    dsimp only [modD] at po
    by_cases hc : 0 < j
    · rw [if_pos hc] at po
      exact op_mod pins s σ H _ _ v u Q I rx ry ⟨i, j, rd, re, hc, Po.ret po sm (by rw [Rep])⟩
    · rw [if_neg hc] at po; exact po.elim
theorem no_pow : NoEx powD := by intro d e S c S'; unfold powD; split <;> (try split) <;> simp
theorem zo_pow : OpR X (binaryOp .Pow) (r2 X powD) := by
  intro pins s σ H x y v u Q I rx ry ⟨ι, S, d, e, sm, rd, re, po⟩
  cases d <;> cases e <;> first
    | exact False.elim po
    | skip
  case int.int i j =>
    rw [Rep] at rd re
    dsimp only [powD] at po
    by_cases hc : 0 ≤ j ∧ j ≤ 1000000 ∧ small i
    · rw [if_pos hc] at po
      have h3 := hc.2.2
      rw [small_iff] at h3
      exact op_pow pins s σ H _ _ v u Q I rx ry ⟨i, j, rd, re, ⟨hc.1, hc.2.1, by omega⟩, Po.ret po sm (by rw [Rep])⟩
    · rw [if_neg hc] at po; exact po.elim
theorem no_neg : ∀ d S c S', negD d S ≠ some (.ex c S') := by intro d S c S'; unfold negD; split <;> simp
theorem zo_neg : UnR X (unaryOp .USub) (fun x H Q => ∃ ι S d, Sim X.K ι S H ∧ Rep X.K ι H d x ∧ Po (Rep X.K) X.K X.mg ι H Q (fun _ _ _ => False) (negD d S)) := by
  intro pins s σ H x v Q I rx ⟨ι, S, d, sm, rd, po⟩
  cases d <;> first
    | exact False.elim po
    | skip
  case int i =>
    rw [Rep] at rd
    exact un_neg pins s σ H _ v Q I rx ⟨i, rd, Po.ret po sm (by rw [Rep])⟩
theorem zo_cmp {op : CmpOp} {f : D → D → Store → M D} {p : Int → Int → Bool} (hop : OpR X (compareOp op) (rI0 fun i j => .bl (p i j))) (h : ∀ i j S, f (.int i) (.int j) S = some (.ok (.bl (p i j)) S))
    (h' : ∀ d e S, f d e S ≠ none → ∃ i j, d = .int i ∧ e = .int j) : OpR X (compareOp op) (r2 X f) := by
  intro pins s σ H x y v u Q I rx ry ⟨ι, S, d, e, sm, rd, re, po⟩
  obtain ⟨i, j, rfl, rfl⟩ := h' d e S fun z => by rw [z] at po; exact po
  rw [h] at po
  rw [Rep] at rd re
  exact hop pins s σ H _ _ v u Q I rx ry ⟨i, j, rd, re, Po.ret po sm (by rw [Rep])⟩
theorem no_lt : NoEx ltD := by intro d e S c S'; unfold ltD; split <;> simp
theorem no_le : NoEx leD := by intro d e S c S'; unfold leD; split <;> simp
theorem no_gt : NoEx gtD := by intro d e S c S'; unfold gtD; split <;> simp
theorem no_ge : NoEx geD := by intro d e S c S'; unfold geD; split <;> simp
theorem zo_lt : OpR X (compareOp .Lt) (r2 X ltD) := zo_cmp op_lt (fun _ _ _ => rfl) fun d e S h => by cases d <;> cases e <;> first | exact absurd rfl h | exact ⟨_, _, rfl, rfl⟩
theorem zo_le : OpR X (compareOp .LtE) (r2 X leD) := zo_cmp op_le (fun _ _ _ => rfl) fun d e S h => by cases d <;> cases e <;> first | exact absurd rfl h | exact ⟨_, _, rfl, rfl⟩
theorem zo_gt : OpR X (compareOp .Gt) (r2 X gtD) := zo_cmp op_gt (fun _ _ _ => rfl) fun d e S h => by cases d <;> cases e <;> first | exact absurd rfl h | exact ⟨_, _, rfl, rfl⟩
theorem zo_ge : OpR X (compareOp .GtE) (r2 X geD) := zo_cmp op_ge (fun _ _ _ => rfl) fun d e S h => by cases d <;> cases e <;> first | exact absurd rfl h | exact ⟨_, _, rfl, rfl⟩
theorem no_eq : NoEx eqD := by intro d e S c S'; unfold eqD; split <;> (try split) <;> simp
theorem no_neL : NoEx neL := by
  intro d e S c S' h
  unfold neL at h
  split at h
  · split at h
    · split at h <;> cases h
    · cases h
  · cases h
theorem no_ne : NoEx neD := by
  intro d e S c S' h
  unfold neD at h
  split at h
  · split at h
    · cases h
    · exact no_neL _ _ _ _ _ h
  · cases h
theorem neL_inv {d e : D} {S : Store} (h : neL d e S ≠ none) : ∃ (n m : Nat) (xs ys : List D), d = .ref n ∧ e = .ref m ∧ S[n]? = some (.lst xs) ∧ S[m]? = some (.lst ys) ∧ ¬ xs.length = ys.length ∧ neL d e S = some (.ok (.bl true) S) := by
  unfold neL at h ⊢
  split at h
  · rename_i n m
    split at h
    · rename_i xs ys g1 g2
      split at h
      · exact absurd rfl h
      · rename_i hl
        refine ⟨n, m, xs, ys, rfl, rfl, g1, g2, hl, ?_⟩
        rw [if_neg hl]
    · exact absurd rfl h
  · exact absurd rfl h
theorem zo_eq (hu : X.A.units + 64 < cLine) : OpR X (compareOp .Eq) (r2 X eqD) := by
  intro pins s σ H x y v u Q I rx ry ⟨ι, S, d, e, sm, rd, re, po⟩
  unfold eqD at po
  match g1 : dat S d, g2 : dat S e, po with
  | some a, some b, po =>
    dsimp only at po
    by_cases hc : a.dep ≤ 64 ∧ b.dep ≤ 64
    · rw [if_pos hc] at po
      obtain ⟨q1, q2⟩ := dat_ok sm rd g1
      obtain ⟨q3, q4⟩ := dat_ok sm re g2
      refine op_eqD hu pins s σ H _ _ v u Q I rx ry ⟨_, _, q1, q3, py_shaped q2 hc.1, py_shaped q4 hc.2, ?_⟩
      rw [py_eqv]
      exact Po.ret po sm (by rw [Rep])
    · rw [if_neg hc] at po; exact po.elim
theorem zo_ne (hu : X.A.units + 64 < cLine) : OpR X (compareOp .NotEq) (r2 X neD) := by
  intro pins s σ H x y v u Q I rx ry ⟨ι, S, d, e, sm, rd, re, po⟩
  unfold neD at po
  match g1 : dat S d, g2 : dat S e, po with
  | some a, some b, po =>
    dsimp only at po
    by_cases hc : a.dep ≤ 64 ∧ b.dep ≤ 64
    · rw [if_pos hc] at po
      obtain ⟨q1, q2⟩ := dat_ok sm rd g1
      obtain ⟨q3, q4⟩ := dat_ok sm re g2
      refine op_neD hu pins s σ H _ _ v u Q I rx ry ⟨_, _, q1, q3, py_shaped q2 hc.1, py_shaped q4 hc.2, ?_⟩
      rw [py_eqv]
      exact Po.ret po sm (by rw [Rep])
    · rw [if_neg hc] at po
      obtain ⟨n, m, xs, ys, rfl, rfl, g3, g4, hne, hr⟩ := neL_inv (fun z => by rw [z] at po; exact po)
      rw [hr] at po
      obtain ⟨p1, vs, rfl, i1, e1, r1⟩ := lst_ok sm rd g3
      obtain ⟨p2, us, rfl, i2, e2, r2⟩ := lst_ok sm re g4
      cases rx
      cases ry
      obtain ⟨its, rv, pl, _⟩ := I.list (SqL.of e1)
      obtain ⟨its2, rv2, pl2, _⟩ := I.list (SqL.of e2)
      have hsz : (its.toArray.size != its2.toArray.size) = true := by
        have q1 := rv.length
        have q2 := rv2.length
        have q3 := r1.length
        have q4 := r2.length
        simp
        omega
      exact (SeqAt.RcNeAt.lists_lengths pl.isList pl2.isList hsz (by omega)) _ _ _ _ ⟨.bl true, H, I, rfl, Po.ret po sm (by rw [Rep])⟩
theorem rep_isNon {K : PySem.W.Frag} {ι : List Addr} {H : Hp} {d : D} {v : V} (r : Rep K ι H d v) : decide (v = .non) = isNonB d := by
  cases d with
  | non => rw [Rep] at r; subst r; rfl
  | bl _ => rw [Rep] at r; subst r; rfl
  | int _ => rw [Rep] at r; subst r; rfl
  | str _ => rw [Rep] at r; obtain ⟨rfl, _⟩ := r; rfl
  | tup _ => rw [Rep] at r; obtain ⟨_, _, rfl, _⟩ := r; rfl
  | ref _ => rw [Rep] at r; obtain ⟨_, rfl, _⟩ := r; rfl
  | fl _ => rw [Rep] at r; obtain ⟨_, _, rfl, _⟩ := r; rfl
theorem no_is : NoEx isD := by intro d e S c S'; unfold isD; split <;> simp
theorem no_isnt : NoEx isntD := by intro d e S c S'; unfold isntD; split <;> simp
theorem zo_is : OpR X (compareOp .Is) (r2 X isD) := by
  intro pins s σ H x y v u Q I rx ry ⟨ι, S, d, e, sm, rd, re, po⟩
  unfold isD at po
  split at po
  · rw [Rep] at re
    exact op_isN pins s σ H _ _ v u Q I rx ry ⟨re, by rw [rep_isNon rd]; exact Po.ret po sm (by rw [Rep])⟩
  · rename_i a b
    rw [Rep] at rd re
    refine op_isBl pins s σ H _ _ v u Q I rx ry ⟨a, b, rd, re, ?_⟩
    exact Po.ret po sm (by rw [Rep, Bool.beq_eq_decide_eq])
  · exact po.elim
theorem zo_isnt : OpR X (compareOp .IsNot) (r2 X isntD) := by
  intro pins s σ H x y v u Q I rx ry ⟨ι, S, d, e, sm, rd, re, po⟩
  unfold isntD at po
  split at po
  · rw [Rep] at re
    exact op_notN pins s σ H _ _ v u Q I rx ry ⟨re, by rw [rep_isNon rd]; exact Po.ret po sm (by rw [Rep])⟩
  · rename_i a b
    rw [Rep] at rd re
    refine op_notBl pins s σ H _ _ v u Q I rx ry ⟨a, b, rd, re, ?_⟩
    exact Po.ret po sm (by rw [Rep, Bool.beq_eq_decide_eq])
  · exact po.elim
theorem no_in : NoEx inD := by intro d e S c S'; unfold inD; split <;> simp
theorem no_nin : NoEx ninD := by intro d e S c S'; unfold ninD; split <;> simp
theorem inB_cases {x c : D} {S : Store} {b : Bool} (h : inB x c S = some b) : (∃ k z, x = .str [k] ∧ c = .str z ∧ b = decide (k ∈ z)) ∨
    (∃ n y ys, c = .ref n ∧ dat S x = some y ∧ dat S (.ref n) = some (.lst ys) ∧ y.dep ≤ 64 ∧ (PD.lst ys).dep ≤ 64 ∧ b = ys.any fun z => z.eqv y) := by
  unfold inB at h
  split at h
  · split at h
    · cases h; exact .inl ⟨_, _, rfl, rfl, rfl⟩
    · cases h
  · split at h
    · split at h
      · cases h; rename_i hc; exact .inr ⟨_, _, _, rfl, by assumption, by assumption, hc.1, hc.2, rfl⟩
      · cases h
    · cases h
  · cases h
theorem any_py (ys : List PD) (y : PD) : ((pyL ys).any fun z => PyData.eqv z y.py) = ys.any fun z => z.eqv y := by
  rw [pyL_map, List.any_map]
  congr 1
  funext z
  exact py_eqv z y
theorem zo_in (hu : X.A.units + 65 < cLine) : OpR X (compareOp .In) (r2 X inD) := by
  intro pins s σ H x y v u Q I rx ry ⟨ι, S, d, e, sm, rd, re, po⟩
  unfold inD at po
  cases g : inB d e S with
  | none => rw [g] at po; exact po.elim
  | some b =>
    rw [g] at po
    have q := Po.ret (x := V.bl b) po sm (by rw [Rep])
    rcases inB_cases g with ⟨k, z, rfl, rfl, rfl⟩ | ⟨n, y, ys, rfl, h1, h2, h3, h4, rfl⟩
    · obtain ⟨rfl, _⟩ := rd.str
      obtain ⟨rfl, _⟩ := re.str
      exact op_in_sign pins s σ H _ _ v u Q I rx ry ⟨k, Z.str z, rfl, rfl, by simpa using q⟩
    · obtain ⟨q1, q2⟩ := dat_ok sm rd h1
      obtain ⟨q3, q4⟩ := dat_ok sm re h2
      refine op_inD hu pins s σ H _ _ v u Q I rx ry ⟨_, _, q1, q3, py_shaped q2 h3, py_shaped q4 h4, ?_⟩
      rw [any_py]
      exact q
theorem zo_nin (hu : X.A.units + 65 < cLine) : OpR X (compareOp .NotIn) (r2 X ninD) := by
  intro pins s σ H x y v u Q I rx ry ⟨ι, S, d, e, sm, rd, re, po⟩
  unfold ninD at po
  cases g : inB d e S with
  | none => rw [g] at po; exact po.elim
  | some b =>
    rw [g] at po
    have q := Po.ret (x := V.bl (!b)) po sm (by rw [Rep])
    rcases inB_cases g with ⟨k, z, rfl, rfl, rfl⟩ | ⟨n, y, ys, rfl, h1, h2, h3, h4, rfl⟩
    · obtain ⟨rfl, _⟩ := rd.str
      obtain ⟨rfl, _⟩ := re.str
      exact op_notIn_sign pins s σ H _ _ v u Q I rx ry ⟨k, Z.str z, rfl, rfl, by simpa using q⟩
    · obtain ⟨q1, q2⟩ := dat_ok sm rd h1
      obtain ⟨q3, q4⟩ := dat_ok sm re h2
      refine op_notInD hu pins s σ H _ _ v u Q I rx ry ⟨_, _, q1, q3, py_shaped q2 h3, py_shaped q4 h4, ?_⟩
      rw [any_py]
      exact q
end
end Z
namespace Z
open PySem PySem.Spec PyProof.Rows L2
section
variable {X : Cx} {W : WX} {a b c e : Expr} {ma mb mc : SE} {pos : Pos}
/-! ### subscripts, slices -/
theorem atI_eq {α : Type} (xs : List α) (i : Int) : L2.atI xs i = Z.atI xs i := rfl
theorem no_ix : NoEx ixD := by
  intro d e S c S'
  unfold ixD
  split <;> (try split) <;> (try split) <;> (try split) <;> (try split) <;> simp
theorem RepL.atI {K : PySem.W.Frag} {ι : List Addr} {H : Hp} {ds : List D} {vs : List V} {i : Int} {d : D} (r : RepL K ι H ds vs) (h : Z.atI ds i = some d) : ∃ v, L2.atI vs i = some v ∧ Rep K ι H d v := by
  unfold Z.atI at h
  obtain ⟨j, h1, h2⟩ := Option.bind_eq_some_iff.mp h
  obtain ⟨v, h3, h4⟩ := r.get h2
  refine ⟨v, ?_, h4⟩
  unfold L2.atI
  rw [r.length]
  show (Z.ixN ds.length i).bind _ = _
  rw [h1]
  exact h3
theorem zx_ix : IxR X (r2 X ixD) := by
  intro value slice pins s σ H x y v u Q I rx ry ⟨ι, S, d, e, sm, rd, re, po⟩ hs
  unfold ixD at po
  split at po
  · rename_i i
    rw [Rep] at re
    split at po
    · rename_i z
      split at po
      · rename_i hl
        split at po
        · rename_i c hc
          obtain ⟨rfl, h2⟩ := rd.str
          have hm : c ∈ z := by
            unfold Z.atI at hc
            obtain ⟨j, _, q⟩ := Option.bind_eq_some_iff.mp hc
            exact List.mem_of_getElem? q
          exact ix_str value slice pins s σ H _ _ v u Q I rx ry ⟨_, i, c, rfl, re, by rw [LINE_eq] at hl; simpa [Str.length, sizeLine] using hl, by simpa [atI_eq] using hc, Po.ret po sm (by rw [Rep]; exact ⟨rfl, fun k hk => by simp at hk; subst hk; exact h2 _ hm⟩)⟩ hs
        · exact po.elim
      · exact po.elim
    · split at po
      · rename_i xs hx
        split at po
        · rename_i w hw
          obtain ⟨p, vs, rfl, h1, h2⟩ := seq_ok sm rd hx
          obtain ⟨t, h3, h4⟩ := h2.atI hw
          rcases h1 with h1 | h1
          · exact ix_list value slice pins s σ H _ _ v u Q I rx ry ⟨p, vs, i, t, rfl, re, h1, h3, Po.ret po sm h4⟩ hs
          · exact ix_tup value slice pins s σ H _ _ v u Q I rx ry ⟨p, vs, i, t, rfl, re, h1.sq, h3, Po.ret po sm h4⟩ hs
        · exact po.elim
      · exact po.elim
  · exact po.elim
theorem ge_ix (ha : GE X W a ma) (hb : GE X W b mb) (hs : PlainIx b := by exact fun _ _ => rfl) : GE X W (.Subscript a b pos) (e2 ixD ma mb) := (pe_ix zx_ix ha hb hs).imp fun σ H Q h => e2_read no_ix h
/-- a slice's part -/
def prt : Option SE → Env → Store → M (Option Int)
  | none, _, S => some (.ok none S)
  | some m, ρ, S => Z.bd (m ρ S) fun x S2 => match x with | .int i => some (.ok (some i) S2) | _ => none
def tO (K : PySem.W.Frag) (mg : Mg) (W : WX) (o : Option SE) : TO := fun σ H Q => ∃ ι ρ S, Sim K ι S H ∧ EnvR K ι H ρ σ ∧ Po (fun _ _ a b => b = a) K mg ι H Q (fun cls d H' => W cls d σ H') (prt o ρ S)
def GO (X : Cx) (W : WX) (e : Option Expr) (o : Option SE) : Prop := PO X e (tO X.K X.mg W o)
theorem go_none : GO X W none none := ⟨fun pins s σ H Q I ⟨ι, ρ, S, sm, r, p⟩ => (po_none (X := X)).run pins s σ H Q I (Po.ret p sm rfl)⟩
theorem go_some (h : GE X W e ma) : GO X W (some e) (some ma) := ⟨fun pins s σ H Q I ⟨ι, ρ, S, sm, r, p⟩ => (po_some h).run pins s σ H Q I ⟨ι, ρ, S, sm, r, Po.bd p fun d S1 ι1 H1 x e1 s1 r1 p1 => by
  cases d with
  | int i => rw [Rep] at r1; exact ⟨i, r1, Po.ret p1 s1 rfl⟩
  | _ => exact p1.elim⟩⟩
theorem zs_sl : SlR X (fun x lo hi H Q => ∃ ι S d, Sim X.K ι S H ∧ Rep X.K ι H d x ∧ Po (Rep X.K) X.K X.mg ι H Q (fun _ _ _ => False) (slD lo hi d S)) := by
  intro pins s σ H x v vl vu lo hi sl Q I rx hs pl pu ⟨ι, S, d, sm, rd, po⟩
  unfold slD at po
  split at po
  · rename_i z
    split at po
    · rename_i hl
      obtain ⟨rfl, h2⟩ := rd.str
      refine sl_str pins s σ H _ v vl vu lo hi sl Q I rx hs pl pu ⟨_, rfl, by rw [LINE_eq] at hl; simpa [Str.length, sizeLine] using hl, Po.ret po sm ?_⟩
      rw [Rep]
      refine ⟨?_, fun k hk => h2 k ?_⟩
      · unfold cutS cut
        have e : ∀ n d o, Z.sIx n d o = HT.sIx n d o := fun n d o => by cases o <;> rfl
        simp only [e, Str.length]
        simp
      · unfold cut at hk
        exact List.mem_of_mem_drop (List.mem_of_mem_take hk)
    · exact po.elim
  · rename_i xs
    rw [Rep] at rd
    obtain ⟨p, vs, rfl, h1, h2⟩ := rd
    refine sl_tup2 pins s σ H _ v vl vu lo hi sl Q I rx hs pl pu ⟨p, vs, rfl, h1.sq, fun hw => ?_, fun _ t ht => ?_⟩
    · have hc : cutV vs lo hi = vs := by unfold cutV; rw [hw.1, hw.2]; simp
      refine Po.ret po sm ?_
      rw [Rep]
      have hcx : cut xs lo hi = xs := by
        have e : ∀ n d o, Z.sIx n d o = HT.sIx n d o := fun n d o => by cases o <;> rfl
        have hl := h2.length
        unfold cut
        rw [hl] at hw
        rw [e, e, hw.1, hw.2]
        simp
      rw [hcx]
      exact ⟨p, vs, rfl, h1, h2⟩
    · exact sm.newTup ht (h2.cut lo hi) po
  · split at po
    · rename_i g
      obtain ⟨p, vs, rfl, i1, e1, r1⟩ := lst_ok sm rd g
      refine sl_list pins s σ H _ v vl vu lo hi sl Q I rx hs pl pu ⟨p, vs, rfl, SqL.of e1, fun t ht => ?_⟩
      exact Po.ret (Po.mono (ext_new (t := [t]) (o := .lst (cutV vs lo hi)) ht) po) (sm.newL ht (r1.cut lo hi)) (Rep.newL sm)
    · exact po.elim
  · exact po.elim
theorem no_sl (lo hi : Option Int) (d : D) (S : Store) (c : String) (S' : Store) : slD lo hi d S ≠ some (.ex c S') := by
  unfold slD
  split <;> (try split) <;> simp [new1]
theorem ge_sl {lo hi : Option Expr} {ol oh : Option SE} {p2 : Pos} (he : GE X W e ma) (hl : GO X W lo ol) (hh : GO X W hi oh) : GE X W (.Subscript e (.Slice lo hi none p2) pos) (eSl ma ol oh) :=
  (pe_slice zs_sl he hl hh).imp fun σ H Q ⟨ι, ρ, S, s, r, p⟩ => by
    refine ⟨ι, ρ, S, s, r, Po.bd p fun d S1 ι1 H1 x e1 s1 r1 p1 => ?_⟩
    have p1 : Po (Rep X.K) X.K X.mg ι1 H1 Q (fun cls d H' => W cls d σ H') (Z.bd (prt ol ρ S1) fun l S3 => Z.bd (prt oh ρ S3) fun h S5 => slD l h d S5) := by
      cases ol <;> cases oh <;> exact p1
    refine ⟨ι1, ρ, S1, s1, r.ext e1, Po.bd p1 fun l S2 ι2 H2 y e2 s2 r2 p2 => ?_⟩
    obtain rfl : y = l := r2
    refine ⟨ι2, ρ, S2, s2, (r.ext e1).ext e2, Po.bd p2 fun h S3 ι3 H3 z e3 s3 r3 p3 => ?_⟩
    obtain rfl : z = h := r3
    exact ⟨ι3, S3, d, s3, Rep.ext e3 _ _ (Rep.ext e2 _ _ r1), p3.noex fun c S' => no_sl _ _ _ _ c S'⟩
/-! ### built-ins by values -/
theorem one_of {ds : List D} {vs : List V} {d : D} {K : PySem.W.Frag} {ι : List Addr} {H : Hp} (r : RepL K ι H [d] vs) : ∃ v, vs = [v] ∧ Rep K ι H d v := by
  obtain ⟨v, t, rfl, h1, h2⟩ := r.cons
  rw [h2.nil]
  exact ⟨v, rfl, h1⟩
theorem no_len : NoExF lenF := by intro ds S c S'; unfold lenF; split <;> (try split) <;> simp
theorem zc_len : CallR X (.builtin "len") (rB X lenF) := by
  intro pins s σ H xs us Q I r ⟨ι, S, ds, sm, rd, po⟩
  unfold lenF at po
  split at po
  · rename_i z
    obtain ⟨v, rfl, h⟩ := one_of (ds := []) rd
    obtain ⟨rfl, _⟩ := h.str
    split at po
    · rename_i hl
      refine call_len_str pins s σ H _ us Q I r ⟨_, rfl, by rw [LINE_eq] at hl; simpa [Str.length, sizeLine] using hl, ?_⟩
      exact Po.ret po sm (by rw [Rep]; simp [Str.length])
    · exact po.elim
  · obtain ⟨v, rfl, h⟩ := one_of (ds := []) rd
    split at po
    · rename_i xs hx
      obtain ⟨p, vs, rfl, h1, h2⟩ := seq_ok sm h hx
      refine call_len_seq pins s σ H _ us Q I r ⟨p, vs, rfl, h1.imp id TupAt.sq, ?_⟩
      exact Po.ret po sm (by rw [Rep, h2.length])
    · exact po.elim
  · exact po.elim
theorem no_abs : NoExF absF := by intro ds S c S'; unfold absF; split <;> simp
theorem zc_abs : CallR X (.builtin "abs") (rB X absF) := by
  intro pins s σ H xs us Q I r ⟨ι, S, ds, sm, rd, po⟩
  unfold absF at po
  split at po
  · obtain ⟨v, rfl, h⟩ := one_of (ds := []) rd
    rw [Rep] at h
    exact call_abs pins s σ H _ us Q I r ⟨_, by rw [h], Po.ret po sm (by rw [Rep])⟩
  · exact po.elim
theorem no_max : NoExF maxF := by intro ds S c S'; unfold maxF; split <;> simp
theorem no_min : NoExF minF := by intro ds S c S'; unfold minF; split <;> simp
theorem two_of {vs : List V} {d e : D} {K : PySem.W.Frag} {ι : List Addr} {H : Hp} (r : RepL K ι H [d, e] vs) : ∃ v w, vs = [v, w] ∧ Rep K ι H d v ∧ Rep K ι H e w := by
  obtain ⟨v, t, rfl, h1, h2⟩ := r.cons
  obtain ⟨w, rfl, h3⟩ := one_of (ds := []) h2
  exact ⟨v, w, rfl, h1, h3⟩
theorem zc_max (hc : X.calm = true) : CallR X (.builtin "max") (rB X maxF) := by
  intro pins s σ H xs us Q I r ⟨ι, S, ds, sm, rd, po⟩
  unfold maxF at po
  split at po
  · obtain ⟨v, w, rfl, h, h'⟩ := two_of rd
    rw [Rep] at h h'
    exact call_max2 hc pins s σ H _ us Q I r ⟨_, _, by rw [h, h'], Po.ret po sm (by rw [Rep])⟩
  · exact po.elim
theorem zc_min (hc : X.calm = true) : CallR X (.builtin "min") (rB X minF) := by
  intro pins s σ H xs us Q I r ⟨ι, S, ds, sm, rd, po⟩
  unfold minF at po
  split at po
  · obtain ⟨v, w, rfl, h, h'⟩ := two_of rd
    rw [Rep] at h h'
    exact call_min2 hc pins s σ H _ us Q I r ⟨_, _, by rw [h, h'], Po.ret po sm (by rw [Rep])⟩
  · exact po.elim
theorem bls_ok {K : PySem.W.Frag} {ι : List Addr} {H : Hp} : ∀ {ds : List D} {vs : List V} {bs : List Bool}, RepL K ι H ds vs → blsOf ds = some bs → vs = bs.map V.bl
  | [], vs, bs, r, h => by rw [blsOf] at h; cases h; rw [r.nil]; rfl
  | d :: ds, vs, bs, r, h => by
    cases d with
    | bl b =>
      rw [blsOf] at h
      obtain ⟨cs, h1, rfl⟩ := Option.map_eq_some_iff.mp h
      obtain ⟨v, t, rfl, h2, h3⟩ := r.cons
      rw [Rep] at h2
      rw [h2, bls_ok h3 h1]
      rfl
    | _ => cases h
theorem no_all : NoExF allF := by intro ds S c S'; unfold allF; split <;> (try split) <;> (try split) <;> simp
theorem zc_all (hc : X.calm = true) : CallR X (.builtin "all") (rB X allF) := by
  intro pins s σ H xs us Q I r ⟨ι, S, ds, sm, rd, po⟩
  unfold allF at po
  split at po
  · split at po
    · rename_i g
      split at po
      · rename_i hb
        obtain ⟨v, rfl, h⟩ := one_of (ds := []) rd
        obtain ⟨p, vs, rfl, i1, e1, r1⟩ := lst_ok sm h g
        have := bls_ok r1 hb
        subst this
        exact cr_all hc pins s σ H _ us Q I r ⟨p, _, rfl, SqL.of e1, Po.ret po sm (by rw [Rep])⟩
      · exact po.elim
    · exact po.elim
  · exact po.elim
theorem no_list : NoExF listF := by intro ds S c S'; unfold listF; split <;> (try split) <;> simp [new1]
theorem zc_list : CallR X (.type "list") (rB X listF) := by
  intro pins s σ H xs us Q I r ⟨ι, S, ds, sm, rd, po⟩
  unfold listF at po
  split at po
  · obtain ⟨v, rfl, h⟩ := one_of (ds := []) rd
    split at po
    · rename_i xs hx
      obtain ⟨p, vs, rfl, h1, h2⟩ := seq_ok sm h hx
      refine call_list_of pins s σ H _ us Q I r ⟨p, vs, rfl, h1.imp id TupAt.sq, fun t ht => ?_⟩
      exact Po.ret (Po.mono (ext_new (t := [t]) (o := .lst vs) ht) po) (sm.newL ht h2) (Rep.newL sm)
    · exact po.elim
  · exact po.elim
theorem no_tuple : NoExF tupleF := by intro ds S c S'; unfold tupleF; split <;> (try split) <;> simp
theorem zc_tuple : CallR X (.type "tuple") (rB X tupleF) := by
  intro pins s σ H xs us Q I r ⟨ι, S, ds, sm, rd, po⟩
  unfold tupleF at po
  split at po
  · obtain ⟨v, rfl, h⟩ := one_of (ds := []) rd
    split at po
    · rename_i xs hx
      obtain ⟨p, vs, rfl, h1, h2⟩ := seq_ok sm h hx
      refine call_tuple2 pins s σ H _ us Q I r ⟨p, vs, rfl, ?_⟩
      rcases h1 with h1 | h1
      · refine .inl ⟨h1, fun t ht => ?_⟩
        exact sm.newTup ht h2 po
      · exact .inr ⟨h1.sq, Po.ret po sm (by rw [Rep]; exact ⟨p, vs, rfl, h1, h2⟩)⟩
    · exact po.elim
  · exact po.elim
/-! ### isinstance -/
def Ty.nm : Ty → String
  | .str => "str" | .int => "int" | .bool => "bool" | .tuple => "tuple" | .list => "list"
theorem ty_of {K : PySem.W.Frag} {ι : List Addr} {H : Hp} {S : Store} {d : D} {v : V} {t : Ty} {b : Bool} (s : Sim K ι S H) (r : Rep K ι H d v) (h : isiB S t d = some b) : ∃ T : String, TyX K H v (.type T) ∧ PySem.W.kitOne K (.type T) (.type t.nm) = some b := by
  cases d with
  | non => rw [Rep] at r; subst r; cases h; exact ⟨_, .base .non, by cases t <;> exact kit_ty (by decide +kernel)⟩
  | bl x => rw [Rep] at r; subst r; exact ⟨_, .base (.bl x), by cases t <;> (cases h; exact kit_ty (by decide +kernel))⟩
  | int x => rw [Rep] at r; subst r; exact ⟨_, .base (.int x), by cases t <;> (cases h; exact kit_ty (by decide +kernel))⟩
  | str x => obtain ⟨rfl, _⟩ := r.str; exact ⟨_, .base (.str _), by cases t <;> (cases h; exact kit_ty (by decide +kernel))⟩
  | tup xs =>
    rw [Rep] at r
    obtain ⟨a, vs, rfl, h1, _⟩ := r
    refine ⟨"tuple", ?_, by cases t <;> (cases h; exact kit_ty (by decide +kernel))⟩
    cases hb : xs.all k0
    · rw [hb] at h1
      obtain ⟨o, _, h1⟩ := h1
      exact .fTuple h1
    · rw [hb] at h1
      exact .base (.tup h1)
  | fl xs =>
    rw [Rep] at r
    obtain ⟨a, vs, rfl, h1, _⟩ := r
    refine ⟨"list", ?_, by cases t <;> (cases h; exact kit_ty (by decide +kernel))⟩
    rcases h1 with ⟨o, h1⟩ | ⟨o, its, n, h1, h2, _⟩
    · exact .base (.frz h1)
    · exact .kList h1 h2
  | ref n =>
    unfold isiB at h
    dsimp only at h
    split at h
    · rename_i g
      obtain ⟨p, vs, rfl, i1, e1, r1⟩ := lst_ok s r g
      exact ⟨"list", .base (.lst e1), by cases t <;> (cases h; exact kit_ty (by decide +kernel))⟩
    · cases h
/-- isinstance(e, T) -/
theorem ge_isi (t : Ty) {x T : Str} {p p2 : Pos} (he : GE X W e ma) (hg : Gl X x) (hm : X.mg x = none) (hv : bootBuiltins x = some (.builtin "isinstance")) (hg2 : Gl X T) (hm2 : X.mg T = none) (hv2 : bootBuiltins T = some (.type t.nm))
    (hn : x ≠ "__name__" := by decide) (hdb : (x == ("__debug__" : Str)) = false := by decide) (hn2 : T ≠ "__name__" := by decide) (hdb2 : (T == ("__debug__" : Str)) = false := by decide)
    (hs : starEach (e :: [.Name T p2]) X.env = (false, eval e X.env) :: starEach [.Name T p2] X.env := by rfl) (hpl : (backTo pos (starEach [.Name T p2] X.env)).any (·.1) = false := by rfl) : GE X W (.Call (.Name x p) [e, .Name T p2] [] pos) (e1 (isiD t) ma) :=
  (pe_callB call_isi hg hm hv (pa_cons he (pa_cons (pe_bltn (v := .ty t.nm) hg2 hm2 hv2 rfl hn2 hdb2) pa_nil) hs) hn hdb hs hpl).imp fun σ H Q ⟨ι, ρ, S, s, r, p⟩ => by
    refine ⟨ι, ρ, S, s, r, Po.bd p fun d S1 ι1 H1 y e1 s1 r1 p1 => ?_⟩
    unfold isiD at p1
    cases g : isiB S1 t d with
    | none => rw [g] at p1; exact p1.elim
    | some k =>
      rw [g] at p1
      obtain ⟨T, h1, h2⟩ := ty_of s1 r1 g
      exact ⟨y, .ty t.nm, _, _, k, rfl, .ty _, h1, h2, Po.ret p1 s1 (by rw [Rep])⟩
/-! ### methods -/
def rM (X : Cx) (F : Fn) : V → List V → Hp → VK → Prop := fun x vs H Q => ∃ ι S d ds, Sim X.K ι S H ∧ Rep X.K ι H d x ∧ RepL X.K ι H ds vs ∧ Po (Rep X.K) X.K X.mg ι H Q (fun _ _ _ => False) (F (d :: ds) S)
def Rc.nm : Rc → String
  | .list => "list" | .str => "str" | .dict => "dict"
theorem rc_ok {K : PySem.W.Frag} {ι : List Addr} {H : Hp} {S : Store} {d : D} {v : V} {t : Rc} (s : Sim K ι S H) (r : Rep K ι H d v) (h : rcB S t d = true) : tyV K t.nm v H := by
  unfold rcB at h
  split at h
  · obtain ⟨rfl, _⟩ := r.str
    cases t <;> first | rfl | cases h
  · split at h
    · rename_i g
      obtain ⟨p, vs, rfl, i1, e1, r1⟩ := lst_ok s r g
      exact .inl ⟨rfl, _, SqL.of e1⟩
    · rename_i g
      rw [Rep] at r
      obtain ⟨a, rfl, r1⟩ := r
      obtain ⟨ks, e, _⟩ := s.get r1 g
      exact .inr (.inr (.inl ⟨rfl, .inr ⟨ks, e⟩⟩))
    · cases h
  · cases h
theorem ge_mt (t : Rc) {id : String} {F : Fn} {o : Expr} {es : List Expr} {ms : List SE} {name : Str} {apos : Pos} (n : NoExF F) (pa : PlainAttrs t.nm) (slot : Slot t.nm name id) (hty : typeOf (.builtin id) = pure (.type "method_descriptor")) (hm : MtR X id (rM X F)) (ho : GE X W o ma) (ha : GA X W (e :: es) ms)
    (hbase : attributeBase o name X.env (eval o X.env) = eval o X.env := by rfl)
    (hfew : ((backTo pos (starEach (e :: es) X.env)).all (fun x => !x.1) && (backToKw pos (keywordEach [] X.env)).all (fun x => x.1.isSome)
      && decide ((e :: es).length + ([] : List Keyword).length + (if ([] : List Keyword).isEmpty then 0 else 1) < 30)) = true := by rfl)
    (hline : (apos.endLine == pos.line) = true := by rfl) (hs : starEach (e :: es) X.env = (false, eval e X.env) :: starEach es X.env := by rfl) (hplain : (backTo pos (starEach es X.env)).any (·.1) = false := by rfl) :
    GE X W (.Call (.Attribute o name apos) (e :: es) [] pos) (eMt t F ma ms) := (pe_bm pa slot hty hm ho ha hbase hfew hline hs hplain).imp fun σ H Q ⟨ι, ρ, S, s, r, p⟩ => by
  refine ⟨ι, ρ, S, s, r, Po.bd p fun d S1 ι1 H1 x e1 s1 r1 p1 => ?_⟩
  by_cases hr : rcB S1 t d = true
  · rw [if_pos hr] at p1
    refine ⟨rc_ok s1 r1 hr, ι1, ρ, S1, s1, r.ext e1, Po.evL p1 fun ds S2 ι2 H2 vs hd e2 s2 r2 p2 => ?_⟩
    exact ⟨ι2, S2, d, ds, s2, Rep.ext e2 _ _ r1, r2, p2.noex fun c S' => n _ _ _ _⟩
  · rw [if_neg hr] at p1; exact p1.elim
theorem ge_mt0 (t : Rc) {id : String} {F : Fn} {o : Expr} {name : Str} {apos : Pos} (n : NoExF F) (pa : PlainAttrs t.nm) (slot : Slot t.nm name id) (hty : typeOf (.builtin id) = pure (.type "method_descriptor")) (hm : MtR X id (rM X F)) (ho : GE X W o ma)
    (hbase : attributeBase o name X.env (eval o X.env) = eval o X.env := by rfl) (hline : (apos.endLine == pos.line) = true := by rfl) :
    GE X W (.Call (.Attribute o name apos) [] [] pos) (eMt t F ma []) := (pe_bm0 pa slot hty hm ho hbase hline).imp fun σ H Q ⟨ι, ρ, S, s, r, p⟩ => by
  refine ⟨ι, ρ, S, s, r, Po.bd p fun d S1 ι1 H1 x e1 s1 r1 p1 => ?_⟩
  by_cases hr : rcB S1 t d = true
  · rw [if_pos hr] at p1
    exact ⟨rc_ok s1 r1 hr, ι1, S1, d, [], s1, r1, by rw [RepL], Po.noex p1 fun c S' => n _ _ _ _⟩
  · rw [if_neg hr] at p1; exact p1.elim
theorem no_append : NoExF appendF := by intro ds S c S'; unfold appendF; split <;> (try split) <;> (try split) <;> simp
theorem zm_append : MtR X "list.append" (rM X appendF) := by
  intro pins s σ H x xs v us Q I rx r ⟨ι, S, d, ds, sm, rd, rds, po⟩
  unfold appendF at po
  split at po
  · rename_i n y heq
    cases heq
    obtain ⟨w, rfl, hw⟩ := one_of (ds := []) rds
    split at po
    · rename_i ys g
      obtain ⟨p, vs, rfl, i1, e1, r1⟩ := lst_ok sm rd g
      split at po
      · rename_i hl
        have em : Ext ι H ι (upd H p (.lst (vs ++ [w]))) := ext_mut e1 trivial
        refine mt_append pins s σ H _ _ v us Q I rx r ⟨p, vs, w, rfl, rfl, e1, by rw [r1.length]; rw [LINE_eq] at hl; exact hl, ?_⟩
        exact Po.ret (Po.mono em po) (sm.put i1 ⟨_, upd_same, RepL.ext em _ _ (r1.append (RepL.one hw))⟩ ⟨_, e1, trivial⟩) (by rw [Rep])
      · exact po.elim
    · exact po.elim
  · exact po.elim
theorem no_pop : NoExF popF := by intro ds S c S'; unfold popF; split <;> (try split) <;> (try split) <;> (try split) <;> simp
theorem RepL.dropLast {K : PySem.W.Frag} {ι : List Addr} {H : Hp} {ds : List D} {vs : List V} (r : RepL K ι H ds vs) : RepL K ι H ds.dropLast vs.dropLast := by
  rw [List.dropLast_eq_take, List.dropLast_eq_take, r.length]
  exact r.take _
theorem zm_pop : MtR X "list.pop" (rM X popF) := by
  intro pins s σ H x xs v us Q I rx r ⟨ι, S, d, ds, sm, rd, rds, po⟩
  unfold popF at po
  split at po
  · rename_i n heq
    cases heq
    have e0 := rds.nil
    subst e0
    split at po
    · rename_i ys g
      obtain ⟨p, vs, rfl, i1, e1, r1⟩ := lst_ok sm rd g
      split at po
      · rename_i z hz
        obtain ⟨w, h1, h2⟩ := r1.get hz
        have em : Ext ι H ι (upd H p (.lst vs.dropLast)) := ext_mut e1 trivial
        refine mt_pop pins s σ H _ _ v us Q I rx r ⟨p, vs, w, rfl, rfl, e1, by rw [r1.length]; exact h1, ?_⟩
        exact Po.ret (Po.mono em po) (sm.put i1 ⟨_, upd_same, RepL.ext em _ _ r1.dropLast⟩ ⟨_, e1, trivial⟩) (Rep.ext em _ _ h2)
      · exact po.elim
    · exact po.elim
  · rename_i n i heq
    cases heq
    obtain ⟨wi, rfl, hwi⟩ := one_of (ds := []) rds
    rw [Rep] at hwi
    subst hwi
    split at po
    · rename_i ys g
      obtain ⟨p, vs, rfl, i1, e1, r1⟩ := lst_ok sm rd g
      split at po
      · rename_i k hk
        split at po
        · rename_i z hz
          obtain ⟨w, h1, h2⟩ := r1.get hz
          have em : Ext ι H ι (upd H p (.lst (vs.eraseIdx k))) := ext_mut e1 trivial
          obtain ⟨q1, q2, q3, q4⟩ := L2.ixN_seq (n := ys.length) (i := i) hk
          have hsz : vs.length ≤ sizeLine := (show ObjOk X.prog X.w H s.heap p (.lst vs) from I.hok p _ e1).1
          have hsz2 : ys.length ≤ 16777216 := by rw [← r1.length]; exact hsz
          refine mt_popAt pins s σ H _ _ v us Q I rx r ⟨p, vs, i, k, w, rfl, rfl, e1, by omega, by omega, by rw [r1.length]; exact q1, h1, ?_⟩
          exact Po.ret (Po.mono em po) (sm.put i1 ⟨_, upd_same, RepL.ext em _ _ (r1.eraseIdx k)⟩ ⟨_, e1, trivial⟩) (Rep.ext em _ _ h2)
        · exact po.elim
      · exact po.elim
    · exact po.elim
  · exact po.elim
theorem no_extend : NoExF extendF := by intro ds S c S'; unfold extendF; split <;> (try split) <;> (try split) <;> simp
theorem zm_extend : MtR X "list.extend" (rM X extendF) := by
  intro pins s σ H x xs v us Q I rx r ⟨ι, S, d, ds, sm, rd, rds, po⟩
  unfold extendF at po
  split at po
  · rename_i n m heq
    cases heq
    obtain ⟨w, rfl, hw⟩ := one_of (ds := []) rds
    split at po
    · rename_i ys zs g g'
      obtain ⟨p, vs, rfl, i1, e1, r1⟩ := lst_ok sm rd g
      obtain ⟨q, ws, rfl, i2, e2, r2⟩ := lst_ok sm hw g'
      split at po
      · rename_i hl
        have em : Ext ι H ι (upd H p (.lst (vs ++ ws))) := ext_mut e1 trivial
        refine mt_extend pins s σ H _ _ v us Q I rx r ⟨p, q, vs, ws, rfl, rfl, e1, e2, by rw [r1.length, r2.length]; rw [LINE_eq] at hl; exact hl, ?_⟩
        exact Po.ret (Po.mono em po) (sm.put i1 ⟨_, upd_same, RepL.ext em _ _ (r1.append r2)⟩ ⟨_, e1, trivial⟩) (by rw [Rep])
      · exact po.elim
    · exact po.elim
  · exact po.elim
/-! ### what is walked -/
theorem Po.ritm {K : PySem.W.Frag} {mg : Mg} {ι : List Addr} {H : Hp} {R : It → Hp → Prop} {E : XK} {J : Itm} {S : Store} {j : It} (h : Po (RItm K) K mg ι H R E (some (.ok J S))) (s : Sim K ι S H) (r : RItm K ι H J j) : R j H := h ι H j .refl s r
theorem ritm_seq {K : PySem.W.Frag} {ι : List Addr} {H : Hp} {xs : List D} {n : Nat} {a : Addr} (ha : ι[n]? = some a) : RItm K ι H ⟨xs, fun S => S[n]? = some (.lst xs)⟩ (Itl K a) := fun ι' H' S' e s c => by
  obtain ⟨vs, h1, h2⟩ := s.get (e.at ha) c
  refine ⟨fun i x hx => ?_, vs, SqL.of h1, by rw [h2.length]; exact Nat.le_refl _⟩
  obtain ⟨v, h3, h4⟩ := h2.get hx
  refine ⟨⟨vs, v, SqL.of h1, h3⟩, fun w H'' y => ?_⟩
  obtain ⟨rfl, y⟩ := y
  have := y vs (SqL.of h1)
  rw [h3] at this
  cases this
  exact ⟨.refl, s, h4⟩
theorem ritm_tup {K : PySem.W.Frag} {ι : List Addr} {H : Hp} {xs : List D} {vs : List V} {a : Addr} (h1 : SqT K H a vs) (h2 : RepL K ι H xs vs) : RItm K ι H ⟨xs, fun _ => True⟩ (Itt K a) := fun ι' H' S' e s c => by
  have h1 := e.sqT h1
  have h2 := RepL.ext e _ _ h2
  refine ⟨fun i x hx => ?_, vs, h1, by rw [h2.length]; exact Nat.le_refl _⟩
  obtain ⟨v, h3, h4⟩ := h2.get hx
  refine ⟨⟨vs, v, h1, h3⟩, fun w H'' y => ?_⟩
  obtain ⟨rfl, y⟩ := y
  have := y vs h1
  rw [h3] at this
  cases this
  exact ⟨.refl, s, h4⟩
theorem ritm_fl {K : PySem.W.Frag} {ι : List Addr} {H : Hp} {xs : List D} {vs : List V} {a : Addr} (h1 : FzL K H a vs) (h2 : RepL K ι H xs vs) : RItm K ι H ⟨xs, fun _ => True⟩ (Itl K a) := fun ι' H' S' e s c => by
  have h1 := e.fzL h1
  have h2 := RepL.ext e _ _ h2
  refine ⟨fun i x hx => ?_, vs, h1.seq, by rw [h2.length]; exact Nat.le_refl _⟩
  obtain ⟨v, h3, h4⟩ := h2.get hx
  refine ⟨⟨vs, v, h1.seq, h3⟩, fun w H'' y => ?_⟩
  obtain ⟨rfl, y⟩ := y
  have := y vs h1.seq
  rw [h3] at this
  cases this
  exact ⟨.refl, s, h4⟩
end
end Z
namespace Z
open PySem PySem.Spec PyProof.Rows L2
section
variable {X : Cx} {W : WX} {e tg : Expr} {m : SE} {pos : Pos}
theorem new_it {pins : List (Addr × Obj)} {σ : L2.St} {H : Hp} {sh : Shared} {R : It → Hp → Prop} (J : L2.Inv X pins σ H sh) (ob : Obj) {tn : Nat → Heap → Prop} {j : It}
    (tu : Turn X.prog X.w X.K tg j [sh.heap.objs.size] sh.heap.objs.size tn) (t0 : tn 0 (sh.heap.push ob)) (q : R j H) : PIE X pins σ tg R (.ref sh.heap.objs.size) { sh with heap := sh.heap.push ob } := by
  refine ⟨_, _, tn, j, H, rfl, J.kept (t' := sh.toks) (fun b o g => Heap.get?_push_of_some _ g), tu, t0, fun b hb => ?_, q⟩
  obtain rfl : b = sh.heap.objs.size := by simpa using hb
  exact J.fpOk (Nat.le_refl _) (J.hok.fresh (Nat.le_refl _))
theorem ritm_str {K : PySem.W.Frag} {ι : List Addr} {H : Hp} {s : List Nat} (ha : ∀ c ∈ s, c < 128) : RItm K ι H ⟨s.map fun c => .str [c], fun _ => True⟩ (Its (Z.str s)) := fun ι' H' S' ex sm c => by
  refine ⟨fun i x hx => ?_, by show (Z.str s).cps.size ≤ _; simp⟩
  rw [List.getElem?_map] at hx
  obtain ⟨k, hk, rfl⟩ := Option.map_eq_some_iff.mp hx
  have hi := (List.getElem?_eq_some_iff.mp hk).1
  refine ⟨by show i < (Z.str s).cps.size; simpa using hi, fun v H2 y => ?_⟩
  obtain ⟨rfl, c, h1, rfl⟩ := y
  have h1 : s[i]? = some c := by simpa using h1
  rw [hk] at h1; cases h1
  exact ⟨.refl, sm, by rw [Rep]; exact ⟨rfl, fun d hd => by simp at hd; subst hd; exact ha _ (List.mem_of_getElem? hk)⟩⟩
/-- what is walked, by its value -/
theorem iter_val {pins : List (Addr × Obj)} {σ : L2.St} {H : Hp} {sh : Shared} {R : It → Hp → Prop} {E : XK} {v : Value} {x : V} {ι : List Addr} {S : Store} {d : D} (J : L2.Inv X pins σ H sh) (rx : L2.RelV x v) (sm : Sim X.K ι S H) (rd : Rep X.K ι H d x)
    (p : Po (RItm X.K) X.K X.mg ι H R E (itmOf d S)) : wpAny (model X.prog X.w) X.A (pyIter v) (PIE X pins σ tg R) X.xe sh := by
  unfold itmOf at p
  split at p
  · split at p
    · rename_i xs g
      obtain ⟨a, vs, rfl, i1, e1, r1⟩ := lst_ok sm rd g
      obtain rfl : v = Value.ref a := rx
      obtain ⟨its, rv, pl, _⟩ := J.list (SqL.of e1)
      exact wpAny_pyIter_list pl.isList (new_it J _ (turn_list a _) ⟨_, Heap.get?_push_size _ rfl, rfl, rfl⟩ (Po.ritm p sm (ritm_seq i1)))
    · exact p.elim
  · rw [Rep] at rd
    obtain ⟨a, vs, rfl, h1, h2⟩ := rd
    obtain rfl : v = Value.ref a := rx
    obtain ⟨its, rv, pl, _⟩ := J.tuple h1.sq
    exact wpAny_pyIter_tuple (show sh.heap.IsTuple a its.toArray from pl) (new_it J _ (turn_tuple a _) ⟨_, Heap.get?_push_size _ rfl, rfl, rfl⟩ (Po.ritm p sm (ritm_tup h1.sq h2)))
  · rw [Rep] at rd
    obtain ⟨a, vs, rfl, h1, h2⟩ := rd
    obtain rfl : v = Value.ref a := rx
    obtain ⟨its, rv, pl, _⟩ := J.list h1.seq
    exact wpAny_pyIter_list pl.isList (new_it J _ (turn_list a _) ⟨_, Heap.get?_push_size _ rfl, rfl, rfl⟩ (Po.ritm p sm (ritm_fl h1 h2)))
  · rename_i s
    obtain ⟨rfl, ha⟩ := rd.str
    obtain ⟨t, rfl⟩ := rx
    have hall : (Z.str s).cps.all (· < 128) = true := by
      rw [Array.all_eq_true']
      intro c hc
      exact decide_eq_true (ha c (by simpa using hc))
    exact wpAny_pyIter_ascii hall (new_it J _ (turn_str _ _ t "str_ascii_iterator" (.inl rfl)) ⟨_, Heap.get?_push_size _ rfl, rfl, rfl⟩ (Po.ritm p sm (ritm_str ha)))
  · exact p.elim
theorem gi_any (h : GE X W e m) : GI X W tg e (iAny m) := by
  refine ⟨fun pins sh σ H R J ⟨ι, ρ, S, sm, r, p⟩ => ?_⟩
  have p : Po (RItm X.K) X.K X.mg ι H R (fun cls d H' => W cls d σ H') (Z.bd (m ρ S) itmOf) := p
  refine L2.thn (h.run pins sh σ H (fun x H1 => ∃ ι1 S1 d, Sim X.K ι1 S1 H1 ∧ Rep X.K ι1 H1 d x ∧ Po (RItm X.K) X.K X.mg ι1 H1 R (fun cls d H' => W cls d σ H') (itmOf d S1)) J ⟨ι, ρ, S, sm, r, Po.bd p fun d S1 ι1 H1 x e1 s1 r1 p1 => ⟨ι1, S1, d, s1, r1, p1⟩⟩) ?_
  rintro v sh1 ⟨x, H1, J1, rx, ι1, S1, d, s1, r1, p1⟩
  exact iter_val J1 rx s1 r1 p1
theorem ritm_range {K : PySem.W.Frag} {ι : List Addr} {H : Hp} {lo : Int} {n : Nat} : RItm K ι H ⟨(List.range n).map fun (k : Nat) => .int (lo + k), fun _ => True⟩ (Itr lo n) := fun ι' H' S' ex sm c => by
  refine ⟨fun i x hx => ?_, by show n ≤ _; simp⟩
  rw [List.getElem?_map] at hx
  obtain ⟨k, hk, rfl⟩ := Option.map_eq_some_iff.mp hx
  have hi : i < n := by simpa using (List.getElem?_eq_some_iff.mp hk).1
  rw [List.getElem?_range hi] at hk
  cases hk
  refine ⟨hi, fun v H2 y => ?_⟩
  obtain ⟨rfl, rfl⟩ := y
  exact ⟨.refl, sm, by rw [Rep]⟩
/-- range(n) -/
theorem gi_r1 {a : Expr} {p : Pos} (ha : GE X W a m) (hg : Gl X "range") (hm : X.mg "range" = none) (hs : starEach [a] X.env = [(false, eval a X.env)] := by rfl) (hs2 : starEach [a] X.env = (false, eval a X.env) :: starEach [] X.env := by rfl) :
    GI X W tg (.Call (.Name "range" p) [a] [] pos) (iR1 m) := (pi_range1 hg hm (pa_cons ha pa_nil hs2) hs).imp fun σ H R ⟨ι, ρ, S, sm, r, p⟩ => by
  refine ⟨ι, ρ, S, sm, r, Po.bd p fun d S1 ι1 H1 x e1 s1 r1 p1 => ?_⟩
  cases d with
  | int n =>
    rw [Rep] at r1
    subst r1
    dsimp only at p1
    by_cases hc : r62 n
    · rw [if_pos hc] at p1
      rw [r62_iff] at hc
      refine ⟨n, rfl, by omega, by omega, Po.ritm p1 s1 ?_⟩
      have := ritm_range (K := X.K) (ι := ι1) (H := H1) (lo := 0) (n := n.toNat)
      simpa using this
    · rw [if_neg hc] at p1; exact p1.elim
  | _ => exact p1.elim
/-! ### o[i] = v -/
theorem Po.bqb {α β α' : Type} {R : List Addr → Hp → α → β → Prop} {K mg ι H} {Q : β → Hp → Prop} {E : XK} {m : M α} {f : α → Store → M α'} {o : Res α'} (h : Z.bq m f = some o)
    (k : ∀ a S ι1 H1 x, Ext ι H ι1 H1 → Sim K ι1 S H1 → R ι1 H1 a x → f a S = some o → Q x H1) : Po R K mg ι H Q E m := by
  match m, h with
  | some (.ok a S), h => exact fun ι1 H1 x e s r => k a S ι1 H1 x e s r h
theorem gg_sub {o i : Expr} {mo mi : SE} (ho : GE X W o mo) (hi : GE X W i mi)
    (ha : ∀ v, assign (.Subscript o i pos) X.env v = (do
      let ov ← holding [v] (eval o X.env)
      let iv ← holding [v, ov] (eval i X.env)
      standAt pos
      holding [v, ov, iv] (setItem ov iv v)
      release [v, ov, iv] []) := by intro _; rfl) : GG X (.Subscript o i pos) (setF mo mi) [] := (pg_sub ho hi set_list ha).imp fun v σ H Q ⟨ι, ρ, S, d, ρ', S', s, r, rd, g, k⟩ => by
  unfold setF at g
  split at g
  · rename_i u S3 h
    cases g
    refine ⟨ι, ρ, S, s, r, Po.bqb h fun x S1 ι1 H1 y e1 s1 r1 h1 => ?_⟩
    refine ⟨ι1, ρ, S1, s1, r.ext e1, Po.bqb h1 fun z S2 ι2 H2 t e2 s2 r2 h2 => ?_⟩
    split at h2
    · rename_i n q
      split at h2
      · rename_i xs g2
        split at h2
        · rename_i j hj
          cases h2
          obtain ⟨p, vs, rfl, i1, f1, f2⟩ := lst_ok s2 (Rep.ext e2 _ _ r1) g2
          rw [Rep] at r2
          have em : Ext ι2 H2 ι2 (upd H2 p (.lst (vs.set j v))) := ext_mut f1 trivial
          refine ⟨p, vs, q, j, rfl, r2, f1, by rw [f2.length]; exact hj, ?_⟩
          exact k ι2 _ σ ((e1.trans e2).trans em) (s2.put i1 ⟨_, upd_same, RepL.ext em _ _ (RepL.set (Rep.ext e2 _ _ (Rep.ext e1 _ _ rd)) j f2)⟩ ⟨_, f1, trivial⟩) (((r.ext e1).ext e2).ext em) .refl
        · cases h2
      · cases h2
    · cases h2
  · cases g
end
end Z
namespace Z
/-- a def's outcome -/
def endF : Option Out → M D
  | some (.rt d S) => some (.ok d S)
  | some (.nx _ S) => some (.ok .non S)
  | some (.ex c _ S) => some (.ex c S)
  | _ => none
@[simp] theorem endF_rt (d : D) (S : Store) : endF (some (.rt d S)) = some (.ok d S) := rfl
@[simp] theorem endF_nx (ρ : Env) (S : Store) : endF (some (.nx ρ S)) = some (.ok .non S) := rfl
@[simp] theorem endF_ex (c : String) (ρ : Env) (S : Store) : endF (some (.ex c ρ S)) = some (.ex c S) := rfl
/-- a def by its body: n parameters, N names -/
def runF (n N : Nat) (b : SS) : Fn := fun ds S => if ds.length = n then endF (b (env0 N ds) S) else none
theorem runF_len {n N : Nat} {b : SS} {ds : List D} {S : Store} (h : runF n N b ds S ≠ none) : ds.length = n := by
  unfold runF at h
  by_cases e : ds.length = n
  · exact e
  · rw [if_neg e] at h; exact absurd rfl h
theorem run_eq {n : Nat} (N : Nat) {b : SS} {ds : List D} (S : Store) (h : ds.length = n) : runF n N b ds S = endF (b (ds.map some ++ List.replicate (N - n) none) S) := by unfold runF env0; rw [if_pos h, h]
section
variable {f g : D → D → Store → M D} {a b c : SE} {t t' : ST} {A B : SS} {ρ : Env} {S : Store}
@[simp] theorem x_var (i : Nat) : eVar i ρ S = match ρ[i]? with | some (some d) => some (.ok d S) | _ => none := rfl
@[simp] theorem x_c (d : D) : eC d ρ S = some (.ok d S) := rfl
@[simp] theorem x_1 (h : D → Store → M D) : e1 h a ρ S = bd (a ρ S) h := rfl
@[simp] theorem x_2 : e2 f a b ρ S = bd (a ρ S) fun x S1 => bd (b ρ S1) fun y S2 => f x y S2 := rfl
@[simp] theorem x_nil : evL [] ρ S = some (.ok [] S) := rfl
@[simp] theorem x_cons (r : List SE) : evL (a :: r) ρ S = bd (a ρ S) fun x S1 => bd (evL r ρ S1) fun xs S2 => some (.ok (x :: xs) S2) := rfl
@[simp] theorem x_tup (es : List SE) : eTup es ρ S = bd (evL es ρ S) fun xs S1 => some (.ok (.tup xs) S1) := rfl
@[simp] theorem x_lst (es : List SE) : eLst es ρ S = bd (evL es ρ S) fun xs S1 => some (.ok (.ref S1.length) (S1 ++ [.lst xs])) := rfl
@[simp] theorem x_call (F : Fn) (es : List SE) : eCall F es ρ S = bd (evL es ρ S) F := rfl
@[simp] theorem x_and : eAnd a b ρ S = bd (a ρ S) fun x S1 => match x with | .bl true => b ρ S1 | .bl false => some (.ok (.bl false) S1) | _ => none := rfl
@[simp] theorem x_or : eOr a b ρ S = bd (a ρ S) fun x S1 => match x with | .bl false => b ρ S1 | .bl true => some (.ok (.bl true) S1) | _ => none := rfl
@[simp] theorem x_not : eNot a ρ S = bd (a ρ S) fun x S1 => match x with | .bl b => some (.ok (.bl !b) S1) | _ => none := rfl
@[simp] theorem x_ch : eCh f g a b c ρ S = bd (a ρ S) fun x S1 => bd (b ρ S1) fun y S2 => bd (f x y S2) fun z S3 =>
  match z with | .bl true => bd (c ρ S3) fun w S4 => g y w S4 | .bl false => some (.ok (.bl false) S3) | _ => none := rfl
@[simp] theorem x_tval (e : SE) : tVal e ρ S = bd (e ρ S) fun x S1 => match x with | .bl b => some (.ok b S1) | _ => none := rfl
@[simp] theorem x_tand : tAnd t t' ρ S = bd (t ρ S) fun x S1 => if x = true then t' ρ S1 else some (.ok false S1) := rfl
@[simp] theorem x_tor : tOr t t' ρ S = bd (t ρ S) fun x S1 => if x = true then some (.ok true S1) else t' ρ S1 := rfl
@[simp] theorem x_tnot : tNot t ρ S = bd (t ρ S) fun x S1 => some (.ok (!x) S1) := rfl
@[simp] theorem x_tyes : tYes ρ S = some (.ok true S) := rfl
@[simp] theorem x_if : eIf t a b ρ S = bd (t ρ S) fun x S1 => if x = true then a ρ S1 else b ρ S1 := rfl
@[simp] theorem x_name (i : Nat) (d : D) : gName i d ρ S = some (ρ.set i (some d), S) := rfl
@[simp] theorem x_gall : gAll [] [] ρ S = some (ρ, S) := rfl
@[simp] theorem x_gcons (h : SG) (gs : List SG) (d : D) (ds : List D) : gAll (h :: gs) (d :: ds) ρ S = match h d ρ S with | some (ρ1, S1) => gAll gs ds ρ1 S1 | none => none := rfl
@[simp] theorem x_gtup (gs : List SG) (ds : List D) : gTup gs (.tup ds) ρ S = gAll gs ds ρ S := rfl
@[simp] theorem x_sq : sq A B ρ S = match A ρ S with | some (.nx ρ1 S1) => B ρ1 S1 | o => o := rfl
@[simp] theorem x_nx : sNx ρ S = some (.nx ρ S) := rfl
@[simp] theorem x_bk : sBk ρ S = some (.bk ρ S) := rfl
@[simp] theorem x_ct : sCt ρ S = some (.ct ρ S) := rfl
@[simp] theorem x_exp (e : SE) : sExp e ρ S = bo (e ρ S) ρ fun _ S1 => some (.nx ρ S1) := rfl
@[simp] theorem x_ret (e : SE) : sRet e ρ S = bo (e ρ S) ρ fun d S1 => some (.rt d S1) := rfl
@[simp] theorem x_sif : sIf t A B ρ S = bo (t ρ S) ρ fun x S1 => if x = true then A ρ S1 else B ρ S1 := rfl
@[simp] theorem x_asg (e : SE) (h : SG) : sAsg e h ρ S = bo (e ρ S) ρ fun d S1 => match h d ρ S1 with | some (ρ2, S2) => some (.nx ρ2 S2) | none => none := rfl
@[simp] theorem x_aug (i : Nat) (e : SE) : sAug i f e ρ S = bo (e2 f (eVar i) e ρ S) ρ fun d S1 => some (.nx (ρ.set i (some d)) S1) := rfl
@[simp] theorem x_any : iAny a ρ S = bd (a ρ S) itmOf := rfl
@[simp] theorem x_r1 : iR1 a ρ S = bd (a ρ S) fun d S1 => match d with
  | .int n => if r62 n then some (.ok ⟨(List.range n.toNat).map fun (k : Nat) => .int k, fun _ => True⟩ S1) else none
  | _ => none := rfl
@[simp] theorem x_for (it : SI) (h : SG) : sFor it h A ρ S = bo (it ρ S) ρ fun J S1 => forL J.chk h A J.xs ρ S1 := rfl
@[simp] theorem x_set (o i : SE) (d : D) : setF o i d ρ S = match bq (o ρ S) fun x S1 => bq (i ρ S1) fun y S2 => (match x, y with
    | .ref n, .int k => (match S2[n]? with
      | some (.lst xs) => (match ixN xs.length k with
        | some j => some (.ok () (S2.set n (.lst (xs.set j d))))
        | none => none)
      | _ => none)
    | _, _ => none) with
  | some (.ok _ S3) => some (ρ, S3)
  | _ => none := rfl
@[simp] theorem x_mt (ty : Rc) (F : Fn) (o : SE) (es : List SE) : eMt ty F o es ρ S = bd (o ρ S) fun d S1 => if rcB S1 ty d = true then bd (evL es ρ S1) fun ds S2 => F (d :: ds) S2 else none := rfl
@[simp] theorem x_sl (lo hi : Option SE) : eSl a lo hi ρ S = bd (a ρ S) fun d S1 =>
  bd (match lo with | none => some (.ok none S1) | some m => bd (m ρ S1) fun x S2 => match x with | .int i => some (.ok (some i) S2) | _ => none) fun l S3 =>
  bd (match hi with | none => some (.ok none S3) | some m => bd (m ρ S3) fun x S4 => match x with | .int i => some (.ok (some i) S4) | _ => none) fun h S5 => slD l h d S5 := rfl
end
section
variable {S : Store}
@[simp] theorem o_add (i j : Int) : addD (.int i) (.int j) S = some (.ok (.int (i + j)) S) := rfl
@[simp] theorem o_adds (a b : List Nat) : addD (.str a) (.str b) S = if a.length + b.length ≤ LINE then some (.ok (.str (a ++ b)) S) else none := rfl
@[simp] theorem o_addt (a b : List D) : addD (.tup a) (.tup b) S = if a.length + b.length ≤ LINE then some (.ok (.tup (a ++ b)) S) else none := rfl
@[simp] theorem o_addr (m n : Nat) : addD (.ref m) (.ref n) S = match S[m]?, S[n]? with
    | some (.lst a), some (.lst b) => if a.length + b.length ≤ LINE then some (.ok (.ref S.length) (S ++ [.lst (a ++ b)])) else none
    | _, _ => none := rfl
@[simp] theorem o_mult (a : List D) (k : Int) : mulD (.tup a) (.int k) S = if 0 < a.length ∧ a.length ≤ 1000 ∧ 2 ≤ k ∧ k ≤ 1000 then some (.ok (.tup (List.replicate k.toNat a).flatten) S) else none := rfl
@[simp] theorem o_mulr (m : Nat) (k : Int) : mulD (.ref m) (.int k) S = match S[m]? with
    | some (.lst a) => if -9223372036854775808 ≤ k ∧ k < 9223372036854775808 ∧ a.length * k.toNat ≤ LINE then some (.ok (.ref S.length) (S ++ [.lst (List.replicate k.toNat a).flatten])) else none
    | _ => none := rfl
@[simp] theorem o_sub (i j : Int) : subD (.int i) (.int j) S = some (.ok (.int (i - j)) S) := rfl
@[simp] theorem o_mul (i j : Int) : mulD (.int i) (.int j) S = if (small i ∨ small j) ∨ i.natAbs.log2 + j.natAbs.log2 < 1000000 then some (.ok (.int (i * j)) S) else none := rfl
@[simp] theorem o_fdiv (i j : Int) : fdivD (.int i) (.int j) S = if 0 < j ∧ j.natAbs.log2 < 9000 then some (.ok (.int (i / j)) S) else none := rfl
@[simp] theorem o_mod (i j : Int) : modD (.int i) (.int j) S = if 0 < j then some (.ok (.int (i % j)) S) else none := rfl
@[simp] theorem o_pow (i j : Int) : powD (.int i) (.int j) S = if 0 ≤ j ∧ j ≤ 1000000 ∧ small i then some (.ok (.int (i ^ j.toNat)) S) else none := rfl
@[simp] theorem o_neg (i : Int) : negD (.int i) S = some (.ok (.int (-i)) S) := rfl
@[simp] theorem o_lt (i j : Int) : ltD (.int i) (.int j) S = some (.ok (.bl (decide (i < j))) S) := rfl
@[simp] theorem o_le (i j : Int) : leD (.int i) (.int j) S = some (.ok (.bl (decide (i ≤ j))) S) := rfl
@[simp] theorem o_gt (i j : Int) : gtD (.int i) (.int j) S = some (.ok (.bl (decide (j < i))) S) := rfl
@[simp] theorem o_ge (i j : Int) : geD (.int i) (.int j) S = some (.ok (.bl (decide (j ≤ i))) S) := rfl
@[simp] theorem o_eq (i j : Int) : eqD (.int i) (.int j) S = some (.ok (.bl (decide (i = j))) S) := by
  unfold eqD dat
  simp [D.pd, PD.dep, PD.eqv]
  rfl
@[simp] theorem o_eqs (a b : List Nat) : eqD (.str a) (.str b) S = some (.ok (.bl (decide (a = b))) S) := by
  unfold eqD dat
  simp [D.pd, PD.dep, PD.eqv]
  exact Bool.eq_iff_iff.mpr (by simp)
@[simp] theorem o_eqb (a b : Bool) : eqD (.bl a) (.bl b) S = some (.ok (.bl (decide (a = b))) S) := by
  unfold eqD dat
  simp [D.pd, PD.dep, PD.eqv]
  rfl
@[simp] theorem o_ne (i j : Int) : neD (.int i) (.int j) S = some (.ok (.bl (!decide (i = j))) S) := by
  unfold neD dat
  simp [D.pd, PD.dep, PD.eqv]
  rfl
@[simp] theorem o_nes (a b : List Nat) : neD (.str a) (.str b) S = some (.ok (.bl (!decide (a = b))) S) := by
  unfold neD dat
  simp [D.pd, PD.dep, PD.eqv]
  exact Bool.eq_iff_iff.mpr (by simp)
@[simp] theorem o_neb (a b : Bool) : neD (.bl a) (.bl b) S = some (.ok (.bl (!decide (a = b))) S) := by
  unfold neD dat
  simp [D.pd, PD.dep, PD.eqv]
  rfl
@[simp] theorem o_ixs (s : List Nat) (i : Int) : ixD (.str s) (.int i) S = if s.length ≤ LINE then (match atI s i with | some c => some (.ok (.str [c]) S) | none => none) else none := rfl
@[simp] theorem o_ixt (xs : List D) (i : Int) : ixD (.tup xs) (.int i) S = match atI xs i with | some x => some (.ok x S) | none => none := rfl
@[simp] theorem o_ixf (xs : List D) (i : Int) : ixD (.fl xs) (.int i) S = match atI xs i with | some x => some (.ok x S) | none => none := rfl
@[simp] theorem o_ixr (n : Nat) (i : Int) : ixD (.ref n) (.int i) S = match seqOf S (.ref n) with | some xs => (match atI xs i with | some x => some (.ok x S) | none => none) | none => none := rfl
@[simp] theorem o_sqt (xs : List D) : seqOf S (.tup xs) = some xs := rfl
@[simp] theorem o_sqf (xs : List D) : seqOf S (.fl xs) = some xs := rfl
@[simp] theorem o_sqr (n : Nat) : seqOf S (.ref n) = match S[n]? with | some (.lst xs) => some xs | _ => none := rfl
@[simp] theorem o_lens (s : List Nat) : lenF [.str s] S = if s.length ≤ LINE then some (.ok (.int s.length) S) else none := rfl
@[simp] theorem o_lent (xs : List D) : lenF [.tup xs] S = some (.ok (.int xs.length) S) := rfl
@[simp] theorem o_lenf (xs : List D) : lenF [.fl xs] S = some (.ok (.int xs.length) S) := rfl
@[simp] theorem o_lenr (n : Nat) : lenF [.ref n] S = match seqOf S (.ref n) with | some xs => some (.ok (.int xs.length) S) | none => none := rfl
@[simp] theorem o_abs (i : Int) : absF [.int i] S = some (.ok (.int (if i < 0 then -i else i)) S) := rfl
@[simp] theorem o_max (i j : Int) : maxF [.int i, .int j] S = some (.ok (.int (if j > i then j else i)) S) := rfl
@[simp] theorem o_min (i j : Int) : minF [.int i, .int j] S = some (.ok (.int (if j < i then j else i)) S) := rfl
@[simp] theorem o_list (d : D) : listF [d] S = match seqOf S d with | some xs => some (.ok (.ref S.length) (S ++ [.lst xs])) | none => none := rfl
@[simp] theorem o_tuple (d : D) : tupleF [d] S = match seqOf S d with | some xs => some (.ok (.tup xs) S) | none => none := rfl
@[simp] theorem o_app (n : Nat) (x : D) : appendF [.ref n, x] S = match S[n]? with
    | some (.lst xs) => if xs.length < LINE then some (.ok .non (S.set n (.lst (xs ++ [x])))) else none
    | _ => none := rfl
@[simp] theorem o_pop (n : Nat) (i : Int) : popF [.ref n, .int i] S = match S[n]? with
    | some (.lst xs) => (match ixN xs.length i with
      | some k => (match xs[k]? with | some x => some (.ok x (S.set n (.lst (xs.eraseIdx k)))) | none => none)
      | none => none)
    | _ => none := rfl
@[simp] theorem o_rcr (n : Nat) (t : Rc) : rcB S t (.ref n) = match S[n]?, t with | some (.lst _), .list => true | some (.st _), .dict => true | _, _ => false := rfl
@[simp] theorem o_rcs (s : List Nat) (t : Rc) : rcB S t (.str s) = match t with | .str => true | _ => false := rfl
@[simp] theorem o_itr (n : Nat) : itmOf (.ref n) S = match S[n]? with
    | some (.lst xs) => some (.ok ⟨xs, fun S => S[n]? = some (.lst xs)⟩ S)
    | _ => none := rfl
@[simp] theorem o_itt (xs : List D) : itmOf (.tup xs) S = some (.ok ⟨xs, fun _ => True⟩ S) := rfl
@[simp] theorem o_itf (xs : List D) : itmOf (.fl xs) S = some (.ok ⟨xs, fun _ => True⟩ S) := rfl
@[simp] theorem o_its (s : List Nat) : itmOf (.str s) S = some (.ok ⟨s.map fun c => .str [c], fun _ => True⟩ S) := rfl
@[simp] theorem lg_lt {n : Nat} (h : n < 18446744073709551616) : n.log2 < 9000 := by
  by_cases h0 : n = 0
  · subst h0; decide
  · exact Nat.lt_of_lt_of_le ((Nat.log2_lt h0).mpr (show n < 2 ^ 64 from h)) (by decide)
@[simp] theorem leLINE {n : Nat} (h : n ≤ 16777216) : n ≤ LINE := by rw [LINE_eq]; exact h
@[simp] theorem ltLINE {n : Nat} (h : n < 16777216) : n < LINE := by rw [LINE_eq]; exact h
@[simp] theorem r62_nat {n : Nat} (h : n ≤ 1000000000) : r62 (n : Int) := (r62_iff _).mpr (by omega)
@[simp] theorem r62_lit {i : Int} (h0 : -1000000000 ≤ i) (h1 : i ≤ 1000000000) : r62 i := (r62_iff _).mpr (by omega)
theorem r62_of {i : Int} (h0 : -1000000000 ≤ i) (h1 : i ≤ 1000000000) : r62 i := (r62_iff _).mpr (by omega)
@[simp] theorem r62_0 : r62 0 := r62_of (by decide) (by decide)
@[simp] theorem r62_1 : r62 1 := r62_of (by decide) (by decide)
@[simp] theorem small_0 : small 0 := (small_iff _).mpr (by decide)
@[simp] theorem small_1 : small 1 := (small_iff _).mpr (by decide)
@[simp] theorem small_nat {n : Nat} (h : n < 18446744073709551616) : small (n : Int) := (small_iff _).mpr (by omega)
@[simp] theorem small_lit {i : Int} (h0 : -1000000000000000000 ≤ i) (h1 : i ≤ 1000000000000000000) : small i := (small_iff _).mpr (by omega)
theorem at0 {α : Type} (x : α) (xs : List α) : atI (x :: xs) 0 = some x := by simp [atI, ixN]
@[simp] theorem ixN_lit (n : Nat) (k : Nat) : ixN n (OfNat.ofNat k) = if k < n then some k else none := by
  unfold ixN
  rw [if_pos (by exact Int.natCast_nonneg k)]
  by_cases h : k < n
  · rw [if_pos h, if_pos (by exact Int.ofNat_lt.mpr h)]; rfl
  · rw [if_neg h, if_neg (by exact fun g => h (Int.ofNat_lt.mp g))]
end
end Z
namespace Z
open PySem PySem.Spec PyProof.Rows L2
theorem _root_.L2.Room.u65 {k : Nat} {A : Around} (r : Room k A) : A.units + 65 < cLine := by have := r.un; omega
theorem _root_.L2.RoomG.u65 {k : Nat} {A : Around} (h : RoomG k A) : A.units + 65 < cLine := h.r.u65
theorem _root_.L2.RoomG.units {k : Nat} {A : Around} (h : RoomG k A) : A.units + 64 < cLine := h.r.units
theorem _root_.L2.RoomG.u1 {k : Nat} {A : Around} (h : RoomG k A) : A.units + 1 < cLine := by have := h.r.un; omega
theorem _root_.L2.RoomG.u3 {k : Nat} {A : Around} (h : RoomG k A) : A.units + 3 < cLine := by have := h.r.un; omega
/-! ### += of whole numbers -/
section
variable {X : Cx}
theorem no_iadd : NoEx iaddD := by
  intro d e S c S' h
  cases d <;> cases e <;> cases h
theorem zi_add : OpR X (inplaceOp .Add) (r2 X iaddD) := by
  intro pins s σ H x y v u Q I rx ry ⟨ι, S, d, e, sm, rd, re, po⟩
  cases d <;> cases e <;> first
    | exact False.elim po
    | skip
  case int.int i j =>
    rw [Rep] at rd re
    subst rd re
    exact iop_add pins s σ H _ _ v u Q I rx ry ⟨i, j, rfl, rfl, Po.ret po sm (by rw [Rep])⟩
end
section
variable {P : Program} {w : World} {K : PySem.W.Frag} {mg : Mg} {base : Heap}
/-- THE RULE for a def that is taken by its body -/
theorem fn_run {x qual : Str} {st : Stmt} {f : Addr} {fd : FuncData} {N ps : List Str} {k n : Nat} {b : SS} (Fu : Fun K x qual st f fd) (S : FnScope N ps (defScope st)) (hn : n = ps.length)
    (der : ∀ (cdv : Value) (A : Around) (outer : List PySem.Env) (s : Shared) (H : Hp) (E : XK), RoomG k (A.deeper (envOfC qual (defScope st) s.heap.objs.size f cdv)) → GSs (cx P w K mg base N qual st f cdv A outer s H E) (wE E) (defBody st) b) :
    FnG P w K mg base (L2.CX P w) (k + 1) f fd ps (spF K mg (runF n N.length b)) := by
  subst hn
  have hpl : ps.length ≤ N.length := by have := congrArg List.length S.pre; rw [List.length_take] at this; omega
  refine Fu.okG S (fun vs H Q E h => ?_) (fun cdv A outer s H vs Q E hr h => ?_)
  · obtain ⟨ι, S, ds, s, r, p⟩ := h
    rw [r.length]
    exact runF_len fun e => by rw [e] at p; exact p
  · refine ⟨_, der cdv A outer s H E hr, ?_⟩
    obtain ⟨ι, S0, ds, s0, r, p⟩ := h
    have hl : ds.length = ps.length := runF_len (fun e => by rw [e] at p; exact p)
    refine ⟨ι, env0 N.length ds, S0, s0, .start r (by rw [hl]; exact hpl), ?_⟩
    unfold runF at p
    rw [if_pos hl] at p
    match g : b (env0 N.length ds) S0, p with
    | none, p => exact p.elim
    | some (.rt d S'), p => exact fun ι1 H1 v e1 s1 r1 => p ι1 H1 v e1 s1 r1
    | some (.nx ρ S'), p => exact fun ι1 H1 σ1 e1 s1 r1 => p ι1 H1 .non e1 s1 (by rw [Rep])
    | some (.ex c ρ S'), p => exact fun ι1 H1 σ1 cls e1 s1 r1 g1 => p ι1 H1 cls e1 s1 g1
    | some (.bk ρ S'), p => exact p.elim
    | some (.ct ρ S'), p => exact p.elim
/-- the law's own promise -/
def spL (K : PySem.W.Frag) (R : Fn) : Sp := fun vs H Q _ => ∃ (a : Addr) (ns : List Int), vs = [.ref a] ∧ FzL K H a (ns.map V.int) ∧ Only H ∧ (∃ S', R [.fl (ns.map .int)] [] = some (.ok (.bl true) S')) ∧ ∀ H', Q (.bl true) H'
theorem repL_ints {ι : List Addr} {H : Hp} : ∀ ns : List Int, RepL K ι H (ns.map .int) (ns.map V.int)
  | [] => by rw [List.map_nil, RepL]; rfl
  | n :: r => by rw [List.map_cons, RepL]; exact ⟨_, _, rfl, by rw [Rep], repL_ints r⟩
theorem sim_nil {H : Hp} : Sim K [] [] H := ⟨rfl, List.Pairwise.nil, fun i o a h _ => by simp at h⟩
theorem law_ok {f : Addr} {fd : FuncData} {ps : List Str} {k : Nat} {R : Fn} (h : FnG P w K mg base (L2.CX P w) k f fd ps (spF K mg R)) : FnG P w K mg base (L2.CX P w) k f fd ps (spL K R) :=
  h.imp fun vs H Q E ⟨a, ns, e, hz, ho, ⟨S', hR⟩, q⟩ => by
    subst e
    refine ⟨[], [], [.fl (ns.map .int)], sim_nil, ?_, ?_⟩
    · rw [RepL]
      exact ⟨_, _, rfl, by rw [Rep]; exact ⟨a, _, rfl, hz, repL_ints ns⟩, by rw [RepL]⟩
    · rw [hR]
      intro ι' H' v e1 s1 r1
      rw [Rep] at r1
      subst r1
      exact q H'
theorem fz_only {H : Hp} {a : Addr} {xs : List V} (ho : Only H) (h : SqL K H a xs) : FzL K H a xs := by
  rcases h with (h | h) | h
  · rcases ho a with e | ⟨o, ys, e⟩
    · rw [e] at h; cases h
    · rw [e] at h; cases h
  · exact .inl h
  · exact .inr h
end
/-- THE END: R answers True at every script of at most n numbers -/
theorem walkZ {l : PySem.W.OpenLaw} {n k : Nat} {q : Program} {loose : List Str} {XP : (Str → Option Value) → Heap → Prop} {YP : World → Heap → Prop} {d : DefRec} {K : Params → PySem.W.Frag} {R : Fn}
    (hn : l.most = some n) (hn2 : n ≤ sizeLine) (hr : RoomG k callerA) (hdf : d.params.defaults = [])
    (hY : ∀ (w : World) (h : Heap), YP w h → (K w.params).In h)
    (hR : ∀ ns : List Int, ns.length ≤ n → (∀ z ∈ ns, Builtin.Int.intBits z ≤ 1048576) → ∃ S', R [.fl (ns.map .int)] [] = some (.ok (.bl true) S'))
    (F : ∀ (w : World) (mg : Str → Option Value) (fa : Addr) (h : Heap), (K w.params).In h → h.Ns mainGlobals mg → mg d.name = some (.ref fa) →
      ∃ fd : FuncData, (∀ (s : Shared) (u : Value), BindsTo s fd ⟨[u], []⟩ [("script", u)]) ∧ ∀ base : Heap, (K w.params).In base → base.Ns mainGlobals mg → FnG l.prog w (K w.params) mg base (L2.CX l.prog w) k fa fd ["script"] (spF (K w.params) mg R)) :
    PySem.W.WalkO q loose XP YP l.row.toRowW d [] (fun f vs => PySem.call f vs) :=
  L2.walk_ofG (x := "script") (CX := fun w => L2.CX l.prog w) (sp := fun w => spL (K w.params) R) hn hn2 hdf hr hY
    (fun w mg fa h X G hm => let ⟨fd, hb, hF⟩ := F w mg fa h X G hm; ⟨fd, hb, fun base X' G' => law_ok (hF base X' G')⟩)
    (fun w H a ns hl hb hO hS => ⟨a, ns, rfl, fz_only hO hS, hO, hR ns hl hb, fun _ => rfl⟩)
    (fun w H s e s' ⟨_, _, _, _, _, _, _, _, _, _, _, _, h⟩ => h)
section
variable {X : Cx} {W : WX} {pos : Pos}
/-- a text of the module -/
theorem ge_gs {x s : Str} {t : Tok} {cs : List Nat} (hm : X.mg x = some (.str s t)) (hs : s = str cs) (ha : (cs.all fun c => decide (c < 128)) = true) (hg : Gl X x) (hd : (x == ("__debug__" : Str)) = false := by decide) : GE X W (.Name x pos) (eC (.str cs)) :=
  ge_glob (v := .str s) hg hm ⟨_, rfl⟩ (fun _ _ => by rw [Rep]; exact ⟨by rw [hs], fun c hc => of_decide_eq_true (List.all_eq_true.mp ha c hc)⟩) hd
theorem ge_gi {x : Str} {i : Int} {t : Tok} (hm : X.mg x = some (.int i t)) (hg : Gl X x) (hd : (x == ("__debug__" : Str)) = false := by decide) : GE X W (.Name x pos) (eC (.int i)) :=
  ge_glob (v := .int i) hg hm ⟨_, rfl⟩ (fun _ _ => by rw [Rep]) hd
end
end Z
namespace Z
open PySem PySem.Spec PyProof.Rows L2
theorem fnok_none {P : Program} {w : World} {K : PySem.W.Frag} {mg : Mg} {base : Heap} {f : Addr} {fd : FuncData} {ps : List Str} {k : Nat} : FnG P w K mg base (L2.CX P w) k f fd ps (spF K mg fun _ _ => none) :=
  ⟨fun _ _ _ _ ⟨_, _, _, _, _, p⟩ => False.elim p, fun _ _ _ _ _ _ _ _ _ _ _ _ _ ⟨_, _, _, _, _, p⟩ => False.elim p⟩
end Z
namespace Z
/-! ### more built-ins -/
def intsL : List D → Option (List Int)
  | [] => some []
  | .int i :: r => (intsL r).map (i :: ·)
  | _ :: _ => none
theorem intsL_map : ∀ ns : List Int, intsL (ns.map .int) = some ns
  | [] => rfl
  | n :: r => by simp [intsL, intsL_map r]
theorem intsL_eq : ∀ {ds : List D} {ns : List Int}, intsL ds = some ns → ds = ns.map .int
  | [], ns, h => by cases h; rfl
  | d :: ds, ns, h => by
    cases d with
    | int i =>
      rw [intsL] at h
      obtain ⟨ms, h1, rfl⟩ := Option.map_eq_some_iff.mp h
      rw [intsL_eq h1]; rfl
    | _ => cases h
def strsL : List D → Option (List (List Nat))
  | [] => some []
  | .str s :: r => (strsL r).map (s :: ·)
  | _ :: _ => none
theorem strsL_map : ∀ ns : List (List Nat), strsL (ns.map .str) = some ns
  | [] => rfl
  | n :: r => by simp [strsL, strsL_map r]
theorem strsL_eq : ∀ {ds : List D} {ns : List (List Nat)}, strsL ds = some ns → ds = ns.map .str
  | [], ns, h => by cases h; rfl
  | d :: ds, ns, h => by
    cases d with
    | str i =>
      rw [strsL] at h
      obtain ⟨ms, h1, rfl⟩ := Option.map_eq_some_iff.mp h
      rw [strsL_eq h1]; rfl
    | _ => cases h
def intF : Fn := fun ds S => match ds with
  | [.int i] => some (.ok (.int i) S)
  | [.bl b] => some (.ok (.int (if b = true then 1 else 0)) S)
  | _ => none
/-- a number's figures -/
def dec (i : Int) : List Nat := (toString i).toList.map Char.toNat
def strF : Fn := fun ds S => match ds with
  | [.int i] => if i.natAbs.log2 < 1920 then some (.ok (.str (dec i)) S) else none
  | [.str s] => some (.ok (.str s) S)
  | _ => none
def joinS (sep : List Nat) : List (List Nat) → List Nat
  | [] => []
  | [x] => x
  | x :: y :: r => x ++ sep ++ joinS sep (y :: r)
def joinF : Fn := fun ds S => match ds with
  | [.str sep, .ref n] => (match S[n]? with
    | some (.lst xs) => (match strsL xs with
      | some ys => if (ys.map List.length).sum + ys.length * sep.length ≤ 16777216 then some (.ok (.str (joinS sep ys)) S) else none
      | none => none)
    | _ => none)
  | _ => none
def sumF : Fn := fun ds S => match ds with
  | [.ref n] => (match S[n]? with
    | some (.lst xs) => (match intsL xs with
      | some ys => some (.ok (.int ys.sum) S)
      | none => none)
    | _ => none)
  | _ => none
def maxI : List Int → Option Int
  | [] => none
  | x :: r => some (r.foldl max x)
def minI : List Int → Option Int
  | [] => none
  | x :: r => some (r.foldl min x)
def maxLF : Fn := fun ds S => match ds with
  | [.ref n] => (match S[n]? with
    | some (.lst xs) => (match (intsL xs).bind maxI with
      | some y => some (.ok (.int y) S)
      | none => none)
    | _ => none)
  | _ => none
def minLF : Fn := fun ds S => match ds with
  | [.ref n] => (match S[n]? with
    | some (.lst xs) => (match (intsL xs).bind minI with
      | some y => some (.ok (.int y) S)
      | none => none)
    | _ => none)
  | _ => none
theorem foldl_max_mem : ∀ (r : List Int) (x : Int), r.foldl max x ∈ x :: r
  | [], x => by simp
  | y :: r, x => by
    have h := foldl_max_mem r (max x y)
    rw [List.foldl_cons]
    rcases List.mem_cons.mp h with h | h
    · rw [h]
      by_cases c : x ≤ y
      · rw [Int.max_eq_right c]; simp
      · rw [Int.max_eq_left (by omega)]; simp
    · simp [h]
theorem foldl_max_le : ∀ (r : List Int) (x : Int), ∀ z ∈ x :: r, z ≤ r.foldl max x
  | [], x, z, h => by simp at h; subst h; exact Int.le_refl _
  | y :: r, x, z, h => by
    rw [List.foldl_cons]
    have h1 := foldl_max_le r (max x y)
    rcases List.mem_cons.mp h with h | h
    · subst h; exact Int.le_trans (Int.le_max_left z y) (h1 _ (by simp))
    · rcases List.mem_cons.mp h with h | h
      · subst h; exact Int.le_trans (Int.le_max_right x z) (h1 _ (by simp))
      · exact h1 z (by simp [h])
theorem foldl_min_mem : ∀ (r : List Int) (x : Int), r.foldl min x ∈ x :: r
  | [], x => by simp
  | y :: r, x => by
    have h := foldl_min_mem r (min x y)
    rw [List.foldl_cons]
    rcases List.mem_cons.mp h with h | h
    · rw [h]
      by_cases c : x ≤ y
      · rw [Int.min_eq_left c]; simp
      · rw [Int.min_eq_right (by omega)]; simp
    · simp [h]
theorem foldl_min_le : ∀ (r : List Int) (x : Int), ∀ z ∈ x :: r, r.foldl min x ≤ z
  | [], x, z, h => by simp at h; subst h; exact Int.le_refl _
  | y :: r, x, z, h => by
    rw [List.foldl_cons]
    have h1 := foldl_min_le r (min x y)
    rcases List.mem_cons.mp h with h | h
    · subst h; exact Int.le_trans (h1 _ (by simp)) (Int.min_le_left z y)
    · rcases List.mem_cons.mp h with h | h
      · subst h; exact Int.le_trans (h1 _ (by simp)) (Int.min_le_right x z)
      · exact h1 z (by simp [h])
theorem max_same {ns : List Int} {m y : Int} (h : maxI ns = some y) (h1 : m ∈ ns) (h2 : ∀ z ∈ ns, z ≤ m) : m = y := by
  cases ns with
  | nil => cases h
  | cons x r =>
    cases h
    exact Int.le_antisymm (foldl_max_le r x m h1) (h2 _ (foldl_max_mem r x))
theorem min_same {ns : List Int} {m y : Int} (h : minI ns = some y) (h1 : m ∈ ns) (h2 : ∀ z ∈ ns, m ≤ z) : m = y := by
  cases ns with
  | nil => cases h
  | cons x r =>
    cases h
    exact Int.le_antisymm (h2 _ (foldl_min_mem r x)) (foldl_min_le r x m h1)
/-- the numbers lo, lo + c, .., n of them -/
def stepsL (lo c : Int) (n : Nat) : List D := (List.range n).map fun (k : Nat) => .int (lo + (k : Int) * c)
/-- range(a, b) -/
noncomputable def iR2 (a b : SE) : SI := fun ρ S => bd (a ρ S) fun d S1 => bd (b ρ S1) fun e S2 => match d, e with
  | .int i, .int j => if r62 i ∧ r62 j then some (.ok ⟨(List.range (j - i).toNat).map fun (k : Nat) => .int (i + k), fun _ => True⟩ S2) else none
  | _, _ => none
@[irreducible] def r24 (i j k : Int) : Prop := (0 ≤ i ∧ i < 16777216) ∧ (0 ≤ j ∧ j < 16777216) ∧ 0 < k ∧ k < 16777216
theorem r24_iff (i j k : Int) : r24 i j k ↔ (0 ≤ i ∧ i < 16777216) ∧ (0 ≤ j ∧ j < 16777216) ∧ 0 < k ∧ k < 16777216 := by unfold r24; exact Iff.rfl
noncomputable instance (i j k : Int) : Decidable (r24 i j k) := Classical.propDecidable _
/-- range(a, b, c), c above 0 -/
noncomputable def iR3 (a b c : SE) : SI := fun ρ S => bd (a ρ S) fun d S1 => bd (b ρ S1) fun e S2 => bd (c ρ S2) fun f S3 => match d, e, f with
  | .int i, .int j, .int k => if r24 i j k then some (.ok ⟨stepsL i k (if i < j then ((j - i - 1) / k + 1).toNat else 0), fun _ => True⟩ S3) else none
  | _, _, _ => none
/-- list(range(n)) -/
noncomputable def eLR (a : SE) : SE := fun ρ S => bd (a ρ S) fun d S1 => match d with
  | .int n => if r62 n ∧ n.toNat ≤ LINE then new1 (.lst ((List.range n.toNat).map fun (k : Nat) => .int k)) S1 else none
  | _ => none
section
variable {S : Store} {ρ : Env}
@[simp] theorem o_int (i : Int) : intF [.int i] S = some (.ok (.int i) S) := rfl
@[simp] theorem o_intb (b : Bool) : intF [.bl b] S = some (.ok (.int (if b = true then 1 else 0)) S) := rfl
@[simp] theorem o_str (i : Int) : strF [.int i] S = if i.natAbs.log2 < 1920 then some (.ok (.str (dec i)) S) else none := rfl
@[simp] theorem o_join (sep : List Nat) (n : Nat) : joinF [.str sep, .ref n] S = match S[n]? with
    | some (.lst xs) => (match strsL xs with
      | some ys => if (ys.map List.length).sum + ys.length * sep.length ≤ 16777216 then some (.ok (.str (joinS sep ys)) S) else none
      | none => none)
    | _ => none := rfl
@[simp] theorem o_sum (n : Nat) : sumF [.ref n] S = match S[n]? with
    | some (.lst xs) => (match intsL xs with
      | some ys => some (.ok (.int ys.sum) S)
      | none => none)
    | _ => none := rfl
@[simp] theorem o_maxL (n : Nat) : maxLF [.ref n] S = match S[n]? with
    | some (.lst xs) => (match (intsL xs).bind maxI with
      | some y => some (.ok (.int y) S)
      | none => none)
    | _ => none := rfl
@[simp] theorem x_r2 (a b : SE) : iR2 a b ρ S = bd (a ρ S) fun d S1 => bd (b ρ S1) fun e S2 => match d, e with
  | .int i, .int j => if r62 i ∧ r62 j then some (.ok ⟨(List.range (j - i).toNat).map fun (k : Nat) => .int (i + k), fun _ => True⟩ S2) else none
  | _, _ => none := rfl
@[simp] theorem x_r3 (a b c : SE) : iR3 a b c ρ S = bd (a ρ S) fun d S1 => bd (b ρ S1) fun e S2 => bd (c ρ S2) fun f S3 => match d, e, f with
  | .int i, .int j, .int k => if r24 i j k then some (.ok ⟨stepsL i k (if i < j then ((j - i - 1) / k + 1).toNat else 0), fun _ => True⟩ S3) else none
  | _, _, _ => none := rfl
@[simp] theorem x_lr (a : SE) : eLR a ρ S = bd (a ρ S) fun d S1 => match d with
  | .int n => if r62 n ∧ n.toNat ≤ LINE then some (.ok (.ref S1.length) (S1 ++ [.lst ((List.range n.toNat).map fun (k : Nat) => .int k)])) else none
  | _ => none := rfl
end
end Z
namespace Z
/-! ### x in range(n) -/
def inRb (n : Int) : PD → Bool
  | .int i => decide (0 ≤ i ∧ i < n)
  | .bl b => decide ((if b = true then (1 : Int) else 0) < n)
  | _ => false
def inRD : D → D → Store → M D := fun d e S => match e with
  | .int n => (match dat S d with
    | some x => if x.dep ≤ 60 ∧ 0 ≤ n ∧ n ≤ 1000 then some (.ok (.bl (inRb n x)) S) else none
    | none => none)
  | _ => none
end Z
namespace Z
/-- d[::-1] -/
def revD : D → Store → M D := fun d S => match d with
  | .ref n => (match S[n]? with
    | some (.lst xs) => new1 (.lst xs.reverse) S
    | _ => none)
  | _ => none
end Z
namespace Z
/-- text.split(c): cur, what stands ahead -/
def splitA (c : Nat) : List Nat → List Nat → List (List Nat)
  | cur, [] => [cur]
  | cur, x :: r => if x = c then cur :: splitA c [] r else splitA c (cur ++ [x]) r
def splitF : Fn := fun ds S => match ds with
  | [.str s, .str [c]] => if s.length + 2 ≤ 16777216 then new1 (.lst ((splitA c [] s).map .str)) S else none
  | _ => none
end Z
namespace Z
/-- int(word), a figure's too -/
def intTF : Fn := fun ds S => match ds with
  | [.str [k]] => if 48 ≤ k ∧ k ≤ 57 then some (.ok (.int ((k : Int) - 48)) S) else none
  | ds => intF ds S
@[simp] theorem o_intT (k : Nat) (S : Store) : intTF [.str [k]] S = if 48 ≤ k ∧ k ≤ 57 then some (.ok (.int ((k : Int) - 48)) S) else none := rfl
@[simp] theorem o_split (s : List Nat) (c : Nat) (S : Store) : splitF [.str s, .str [c]] S = if s.length + 2 ≤ 16777216 then some (.ok (.ref S.length) (S ++ [.lst ((splitA c [] s).map .str)])) else none := rfl
@[simp] theorem o_rev (n : Nat) (S : Store) : revD (.ref n) S = match S[n]? with
    | some (.lst xs) => some (.ok (.ref S.length) (S ++ [.lst xs.reverse]))
    | _ => none := rfl
theorem splitA_mem (c : Nat) : ∀ (l cur : List Nat), ∀ q ∈ splitA c cur l, ∀ k ∈ q, k ∈ cur ∨ k ∈ l
  | [], cur, q, hq, k, hk => by simp [splitA] at hq; subst hq; exact .inl hk
  | x :: r, cur, q, hq, k, hk => by
    rw [splitA] at hq
    split at hq
    · rcases List.mem_cons.mp hq with rfl | hq
      · exact .inl hk
      · rcases splitA_mem c r [] q hq k hk with h | h
        · cases h
        · exact .inr (List.mem_cons_of_mem _ h)
    · rcases splitA_mem c r (cur ++ [x]) q hq k hk with h | h
      · rcases List.mem_append.mp h with h | h
        · exact .inl h
        · simp at h; subst h; exact .inr (by simp)
      · exact .inr (List.mem_cons_of_mem _ h)
end Z
namespace Z
/-- try: b, except the class x: h -/
def sTry (x : String) (b h : SS) : SS := fun ρ S => match b ρ S with
  | some (.ex c ρ1 S1) => if c = x then h ρ1 S1 else none
  | o => o
@[simp] theorem x_raise (c : String) (ρ : Env) (S : Store) : sRaise c ρ S = some (.ex c ρ S) := rfl
@[simp] theorem x_try (x : String) (b h : SS) (ρ : Env) (S : Store) : sTry x b h ρ S = match b ρ S with
    | some (.ex c ρ1 S1) => if c = x then h ρ1 S1 else none
    | o => o := rfl
end Z
namespace Z
/-! ### dicts of tuple keys -/
def kEq0 : D → D → Bool
  | .int i, .int j => decide (i = j)
  | .str s, .str t => decide (s = t)
  | _, _ => false
def kEqL : List D → List D → Bool
  | [], [] => true
  | x :: xs, y :: ys => kEq0 x y && kEqL xs ys
  | _, _ => false
def tget (kvs : List (List D × D)) (k : List D) : Option D := (kvs.find? fun p => kEqL p.1 k).map (·.2)
def tput (kvs : List (List D × D)) (k : List D) (v : D) : List (List D × D) :=
  if (kvs.any fun p => kEqL p.1 k) = true then kvs.map (fun p => if kEqL p.1 k = true then (p.1, v) else p) else kvs ++ [(k, v)]
def eDctT : SE := fun _ S => new1 (.st []) S
/-- (a, ..) not in d -/
def eTNi (es : List SE) (d : SE) : SE := fun ρ S => bd (evL es ρ S) fun ks S1 => bd (d ρ S1) fun x S2 => match x with
  | .ref n => (match S2[n]? with
    | some (.st kvs) => if ks.all k0 = true then some (.ok (.bl (!(tget kvs ks).isSome)) S2) else none
    | _ => none)
  | _ => none
/-- d[a, ..] -/
def eTGet (d : SE) (es : List SE) : SE := fun ρ S => bd (d ρ S) fun x S1 => bd (evL es ρ S1) fun ks S2 => match x with
  | .ref n => (match S2[n]? with
    | some (.st kvs) => if ks.all k0 = true then (match tget kvs ks with | some v => some (.ok v S2) | none => none) else none
    | _ => none)
  | _ => none
/-- d[a, ..] = v -/
def sTPut (d : SE) (es : List SE) (v : SE) : SS := fun ρ S => bo (v ρ S) ρ fun w S1 => bo (d ρ S1) ρ fun x S2 => bo (evL es ρ S2) ρ fun ks S3 => match x with
  | .ref n => (match S3[n]? with
    | some (.st kvs) => if ks.all k0 = true ∧ ks.length ≤ 1000 ∧ kvs.length < 1000000 then some (.nx ρ (S3.set n (.st (tput kvs ks w)))) else none
    | _ => none)
  | _ => none
section
variable {ρ : Env} {S : Store}
@[simp] theorem x_dctT : eDctT ρ S = some (.ok (.ref S.length) (S ++ [.st []])) := rfl
@[simp] theorem x_tni (es : List SE) (d : SE) : eTNi es d ρ S = bd (evL es ρ S) fun ks S1 => bd (d ρ S1) fun x S2 => match x with
  | .ref n => (match S2[n]? with
    | some (.st kvs) => if ks.all k0 = true then some (.ok (.bl (!(tget kvs ks).isSome)) S2) else none
    | _ => none)
  | _ => none := rfl
@[simp] theorem x_tget (es : List SE) (d : SE) : eTGet d es ρ S = bd (d ρ S) fun x S1 => bd (evL es ρ S1) fun ks S2 => match x with
  | .ref n => (match S2[n]? with
    | some (.st kvs) => if ks.all k0 = true then (match tget kvs ks with | some v => some (.ok v S2) | none => none) else none
    | _ => none)
  | _ => none := rfl
@[simp] theorem x_tput (es : List SE) (d v : SE) : sTPut d es v ρ S = bo (v ρ S) ρ fun w S1 => bo (d ρ S1) ρ fun x S2 => bo (evL es ρ S2) ρ fun ks S3 => match x with
  | .ref n => (match S3[n]? with
    | some (.st kvs) => if ks.all k0 = true ∧ ks.length ≤ 1000 ∧ kvs.length < 1000000 then some (.nx ρ (S3.set n (.st (tput kvs ks w)))) else none
    | _ => none)
  | _ => none := rfl
end
end Z
namespace Z
/-- repr(i) -/
def reprIF : Fn := fun ds S => match ds with
  | [.int i] => if i.natAbs.log2 < 1920 then some (.ok (.str (dec i)) S) else none
  | _ => none
@[simp] theorem o_reprI (i : Int) (S : Store) : reprIF [.int i] S = if i.natAbs.log2 < 1920 then some (.ok (.str (dec i)) S) else none := rfl
end Z
namespace Z
/-! ### dicts of tuple keys, keys of any expression -/
def kvL : D → Option (List D)
  | .tup ks => if ks.all k0 = true then some ks else none
  | _ => none
/-- a dict as it is read: it may be locked by a walk -/
def stAt (S : Store) : D → Option (List (List D × D))
  | .ref n => (match S[n]? with | some (.st kvs) => some kvs | some (.dct kvs) => some kvs | _ => none)
  | _ => none
def kIn (x y : D) (S : Store) : M D := match kvL x, stAt S y with
  | some ks, some kvs => some (.ok (.bl (tget kvs ks).isSome) S)
  | _, _ => none
def kNi (x y : D) (S : Store) : M D := match kvL x, stAt S y with
  | some ks, some kvs => some (.ok (.bl (!(tget kvs ks).isSome)) S)
  | _, _ => none
def kGet (y x : D) (S : Store) : M D := match kvL x, stAt S y with
  | some ks, some kvs => (match tget kvs ks with | some v => some (.ok v S) | none => none)
  | _, _ => none
/-- d[k] = v -/
def sKPut (d k v : SE) : SS := fun ρ S => bo (v ρ S) ρ fun w S1 => bo (d ρ S1) ρ fun y S2 => bo (k ρ S2) ρ fun x S3 => match y, kvL x with
  | .ref n, some ks => (match S3[n]? with
    | some (.st kvs) => if kvs.length < 1000000 then some (.nx ρ (S3.set n (.st (tput kvs ks w)))) else none
    | _ => none)
  | _, _ => none
/-- {k: v} -/
def eDct1 (k v : SE) : SE := fun ρ S => bd (k ρ (S ++ [.st []])) fun x S1 => bd (v ρ S1) fun w S2 => match kvL x, S2[S.length]? with
  | some ks, some (.st []) => some (.ok (.ref S.length) (S2.set S.length (.st [(ks, w)])))
  | _, _ => none
def prOf : List D → Option (List (List D × D))
  | [] => some []
  | .tup [k, v] :: r => (match kvL k, prOf r with | some ks, some t => some ((ks, v) :: t) | _, _ => none)
  | _ => none
/-- dict(xs), of a list of pairs -/
def dictF : Fn := fun ds S => match ds with
  | [.ref n] => (match S[n]? with
    | some (.lst xs) => (match prOf xs with
      | some kvs => if kvs.length < 1000000 then new1 (.st (kvs.foldl (fun acc p => tput acc p.1 p.2) [])) S else none
      | none => none)
    | _ => none)
  | _ => none
def i0 : D → Bool
  | .int _ => true
  | _ => false
/-- what is walked: the keys of a dict that is locked -/
def iKeyD (d : SE) : SI := fun ρ S => bd (d ρ S) fun y S1 => match y with
  | .ref n => (match S1[n]? with
    | some (.dct kvs) => if (kvs.all fun p => p.1.all i0) = true then some (.ok ⟨kvs.map fun p => .tup p.1, fun S => S[n]? = some (.dct kvs)⟩ S1) else none
    | _ => none)
  | _ => none
open Classical in
/-- a statement while the dict that name i holds is locked -/
noncomputable def sLock (i : Nat) (m : SS) : SS := fun ρ S => match ρ[i]? with
  | some (some (.ref n)) => (match S[n]? with
    | some (.st kvs) => (match m ρ (S.set n (.dct kvs)) with
      | some (.nx ρ1 S1) => if S1[n]? = some (.dct kvs) then some (.nx ρ1 (S1.set n (.st kvs))) else none
      | some (.rt d S1) => if S1[n]? = some (.dct kvs) then some (.rt d (S1.set n (.st kvs))) else none
      | _ => none)
    | _ => none)
  | _ => none
section
variable {ρ : Env} {S : Store}
@[simp] theorem x_kput (d k v : SE) : sKPut d k v ρ S = bo (v ρ S) ρ fun w S1 => bo (d ρ S1) ρ fun y S2 => bo (k ρ S2) ρ fun x S3 => match y, kvL x with
  | .ref n, some ks => (match S3[n]? with
    | some (.st kvs) => if kvs.length < 1000000 then some (.nx ρ (S3.set n (.st (tput kvs ks w)))) else none
    | _ => none)
  | _, _ => none := rfl
@[simp] theorem x_dct1 (k v : SE) : eDct1 k v ρ S = bd (k ρ (S ++ [.st []])) fun x S1 => bd (v ρ S1) fun w S2 => match kvL x, S2[S.length]? with
  | some ks, some (.st []) => some (.ok (.ref S.length) (S2.set S.length (.st [(ks, w)])))
  | _, _ => none := rfl
@[simp] theorem x_keyD (d : SE) : iKeyD d ρ S = bd (d ρ S) fun y S1 => match y with
  | .ref n => (match S1[n]? with
    | some (.dct kvs) => if (kvs.all fun p => p.1.all i0) = true then some (.ok ⟨kvs.map fun p => .tup p.1, fun S => S[n]? = some (.dct kvs)⟩ S1) else none
    | _ => none)
  | _ => none := rfl
@[simp] theorem o_kvL (ks : List D) : kvL (.tup ks) = if ks.all k0 = true then some ks else none := rfl
@[simp] theorem o_stAt (n : Nat) : stAt S (.ref n) = (match S[n]? with | some (.st kvs) => some kvs | some (.dct kvs) => some kvs | _ => none) := rfl
@[simp] theorem o_kIn (x y : D) : kIn x y S = match kvL x, stAt S y with
  | some ks, some kvs => some (.ok (.bl (tget kvs ks).isSome) S)
  | _, _ => none := rfl
@[simp] theorem o_kNi (x y : D) : kNi x y S = match kvL x, stAt S y with
  | some ks, some kvs => some (.ok (.bl (!(tget kvs ks).isSome)) S)
  | _, _ => none := rfl
@[simp] theorem o_kGet (x y : D) : kGet y x S = match kvL x, stAt S y with
  | some ks, some kvs => (match tget kvs ks with | some v => some (.ok v S) | none => none)
  | _, _ => none := rfl
@[simp] theorem o_dictF (n : Nat) : dictF [.ref n] S = (match S[n]? with
    | some (.lst xs) => (match prOf xs with
      | some kvs => if kvs.length < 1000000 then some (.ok (.ref S.length) (S ++ [.st (kvs.foldl (fun acc p => tput acc p.1 p.2) [])])) else none
      | none => none)
    | _ => none) := rfl
end
end Z
namespace Z
/-! ### texts in order -/
def ltN : List Nat → List Nat → Bool
  | _, [] => false
  | [], _ :: _ => true
  | x :: xs, y :: ys => if x < y then true else if y < x then false else ltN xs ys
theorem ltN_irr : ∀ a : List Nat, ltN a a = false
  | [] => rfl
  | x :: xs => by simp [ltN, ltN_irr xs]
theorem ltN_tri : ∀ a b : List Nat, ltN a b = true ∨ a = b ∨ ltN b a = true
  | [], [] => .inr (.inl rfl)
  | [], y :: ys => .inl rfl
  | x :: xs, [] => .inr (.inr rfl)
  | x :: xs, y :: ys => by
    rcases Nat.lt_trichotomy x y with h | h | h
    · left; simp [ltN, h]
    · subst h
      rcases ltN_tri xs ys with h | h | h
      · left; simp [ltN, h]
      · right; left; rw [h]
      · right; right; simp [ltN, h]
    · right; right; simp [ltN, h]
theorem ltN_tr : ∀ {a b c : List Nat}, ltN a b = true → ltN b c = true → ltN a c = true
  | a, [], c, h, _ => by cases a <;> cases h
  | a, _ :: _, [], _, h => by cases h
  | [], y :: ys, z :: zs, _, _ => rfl
  | x :: xs, y :: ys, z :: zs, h, g => by
    unfold ltN at h g ⊢
    by_cases h1 : x < y
    · by_cases g1 : y < z
      · rw [if_pos (by omega)]
      · rw [if_neg g1] at g
        by_cases g2 : z < y
        · rw [if_pos g2] at g; cases g
        · rw [if_pos (by omega)]
    · rw [if_neg h1] at h
      by_cases h2 : y < x
      · rw [if_pos h2] at h; cases h
      · rw [if_neg h2] at h
        have e : x = y := by omega
        subst e
        by_cases g1 : x < z
        · rw [if_pos g1]
        · rw [if_neg g1] at g ⊢
          by_cases g2 : z < x
          · rw [if_pos g2] at g; cases g
          · rw [if_neg g2] at g ⊢
            exact ltN_tr h g
theorem ltN_asym {a b : List Nat} (h : ltN a b = true) : ltN b a = false := by
  cases g : ltN b a with
  | false => rfl
  | true => have := ltN_tr h g; rw [ltN_irr] at this; cases this
abbrev Strict (l : List (List Nat)) : Prop := l.Pairwise fun a b => ltN a b = true
abbrev Weak (l : List (List Nat)) : Prop := l.Pairwise fun a b => ltN b a = false
/-- strictly rising lists of the same members are one and the same -/
theorem strict_eq : ∀ {l m : List (List Nat)}, Strict l → Strict m → (∀ x, x ∈ l ↔ x ∈ m) → l = m
  | [], [], _, _, _ => rfl
  | [], b :: m, _, _, h => absurd ((h b).mpr (by simp)) (by simp)
  | a :: l, [], _, _, h => absurd ((h a).mp (by simp)) (by simp)
  | a :: l, b :: m, hl, hm, h => by
    obtain ⟨l1, l2⟩ := List.pairwise_cons.mp hl
    obtain ⟨m1, m2⟩ := List.pairwise_cons.mp hm
    have e : a = b := by
      rcases List.mem_cons.mp ((h a).mp (by simp)) with e | e
      · exact e
      · rcases List.mem_cons.mp ((h b).mpr (by simp)) with e' | e'
        · exact e'.symm
        · have p := m1 a e
          have q := l1 b e'
          rw [ltN_asym p] at q
          cases q
    subst e
    rw [strict_eq l2 m2 fun x => ⟨fun hx => by
      rcases List.mem_cons.mp ((h x).mp (List.mem_cons_of_mem _ hx)) with e | e
      · subst e; have := l1 x hx; rw [ltN_irr] at this; cases this
      · exact e, fun hx => by
      rcases List.mem_cons.mp ((h x).mpr (List.mem_cons_of_mem _ hx)) with e | e
      · subst e; have := m1 x hx; rw [ltN_irr] at this; cases this
      · exact e⟩]
theorem strict_of {l : List (List Nat)} (h : Weak l) (nd : l.Nodup) : Strict l := by
  induction l with
  | nil => exact List.Pairwise.nil
  | cons a l ih =>
    obtain ⟨h1, h2⟩ := List.pairwise_cons.mp h
    obtain ⟨n1, n2⟩ := List.nodup_cons.mp nd
    refine List.pairwise_cons.mpr ⟨fun b hb => ?_, ih h2 n2⟩
    rcases ltN_tri a b with c | c | c
    · exact c
    · subst c; exact absurd hb n1
    · rw [h1 b hb] at c; cases c
/-- weakly rising lists, one the other's order -/
theorem weak_eq : ∀ {l m : List (List Nat)}, Weak l → Weak m → l.Perm m → l = m
  | [], m, _, _, p => p.nil_eq
  | a :: l, [], _, _, p => absurd p.length_eq (by simp)
  | a :: l, b :: m, hl, hm, p => by
    obtain ⟨l1, l2⟩ := List.pairwise_cons.mp hl
    obtain ⟨m1, m2⟩ := List.pairwise_cons.mp hm
    have e : a = b := by
      rcases List.mem_cons.mp (p.mem_iff.mp (show a ∈ a :: l by simp)) with e | e
      · exact e
      · rcases List.mem_cons.mp (p.mem_iff.mpr (show b ∈ b :: m by simp)) with e' | e'
        · exact e'.symm
        · have q1 := m1 a e
          have q2 := l1 b e'
          rcases ltN_tri a b with c | c | c
          · rw [q1] at c; cases c
          · exact c
          · rw [q2] at c; cases c
    subst e
    rw [weak_eq l2 m2 (p.cons_inv)]
def insU (x : List Nat) : List (List Nat) → List (List Nat)
  | [] => [x]
  | y :: r => if x = y then y :: r else if ltN x y = true then x :: y :: r else y :: insU x r
def sortU (ws : List (List Nat)) : List (List Nat) := ws.foldr insU []
theorem insU_mem {x z : List Nat} : ∀ {l : List (List Nat)}, z ∈ insU x l ↔ z = x ∨ z ∈ l
  | [] => by simp [insU]
  | y :: r => by
    unfold insU
    split
    · rename_i h; subst h; simp
    · split
      · simp
      · rw [List.mem_cons, insU_mem, List.mem_cons]
        constructor
        · rintro (h | h | h)
          · exact .inr (.inl h)
          · exact .inl h
          · exact .inr (.inr h)
        · rintro (h | h | h)
          · exact .inr (.inl h)
          · exact .inl h
          · exact .inr (.inr h)
theorem insU_strict {x : List Nat} : ∀ {l : List (List Nat)}, Strict l → Strict (insU x l)
  | [], _ => List.pairwise_singleton _ _
  | y :: r, h => by
    obtain ⟨h1, h2⟩ := List.pairwise_cons.mp h
    unfold insU
    split
    · exact h
    · rename_i hne
      split
      · rename_i hlt
        exact List.pairwise_cons.mpr ⟨fun z hz => by rcases List.mem_cons.mp hz with e | e; subst e; exact hlt; exact ltN_tr hlt (h1 z e), h⟩
      · rename_i hlt
        refine List.pairwise_cons.mpr ⟨fun z hz => ?_, insU_strict h2⟩
        rcases insU_mem.mp hz with e | e
        · subst e
          rcases ltN_tri y z with c | c | c
          · exact c
          · exact absurd c.symm hne
          · exact absurd c hlt
        · exact h1 z e
theorem sortU_mem {z : List Nat} : ∀ {ws : List (List Nat)}, z ∈ sortU ws ↔ z ∈ ws
  | [] => by simp [sortU]
  | w :: ws => by
    have ih := sortU_mem (z := z) (ws := ws)
    unfold sortU at ih ⊢
    rw [List.foldr_cons, insU_mem, ih, List.mem_cons]
theorem sortU_strict : ∀ ws : List (List Nat), Strict (sortU ws)
  | [] => List.Pairwise.nil
  | w :: ws => insU_strict (sortU_strict ws)
theorem strict_nodup {l : List (List Nat)} (h : Strict l) : l.Nodup := h.imp fun {a b} e => by rintro rfl; rw [ltN_irr] at e; cases e
def insM (x : List Nat) : List (List Nat) → List (List Nat)
  | [] => [x]
  | y :: r => if ltN y x = true then y :: insM x r else x :: y :: r
def sortM (ws : List (List Nat)) : List (List Nat) := ws.foldr insM []
theorem insM_perm {x : List Nat} : ∀ l : List (List Nat), (insM x l).Perm (x :: l)
  | [] => List.Perm.refl _
  | y :: r => by
    unfold insM
    split
    · exact ((insM_perm r).cons y).trans (List.Perm.swap _ _ _)
    · exact List.Perm.refl _
theorem insM_weak {x : List Nat} : ∀ {l : List (List Nat)}, Weak l → Weak (insM x l)
  | [], _ => List.pairwise_singleton _ _
  | y :: r, h => by
    obtain ⟨h1, h2⟩ := List.pairwise_cons.mp h
    unfold insM
    split
    · rename_i hlt
      refine List.pairwise_cons.mpr ⟨fun z hz => ?_, insM_weak h2⟩
      rcases List.mem_cons.mp ((insM_perm r).mem_iff.mp hz) with e | e
      · subst e; exact ltN_asym hlt
      · exact h1 z e
    · rename_i hlt
      refine List.pairwise_cons.mpr ⟨fun z hz => ?_, h⟩
      rcases List.mem_cons.mp hz with e | e
      · subst e; simpa using hlt
      · cases c : ltN z x with
        | false => rfl
        | true =>
          have hz := h1 z e
          rcases ltN_tri y x with d | d | d
          · exact absurd d hlt
          · subst d; rw [hz] at c; cases c
          · have := ltN_tr c d; rw [hz] at this; cases this
theorem sortM_perm : ∀ ws : List (List Nat), (sortM ws).Perm ws
  | [] => List.Perm.refl _
  | w :: ws => (insM_perm _).trans ((sortM_perm ws).cons w)
theorem sortM_weak : ∀ ws : List (List Nat), Weak (sortM ws)
  | [] => List.Pairwise.nil
  | w :: ws => insM_weak (sortM_weak ws)
def strL : List D → Option (List (List Nat))
  | [] => some []
  | .str s :: r => (strL r).map (s :: ·)
  | _ => none
theorem strL_map : ∀ ws : List (List Nat), strL (ws.map .str) = some ws
  | [] => rfl
  | w :: ws => by rw [List.map_cons, strL, strL_map ws]; rfl
/-- sorted(set(xs)), texts -/
def ssetF : Fn := fun ds S => match ds with
  | [.ref n] => (match S[n]? with
    | some (.lst xs) => (match strL xs with
      | some ws => if ws.length < 64 then new1 (.lst ((sortU ws).map .str)) S else none
      | none => none)
    | _ => none)
  | _ => none
/-- len(set(xs)), texts -/
def lsetF : Fn := fun ds S => match ds with
  | [.ref n] => (match S[n]? with
    | some (.lst xs) => (match strL xs with
      | some ws => if ws.length < 64 then some (.ok (.int (sortU ws).length) S) else none
      | none => none)
    | _ => none)
  | _ => none
/-- sorted(xs), texts -/
def sortF : Fn := fun ds S => match ds with
  | [.ref n] => (match S[n]? with
    | some (.lst xs) => (match strL xs with
      | some ws => if ws.length < 64 then new1 (.lst ((sortM ws).map .str)) S else none
      | none => none)
    | _ => none)
  | _ => none
theorem sset_of {S : Store} {n : Nat} {ws : List (List Nat)} (h : S[n]? = some (.lst (ws.map .str))) (hl : ws.length < 64) : ssetF [.ref n] S = some (.ok (.ref S.length) (S ++ [.lst ((sortU ws).map .str)])) := by
  unfold ssetF
  dsimp only
  rw [h]
  dsimp only
  rw [strL_map]
  dsimp only
  rw [if_pos hl]
  rfl
theorem lset_of {S : Store} {n : Nat} {ws : List (List Nat)} (h : S[n]? = some (.lst (ws.map .str))) (hl : ws.length < 64) : lsetF [.ref n] S = some (.ok (.int (sortU ws).length) S) := by
  unfold lsetF
  dsimp only
  rw [h]
  dsimp only
  rw [strL_map]
  dsimp only
  rw [if_pos hl]
theorem sort_of {S : Store} {n : Nat} {ws : List (List Nat)} (h : S[n]? = some (.lst (ws.map .str))) (hl : ws.length < 64) : sortF [.ref n] S = some (.ok (.ref S.length) (S ++ [.lst ((sortM ws).map .str)])) := by
  unfold sortF
  dsimp only
  rw [h]
  dsimp only
  rw [strL_map]
  dsimp only
  rw [if_pos hl]
  rfl
end Z
namespace Z
/-! ### dicts of flat keys: texts, numbers -/
def fget (kvs : List (D × D)) (k : D) : Option D := (kvs.find? fun p => kEq0 p.1 k).map (·.2)
def fput (kvs : List (D × D)) (k v : D) : List (D × D) :=
  if (kvs.any fun p => kEq0 p.1 k) = true then kvs.map (fun p => if kEq0 p.1 k = true then (p.1, v) else p) else kvs ++ [(k, v)]
def dkAt (S : Store) : D → Option (List (D × D))
  | .ref n => (match S[n]? with | some (.dk kvs) => some kvs | some (.dkl kvs) => some kvs | _ => none)
  | _ => none
def fIn (x y : D) (S : Store) : M D := match dkAt S y with
  | some kvs => if k0 x = true then some (.ok (.bl (fget kvs x).isSome) S) else none
  | none => none
def fNi (x y : D) (S : Store) : M D := match dkAt S y with
  | some kvs => if k0 x = true then some (.ok (.bl (!(fget kvs x).isSome)) S) else none
  | none => none
def fGet (y x : D) (S : Store) : M D := match dkAt S y with
  | some kvs => if k0 x = true then (match fget kvs x with | some v => some (.ok v S) | none => none) else none
  | none => none
/-- d[k] = v -/
def sFPut (d k v : SE) : SS := fun ρ S => bo (v ρ S) ρ fun w S1 => bo (d ρ S1) ρ fun y S2 => bo (k ρ S2) ρ fun x S3 => match y with
  | .ref n => (match S3[n]? with
    | some (.dk kvs) => if kvs.length < 1000000 ∧ k0 x = true then some (.nx ρ (S3.set n (.dk (fput kvs x w)))) else none
    | _ => none)
  | _ => none
/-- {} -/
def eDctF : SE := fun _ S => new1 (.dk []) S
/-- {k: v} -/
def eFDct1 (k v : SE) : SE := fun ρ S => bd (k ρ (S ++ [.dk []])) fun x S1 => bd (v ρ S1) fun w S2 => match S2[S.length]? with
  | some (.dk []) => if k0 x = true then some (.ok (.ref S.length) (S2.set S.length (.dk [(x, w)]))) else none
  | _ => none
def fOf : List D → Option (List (D × D))
  | [] => some []
  | .tup [k, v] :: r => (match fOf r with | some t => if k0 k = true then some ((k, v) :: t) else none | none => none)
  | _ => none
/-- dict(xs), of a tuple of pairs -/
def dictTF : Fn := fun ds S => match ds with
  | [.tup xs] => (match fOf xs with
      | some kvs => if kvs.length < 1000000 ∧ xs ≠ [] then new1 (.dk (kvs.foldl (fun acc p => fput acc p.1 p.2) [])) S else none
      | none => none)
  | _ => none
/-- dict(xs), of a list of pairs -/
def dictLF : Fn := fun ds S => match ds with
  | [.ref n] => (match S[n]? with
    | some (.lst xs) => (match fOf xs with
      | some kvs => if kvs.length < 1000000 then new1 (.dk (kvs.foldl (fun acc p => fput acc p.1 p.2) [])) S else none
      | none => none)
    | _ => none)
  | _ => none
/-- d.get(k, v) -/
def eFGet2 (d k v : SE) : SE := fun ρ S => bd (d ρ S) fun y S1 => match dkAt S1 y with
  | some _ => bd (k ρ S1) fun x S2 => bd (v ρ S2) fun w S3 => (match dkAt S3 y with
    | some kvs => if k0 x = true then some (.ok ((fget kvs x).getD w) S3) else none
    | none => none)
  | none => none
/-- len(d), d a dict -/
def dlenF : Fn := fun ds S => match ds with
  | [.ref n] => (match S[n]? with
    | some (.st kvs) => if kvs.length < 1000000 then some (.ok (.int kvs.length) S) else none
    | some (.dk kvs) => if kvs.length < 1000000 then some (.ok (.int kvs.length) S) else none
    | _ => none)
  | _ => none
@[simp] theorem o_dlen (n : Nat) (S : Store) : dlenF [.ref n] S = (match S[n]? with
    | some (.st kvs) => if kvs.length < 1000000 then some (.ok (.int kvs.length) S) else none
    | some (.dk kvs) => if kvs.length < 1000000 then some (.ok (.int kvs.length) S) else none
    | _ => none) := rfl
/-- enumerate(t), t a tuple -/
def enumL : Nat → List D → List D
  | _, [] => []
  | k, d :: ds => .tup [.int (k : Nat), d] :: enumL (k + 1) ds
def iEnum1 (a : SE) : SI := fun ρ S => bd (a ρ S) fun d S1 => match d with
  | .tup ds => some (.ok ⟨enumL 0 ds, fun _ => True⟩ S1)
  | _ => none
/-- t[::-1], a tuple -/
def revTD : D → Store → M D := fun d S => match d with
  | .tup xs => some (.ok (.tup xs.reverse) S)
  | _ => none
section
variable {ρ : Env} {S : Store}
@[simp] theorem x_enum1 (a : SE) : iEnum1 a ρ S = bd (a ρ S) fun d S1 => match d with
  | .tup ds => some (.ok ⟨enumL 0 ds, fun _ => True⟩ S1)
  | _ => none := rfl
@[simp] theorem o_revT (xs : List D) : revTD (.tup xs) S = some (.ok (.tup xs.reverse) S) := rfl
@[simp] theorem x_dctF : eDctF ρ S = some (.ok (.ref S.length) (S ++ [.dk []])) := rfl
@[simp] theorem o_dkAt (n : Nat) : dkAt S (.ref n) = (match S[n]? with | some (.dk kvs) => some kvs | some (.dkl kvs) => some kvs | _ => none) := rfl
@[simp] theorem o_fIn (x y : D) : fIn x y S = match dkAt S y with
  | some kvs => if k0 x = true then some (.ok (.bl (fget kvs x).isSome) S) else none
  | none => none := rfl
@[simp] theorem o_fNi (x y : D) : fNi x y S = match dkAt S y with
  | some kvs => if k0 x = true then some (.ok (.bl (!(fget kvs x).isSome)) S) else none
  | none => none := rfl
@[simp] theorem o_fGet (x y : D) : fGet y x S = match dkAt S y with
  | some kvs => if k0 x = true then (match fget kvs x with | some v => some (.ok v S) | none => none) else none
  | none => none := rfl
@[simp] theorem x_fput (d k v : SE) : sFPut d k v ρ S = bo (v ρ S) ρ fun w S1 => bo (d ρ S1) ρ fun y S2 => bo (k ρ S2) ρ fun x S3 => match y with
  | .ref n => (match S3[n]? with
    | some (.dk kvs) => if kvs.length < 1000000 ∧ k0 x = true then some (.nx ρ (S3.set n (.dk (fput kvs x w)))) else none
    | _ => none)
  | _ => none := rfl
@[simp] theorem x_fdct1 (k v : SE) : eFDct1 k v ρ S = bd (k ρ (S ++ [.dk []])) fun x S1 => bd (v ρ S1) fun w S2 => match S2[S.length]? with
  | some (.dk []) => if k0 x = true then some (.ok (.ref S.length) (S2.set S.length (.dk [(x, w)]))) else none
  | _ => none := rfl
@[simp] theorem x_fget2 (d k v : SE) : eFGet2 d k v ρ S = bd (d ρ S) fun y S1 => match dkAt S1 y with
  | some _ => bd (k ρ S1) fun x S2 => bd (v ρ S2) fun w S3 => (match dkAt S3 y with
    | some kvs => if k0 x = true then some (.ok ((fget kvs x).getD w) S3) else none
    | none => none)
  | none => none := rfl
@[simp] theorem o_k0i (i : Int) : k0 (.int i) = true := rfl
@[simp] theorem o_k0s (s : List Nat) : k0 (.str s) = true := rfl
theorem o_dictTF (xs : List D) : dictTF [.tup xs] S = (match fOf xs with
      | some kvs => if kvs.length < 1000000 ∧ xs ≠ [] then some (.ok (.ref S.length) (S ++ [.dk (kvs.foldl (fun acc p => fput acc p.1 p.2) [])])) else none
      | none => none) := rfl
theorem o_dictLF (n : Nat) : dictLF [.ref n] S = (match S[n]? with
    | some (.lst xs) => (match fOf xs with
      | some kvs => if kvs.length < 1000000 then some (.ok (.ref S.length) (S ++ [.dk (kvs.foldl (fun acc p => fput acc p.1 p.2) [])])) else none
      | none => none)
    | _ => none) := rfl
end
end Z
namespace Z
open PySem PySem.Spec PyProof.Rows L2
section
variable {X : Cx} {W : WX} {a b c e tg : Expr} {ma mb mc m : SE} {pos : Pos}
theorem ints_ok {K : PySem.W.Frag} {ι : List Addr} {H : Hp} : ∀ {ns : List Int} {vs : List V}, RepL K ι H (ns.map .int) vs → vs = ns.map V.int
  | [], vs, r => by rw [List.map_nil] at r; rw [r.nil]; rfl
  | n :: ns, vs, r => by
    rw [List.map_cons] at r
    obtain ⟨v, t, rfl, h1, h2⟩ := r.cons
    rw [Rep] at h1
    rw [h1, ints_ok h2]; rfl
theorem strs_ok {K : PySem.W.Frag} {ι : List Addr} {H : Hp} : ∀ {ns : List (List Nat)} {vs : List V}, RepL K ι H (ns.map .str) vs → vs = (ns.map str).map V.str ∧ ∀ s ∈ ns, ∀ c ∈ s, c < 128
  | [], vs, r => by rw [List.map_nil] at r; rw [r.nil]; exact ⟨rfl, fun _ h => by cases h⟩
  | n :: ns, vs, r => by
    rw [List.map_cons] at r
    obtain ⟨v, t, rfl, h1, h2⟩ := r.cons
    rw [Rep] at h1
    obtain ⟨h3, h4⟩ := strs_ok h2
    rw [h1.1, h3]
    refine ⟨rfl, fun s hs => ?_⟩
    rcases List.mem_cons.mp hs with rfl | hs
    · exact h1.2
    · exact h4 s hs
theorem no_int : NoExF intF := by intro ds S c S'; unfold intF; split <;> simp
theorem zc_int : CallR X (.type "int") (rB X intF) := by
  intro pins s σ H xs us Q I r ⟨ι, S, ds, sm, rd, po⟩
  unfold intF at po
  split at po
  · obtain ⟨v, rfl, h⟩ := one_of (ds := []) rd
    rw [Rep] at h
    exact call_int1 pins s σ H _ us Q I r (.inl ⟨_, by rw [h], Po.ret po sm (by rw [Rep])⟩)
  · obtain ⟨v, rfl, h⟩ := one_of (ds := []) rd
    rw [Rep] at h
    exact call_int1 pins s σ H _ us Q I r (.inr ⟨_, by rw [h], Po.ret po sm (by rw [Rep])⟩)
  · exact po.elim
theorem dec_eq (i : Int) : Str.ofString (toString i) = str (dec i) := Str.ofString_eq_toList _
theorem dec_asc (i : Int) : ∀ c ∈ dec i, c < 128 := fun c h => by
  obtain ⟨k, h1, rfl⟩ := List.mem_map.mp h
  exact int_ascii i k h1
theorem no_strF : NoExF strF := by intro ds S c S'; unfold strF; split <;> (try split) <;> simp
theorem zc_str : CallR X (.type "str") (rB X strF) := by
  intro pins s σ H xs us Q I r ⟨ι, S, ds, sm, rd, po⟩
  unfold strF at po
  split at po
  · rename_i i
    obtain ⟨v, rfl, h⟩ := one_of (ds := []) rd
    rw [Rep] at h
    split at po
    · rename_i hl
      exact call_str_int pins s σ H _ us Q I r ⟨i, by rw [h], hl, Po.ret po sm (by rw [Rep]; exact ⟨congrArg V.str (dec_eq i), dec_asc i⟩)⟩
    · exact po.elim
  · obtain ⟨v, rfl, h⟩ := one_of (ds := []) rd
    exact SkE.call_str_str pins s σ H _ us Q I r ⟨_, by rw [Rep] at h; rw [h.1], Po.ret po sm (by rw [Rep] at h ⊢; exact ⟨rfl, h.2⟩)⟩
  · exact po.elim
theorem join_str (sep : List Nat) : ∀ ys : List (List Nat), Str.join (str sep) (ys.map str) = str (joinS sep ys)
  | [] => rfl
  | [x] => rfl
  | x :: y :: r => by
    have h := join_str sep (y :: r)
    rw [List.map_cons] at h
    rw [List.map_cons, List.map_cons, Str.join, h, joinS]
    · show (⟨((str x).cps ++ (str sep).cps) ++ (str (joinS sep (y :: r))).cps⟩ : Str) = _
      simp [str]
    · simp
theorem join_asc {sep : List Nat} (hs : ∀ c ∈ sep, c < 128) : ∀ ys : List (List Nat), (∀ s ∈ ys, ∀ c ∈ s, c < 128) → ∀ c ∈ joinS sep ys, c < 128
  | [], _, c, h => by cases h
  | [x], g, c, h => g x (by simp) c h
  | x :: y :: r, g, c, h => by
    rw [joinS] at h
    rcases List.mem_append.mp h with h | h
    · rcases List.mem_append.mp h with h | h
      · exact g x (by simp) c h
      · exact hs c h
    · exact join_asc hs (y :: r) (fun s hs' => g s (List.mem_cons_of_mem _ hs')) c h
theorem no_join : NoExF joinF := by intro ds S c S'; unfold joinF; split <;> (try split) <;> (try split) <;> (try split) <;> simp
theorem zm_join : MtR X "str.join" (rM X joinF) := by
  intro pins s σ H x xs v us Q I rx r ⟨ι, S, d, ds, sm, rd, rds, po⟩
  unfold joinF at po
  split at po
  · rename_i sep n heq
    cases heq
    obtain ⟨w, rfl, hw⟩ := one_of (ds := []) rds
    split at po
    · rename_i ys g
      obtain ⟨p, vs, rfl, i1, e1, r1⟩ := lst_ok sm hw g
      split at po
      · rename_i zs hz
        split at po
        · rename_i hl
          have := strsL_eq hz
          subst this
          obtain ⟨q1, q2⟩ := strs_ok r1
          rw [Rep] at rd
          refine mt_join pins s σ H _ _ v us Q I rx r ⟨str sep, p, zs.map str, rd.1, rfl, .inl (by rw [← q1]; exact SqL.of e1), ?_, Po.ret po sm ?_⟩
          · simpa [Str.length, Function.comp_def] using hl
          · rw [Rep, show Txt.join (str sep) (zs.map str) = Str.join (str sep) (zs.map str) from PySem.StrLaws.glued_eq_join _ _, join_str]
            exact ⟨rfl, join_asc rd.2 zs q2⟩
        · exact po.elim
      · exact po.elim
    · exact po.elim
  · exact po.elim
theorem no_sum : NoExF sumF := by intro ds S c S'; unfold sumF; split <;> (try split) <;> (try split) <;> simp
theorem zc_sum (hc : X.calm = true) : CallR X (.builtin "sum") (rB X sumF) := by
  intro pins s σ H xs us Q I r ⟨ι, S, ds, sm, rd, po⟩
  unfold sumF at po
  split at po
  · split at po
    · rename_i g
      split at po
      · rename_i hb
        obtain ⟨v, rfl, h⟩ := one_of (ds := []) rd
        obtain ⟨p, vs, rfl, i1, e1, r1⟩ := lst_ok sm h g
        have := intsL_eq hb
        subst this
        have := ints_ok r1
        subst this
        exact cr_sum hc pins s σ H _ us Q I r ⟨p, _, rfl, SqL.of e1, Po.ret po sm (by rw [Rep])⟩
      · exact po.elim
    · exact po.elim
  · exact po.elim
theorem no_maxL : NoExF maxLF := by intro ds S c S'; unfold maxLF; split <;> (try split) <;> (try split) <;> simp
theorem zc_maxL (hc : X.calm = true) : CallR X (.builtin "max") (rB X maxLF) := by
  intro pins s σ H xs us Q I r ⟨ι, S, ds, sm, rd, po⟩
  unfold maxLF at po
  split at po
  · split at po
    · rename_i g
      split at po
      · rename_i y hb
        obtain ⟨ns, hb1, hb2⟩ := Option.bind_eq_some_iff.mp hb
        obtain ⟨v, rfl, h⟩ := one_of (ds := []) rd
        obtain ⟨p, vs, rfl, i1, e1, r1⟩ := lst_ok sm h g
        have := intsL_eq hb1
        subst this
        have := ints_ok r1
        subst this
        refine cr_max hc pins s σ H _ us Q I r ⟨p, ns, rfl, SqL.of e1, ?_, fun m h1 h2 => ?_⟩
        · cases ns with
          | nil => cases hb2
          | cons _ _ => simp
        · rw [max_same hb2 h1 h2]; exact Po.ret po sm (by rw [Rep])
      · exact po.elim
    · exact po.elim
  · exact po.elim
theorem no_minL : NoExF minLF := by intro ds S c S'; unfold minLF; split <;> (try split) <;> (try split) <;> simp
theorem zc_minL (hc : X.calm = true) : CallR X (.builtin "min") (rB X minLF) := by
  intro pins s σ H xs us Q I r ⟨ι, S, ds, sm, rd, po⟩
  unfold minLF at po
  split at po
  · split at po
    · rename_i g
      split at po
      · rename_i y hb
        obtain ⟨ns, hb1, hb2⟩ := Option.bind_eq_some_iff.mp hb
        obtain ⟨v, rfl, h⟩ := one_of (ds := []) rd
        obtain ⟨p, vs, rfl, i1, e1, r1⟩ := lst_ok sm h g
        have := intsL_eq hb1
        subst this
        have := ints_ok r1
        subst this
        refine cr_min hc pins s σ H _ us Q I r ⟨p, ns, rfl, SqL.of e1, ?_, fun m h1 h2 => ?_⟩
        · cases ns with
          | nil => cases hb2
          | cons _ _ => simp
        · rw [min_same hb2 h1 h2]; exact Po.ret po sm (by rw [Rep])
      · exact po.elim
    · exact po.elim
  · exact po.elim
/-! ### ranges -/
theorem gi_r2 {p : Pos} (ha : GE X W a ma) (hb : GE X W b mb) (hg : Gl X "range") (hm : X.mg "range" = none) (hs : starEach [a, b] X.env = [(false, eval a X.env), (false, eval b X.env)] := by rfl) (hs2 : starEach [b] X.env = [(false, eval b X.env)] := by rfl) (hpl : (backTo pos (starEach [b] X.env)).any (·.1) = false := by rfl)
    (hsa : starEach [a, b] X.env = (false, eval a X.env) :: starEach [b] X.env := by rfl) (hsb : starEach [b] X.env = (false, eval b X.env) :: starEach [] X.env := by rfl) : GI X W tg (.Call (.Name "range" p) [a, b] [] pos) (iR2 ma mb) := (pi_range2 hg hm (pa_cons ha (pa_cons hb pa_nil hsb) hsa) hs hs2).imp fun σ H R ⟨ι, ρ, S, sm, r, p⟩ => by
  refine ⟨ι, ρ, S, sm, r, Po.bd p fun d S1 ι1 H1 x e1 s1 r1 p1 => ?_⟩
  refine ⟨ι1, ρ, S1, s1, r.ext e1, Po.bd p1 fun d' S2 ι2 H2 y e2 s2 r2 p2 => ?_⟩
  split at p2
  · rename_i i j
    rw [Rep] at r1 r2
    subst r1 r2
    split at p2
    · rename_i hc
      rw [r62_iff, r62_iff] at hc
      exact ⟨i, j, rfl, by omega, Po.ritm p2 s2 ritm_range⟩
    · exact p2.elim
  · exact p2.elim
theorem ritm_rangeC {K : PySem.W.Frag} {ι : List Addr} {H : Hp} {lo k : Int} {n : Nat} : RItm K ι H ⟨stepsL lo k n, fun _ => True⟩ (Itc lo k n) := fun ι' H' S' ex sm c => by
  refine ⟨fun i x hx => ?_, by show n ≤ _; simp [stepsL]⟩
  unfold stepsL at hx
  rw [List.getElem?_map] at hx
  obtain ⟨j, hk, rfl⟩ := Option.map_eq_some_iff.mp hx
  have hi : i < n := by simpa using (List.getElem?_eq_some_iff.mp hk).1
  rw [List.getElem?_range hi] at hk
  cases hk
  refine ⟨hi, fun v H2 y => ?_⟩
  obtain ⟨rfl, rfl⟩ := y
  exact ⟨.refl, sm, by rw [Rep]⟩
theorem rgC_up {i j k : Int} (h : (0 ≤ i ∧ i < 16777216) ∧ (0 ≤ j ∧ j < 16777216) ∧ 0 < k ∧ k < 16777216) : RgC i j k (if i < j then ((j - i - 1) / k + 1).toNat else 0) := by
  obtain ⟨⟨h1, h2⟩, ⟨h3, h4⟩, h5, h6⟩ := h
  have e : Builtin.Range.rangeSize i j k = ((if i < j then ((j - i - 1) / k + 1).toNat else 0 : Nat) : Int) := by
    unfold Builtin.Range.rangeSize
    rw [if_pos h5]
    by_cases c : i < j
    · rw [if_pos c, if_pos c]
      have : 0 ≤ (j - i - 1) / k := Int.ediv_nonneg (by omega) (by omega)
      omega
    · rw [if_neg c, if_neg c]; rfl
  refine ⟨by omega, by omega, ?_, e⟩
  unfold Builtin.Range.small
  have hb : 0 ≤ Builtin.Range.rangeSize i j k ∧ Builtin.Range.rangeSize i j k ≤ 16777216 := by
    rw [e]
    refine ⟨Int.natCast_nonneg _, ?_⟩
    by_cases c : i < j
    · rw [if_pos c]
      have h0 : 0 ≤ (j - i - 1) / k := Int.ediv_nonneg (by omega) (by omega)
      have : (j - i - 1) / k ≤ j - i - 1 := Int.ediv_le_self _ (by omega)
      omega
    · rw [if_neg c]; decide
  simp only [Builtin.Range.rangeFitsLong, Bool.and_eq_true, Bool.or_eq_true, decide_eq_true_eq, beq_iff_eq]
  rw [if_pos h5]
  simp only [Bool.and_eq_true, decide_eq_true_eq]
  omega
theorem gi_r3 {p : Pos} (ha : GE X W a ma) (hb : GE X W b mb) (hc : GE X W c mc) (hg : Gl X "range") (hm : X.mg "range" = none) (hs : starEach [a, b, c] X.env = (false, eval a X.env) :: starEach [b, c] X.env := by rfl) (hpl : (backTo pos (starEach [b, c] X.env)).any (·.1) = false := by rfl)
    (hsb : starEach [b, c] X.env = (false, eval b X.env) :: starEach [c] X.env := by rfl) (hsc : starEach [c] X.env = (false, eval c X.env) :: starEach [] X.env := by rfl) : GI X W tg (.Call (.Name "range" p) [a, b, c] [] pos) (iR3 ma mb mc) :=
  (pi_range3 hg hm (pa_cons ha (pa_cons hb (pa_cons hc pa_nil hsc) hsb) hs) hs hpl).imp fun σ H R ⟨ι, ρ, S, sm, r, p⟩ => by
  refine ⟨ι, ρ, S, sm, r, Po.bd p fun d S1 ι1 H1 x e1 s1 r1 p1 => ?_⟩
  refine ⟨ι1, ρ, S1, s1, r.ext e1, Po.bd p1 fun d' S2 ι2 H2 y e2 s2 r2 p2 => ?_⟩
  refine ⟨ι2, ρ, S2, s2, (r.ext e1).ext e2, Po.bd p2 fun d'' S3 ι3 H3 z e3 s3 r3 p3 => ?_⟩
  split at p3
  · rename_i i j k
    rw [Rep] at r1 r2 r3
    subst r1 r2 r3
    split at p3
    · rename_i hc
      rw [r24_iff] at hc
      exact ⟨i, j, k, _, rfl, rgC_up hc, Po.ritm p3 s3 ritm_rangeC⟩
    · exact p3.elim
  · exact p3.elim
theorem ge_lr {p p' pos' : Pos} (hc : X.calm = true) (hg : Gl X "list") (hm : X.mg "list" = none) (hg' : Gl X "range") (hm' : X.mg "range" = none) (ha : GE X W a ma) (na : starEach [a] X.env = (false, eval a X.env) :: starEach [] X.env := by rfl)
    (nb : starEach [.Call (.Name "range" p') [a] [] pos'] X.env = (false, eval (.Call (.Name "range" p') [a] [] pos') X.env) :: starEach [] X.env := by rfl) : GE X W (.Call (.Name "list" p) [.Call (.Name "range" p') [a] [] pos'] [] pos) (eLR ma) :=
  (pe_listRg hc hg hm (prg_1 hg' hm' ha na) nb).imp fun σ H Q ⟨ι, ρ, S, s, r, p⟩ => by
  refine ⟨ι, ρ, S, s, r, Po.bd p fun d S1 ι1 H1 x e1 s1 r1 p1 => ?_⟩
  split at p1
  · rename_i n
    rw [Rep] at r1
    subst r1
    split at p1
    · rename_i hb
      rw [r62_iff, LINE_eq] at hb
      refine ⟨n, rfl, ⟨by omega, by omega, by omega, by omega, by omega⟩, fun q hq => ?_⟩
      have hr : RepL X.K ι1 H1 ((List.range n.toNat).map fun (k : Nat) => .int k) (rgV 0 n) := by
        refine RepL.of_get (by rw [rgV_length]; simp) fun i d v h1 h2 => ?_
        rw [List.getElem?_map] at h1
        unfold rgV at h2
        rw [List.getElem?_map] at h2
        obtain ⟨k, h3, rfl⟩ := Option.map_eq_some_iff.mp h1
        obtain ⟨k', h4, rfl⟩ := Option.map_eq_some_iff.mp h2
        have : n - 0 = n := by omega
        rw [this, h3] at h4
        cases h4
        rw [Rep]; simp
      exact Po.ret (Po.mono (ext_new (t := [q]) (o := .lst (rgV 0 n)) hq) p1) (s1.newL hq hr) (Rep.newL s1)
    · exact p1.elim
  · exact p1.elim
end
end Z
namespace Z
open PySem PySem.Spec PyProof.Rows L2
/-- a class of errors over ValueError -/
structure ExC (K : PySem.W.Frag) (mg : Mg) (x : Str) (C : Addr) : Prop where
  gF : mg x = some (.ref C)
  xF : PySem.W.excIn K C [.type "ValueError", .type "Exception", .type "BaseException", .type "object"] "ValueError.__new__" = true
  kF : PySem.W.keepIn K (.ref C) = true
  bF : PySem.W.subIn K (.ref C) (.type "BaseException") = some true
  tF : PySem.W.typeIn K (.ref C) = some (.type "type")
  eF : PySem.W.exmOne K (.ref C) (.ref C) = some true
theorem exm_self {K : PySem.W.Frag} {S : Addr} (h1 : PySem.W.subIn K (.ref S) (.type "BaseException") = some true) (h2 : PySem.W.isClsIn K S = true) (h3 : PySem.W.typeIn K (.ref S) = some (.type "type")) (h4 : PySem.W.subIn K (.ref S) (.ref S) = some true) :
    PySem.W.exmOne K (.ref S) (.ref S) = some true := by
  have e1 : (PySem.W.subIn K (.ref S) (.type "BaseException") == some true) = true := by rw [h1] <;> rfl
  have e2 : ((PySem.W.clsIn K S).isSome && PySem.W.typeIn K (.ref S) == some (.type "type")) = true := by
    have h2' : (PySem.W.clsIn K S).isSome = true := h2
    rw [h2', h3] <;> rfl
  show (if (PySem.W.subIn K (.ref S) (.type "BaseException") == some true) = true then (if ((PySem.W.clsIn K S).isSome && PySem.W.typeIn K (.ref S) == some (.type "type")) = true then PySem.W.subIn K (.ref S) (.ref S) else none) else none) = some true
  rw [if_pos e1, if_pos e2]
  exact h4
section
variable {X : Cx} {W : WX} {pos p pos2 : Pos}
/-- raise x(e), e a constant -/
theorem gs_raise {x : String} {C : Addr} {e : Expr} {d : D} (T : ExC X.K X.mg (Str.ofString x) C) (hc : X.calm = true) (tk : Takes X W) (hg : Gl X (Str.ofString x)) (he : GE X W e (eC d)) (hs : starEach [e] X.env = (false, eval e X.env) :: starEach [] X.env := by rfl)
    (hdb : (Str.ofString x == ("__debug__" : Str)) = false := by decide) : GS X W (.Raise (some (.Call (.Name (Str.ofString x) p) [e] [] pos2)) none pos) (sRaise x) :=
  (ps_raise hc tk (SkE.pmk_own1 PySem.F.excBase_ValueError T.xF T.gF T.kF (raises_own T.bF T.tF) hg he hs hdb)).imp fun En σ H ⟨ι, ρ, S, s, r, q⟩ =>
    ⟨ι, ρ, S, s, r, fun ι' H' x' e1 s1 _ => q ι' H' σ (.ref C) e1 s1 (r.ext e1) T.gF⟩
theorem gs_try {x : String} {C : Addr} {body suite : List Stmt} {b₀ : Stmt} {np pos' : Pos} {mb mh : SS} (T : ExC X.K X.mg (Str.ofString x) C) (hs : X.stack = X.env :: X.outer) (hf : X.env.frame = some X.env.locals) (tk : Takes X W) (hg : Gl X (Str.ofString x))
    (hb : ∀ (W' : WX) (pn : List (Addr × Obj)) (xe : Value → Shared → Prop), Takes (X.tr pn xe) W' → PassesOwn (model X.prog X.w) X.A X.env xe → GSs (X.tr pn xe) W' body mb)
    (hsu : ∀ (a : Addr) (oe : Obj) (pn : List (Addr × Obj)), GSs (X.suite a ((a, oe) :: pn)) W (b₀ :: suite) mh)
    (hdb : (Str.ofString x == ("__debug__" : Str)) = false := by decide) :
    GS X W (.Try body [.ExceptHandler (some (.Name (Str.ofString x) np)) none (b₀ :: suite) pos'] [] [] pos) (sTry x mb mh) :=
  (ps_try_only (tb := fun W' => tS X.K X.mg W' mb) (ts := fun _ _ _ => tS X.K X.mg W mh) (Wout := W) hs hf ⟨hg, hdb, Or.inl T.gF⟩ tk (fun W' pn xe t po => hb W' pn xe t po) (fun a oe cls d pn _ _ => hsu a oe pn)).imp fun En σ H ⟨ι, ρ, S, s, r, q⟩ => by
    refine ⟨ι, ρ, S, s, r, ?_⟩
    unfold sTry at q
    match g : mb ρ S, q with
    | none, q => exact q
    | some (.nx ρ1 S1), q => exact q
    | some (.rt d S1), q => exact q
    | some (.bk ρ1 S1), q => exact q
    | some (.ct ρ1 S1), q => exact q
    | some (.ex c ρ1 S1), q =>
      dsimp only at q
      by_cases hc : c = x
      · rw [if_pos hc] at q
        rw [hc]
        intro ι' H' σ' cls e1 s1 r1 hm
        obtain rfl : Value.ref C = cls := by rw [T.gF] at hm; exact Option.some.inj hm
        exact ⟨true, T.eF, fun _ a _ => ⟨ι', ρ1, S1, s1, r1, PoS.mono e1 q⟩, fun h => nomatch h⟩
      · rw [if_neg hc] at q; exact q.elim
/-! ### words[::-1] -/
theorem RepL.rev {K : PySem.W.Frag} {ι : List Addr} {H : Hp} : ∀ {ds : List D} {vs : List V}, RepL K ι H ds vs → RepL K ι H ds.reverse vs.reverse
  | [], vs, r => by rw [r.nil]; show RepL K ι H [] []; rw [RepL]
  | d :: ds, vs, r => by
    obtain ⟨v, t, rfl, h1, h2⟩ := r.cons
    rw [List.reverse_cons, List.reverse_cons]
    exact (RepL.rev h2).append (RepL.one h1)
theorem no_rev : ∀ d S c S', revD d S ≠ some (.ex c S') := by intro d S c S'; unfold revD; split <;> (try split) <;> simp [new1]
theorem ge_rev {e : Expr} {m : SE} {k : Nat} {p1 p2 p3 : Pos} (he : GE X W e m) : GE X W (.Subscript e (.Slice none none (some (.UnaryOp .USub (.Constant (.int 1) k p1) p2)) p3) pos) (e1 revD m) :=
  (pe_revL he).imp fun σ H Q ⟨ι, ρ, S, s, r, p⟩ => by
    refine ⟨ι, ρ, S, s, r, Po.bd p fun d S1 ι1 H1 x e1 s1 r1 p1 => ?_⟩
    have p1 := p1.noex (E' := fun _ _ _ => False) fun c S' => no_rev d S1 c S'
    unfold revD at p1
    cases d with
    | ref n =>
      dsimp only at p1
      split at p1
      · rename_i xs g
        obtain ⟨a, vs, rfl, i1, e2, r2⟩ := lst_ok s1 r1 g
        refine ⟨a, vs, rfl, SqL.of e2, fun t ht => ?_⟩
        have r3 : RepL X.K ι1 H1 xs.reverse vs.reverse := RepL.rev r2
        exact Po.ret (Po.mono (ext_new (t := [t]) (o := .lst vs.reverse) ht) p1) (s1.newL ht r3) (Rep.newL s1)
      · exact p1.elim
    | _ => exact p1.elim
end
end Z
namespace Z
open PySem PySem.Spec PyProof.Rows L2
theorem occ_run {x y : Str} {hi lim : Nat} (hy : y.length = 1) : ∀ (m i : Nat) (st : Array Nat × Nat), st.fst.size ≤ i → st.snd ≤ i → i + m ≤ lim →
    (forIn (List.range' i m) st (StrLaws.occBody x y hi lim)).run.fst.toList = st.fst.toList ++ (List.range' i m).filter fun j => decide (j + 1 ≤ hi) && Builtin.Str.subAt x y j
  | 0, i, st, _, _, _ => by simp [List.range']
  | m + 1, i, st, h1, h2, h3 => by
    rw [List.range'_succ, List.forIn_cons]
    by_cases c : i + 1 ≤ hi ∧ Builtin.Str.subAt x y i = true
    · have hc : ((st.fst.size < lim ∧ st.snd ≤ i) ∧ i + y.length ≤ hi) ∧ Builtin.Str.subAt x y i = true := ⟨⟨⟨by omega, h2⟩, by rw [hy]; exact c.1⟩, c.2⟩
      have e : StrLaws.occBody x y hi lim i st = pure (ForInStep.yield (st.fst.push i, i + y.length)) := by unfold StrLaws.occBody; rw [if_pos hc]
      rw [e]
      have ih := occ_run (x := x) (hi := hi) (lim := lim) hy m (i + 1) (st.fst.push i, i + y.length) (by simp; omega) (by rw [hy]; exact Nat.le_refl _) (by omega)
      refine Eq.trans ih ?_
      rw [List.filter_cons_of_pos (by simp [c])]
      simp
    · have hc : ¬ (((st.fst.size < lim ∧ st.snd ≤ i) ∧ i + y.length ≤ hi) ∧ Builtin.Str.subAt x y i = true) := fun q => c ⟨by have := q.1.2; omega, q.2⟩
      have e : StrLaws.occBody x y hi lim i st = pure (ForInStep.yield (st.fst, st.snd)) := by unfold StrLaws.occBody; rw [if_neg hc]
      rw [e]
      have ih := occ_run (x := x) (hi := hi) (lim := lim) hy m (i + 1) (st.fst, st.snd) (by show st.fst.size ≤ i + 1; omega) (by show st.snd ≤ i + 1; omega) (by omega)
      refine Eq.trans ih ?_
      rw [List.filter_cons_of_neg (by simpa using c)]
theorem sub_str (s : List Nat) (i j : Nat) : Builtin.Str.strSub (Z.str s) i j = Z.str ((s.drop i).take (j - i)) := by
  apply Str.ext'
  apply Array.toList_inj.mp
  rw [StrLaws.strSub_toList]
theorem at_str (s : List Nat) (c j : Nat) : Builtin.Str.subAt (Z.str s) (Z.str [c]) j = ((s.drop j).take 1 == [c]) := by
  rw [StrLaws.subAt_eq]
  rfl
theorem parts_str (s : List Nat) (c : Nat) : ∀ (l : List Nat) (a b : Nat) (cur : List Nat), s.drop b = cur ++ l → s.drop a = l → cur.length + b = a → a + l.length = s.length →
    StrLaws.partsFrom (Z.str s) 1 b ((List.range' a (l.length + 1)).filter fun j => decide (j + 1 ≤ s.length) && Builtin.Str.subAt (Z.str s) (Z.str [c]) j) = (splitA c cur l).map Z.str
  | [], a, b, cur, h1, h2, h3, h4 => by
    have e : (List.range' a ([] : List Nat).length.succ).filter (fun j => decide (j + 1 ≤ s.length) && Builtin.Str.subAt (Z.str s) (Z.str [c]) j) = [] := by
      simp at h4
      simp [List.range', h4]
      intro h; omega
    rw [e, StrLaws.partsFrom, sub_str, splitA]
    have : (Z.str s).length = s.length := by simp [Str.length]
    rw [this, h1]
    simp at h4
    have : (cur ++ []).take (s.length - b) = cur := by rw [List.append_nil]; exact List.take_of_length_le (by omega)
    rw [this]; rfl
  | x :: r, a, b, cur, h1, h2, h3, h4 => by
    have ha : decide (a + 1 ≤ s.length) = true := by simp at h4 ⊢; omega
    have hs : Builtin.Str.subAt (Z.str s) (Z.str [c]) a = decide (x = c) := by
      rw [at_str, h2, Bool.eq_iff_iff]; simp
    have h2' : s.drop (a + 1) = r := by rw [← List.drop_drop, h2]; rfl
    rw [List.length_cons, List.range'_succ]
    by_cases hx : x = c
    · rw [List.filter_cons_of_pos (by rw [ha, hs]; simp [hx]), StrLaws.partsFrom, splitA, if_pos hx, sub_str, h1]
      have : (cur ++ x :: r).take (a - b) = cur := by rw [show a - b = cur.length by omega]; simp
      rw [this, parts_str s c r (a + 1) (a + 1) [] (by simpa using h2') h2' (by simp) (by simp at h4; omega)]
      rfl
    · rw [List.filter_cons_of_neg (by rw [ha, hs]; simp [hx]), splitA, if_neg hx]
      exact parts_str s c r (a + 1) b (cur ++ [x]) (by rw [h1]; simp) h2' (by simp; omega) (by simp at h4; omega)
theorem kind1 {s : List Nat} (h : ∀ k ∈ s, k < 128) : Builtin.Str.strKind (Z.str s) = 1 := by
  have : (Z.str s).cps.all (· < 256) = true := by
    rw [Array.all_eq_true_iff_forall_mem]
    intro k hk
    have := h k (by simpa using hk)
    simp; omega
  unfold Builtin.Str.strKind
  rw [if_pos this]
theorem split_str {s : List Nat} {c : Nat} (h : ∀ k ∈ s, k < 128) (hc : c < 128) : Txt.split (Z.str s) (Z.str [c]) = (splitA c [] s).map Z.str := by
  have hl : (Z.str s).length = s.length := by simp [Str.length]
  have hl1 : (Z.str [c]).length = 1 := rfl
  have ho : Builtin.Str.occurrences (Z.str s) (Z.str [c]) 0 (Z.str s).length ((Z.str s).length + 1) = (List.range' 0 (s.length + 1)).filter fun j => decide (j + 1 ≤ s.length) && Builtin.Str.subAt (Z.str s) (Z.str [c]) j := by
    rw [StrLaws.occ_eq, hl]
    have := occ_run (x := Z.str s) (y := Z.str [c]) (hi := s.length) (lim := s.length + 1) hl1 (s.length + 1) 0 (#[], 0) (by simp) (by simp) (by omega)
    simpa using this
  have hp := parts_str s c s 0 0 [] (by simp) (by simp) (by simp) (by simp)
  unfold Txt.split
  by_cases h0 : s.length < 1
  · have : s = [] := by cases s <;> simp at h0; rfl
    subst this
    rw [if_pos (by rw [hl, hl1]; simp)]
    rfl
  · rw [if_neg (by rw [hl, hl1, kind1 h, kind1 (s := [c]) (by simpa using hc)]; simp at h0; simp [h0]), ho]
    by_cases he : ((List.range' 0 (s.length + 1)).filter fun j => decide (j + 1 ≤ s.length) && Builtin.Str.subAt (Z.str s) (Z.str [c]) j).isEmpty = true
    · rw [if_pos he]
      rw [List.isEmpty_iff.mp he, StrLaws.partsFrom, StrLaws.sub_whole] at hp
      exact hp
    · rw [if_neg he, StrLaws.partsBetween_eq, hl1]
      exact hp
theorem repL_strs {K : PySem.W.Frag} {ι : List Addr} {H : Hp} : ∀ ns : List (List Nat), (∀ n ∈ ns, ∀ c ∈ n, c < 128) → RepL K ι H (ns.map .str) ((ns.map Z.str).map V.str)
  | [], _ => by rw [List.map_nil, RepL]; rfl
  | n :: r, h => by
    rw [List.map_cons, RepL]
    exact ⟨_, _, rfl, by rw [Rep]; exact ⟨rfl, h n (by simp)⟩, repL_strs r fun m hm => h m (List.mem_cons_of_mem _ hm)⟩
section
variable {X : Cx}
theorem no_split : NoExF splitF := by intro ds S c S'; unfold splitF; split <;> (try split) <;> simp [new1]
theorem zm_split : MtR X "str.split" (rM X splitF) := by
  intro pins s σ H x xs v us Q I rx r ⟨ι, S, d, ds, sm, rd, rds, po⟩
  unfold splitF at po
  split at po
  · rename_i z c heq
    cases heq
    obtain ⟨w, rfl, hw⟩ := one_of (ds := []) rds
    rw [Rep] at rd hw
    split at po
    · rename_i hl
      have hc : c < 128 := hw.2 c (by simp)
      refine mt_split pins s σ H _ _ v us Q I rx r ⟨Z.str z, Z.str [c], rd.1, by rw [hw.1], rfl, by rw [sizeLine_eq]; simpa [Str.length] using hl, ?_⟩
      intro p hp
      rw [split_str rd.2 hc]
      have hr : RepL X.K ι H ((splitA c [] z).map .str) (((splitA c [] z).map Z.str).map V.str) := repL_strs _ fun q hq k hk => by
        rcases splitA_mem c z [] q hq k hk with h | h
        · cases h
        · exact rd.2 k h
      exact Po.ret (Po.mono (ext_new (t := [p]) (o := .lst (((splitA c [] z).map Z.str).map V.str)) hp) po) (sm.newL hp hr) (Rep.newL sm)
    · exact po.elim
  · exact po.elim
theorem no_intT : NoExF intTF := by intro ds S c S'; unfold intTF intF; split <;> (try split) <;> simp
theorem dig_int {k : Nat} (h : 48 ≤ k ∧ k ≤ 57) : PySem.intText? (Z.str [k]) = some ((k : Int) - 48) := by
  obtain ⟨j, rfl⟩ : ∃ j, k = 48 + j := ⟨k - 48, by omega⟩
  have hj : j < 10 := by omega
  match j, hj with
  | 0, _ | 1, _ | 2, _ | 3, _ | 4, _ | 5, _ | 6, _ | 7, _ | 8, _ | 9, _ => decide +kernel
theorem zc_intT : CallR X (.type "int") (rB X intTF) := by
  intro pins s σ H xs us Q I r ⟨ι, S, ds, sm, rd, po⟩
  unfold intTF at po
  split at po
  · rename_i k
    obtain ⟨v, rfl, h⟩ := one_of (ds := []) rd
    rw [Rep] at h
    split at po
    · rename_i hk
      exact call_int_str pins s σ H _ us Q I r ⟨Z.str [k], (k : Int) - 48, by rw [h.1], dig_int hk, (show 1 ≤ 640 by decide), Po.ret po sm (by rw [Rep])⟩
    · exact po.elim
  · exact zc_int pins s σ H xs us Q I r ⟨ι, S, ds, sm, rd, po⟩
end
end Z
namespace Z
open PySem PySem.Spec PyProof.Rows L2
theorem _root_.L2.Room.u1 {k : Nat} {A : Around} (r : Room k A) : A.units + 1 < cLine := by have := r.un; omega
/-! ### dicts -/
theorem keyD_eq : ∀ {x y : D} {k l : Key}, keyD x = some k → keyD y = some l → kEq0 x y = decide (k = l)
  | .int i, .int j, k, l, h, g => by cases h; cases g; simp [kEq0]
  | .str s, .str t, k, l, h, g => by
    cases h; cases g
    have : (Sum.inr (str s) : Key) = Sum.inr (str t) ↔ s = t := ⟨fun e => by have := Sum.inr.inj e; simpa using congrArg (fun z : Str => z.cps.toList) this, fun e => by rw [e]⟩
    simp only [kEq0]
    rw [Bool.eq_iff_iff]
    simp only [decide_eq_true_eq]
    exact this.symm
  | .int i, .str t, k, l, h, g => by cases h; cases g; simp [kEq0]
  | .str s, .int j, k, l, h, g => by cases h; cases g; simp [kEq0]
theorem keysD_eq : ∀ {xs ys : List D} {ks ls : List Key}, keysD xs = some ks → keysD ys = some ls → kEqL xs ys = decide (ks = ls)
  | [], [], ks, ls, h, g => by cases h; cases g; simp [kEqL]
  | [], y :: ys, ks, ls, h, g => by
    rw [keysD] at g
    split at g
    · cases h; cases g; simp [kEqL]
    · cases g
  | x :: xs, [], ks, ls, h, g => by
    rw [keysD] at h
    split at h
    · cases h; cases g; simp [kEqL]
    · cases h
  | x :: xs, y :: ys, ks, ls, h, g => by
    rw [keysD] at h g
    split at h
    · rename_i a as h1 h2
      split at g
      · rename_i b bs g1 g2
        cases h; cases g
        rw [kEqL, keyD_eq h1 g1, keysD_eq h2 g2, Bool.eq_iff_iff]
        simp
      · cases g
    · cases h
theorem keysD_ok : ∀ {xs : List D}, xs.all k0 = true → ∃ ks, keysD xs = some ks
  | [], _ => ⟨[], rfl⟩
  | x :: xs, h => by
    rw [List.all_cons, Bool.and_eq_true] at h
    obtain ⟨ks, e⟩ := keysD_ok h.2
    cases x with
    | int i => exact ⟨_, by rw [keysD, e]; rfl⟩
    | str s => exact ⟨_, by rw [keysD, e]; rfl⟩
    | _ => cases h.1
section
variable {K : PySem.W.Frag} {ι : List Addr} {H : Hp}
theorem repL_keys : ∀ {xs : List D} {vs : List V} {ks : List Key}, RepL K ι H xs vs → keysD xs = some ks → vs = ks.map kV
  | [], vs, ks, r, h => by cases h; exact r.nil
  | x :: xs, vs, ks, r, h => by
    obtain ⟨v, t, rfl, r1, r2⟩ := r.cons
    rw [keysD] at h
    split at h
    · rename_i k ks' h1 h2
      cases h
      rw [repL_keys r2 h2, List.map_cons]
      cases x with
      | int i => cases h1; rw [Rep] at r1; rw [r1]; rfl
      | str s => cases h1; rw [Rep] at r1; rw [r1.1]; rfl
      | _ => cases h1
    · cases h
theorem tget_ok {k : List D} {ks : List Key} (hk : keysD k = some ks) : ∀ {kvs : List (List D × D)} {es : List (List Key × V)}, KsR keysD K ι H kvs es → match tget kvs k with
    | some d => ∃ v, valV es ks = some v ∧ Rep K ι H d v
    | none => valV es ks = none
  | [], es, h => by rw [KsR] at h; subst h; exact valV_nil
  | p :: r, es, h => by
    rw [KsR] at h
    obtain ⟨k', v, t, rfl, h1, h2, h3⟩ := h
    have e := keysD_eq h1 hk
    have ih := tget_ok hk h3
    by_cases c : k' = ks
    · have : kEqL p.1 k = true := by rw [e]; simp [c]
      have g : tget (p :: r) k = some p.2 := by simp [tget, List.find?_cons, this]
      rw [g]
      exact ⟨v, valV_pos (p := (k', v)) c, h2⟩
    · have : kEqL p.1 k = false := by rw [e]; simp [c]
      have g : tget (p :: r) k = tget r k := by simp [tget, List.find?_cons, this]
      rw [g, valV_neg (p := (k', v)) c]
      exact ih
theorem KsR.snoc {α κ : Type} {key : α → Option κ} {x : α} {d : D} {k : κ} {v : V} (hk : key x = some k) (r : Rep K ι H d v) : ∀ {kvs : List (α × D)} {es : List (κ × V)}, KsR key K ι H kvs es → KsR key K ι H (kvs ++ [(x, d)]) (es ++ [(k, v)])
  | [], es, h => by rw [KsR] at h; subst h; exact ⟨k, v, [], rfl, hk, r, rfl⟩
  | p :: q, es, h => by
    rw [KsR] at h
    obtain ⟨k', v', t, rfl, h1, h2, h3⟩ := h
    rw [List.cons_append, KsR]
    exact ⟨k', v', _, rfl, h1, h2, KsR.snoc hk r h3⟩
theorem any_ok {k : List D} {ks : List Key} (hk : keysD k = some ks) : ∀ {kvs : List (List D × D)} {es : List (List Key × V)}, KsR keysD K ι H kvs es → (kvs.any fun p => kEqL p.1 k) = es.any fun p => decide (p.1 = ks)
  | [], es, h => by rw [KsR] at h; subst h; rfl
  | p :: r, es, h => by
    rw [KsR] at h
    obtain ⟨k', v, t, rfl, h1, h2, h3⟩ := h
    rw [List.any_cons, List.any_cons, any_ok hk h3, keysD_eq h1 hk]
theorem map_ok {k : List D} {ks : List Key} (hk : keysD k = some ks) {d : D} {w : V} (rd : Rep K ι H d w) : ∀ {kvs : List (List D × D)} {es : List (List Key × V)}, KsR keysD K ι H kvs es → KsR keysD K ι H (kvs.map fun p => if kEqL p.1 k = true then (p.1, d) else p) (es.map fun p => if p.1 = ks then (p.1, w) else p)
  | [], es, h => by rw [KsR] at h; subst h; rfl
  | p :: r, es, h => by
    rw [KsR] at h
    obtain ⟨k', v, t, rfl, h1, h2, h3⟩ := h
    rw [List.map_cons, List.map_cons, KsR, keysD_eq h1 hk]
    by_cases c : k' = ks
    · exact ⟨k', w, _, by rw [if_pos c], by simp [c, h1], by simpa [c] using rd, map_ok hk rd h3⟩
    · exact ⟨k', v, _, by rw [if_neg c], by simp [c, h1], by simpa [c] using h2, map_ok hk rd h3⟩
theorem tput_ok {k : List D} {ks : List Key} (hk : keysD k = some ks) {d : D} {w : V} (rd : Rep K ι H d w) {kvs : List (List D × D)} {es : List (List Key × V)} (h : KsR keysD K ι H kvs es) : KsR keysD K ι H (tput kvs k d) (putK es ks w) := by
  unfold tput putK
  rw [any_ok hk h]
  split
  · exact map_ok hk rd h
  · exact KsR.snoc hk rd h
end
section
variable {X : Cx} {W : WX} {o d : Expr} {es : List Expr} {ms : List SE} {md mv : SE} {pos pos' pos2 : Pos}
theorem ge_dctT : GE X W (.Dict [] [] pos) eDctT := pe_dnewT.imp fun σ H Q ⟨ι, ρ, S, s, r, p⟩ q hq => by
  have e := ext_new (ι := ι) (t := [q]) (o := HO.dT []) hq
  exact Po.ret (Po.mono e p) (s.new hq ⟨[], upd_same, rfl⟩) (Rep.newL s)
theorem tni_read {ta : TA} (hu : X.A.units + 1 < cLine) (ha : GA X W es ms) (hl : ms.length ≤ 1000) {σ : L2.St} {H : Hp} {Q : VK} (h : tE X.K X.mg W (eTNi ms md) σ H Q) : tDNotIn (tTup (tA X.K X.mg W ms)) (tE X.K X.mg W md) σ H Q := by
  obtain ⟨ι, ρ, S, s, r, p⟩ := h
  refine ⟨ι, ρ, S, s, r, Po.evL p fun ds S1 ι1 H1 vs hd e1 s1 r1 p1 => ⟨?_, fun q hq => ?_⟩⟩
  · rw [r1.length, hd]; exact Nat.le_trans hl (by decide)
  have e := ext_tup (ι := ι1) (o := .tup vs) hq
  refine ⟨ι1, ρ, S1, s1.tup hq, (r.ext e1).ext e, Po.bd (Po.mono e p1) fun x S2 ι2 H2 y e2 s2 r2 p2 => ?_⟩
  cases x with
  | ref n =>
    rw [Rep] at r2
    obtain ⟨a, rfl, ha2⟩ := r2
    dsimp only at p2
    match g : S2[n]?, p2 with
    | some (.st kvs), p2 =>
      dsimp only at p2
      by_cases hk : ds.all k0 = true
      · rw [if_pos hk] at p2
        obtain ⟨en, he, hr⟩ := s2.get ha2 g
        obtain ⟨ks, hks⟩ := keysD_ok hk
        have hvs := repL_keys r1 hks
        have hq2 : H2 q = some (.tup (ks.map kV)) := by rw [← hvs]; exact e2.tup q vs upd_same
        refine ⟨a, valV en ks, rfl, DGet.t he hq2, ?_⟩
        have hb : (valV en ks).isSome = (tget kvs ds).isSome := by
          have t := tget_ok hks hr
          cases c : tget kvs ds with
          | none => rw [c] at t; rw [t]; rfl
          | some w => rw [c] at t; obtain ⟨v, hv, _⟩ := t; rw [hv]; rfl
        rw [hb]
        exact Po.ret p2 s2 (by rw [Rep])
      · rw [if_neg hk] at p2; exact p2.elim
    | none, p2 => exact p2.elim
    | some (.lst _), p2 => exact p2.elim
    | some (.dct _), p2 => exact p2.elim
    | some (.ins _ _), p2 => exact p2.elim
    | some (.exn _), p2 => exact p2.elim
    | some (.dkl _), p2 => exact p2.elim
    | some (.dk _), p2 => exact p2.elim
  | _ => exact p2.elim
theorem gt_tni {x1} (hu : X.A.units + 1 < cLine) (ha : GA X W es ms) (hd : GE X W d md) (hl : ms.length ≤ 1000 := by exact Nat.le_of_ble_eq_true rfl)
    (hm : behindInMarks .NotIn d = false := by first | exact nobehind _ (by decide) (by decide) | rfl) : GT X W (.Compare (.Tuple es x1 pos2) [.NotIn] [d] pos) (tVal (eTNi ms md)) :=
  (pt_cmp (pc_dnotin hu (pe_tup ha) hd) hm).imp fun σ H Q h => tni_read (ta := tNil) hu ha hl (tVal_read h)
theorem tget_read (hl : ms.length ≤ 1000) {σ : L2.St} {H : Hp} {Q : VK} (h : tE X.K X.mg W (eTGet md ms) σ H Q) : tDGet (tE X.K X.mg W md) (tTup (tA X.K X.mg W ms)) σ H Q := by
  obtain ⟨ι, ρ, S, s, r, p⟩ := h
  refine ⟨ι, ρ, S, s, r, Po.bd p fun x S1 ι1 H1 y e1 s1 r1 p1 => ?_⟩
  refine ⟨ι1, ρ, S1, s1, r.ext e1, Po.evL p1 fun ds S2 ι2 H2 vs hd e2 s2 r2 p2 => ⟨?_, fun q hq => ?_⟩⟩
  · rw [r2.length, hd]; exact Nat.le_trans hl (by decide)
  have e := ext_tup (ι := ι2) (o := .tup vs) hq
  cases x with
  | ref n =>
    have r1 := Rep.ext e2 _ _ r1
    rw [Rep] at r1
    obtain ⟨a, rfl, ha2⟩ := r1
    dsimp only at p2
    match g : S2[n]?, p2 with
    | some (.st kvs), p2 =>
      dsimp only at p2
      by_cases hk : ds.all k0 = true
      · rw [if_pos hk] at p2
        obtain ⟨en, he, hr⟩ := (s2.tup (o := .tup vs) hq).get ha2 g
        obtain ⟨ks, hks⟩ := keysD_ok hk
        have hvs := repL_keys r2 hks
        have t := tget_ok hks hr
        cases c : tget kvs ds with
        | none => rw [c] at p2; exact p2.elim
        | some w =>
          rw [c] at p2 t
          obtain ⟨v, hv, rv⟩ := t
          refine ⟨a, v, rfl, ?_, Po.ret (Po.mono e p2) (s2.tup hq) rv⟩
          rw [← hv]
          exact DGet.t he (by rw [← hvs]; exact upd_same)
      · rw [if_neg hk] at p2; exact p2.elim
    | none, p2 => exact p2.elim
    | some (.lst _), p2 => exact p2.elim
    | some (.dct _), p2 => exact p2.elim
    | some (.ins _ _), p2 => exact p2.elim
    | some (.exn _), p2 => exact p2.elim
    | some (.dkl _), p2 => exact p2.elim
    | some (.dk _), p2 => exact p2.elim
  | _ => exact p2.elim
theorem ge_tget {x1} (hu : X.A.units + 1 < cLine) (hd : GE X W d md) (ha : GA X W es ms) (hl : ms.length ≤ 1000 := by exact Nat.le_of_ble_eq_true rfl) (hs : NoSl (.Tuple es x1 pos2) := by exact fun _ _ => rfl) :
    GE X W (.Subscript d (.Tuple es x1 pos2) pos) (eTGet md ms) := (pe_dget hu hd (pe_tup ha) hs).imp fun σ H Q h => tget_read hl h
theorem gs_tput {x1} {value : Expr} (hu : X.A.units + 1 < cLine) (hv : GE X W value mv) (hd : GE X W d md) (ha : GA X W es ms) (hl : ms.length ≤ 1000 := by exact Nat.le_of_ble_eq_true rfl)
    (hs : swapsWith value (some (.Subscript d (.Tuple es x1 pos2) pos')) pos.line X.env = pure false := by rfl) :
    GS X W (.Assign [.Subscript d (.Tuple es x1 pos2) pos'] value pos) (sTPut md ms mv) := (ps_dput hu hd (pe_tup ha) hv hs).imp fun En σ H ⟨ι, ρ, S, s, r, p⟩ => by
  unfold sTPut at p
  refine ⟨ι, ρ, S, s, r, PoS.bo r p fun w S1 ι1 H1 v e1 s1 r1 rr1 p1 => ?_⟩
  refine ⟨ι1, ρ, S1, s1, rr1, PoS.bo rr1 p1 fun x S2 ι2 H2 y e2 s2 r2 rr2 p2 => ?_⟩
  refine ⟨ι2, ρ, S2, s2, rr2, PoS.bo rr2 p2 fun ds S3 ι3 H3 vs e3 s3 r3 rr3 p3 => ?_⟩
  cases x with
  | ref n =>
    have r2 := Rep.ext e3 _ _ r2
    rw [Rep] at r2
    obtain ⟨a, rfl, ha2⟩ := r2
    dsimp only at p3
    match g : S3[n]?, p3 with
    | some (.st kvs), p3 =>
      dsimp only at p3
      by_cases hk : ds.all k0 = true ∧ ds.length ≤ 1000 ∧ kvs.length < 1000000
      · rw [if_pos hk] at p3
        refine ⟨by rw [r3.length]; exact Nat.le_trans hk.2.1 (by decide), fun q hq => ?_⟩
        have e := ext_tup (ι := ι3) (o := .tup vs) hq
        have s4 := s3.tup (o := .tup vs) hq
        obtain ⟨en, he, hr⟩ := s4.get ha2 g
        obtain ⟨ks, hks⟩ := keysD_ok hk.1
        have hvs := repL_keys r3 hks
        have rw4 : Rep X.K ι3 (upd H3 q (.tup vs)) w v := Rep.ext e _ _ (Rep.ext e3 _ _ (Rep.ext e2 _ _ r1))
        refine ⟨a, upd (upd H3 q (.tup vs)) a (.dT (putK en ks v)), rfl, .inr ⟨en, ks, q, he, rfl, by rw [← hvs]; exact upd_same, ?_, rfl⟩, ?_⟩
        · rw [hr.length, sizeLine_eq]; omega
        · have em : Ext ι3 (upd H3 q (.tup vs)) ι3 (upd (upd H3 q (.tup vs)) a (.dT (putK en ks v))) := ext_mut he trivial
          exact p3 ι3 _ σ (e.trans em) (s4.put ha2 ⟨_, upd_same, KsR.ext em _ _ (tput_ok hks rw4 hr)⟩ ⟨_, he, trivial⟩) ((rr3.ext e).ext em)
      · rw [if_neg hk] at p3; exact p3.elim
    | none, p3 => exact p3.elim
    | some (.lst _), p3 => exact p3.elim
    | some (.dct _), p3 => exact p3.elim
    | some (.ins _ _), p3 => exact p3.elim
    | some (.exn _), p3 => exact p3.elim
    | some (.dkl _), p3 => exact p3.elim
    | some (.dk _), p3 => exact p3.elim
  | _ => exact p3.elim
theorem no_reprI : NoExF reprIF := by intro ds S c S'; unfold reprIF; split <;> (try split) <;> simp
theorem zc_reprI : CallR X (.builtin "repr") (rB X reprIF) := by
  intro pins s σ H xs us Q I r ⟨ι, S, ds, sm, rd, po⟩
  unfold reprIF at po
  split at po
  · rename_i i
    obtain ⟨v, rfl, h⟩ := one_of (ds := []) rd
    rw [Rep] at h
    split at po
    · rename_i hl
      exact SkE.call_repr_int pins s σ H _ us Q I r ⟨i, by rw [h], hl, Po.ret po sm (by rw [Rep]; exact ⟨congrArg V.str (dec_eq i), dec_asc i⟩)⟩
    · exact po.elim
  · exact po.elim
end
end Z
namespace Z
open PySem PySem.Spec PyProof.Rows L2
theorem _root_.L2.Room.u3 {k : Nat} {A : Around} (r : Room k A) : A.units + 3 < cLine := by have := r.un; omega
/-! ### dicts of tuple keys: what lies there -/
section
variable {K : PySem.W.Frag} {ι : List Addr} {H : Hp}
theorem kv_ok {x : D} {y : V} {ks : List D} (r : Rep K ι H x y) (h : kvL x = some ks) : ∃ b kk, y = .ref b ∧ H b = some (.tup (kk.map kV)) ∧ keysD ks = some kk := by
  unfold kvL at h
  split at h
  · rename_i zs
    split at h
    · rename_i hk
      cases h
      rw [Rep] at r
      obtain ⟨a, vs, rfl, h1, h2⟩ := r
      rw [hk] at h1
      obtain ⟨kk, hkk⟩ := keysD_ok hk
      exact ⟨a, kk, rfl, by rw [← repL_keys h2 hkk]; exact h1, hkk⟩
    · cases h
  · cases h
theorem st_ok {S : Store} (s : Sim K ι S H) {x : D} {y : V} {kvs : List (List D × D)} (r : Rep K ι H x y) (h : stAt S x = some kvs) : ∃ a en, y = .ref a ∧ Rd H a (.dT en) ∧ KsR keysD K ι H kvs en := by
  unfold stAt at h
  split at h
  · rename_i n
    rw [Rep] at r
    obtain ⟨a, rfl, ha⟩ := r
    split at h
    · rename_i g
      cases h
      obtain ⟨en, he, hr⟩ := s.get ha g
      exact ⟨a, en, rfl, .inl he, hr⟩
    · rename_i g
      cases h
      obtain ⟨o, en, he, hr⟩ := s.get ha g
      exact ⟨a, en, rfl, .inr ⟨o, he⟩, hr⟩
    · cases h
  · cases h
end
section
variable {X : Cx} {W : WX} {a b o d k : Expr} {ma mb md mk mv : SE} {pos pos' : Pos}
theorem isSome_ok {K : PySem.W.Frag} {ι : List Addr} {H : Hp} {ks : List D} {kk : List Key} (hk : keysD ks = some kk) {kvs : List (List D × D)} {en : List (List Key × V)} (h : KsR keysD K ι H kvs en) : (valV en kk).isSome = (tget kvs ks).isSome := by
  have t := tget_ok hk h
  cases c : tget kvs ks with
  | none => rw [c] at t; rw [t]; rfl
  | some w => rw [c] at t; obtain ⟨v, hv, _⟩ := t; rw [hv]; rfl
theorem kni_read {σ : L2.St} {H : Hp} {Q : VK} (h : tE X.K X.mg W (e2 kNi ma mb) σ H Q) : tDNotIn (tE X.K X.mg W ma) (tE X.K X.mg W mb) σ H Q := by
  obtain ⟨ι, ρ, S, s, r, p⟩ := h
  refine ⟨ι, ρ, S, s, r, Po.bd p fun x S1 ι1 H1 y e1 s1 r1 p1 => ?_⟩
  refine ⟨ι1, ρ, S1, s1, r.ext e1, Po.bd p1 fun z S2 ι2 H2 w e2 s2 r2 p2 => ?_⟩
  have r1 := Rep.ext e2 _ _ r1
  unfold kNi at p2
  split at p2
  · rename_i ks kvs g1 g2
    obtain ⟨b, kk, rfl, h1, hk⟩ := kv_ok r1 g1
    obtain ⟨a, en, rfl, h2, hr⟩ := st_ok s2 r2 g2
    refine ⟨a, valV en kk, rfl, .inr ⟨en, kk, b, h2, rfl, h1, rfl⟩, ?_⟩
    rw [isSome_ok hk hr]
    exact Po.ret p2 s2 (by rw [Rep])
  · exact p2.elim
theorem kin_read {σ : L2.St} {H : Hp} {Q : VK} (h : tE X.K X.mg W (e2 kIn ma mb) σ H Q) : tDIn (tE X.K X.mg W ma) (tE X.K X.mg W mb) σ H Q := by
  obtain ⟨ι, ρ, S, s, r, p⟩ := h
  refine ⟨ι, ρ, S, s, r, Po.bd p fun x S1 ι1 H1 y e1 s1 r1 p1 => ?_⟩
  refine ⟨ι1, ρ, S1, s1, r.ext e1, Po.bd p1 fun z S2 ι2 H2 w e2 s2 r2 p2 => ?_⟩
  have r1 := Rep.ext e2 _ _ r1
  unfold kIn at p2
  split at p2
  · rename_i ks kvs g1 g2
    obtain ⟨b, kk, rfl, h1, hk⟩ := kv_ok r1 g1
    obtain ⟨a, en, rfl, h2, hr⟩ := st_ok s2 r2 g2
    refine ⟨a, valV en kk, rfl, .inr ⟨en, kk, b, h2, rfl, h1, rfl⟩, ?_⟩
    rw [isSome_ok hk hr]
    exact Po.ret p2 s2 (by rw [Rep])
  · exact p2.elim
theorem gt_kni (hu : X.A.units + 1 < cLine) (ha : GE X W a ma) (hb : GE X W b mb) (hm : behindInMarks .NotIn b = false := by first | exact nobehind _ (by decide) (by decide) | rfl) : GT X W (.Compare a [.NotIn] [b] pos) (tVal (e2 kNi ma mb)) :=
  (pt_cmp (pc_dnotin hu ha hb) hm).imp fun σ H Q h => kni_read (tVal_read h)
theorem gt_kin (hu : X.A.units + 1 < cLine) (ha : GE X W a ma) (hb : GE X W b mb) (hm : behindInMarks .In b = false := by first | exact nobehind _ (by decide) (by decide) | rfl) : GT X W (.Compare a [.In] [b] pos) (tVal (e2 kIn ma mb)) :=
  (pt_cmp (pc_din hu ha hb) hm).imp fun σ H Q h => kin_read (tVal_read h)
theorem ge_kget (hu : X.A.units + 1 < cLine) (hd : GE X W d md) (hk : GE X W k mk) (hs : NoSl k := by exact fun _ _ => rfl) : GE X W (.Subscript d k pos) (e2 kGet md mk) := (pe_dget hu hd hk hs).imp fun σ H Q ⟨ι, ρ, S, s, r, p⟩ => by
  refine ⟨ι, ρ, S, s, r, Po.bd p fun x S1 ι1 H1 y e1 s1 r1 p1 => ?_⟩
  refine ⟨ι1, ρ, S1, s1, r.ext e1, Po.bd p1 fun z S2 ι2 H2 w e2 s2 r2 p2 => ?_⟩
  have r1 := Rep.ext e2 _ _ r1
  unfold kGet at p2
  split at p2
  · rename_i ks kvs g1 g2
    obtain ⟨b, kk, rfl, h1, hk⟩ := kv_ok r2 g1
    obtain ⟨a, en, rfl, h2, hr⟩ := st_ok s2 r1 g2
    have t := tget_ok hk hr
    cases c : tget kvs ks with
    | none => rw [c] at p2; exact p2.elim
    | some u =>
      rw [c] at p2 t
      obtain ⟨v, hv, rv⟩ := t
      exact ⟨a, v, rfl, .inr ⟨en, kk, b, h2, rfl, h1, hv.symm⟩, Po.ret p2 s2 rv⟩
  · exact p2.elim
theorem gs_kput {value : Expr} (hu : X.A.units + 1 < cLine) (hv : GE X W value mv) (hd : GE X W d md) (hk : GE X W k mk)
    (hs : swapsWith value (some (.Subscript d k pos')) pos.line X.env = pure false := by rfl) : GS X W (.Assign [.Subscript d k pos'] value pos) (sKPut md mk mv) := (ps_dput hu hd hk hv hs).imp fun En σ H ⟨ι, ρ, S, s, r, p⟩ => by
  unfold sKPut at p
  refine ⟨ι, ρ, S, s, r, PoS.bo r p fun w S1 ι1 H1 v e1 s1 r1 rr1 p1 => ?_⟩
  refine ⟨ι1, ρ, S1, s1, rr1, PoS.bo rr1 p1 fun x S2 ι2 H2 y e2 s2 r2 rr2 p2 => ?_⟩
  refine ⟨ι2, ρ, S2, s2, rr2, PoS.bo rr2 p2 fun z S3 ι3 H3 t e3 s3 r3 rr3 p3 => ?_⟩
  split at p3
  · rename_i n ks g1
    split at p3
    · rename_i kvs g
      split at p3
      · rename_i hl
        obtain ⟨b, kk, rfl, h1, hk⟩ := kv_ok r3 g1
        have r2 := Rep.ext e3 _ _ r2
        rw [Rep] at r2
        obtain ⟨a, rfl, ha⟩ := r2
        obtain ⟨en, he, hr⟩ := s3.get ha g
        have rw3 : Rep X.K ι3 H3 w v := Rep.ext e3 _ _ (Rep.ext e2 _ _ r1)
        refine ⟨a, upd H3 a (.dT (putK en kk v)), rfl, .inr ⟨en, kk, b, he, rfl, h1, by rw [hr.length, sizeLine_eq]; omega, rfl⟩, ?_⟩
        have em : Ext ι3 H3 ι3 (upd H3 a (.dT (putK en kk v))) := ext_mut he trivial
        exact p3 ι3 _ σ em (s3.put ha ⟨_, upd_same, KsR.ext em _ _ (tput_ok hk rw3 hr)⟩ ⟨_, he, trivial⟩) (rr3.ext em)
      · exact p3.elim
    · exact p3.elim
  · exact p3.elim
end
end Z
namespace L2
open PySem PySem.Spec PyProof.Rows
/-! ### {k: v}, k a tuple -/
def tD1 (tk tv : TE) : TE := fun σ H Q => ∀ p, H p = none → tPairs [(tk, tv)] σ (upd H p (.dT [])) fun ps H2 => ∃ b ks y, ps = [(V.ref b, y)] ∧ H2 p = some (.dT []) ∧ H2 b = some (.tup (ks.map kV)) ∧ Q (.ref p) (upd H2 p (.dT [(ks, y)]))
theorem pe_dct1 {X : Cx} {pos : Pos} {k v : Expr} {tk tv : TE} (hu : X.A.units < cLine) (hk : PE X k tk) (hv : PE X v tv) : PE X (.Dict [some k] [v] pos) (tD1 tk tv) := by
  refine ⟨fun pins s σ H Q I q => ?_⟩
  have hn := I.hok.fresh (Nat.le_refl s.heap.objs.size)
  have I1 := I.laid (a := s.heap.objs.size) (o := .dT []) (h' := s.heap.push { cls := .type "dict", data := .dict #[] }) (t' := s.toks) (fun _ _ q => Heap.get?_push_of_some _ q) (Nat.le_refl _) (dt_empty s.heap I.big)
  rw [arm_eval_Dict, zip_pairTrees [some k] [v] X.env pos rfl rfl, dictDisplay_pairs (pairTrees [some k] [v] X.env pos) (by intro h; cases h) (Nat.le_of_ble_eq_true rfl)]
  refine wpAny_bind (wpAny_standAt (wpAny_bind (wpAny_subDictH (knd := tupleKind (mixKind X.prog X.w)) (Q := fun d s' => wpAny (model X.prog X.w) X.A (pure (Value.ref d)) _ _ s') hu (Nat.le_of_ble_eq_true rfl) ?_)))
  refine thn ((pps_cons hk hv pps_nil).run pins _ σ _ _ I1 (q _ hn)) fun ws s2 ⟨ps, H2, I2, rel, b, ks, y, ep, e, eb, q2⟩ => ?_
  subst ep
  obtain ⟨⟨u, w⟩, t, rfl, ⟨ru, rw'⟩, rt⟩ : ∃ c t, ws = c :: t ∧ (RelV (V.ref b) c.1 ∧ RelV y c.2) ∧ VV [] t := by
    cases rel with
    | cons h t => exact ⟨_, _, rfl, h, t⟩
  cases rt
  cases (show u = Value.ref b from ru)
  obtain ⟨z, hd, xs0, r0, dd⟩ := dt_of I2.hok e
  cases r0
  refine ⟨[(ks, b, w)], ⟨rfl, rfl, key_of I2.hok eb, trivial⟩, dd, fun h' tk dd' hs => wpAny_pure ⟨.ref s.heap.objs.size, _, ?_, rfl, q2⟩⟩
  obtain ⟨o, es, epc, ho, h2, h3, h4, _, h5⟩ := dd'
  refine d_write I2 (by rw [e]; exact True.intro) hs ⟨o, ho⟩ ⟨by rw [sizeLine_eq]; simp, hd, [(ks, b, w)], .cons ⟨rfl, ?_, rw'⟩ .nil, o, es, epc, ho, h2, h3, h4, h5⟩
  rw [upd_ne (ne_of eb e (fun z => nomatch z))]
  exact eb
/-! ### dict(xs), the keys tuples -/
theorem kt_merge {H : Hp} : ∀ {kvs : List (List Key × V)} {rs : List (List Key × Addr × Value)} {acc : List (List Key × V)} {xs : List (List Key × Addr × Value)}, KT H kvs rs → KT H acc xs → KT H (kvs.foldl (fun acc p => putK acc p.1 p.2) acc) (storedAllH xs rs)
  | [], _, acc, xs, .nil, r => r
  | p :: kvs, _, acc, xs, .cons (b := q) h t, r => by
    obtain ⟨q1, q2, q3⟩ := q
    obtain ⟨h1, h2, h3⟩ := h
    simp only at h1 h2 h3
    subst h1
    have := kt_merge t (r.put p.1 h2 h3)
    exact this
theorem len_merge : ∀ (kvs acc : List (List Key × V)), (kvs.foldl (fun acc p => putK acc p.1 p.2) acc).length ≤ acc.length + kvs.length
  | [], acc => Nat.le_refl _
  | p :: kvs, acc => by
    have := len_merge kvs (putK acc p.1 p.2)
    have := length_putK acc p.1 p.2
    simp only [List.foldl_cons, List.length_cons]
    omega
theorem pairsT_of {X : Cx} {pins : List (Addr × Obj)} {σ : St} {H : Hp} {s : Shared} (I : Inv X pins σ H s) : ∀ {ps : List Addr} {kvs : List (List Key × V)}, Paired (fun p kv => ∃ b, SqT X.K H p [.ref b, kv.2] ∧ H b = some (.tup (kv.1.map kV))) ps kvs →
    ∃ rs : List (List Key × Addr × Value), KT H kvs rs ∧ rs.length = ps.length ∧ ∀ (j : Nat) (q : List Key × Addr × Value), rs[j]? = some q → ∃ p, ps[j]? = some p ∧ IsTup s.heap p #[.ref q.2.1, q.2.2]
  | _, _, .nil => ⟨[], .nil, rfl, fun j q e => by simp at e⟩
  | _, _, .cons (a := p) (b := kv) h t => by
    obtain ⟨rs, r, hl, hp⟩ := pairsT_of I t
    obtain ⟨b, h1, h2⟩ := h
    obtain ⟨its, rv, ht, _⟩ := I.tuple h1
    obtain ⟨u, y, ei, ru, ry⟩ := vals2 rv
    subst ei
    cases (show u = Value.ref b from ru)
    refine ⟨(kv.1, b, y) :: rs, .cons ⟨rfl, h2, ry⟩ r, by rw [List.length_cons, List.length_cons, hl], fun j q e => ?_⟩
    cases j with
    | zero =>
      have e' : (kv.1, b, y) = q := Option.some.inj e
      subst e'
      exact ⟨p, rfl, ht⟩
    | succ j =>
      obtain ⟨p', e1, e2⟩ := hp j q (by simpa using e)
      exact ⟨p', by simpa using e1, e2⟩
theorem call_dictT {X : Cx} (hcalm : X.calm = true) (hu : X.A.units + 2 < cLine) : CallR X (.type "dict") (fun xs H Q => ∃ (a : Addr) (ps : List Addr) (kvs : List (List Key × V)), xs = [.ref a] ∧ H a = some (.lst (ps.map V.ref)) ∧
    Paired (fun p kv => ∃ b, SqT X.K H p [.ref b, kv.2] ∧ H b = some (.tup (kv.1.map kV))) ps kvs ∧ ∀ p, H p = none → Q (.ref p) (upd H p (.dT (kvs.foldl (fun acc p => putK acc p.1 p.2) [])))) := by
  intro pins s σ H xs us Q I r q
  obtain ⟨a, ps, kvs, ex, hq, hp, q⟩ := q
  subst ex
  obtain ⟨u, eu, rx⟩ := vals1 r
  subst eu
  cases rx
  obtain ⟨its, rv, pl, hz⟩ := I.list (SqL.of hq)
  have ei := refs_at rv
  subst ei
  rw [List.length_map] at hz
  obtain ⟨rs, rel, hl, hpr⟩ := pairsT_of I hp
  obtain ⟨o, n, ho, hc, hd, hdat⟩ := pl
  let Ts : Nat → Addr := fun j => ps.getD j 0
  let vs : List (Value × Value) := rs.map fun q => (.ref q.2.1, q.2.2)
  have hvl : vs.length = ps.length := by simp [vs, hl]
  have ok : PlainSeq "list" s.heap a (ps.map Value.ref).toArray ∧ PairItems s.heap (ps.map Value.ref).toArray Ts vs := by
    refine ⟨⟨o, n, ho, hc, hd, hdat⟩, by simp [hvl], fun j k v e => ?_⟩
    obtain ⟨q, hq1, hq2⟩ : ∃ q, rs[j]? = some q ∧ (Value.ref q.2.1, q.2.2) = (k, v) := by
      simp only [vs, List.getElem?_map, Option.map_eq_some_iff] at e
      exact e
    cases hq2
    obtain ⟨p, e1, e2⟩ := hpr j q hq1
    have eT : Ts j = p := by simp [Ts, List.getD_eq_getElem?_getD, e1]
    refine ⟨by simp [e1, eT], .inl ?_⟩
    rw [eT]
    exact e2
  have hrl : rs.length = kvs.length := (Paired.length rel).symm
  refine call_dict_pairsH (knd := tupleKind (mixKind X.prog X.w)) (ps := rs) (PairArg.list a (ps.map Value.ref).toArray Ts vs) (I.ok.hd hcalm) hu ok ⟨by simp [vs], fun i key v e => ?_⟩ (fun h' hk x hx => ?_) (by rw [hvl]; exact hz) fun h' tk dd hk => ?_
  · simp only [PairRel, vs, List.getElem?_map, Option.map_eq_some_iff] at e
    obtain ⟨q, hq1, hq2⟩ := e
    cases hq2
    exact ⟨q.1, q.2.1, hq1, rfl⟩
  · have all : ∀ {l : List (List Key × V)} {m : List (List Key × Addr × Value)}, KT H l m → ∀ x ∈ m, H x.2.1 = some (.tup (x.1.map kV)) := by
      intro l m q
      induction q with
      | nil => intro x hx; exact nomatch hx
      | @cons p q ps qs hq t ih =>
        intro x hx
        rcases List.mem_cons.mp hx with e | hx
        · subst e; rw [← hq.1]; exact hq.2.1
        · exact ih x hx
    obtain ⟨o', its', n', h1, h2, h3, h4⟩ := key_of I.hok (all rel x hx)
    exact ⟨o', its', n', hk _ _ (Nat.ne_of_lt (Heap.lt_size h1)) (by simp) h1, h2, h3, h4⟩
  · have hm : (s.heap.objs.size == sysModules) = false := beq_eq_false_iff_ne.mpr (Nat.ne_of_gt I.big)
    have hlen : (kvs.foldl (fun acc p => putK acc p.1 p.2) []).length ≤ sizeLine := by
      have := len_merge kvs []
      rw [List.length_nil] at this
      omega
    obtain ⟨q1, es, ep, g1, g2, g3, g4, _, g5⟩ := dd
    have hno : H s.heap.objs.size = none := I.hok.fresh (Nat.le_refl _)
    refine ⟨.ref s.heap.objs.size, upd H s.heap.objs.size (.dT (kvs.foldl (fun acc p => putK acc p.1 p.2) [])), I.laid (t' := tk) (fun b u e => hk b u (by simp) e) (Nat.le_refl _) (show ObjOk X.prog X.w _ _ _ (.dT _) from ⟨hlen, hm, storedAllH [] rs, (kt_merge rel .nil).keeps fun c ys ec => ?_, q1, es, ep, g1, g2, g3, g4, g5⟩), rfl, q _ hno⟩
    rw [upd_ne (ne_of_none ec hno)]
    exact ec
end L2
namespace Z
open PySem PySem.Spec PyProof.Rows L2
section
variable {X : Cx} {W : WX} {e k v : Expr} {m mk mv : SE} {pos : Pos}
theorem ge_dct1 (hu : X.A.units + 3 < cLine) (hk : GE X W k mk) (hv : GE X W v mv) : GE X W (.Dict [some k] [v] pos) (eDct1 mk mv) := (pe_dct1 (by omega) hk hv).imp fun σ H Q ⟨ι, ρ, S, s, r, p⟩ => by
  intro pA hp
  have e0 : Ext ι H (ι ++ [pA]) (upd H pA (.dT [])) := ext_new hp
  have s0 : Sim X.K (ι ++ [pA]) (S ++ [.st []]) (upd H pA (.dT [])) := s.new hp ⟨[], upd_same, rfl⟩
  have ha : (ι ++ [pA])[S.length]? = some pA := by rw [← s.len, List.getElem?_append_right (Nat.le_refl _)]; simp
  refine ⟨_, ρ, _, s0, r.ext e0, Po.bd (Po.mono e0 p) fun x S1 ι1 H1 y e1 s1 r1 p1 => ?_⟩
  refine ⟨ι1, ρ, S1, s1, (r.ext e0).ext e1, Po.bd p1 fun z S2 ι2 H2 w e2 s2 r2 p2 => ?_⟩
  split at p2
  · rename_i ks g1 g
    have r1 := Rep.ext e2 _ _ r1
    obtain ⟨b, kk, rfl, h1, hk⟩ := kv_ok r1 g1
    have ha2 := (e1.trans e2).at ha
    obtain ⟨en, he, hr⟩ := s2.get ha2 g
    rw [KsR] at hr
    subst hr
    refine ⟨b, kk, w, rfl, he, h1, ?_⟩
    have em : Ext ι2 H2 ι2 (upd H2 pA (.dT [(kk, w)])) := ext_mut he trivial
    exact Po.ret (Po.mono em p2) (s2.put ha2 ⟨_, upd_same, kk, w, [], rfl, hk, Rep.ext em _ _ r2, rfl⟩ ⟨_, he, trivial⟩) (by rw [Rep]; exact ⟨pA, rfl, ha2⟩)
  · exact p2.elim
theorem prOf_ok {K : PySem.W.Frag} {ι : List Addr} {H : Hp} : ∀ {xs : List D} {vs : List V} {kvs : List (List D × D)}, RepL K ι H xs vs → prOf xs = some kvs →
    ∃ (ps : List Addr) (en : List (List Key × V)), vs = ps.map V.ref ∧ Paired (fun p kv => ∃ b, SqT K H p [.ref b, kv.2] ∧ H b = some (.tup (kv.1.map kV))) ps en ∧ KsR keysD K ι H kvs en
  | [], vs, kvs, r, h => by
    cases h
    exact ⟨[], [], r.nil, .nil, rfl⟩
  | x :: xs, vs, kvs, r, h => by
    obtain ⟨y, t, rfl, r1, r2⟩ := r.cons
    unfold prOf at h
    split at h
    · rename_i hh; cases hh
    · rename_i k' v' r' hh
      cases hh
      split at h
      · rename_i ks tl g1 g2
        cases h
        obtain ⟨ps, en, e1, e2, e3⟩ := prOf_ok r2 g2
        rw [Rep] at r1
        obtain ⟨a, ws, rfl, h1, h2⟩ := r1
        obtain ⟨y1, t1, rfl, q1, q2⟩ := h2.cons
        obtain ⟨y2, t2, rfl, q3, q4⟩ := q2.cons
        have := q4.nil
        subst this
        obtain ⟨b, kk, rfl, h3, hk⟩ := kv_ok q1 g1
        exact ⟨a :: ps, (kk, y2) :: en, by rw [e1]; rfl, .cons ⟨b, h1.sq, h3⟩ e2, kk, y2, en, rfl, hk, q3, e3⟩
      · cases h
    · cases h
theorem fold_ok {K : PySem.W.Frag} {ι : List Addr} {H : Hp} : ∀ {kvs : List (List D × D)} {en : List (List Key × V)} {acc : List (List D × D)} {ac : List (List Key × V)}, KsR keysD K ι H kvs en → KsR keysD K ι H acc ac →
    KsR keysD K ι H (kvs.foldl (fun acc p => tput acc p.1 p.2) acc) (en.foldl (fun acc p => putK acc p.1 p.2) ac)
  | [], en, acc, ac, h, g => by rw [KsR] at h; subst h; exact g
  | p :: kvs, en, acc, ac, h, g => by
    rw [KsR] at h
    obtain ⟨kk, y, t, rfl, h1, h2, h3⟩ := h
    have := fold_ok h3 (tput_ok h1 h2 g)
    exact this
theorem no_dict : NoExF dictF := by
  intro ds S c S'
  unfold dictF
  split <;> (try split) <;> (try split) <;> (try split) <;> simp [new1]
theorem zc_dictT (hc : X.calm = true) (hu : X.A.units + 3 < cLine) : CallR X (.type "dict") (rB X dictF) := by
  intro pins s σ H xs us Q I r ⟨ι, S, ds, sm, rd, po⟩
  unfold dictF at po
  split at po
  · obtain ⟨v, rfl, h⟩ := one_of (ds := []) rd
    split at po
    · rename_i xs g
      split at po
      · rename_i kvs hk
        split at po
        · rename_i hl
          obtain ⟨p, vs, rfl, i1, e1, r1⟩ := lst_ok sm h g
          obtain ⟨ps, en, rfl, e2, e3⟩ := prOf_ok r1 hk
          refine call_dictT hc (by omega) pins s σ H _ us Q I r ⟨p, ps, en, rfl, e1, e2, fun t ht => ?_⟩
          have ex : Ext ι H (ι ++ [t]) (upd H t (.dT (en.foldl (fun acc p => putK acc p.1 p.2) []))) := ext_new ht
          exact Po.ret (Po.mono ex po) (sm.new ht ⟨_, upd_same, KsR.ext ex _ _ (fold_ok e3 rfl)⟩) (Rep.newL sm)
        · exact po.elim
      · exact po.elim
    · exact po.elim
  · exact po.elim
/-! ### walks over a dict -/
/-- what stays when a dict is unlocked -/
structure Wk (H H' : Hp) : Prop where
  tup : ∀ a xs, H a = some (.tup xs) → H' a = some (.tup xs)
  frz : ∀ a o xs, H a = some (.frz o (.lst xs)) → H' a = some (.frz o (.lst xs))
  frzT : ∀ a o xs, H a = some (.frz o (.tup xs)) → H' a = some (.frz o (.tup xs))
theorem Wk.tupAt {H H' : Hp} (e : Wk H H') {a : Addr} {xs : List V} : ∀ {b : Bool}, TupAt H a xs b → TupAt H' a xs b
  | true, h => e.tup _ _ h
  | false, ⟨o, h1, h2⟩ => ⟨o, h1, e.frzT _ _ _ h2⟩
section
variable {K : PySem.W.Frag} {ι : List Addr} {H H' : Hp}
mutual
theorem Rep.wk (e : Wk H H') : ∀ (d : D) (v : V), Rep K ι H d v → Rep K ι H' d v
  | .non, _, h => h
  | .bl _, _, h => h
  | .int _, _, h => h
  | .str _, _, h => h
  | .tup xs, _, h => by
    rw [Rep] at h ⊢
    obtain ⟨a, vs, e1, h1, h2⟩ := h
    exact ⟨a, vs, e1, e.tupAt h1, RepL.wk e xs vs h2⟩
  | .ref n, _, h => h
  | .fl xs, _, h => by
    rw [Rep] at h ⊢
    obtain ⟨a, vs, e1, h1, h2⟩ := h
    refine ⟨a, vs, e1, ?_, RepL.wk e xs vs h2⟩
    rcases h1 with ⟨o, h1⟩ | h1
    · exact .inl ⟨o, e.frz _ _ _ h1⟩
    · exact .inr h1
theorem RepL.wk (e : Wk H H') : ∀ (ds : List D) (vs : List V), RepL K ι H ds vs → RepL K ι H' ds vs
  | [], _, h => h
  | x :: xs, _, h => by
    rw [RepL] at h ⊢
    obtain ⟨v, r, e1, h1, h2⟩ := h
    exact ⟨v, r, e1, Rep.wk e x v h1, RepL.wk e xs r h2⟩
end
theorem KsR.wk (e : Wk H H') : ∀ (kvs : List (List D × D)) (ks : List (List Key × V)), KsR keysD K ι H kvs ks → KsR keysD K ι H' kvs ks
  | [], ks, h => h
  | p :: r, ks, h => by
    rw [KsR] at h ⊢
    obtain ⟨k, v, t, e1, e2, e3, e4⟩ := h
    exact ⟨k, v, t, e1, e2, Rep.wk e _ _ e3, KsR.wk e r t e4⟩
theorem KsR.wkF (e : Wk H H') : ∀ (kvs : List (String × D)) (ks : List (Str × V)), KsR keyF K ι H kvs ks → KsR keyF K ι H' kvs ks
  | [], ks, h => h
  | p :: r, ks, h => by
    rw [KsR] at h ⊢
    obtain ⟨k, v, t, e1, e2, e3, e4⟩ := h
    exact ⟨k, v, t, e1, e2, Rep.wk e _ _ e3, KsR.wkF e r t e4⟩
theorem KsR.wkK (e : Wk H H') : ∀ (kvs : List (D × D)) (ks : List (Key × V)), KsR keyD K ι H kvs ks → KsR keyD K ι H' kvs ks
  | [], ks, h => h
  | p :: r, ks, h => by
    rw [KsR] at h ⊢
    obtain ⟨k, v, t, e1, e2, e3, e4⟩ := h
    exact ⟨k, v, t, e1, e2, Rep.wk e _ _ e3, KsR.wkK e r t e4⟩
theorem ObjR.wk {a : Addr} {o : MO} (h : ObjR K ι H a o) (e : Wk H H') (k : H' a = H a) : ObjR K ι H' a o := by
  cases o with
  | lst xs => obtain ⟨vs, e1, h1⟩ := h; exact ⟨vs, k.trans e1, RepL.wk e _ _ h1⟩
  | dct _ => obtain ⟨q, ks, e1, h1⟩ := h; exact ⟨q, ks, k.trans e1, KsR.wk e _ _ h1⟩
  | st _ => obtain ⟨ks, e1, h1⟩ := h; exact ⟨ks, k.trans e1, KsR.wk e _ _ h1⟩
  | dk _ => obtain ⟨ks, e1, h1⟩ := h; exact ⟨ks, k.trans e1, KsR.wkK e _ _ h1⟩
  | dkl _ => obtain ⟨q, ks, e1, h1⟩ := h; exact ⟨q, ks, k.trans e1, KsR.wkK e _ _ h1⟩
  | ins _ _ => obtain ⟨C, dx, fvs, n, e1, h1⟩ := h; exact ⟨C, dx, fvs, n, k.trans e1, KsR.wkF e _ _ h1⟩
  | exn _ => exact h.elim
end
theorem intL_rep {K : PySem.W.Frag} {ι : List Addr} {H : Hp} : ∀ {ks : List D} {kk : List Key}, ks.all i0 = true → keysD ks = some kk → RepL K ι H ks (kk.map kV)
  | [], kk, _, h => by cases h; rw [RepL]; rfl
  | x :: ks, kk, hi, h => by
    rw [List.all_cons, Bool.and_eq_true] at hi
    rw [keysD] at h
    split at h
    · rename_i a as h1 h2
      cases h
      cases x with
      | int i =>
        cases h1
        rw [RepL]
        exact ⟨_, _, rfl, by rw [Rep]; rfl, intL_rep hi.2 h2⟩
      | _ => cases hi.1
    · cases h
theorem ritm_keys {K : PySem.W.Frag} {ι : List Addr} {H : Hp} {n : Nat} {a : Addr} {o : Obj} {kvs : List (List D × D)} {en : List (List Key × V)} (ha : ι[n]? = some a) (he : H a = some (.frz o (.dT en))) (hr : KsR keysD K ι H kvs en) (hi : (kvs.all fun p => p.1.all i0) = true) :
    RItm K ι H ⟨kvs.map fun p => .tup p.1, fun S => S[n]? = some (.dct kvs)⟩ (Itkt a o en) := fun ι' H' S' e s c => by
  have he' := e.frz _ _ _ he
  refine ⟨fun i x hx => ?_, he', by simp [hr.length]⟩
  rw [List.getElem?_map] at hx
  obtain ⟨p, hp, rfl⟩ := Option.map_eq_some_iff.mp hx
  have hil : i < kvs.length := (List.getElem?_eq_some_iff.mp hp).1
  refine ⟨⟨he', by rw [hr.length]; exact hil⟩, fun v H'' y => ?_⟩
  obtain ⟨rfl, k, v', q, h1, rfl, h2⟩ := y
  refine ⟨.refl, s, ?_⟩
  have hk : keysD p.1 = some k := by
    have : ∀ {kvs : List (List D × D)} {en : List (List Key × V)} {i : Nat} {p : List D × D} {k : List Key} {v : V}, KsR keysD K ι H kvs en → kvs[i]? = some p → en[i]? = some (k, v) → keysD p.1 = some k := by
      intro kvs
      induction kvs with
      | nil => intro en i p k v _ h; simp at h
      | cons q r ih =>
        intro en i p k v h h1 h2
        rw [KsR] at h
        obtain ⟨k', v', t, rfl, g1, _, g3⟩ := h
        cases i with
        | zero => simp at h1 h2; obtain ⟨rfl, rfl⟩ := h2; subst h1; exact g1
        | succ i => exact ih g3 (by simpa using h1) (by simpa using h2)
    exact this hr hp h1
  rw [Rep]
  have hk0 : p.1.all k0 = true := List.all_eq_true.mpr fun x hx => by
    have h1 := List.all_eq_true.mp (List.all_eq_true.mp hi p (List.mem_of_getElem? hp)) x hx
    cases x <;> first | rfl | cases h1
  exact ⟨q, k.map kV, rfl, by rw [hk0]; exact h2, intL_rep (List.all_eq_true.mp hi p (List.mem_of_getElem? hp)) hk⟩
theorem gi_keyD {tg : Expr} (h : GE X W e m) : GI X W tg e (iKeyD m) := (pi_keys h).imp fun σ H R ⟨ι, ρ, S, sm, r, p⟩ => by
  refine ⟨ι, ρ, S, sm, r, Po.bd p fun y S1 ι1 H1 x e1 s1 r1 p1 => ?_⟩
  split at p1
  · rename_i n
    split at p1
    · rename_i kvs g
      split at p1
      · rename_i hi
        rw [Rep] at r1
        obtain ⟨a, rfl, ha⟩ := r1
        obtain ⟨o, en, he, hr⟩ := s1.get ha g
        exact ⟨a, o, rfl, .inr ⟨en, he, Po.ritm p1 s1 (ritm_keys ha he hr hi)⟩⟩
      · exact p1.elim
    · exact p1.elim
  · exact p1.elim
theorem gs_lock {st : Stmt} {mm : SS} (i : Nat) (h : GS X W st mm) : GS X W st (sLock i mm) := (ps_lock h).imp fun D σ H ⟨ι, ρ, S, s, r, p⟩ => by
  unfold sLock at p
  split at p
  · rename_i n g
    split at p
    · rename_i kvs g2
      obtain ⟨v, hv1, hv2⟩ := r.2 _ _ g
      rw [Rep] at hv2
      obtain ⟨a, rfl, ha⟩ := hv2
      obtain ⟨en, he, hr⟩ := s.get ha g2
      refine ⟨a, .dT en, he, trivial, fun od => ?_⟩
      have e0 : Ext ι H ι (upd H a (.frz od (.dT en))) := ext_mut he trivial
      refine ⟨ι, ρ, S.set n (.dct kvs), s.put ha ⟨od, en, upd_same, KsR.ext e0 _ _ hr⟩ ⟨_, he, trivial⟩, r.ext e0, ?_⟩
      have hf : upd H a (.frz od (.dT en)) a = some (.frz od (.dT en)) := upd_same
      have back : ∀ {ι' : List Addr} {H' : Hp} {S1 : Store}, Ext ι (upd H a (.frz od (.dT en))) ι' H' → Sim X.K ι' S1 H' → S1[n]? = some (.dct kvs) → H' a = some (.frz od (.dT en)) ∧ Ext ι H ι' (upd H' a (.dT en)) ∧ Sim X.K ι' (S1.set n (.st kvs)) (upd H' a (.dT en)) ∧
          (∀ d v, Rep X.K ι' H' d v → Rep X.K ι' (upd H' a (.dT en)) d v) := by
        intro ι' H' S1 e1 s1 g3
        have hfa := e1.frz _ _ _ hf
        have wk : Wk H' (upd H' a (.dT en)) := by
          refine ⟨fun b xs hb => ?_, fun b q u hb => ?_, fun b q u hb => ?_⟩
          · rw [upd_ne (by rintro rfl; rw [hfa] at hb; cases hb)]; exact hb
          · rw [upd_ne (by rintro rfl; rw [hfa] at hb; cases hb)]; exact hb
          · rw [upd_ne (by rintro rfl; rw [hfa] at hb; cases hb)]; exact hb
        have eT : Ext ι H ι' (upd H' a (.dT en)) := by
          refine ⟨e1.pre, fun b xs hb => ?_, fun b q u hb => ?_⟩
          · have hne : b ≠ a := by rintro rfl; rw [he] at hb; cases hb
            rw [upd_ne hne]
            exact e1.tup _ _ (by rw [upd_ne hne]; exact hb)
          · have hne : b ≠ a := by rintro rfl; rw [he] at hb; cases hb
            rw [upd_ne hne]
            exact e1.frz _ _ _ (by rw [upd_ne hne]; exact hb)
        have ha1 := e1.at ha
        have hn1 := (List.getElem?_eq_some_iff.mp g3).1
        refine ⟨hfa, eT, ⟨by simp [s1.len], s1.nd, fun j o b h1 h2 => ?_⟩, fun d v => Rep.wk wk d v⟩
        by_cases hj : n = j
        · subst hj
          rw [List.getElem?_set_self hn1] at h1
          cases h1
          rw [ha1] at h2; cases h2
          obtain ⟨q, en', k1, k2⟩ := s1.get ha1 g3
          rw [hfa] at k1
          cases k1
          exact ⟨en, upd_same, KsR.wk wk _ _ k2⟩
        · rw [List.getElem?_set_ne hj] at h1
          refine (s1.obj j o b h1 h2).wk wk ?_
          rw [upd_ne]
          rintro rfl
          obtain ⟨l1, q1⟩ := List.getElem?_eq_some_iff.mp ha1
          obtain ⟨l2, q2⟩ := List.getElem?_eq_some_iff.mp h2
          exact hj ((List.getElem_inj s1.nd).mp (q1.trans q2.symm))
      match q : mm ρ (S.set n (.dct kvs)), p with
      | none, p => exact p
      | some (.nx ρ1 S1), p =>
        dsimp only at p
        split at p
        · rename_i g3
          intro ι' H' σ' e1 s1 r1
          obtain ⟨b1, b2, b3, b4⟩ := back e1 s1 g3
          exact ⟨b1, p ι' _ σ' b2 b3 ⟨r1.1, fun j d hj => let ⟨v, x1, x2⟩ := r1.2 j d hj; ⟨v, x1, b4 _ _ x2⟩⟩⟩
        · exact p.elim
      | some (.rt d S1), p =>
        dsimp only at p
        split at p
        · rename_i g3
          intro ι' H' v e1 s1 r1
          obtain ⟨b1, b2, b3, b4⟩ := back e1 s1 g3
          exact ⟨b1, p ι' _ v b2 b3 (b4 _ _ r1)⟩
        · exact p.elim
      | some (.bk _ _), p => exact p.elim
      | some (.ct _ _), p => exact p.elim
      | some (.ex _ _ _), p => exact p.elim
    · exact p.elim
  · exact p.elim
end
end Z
namespace L2
open PySem PySem.Spec PyProof.Rows
theorem pairsV_of {X : Cx} {pins : List (Addr × Obj)} {σ : St} {H : Hp} {s : Shared} (I : Inv X pins σ H s) : ∀ {ps : List Addr} {kvs : List (Key × V)}, Paired (fun p kv => SqT X.K H p [kV kv.1, kv.2]) ps kvs →
    ∃ (vs : List (Value × Value)) (rs : List (Key × Value)), KV kvs rs ∧ vs.length = ps.length ∧ rs.length = ps.length ∧ ∀ (j : Nat) (u v : Value), vs[j]? = some (u, v) → ∃ (p : Addr) (k : Key), ps[j]? = some p ∧ IsTup s.heap p #[u, v] ∧ rs[j]? = some (k, v) ∧ keyIs k u = true
  | _, _, .nil => ⟨[], [], .nil, rfl, rfl, fun j u v e => by simp at e⟩
  | _, _, .cons (a := p) (b := kv) h t => by
    obtain ⟨vs, rs, r, hl, hl2, hp⟩ := pairsV_of I t
    obtain ⟨its, rv, ht, _⟩ := I.tuple h
    obtain ⟨u, y, ei, ru, ry⟩ := vals2 rv
    subst ei
    refine ⟨(u, y) :: vs, (kv.1, y) :: rs, .cons ⟨rfl, ry⟩ r, by rw [List.length_cons, List.length_cons, hl], by rw [List.length_cons, List.length_cons, hl2], fun j u' v' e => ?_⟩
    cases j with
    | zero =>
      have e' : (u, y) = (u', v') := Option.some.inj e
      cases e'
      exact ⟨p, kv.1, rfl, ht, rfl, kV_is (P := X.prog) (w := X.w) ru⟩
    | succ j =>
      obtain ⟨p', k', e1, e2, e3, e4⟩ := hp j u' v' (by simpa using e)
      exact ⟨p', k', by simpa using e1, e2, by simpa using e3, e4⟩
/-- dict(t), t a tuple of pairs (key, value) that is known to bear no dict -/
theorem call_dictPT {X : Cx} (hcalm : X.calm = true) : CallR X (.type "dict") (fun xs H Q => ∃ (a : Addr) (ob : Obj) (ps : List Addr) (kvs : List (Key × V)), xs = [.ref a] ∧ ob.dict = none ∧ H a = some (.frz ob (.tup (ps.map V.ref))) ∧ Paired (fun p kv => SqT X.K H p [kV kv.1, kv.2]) ps kvs ∧
    ∀ p, H p = none → Q (.ref p) (upd H p (.dK (mergeK [] kvs)))) := by
  intro pins s σ H xs us Q I r q
  obtain ⟨a, ob, ps, kvs, ex, hdn, hq, hp, q⟩ := q
  subst ex
  obtain ⟨u, eu, rx⟩ := vals1 r
  subst eu
  cases rx
  obtain ⟨hob, hz, its, rv, o', ho', hc, n, hdat⟩ := (show ObjOk X.prog X.w H s.heap a (.frz ob (.tup (ps.map V.ref))) from I.hok a _ hq)
  rw [hob] at ho'
  cases ho'
  have ei := refs_at rv
  subst ei
  rw [List.length_map] at hz
  obtain ⟨vs, rs, rel, hl, hl2, hpr⟩ := pairsV_of I hp
  let Ts : Nat → Addr := fun j => ps.getD j 0
  have ok : PlainSeq "tuple" s.heap a (ps.map Value.ref).toArray ∧ PairItems s.heap (ps.map Value.ref).toArray Ts vs := by
    refine ⟨⟨ob, n, hob, hc, hdn, hdat⟩, by simp [hl], fun j k v e => ?_⟩
    obtain ⟨p, k', e1, e2, _⟩ := hpr j k v e
    have eT : Ts j = p := by simp [Ts, List.getD_eq_getElem?_getD, e1]
    refine ⟨by simp [e1, eT], .inl ?_⟩
    rw [eT]
    exact e2
  refine PySem.call_dict_pairs (knd := mixKind X.prog X.w) (kvs := rs) (PairArg.tuple a (ps.map Value.ref).toArray Ts vs) (I.ok.hd hcalm) ok ⟨by rw [hl, hl2], fun i key v e => ?_⟩ (by rw [hl]; exact hz) fun h' tk dd hk => ?_
  · obtain ⟨p, k, _, _, e3, e4⟩ := hpr i key v e
    exact ⟨k, e3, e4⟩
  · have hm : (s.heap.objs.size == sysModules) = false := beq_eq_false_iff_ne.mpr (Nat.ne_of_gt I.big)
    have hlen : (mergeK [] kvs).length ≤ sizeLine := by
      refine Nat.le_trans (length_mergeK kvs []) ?_
      rw [List.length_nil, Nat.zero_add, rel.length, hl2]
      exact hz
    exact ⟨.ref s.heap.objs.size, upd H s.heap.objs.size (.dK (mergeK [] kvs)), I.laid (t' := tk) (fun b o e => hk b o (by simp) e) (Nat.le_refl _) (show ObjOk X.prog X.w _ _ _ (.dK (mergeK [] kvs)) from ⟨hlen, hm, merged [] rs, KV.merge rel .nil, dd⟩), rfl, q _ (I.hok.fresh (Nat.le_refl _))⟩
end L2
namespace Z
open PySem PySem.Spec PyProof.Rows L2
/-! ### dicts of flat keys -/
theorem keyD_ok {x : D} (h : k0 x = true) : ∃ k, keyD x = some k := by
  cases x with
  | int i => exact ⟨_, rfl⟩
  | str s => exact ⟨_, rfl⟩
  | _ => cases h
section
variable {K : PySem.W.Frag} {ι : List Addr} {H : Hp}
theorem rep_key {x : D} {y : V} {k : Key} (r : Rep K ι H x y) (h : keyD x = some k) : y = kV k := by
  cases x with
  | int i => cases h; rw [Rep] at r; rw [r]; rfl
  | str s => cases h; rw [Rep] at r; rw [r.1]; rfl
  | _ => cases h
theorem fget_ok {k : D} {ks : Key} (hk : keyD k = some ks) : ∀ {kvs : List (D × D)} {es : List (Key × V)}, KsR keyD K ι H kvs es → match fget kvs k with
    | some d => ∃ v, valV es ks = some v ∧ Rep K ι H d v
    | none => valV es ks = none
  | [], es, h => by rw [KsR] at h; subst h; exact valV_nil
  | p :: r, es, h => by
    rw [KsR] at h
    obtain ⟨k', v, t, rfl, h1, h2, h3⟩ := h
    have e := keyD_eq h1 hk
    have ih := fget_ok hk h3
    by_cases c : k' = ks
    · have : kEq0 p.1 k = true := by rw [e]; simp [c]
      have g : fget (p :: r) k = some p.2 := by simp [fget, List.find?_cons, this]
      rw [g]
      exact ⟨v, valV_pos (p := (k', v)) c, h2⟩
    · have : kEq0 p.1 k = false := by rw [e]; simp [c]
      have g : fget (p :: r) k = fget r k := by simp [fget, List.find?_cons, this]
      rw [g, valV_neg (p := (k', v)) c]
      exact ih
theorem fany_ok {k : D} {ks : Key} (hk : keyD k = some ks) : ∀ {kvs : List (D × D)} {es : List (Key × V)}, KsR keyD K ι H kvs es → (kvs.any fun p => kEq0 p.1 k) = es.any fun p => decide (p.1 = ks)
  | [], es, h => by rw [KsR] at h; subst h; rfl
  | p :: r, es, h => by
    rw [KsR] at h
    obtain ⟨k', v, t, rfl, h1, h2, h3⟩ := h
    rw [List.any_cons, List.any_cons, fany_ok hk h3, keyD_eq h1 hk]
theorem fmap_ok {k : D} {ks : Key} (hk : keyD k = some ks) {d : D} {w : V} (rd : Rep K ι H d w) : ∀ {kvs : List (D × D)} {es : List (Key × V)}, KsR keyD K ι H kvs es → KsR keyD K ι H (kvs.map fun p => if kEq0 p.1 k = true then (p.1, d) else p) (es.map fun p => if p.1 = ks then (p.1, w) else p)
  | [], es, h => by rw [KsR] at h; subst h; rfl
  | p :: r, es, h => by
    rw [KsR] at h
    obtain ⟨k', v, t, rfl, h1, h2, h3⟩ := h
    rw [List.map_cons, List.map_cons, KsR, keyD_eq h1 hk]
    by_cases c : k' = ks
    · exact ⟨k', w, _, by rw [if_pos c], by simp [c, h1], by simpa [c] using rd, fmap_ok hk rd h3⟩
    · exact ⟨k', v, _, by rw [if_neg c], by simp [c, h1], by simpa [c] using h2, fmap_ok hk rd h3⟩
theorem fput_ok {k : D} {ks : Key} (hk : keyD k = some ks) {d : D} {w : V} (rd : Rep K ι H d w) {kvs : List (D × D)} {es : List (Key × V)} (h : KsR keyD K ι H kvs es) : KsR keyD K ι H (fput kvs k d) (putK es ks w) := by
  unfold fput putK
  rw [fany_ok hk h]
  split
  · exact fmap_ok hk rd h
  · exact KsR.snoc hk rd h
theorem dk_ok {S : Store} (s : Sim K ι S H) {x : D} {y : V} {kvs : List (D × D)} (r : Rep K ι H x y) (h : dkAt S x = some kvs) : ∃ a en, y = .ref a ∧ Rd H a (.dK en) ∧ KsR keyD K ι H kvs en := by
  unfold dkAt at h
  split at h
  · rename_i n
    rw [Rep] at r
    obtain ⟨a, rfl, ha⟩ := r
    split at h
    · rename_i g
      cases h
      obtain ⟨en, he, hr⟩ := s.get ha g
      exact ⟨a, en, rfl, .inl he, hr⟩
    · rename_i g
      cases h
      obtain ⟨o, en, he, hr⟩ := s.get ha g
      exact ⟨a, en, rfl, .inr ⟨o, he⟩, hr⟩
    · cases h
  · cases h
theorem fSome_ok {ks : D} {kk : Key} (hk : keyD ks = some kk) {kvs : List (D × D)} {en : List (Key × V)} (h : KsR keyD K ι H kvs en) : (valV en kk).isSome = (fget kvs ks).isSome := by
  have t := fget_ok hk h
  cases c : fget kvs ks with
  | none => rw [c] at t; rw [t]; rfl
  | some w => rw [c] at t; obtain ⟨v, hv, _⟩ := t; rw [hv]; rfl
end
section
variable {X : Cx} {W : WX} {a b o d k v : Expr} {ma mb md mk mv : SE} {pos pos' : Pos}
theorem fni_read {σ : L2.St} {H : Hp} {Q : VK} (h : tE X.K X.mg W (e2 fNi ma mb) σ H Q) : tDNotIn (tE X.K X.mg W ma) (tE X.K X.mg W mb) σ H Q := by
  obtain ⟨ι, ρ, S, s, r, p⟩ := h
  refine ⟨ι, ρ, S, s, r, Po.bd p fun x S1 ι1 H1 y e1 s1 r1 p1 => ?_⟩
  refine ⟨ι1, ρ, S1, s1, r.ext e1, Po.bd p1 fun z S2 ι2 H2 w e2 s2 r2 p2 => ?_⟩
  have r1 := Rep.ext e2 _ _ r1
  unfold fNi at p2
  split at p2
  · rename_i kvs g2
    split at p2
    · rename_i hk
      obtain ⟨kk, hkk⟩ := keyD_ok hk
      obtain ⟨a, en, rfl, h2, hr⟩ := dk_ok s2 r2 g2
      refine ⟨a, valV en kk, rfl, ?_, ?_⟩
      · rw [rep_key r1 hkk]; exact .inl ⟨en, kk, h2, rfl, rfl⟩
      · rw [fSome_ok hkk hr]
        exact Po.ret p2 s2 (by rw [Rep])
    · exact p2.elim
  · exact p2.elim
theorem fin_read {σ : L2.St} {H : Hp} {Q : VK} (h : tE X.K X.mg W (e2 fIn ma mb) σ H Q) : tDIn (tE X.K X.mg W ma) (tE X.K X.mg W mb) σ H Q := by
  obtain ⟨ι, ρ, S, s, r, p⟩ := h
  refine ⟨ι, ρ, S, s, r, Po.bd p fun x S1 ι1 H1 y e1 s1 r1 p1 => ?_⟩
  refine ⟨ι1, ρ, S1, s1, r.ext e1, Po.bd p1 fun z S2 ι2 H2 w e2 s2 r2 p2 => ?_⟩
  have r1 := Rep.ext e2 _ _ r1
  unfold fIn at p2
  split at p2
  · rename_i kvs g2
    split at p2
    · rename_i hk
      obtain ⟨kk, hkk⟩ := keyD_ok hk
      obtain ⟨a, en, rfl, h2, hr⟩ := dk_ok s2 r2 g2
      refine ⟨a, valV en kk, rfl, ?_, ?_⟩
      · rw [rep_key r1 hkk]; exact .inl ⟨en, kk, h2, rfl, rfl⟩
      · rw [fSome_ok hkk hr]
        exact Po.ret p2 s2 (by rw [Rep])
    · exact p2.elim
  · exact p2.elim
theorem gt_fni (hu : X.A.units + 1 < cLine) (ha : GE X W a ma) (hb : GE X W b mb) (hm : behindInMarks .NotIn b = false := by first | exact nobehind _ (by decide) (by decide) | rfl) : GT X W (.Compare a [.NotIn] [b] pos) (tVal (e2 fNi ma mb)) :=
  (pt_cmp (pc_dnotin hu ha hb) hm).imp fun σ H Q h => fni_read (tVal_read h)
theorem gt_fin (hu : X.A.units + 1 < cLine) (ha : GE X W a ma) (hb : GE X W b mb) (hm : behindInMarks .In b = false := by first | exact nobehind _ (by decide) (by decide) | rfl) : GT X W (.Compare a [.In] [b] pos) (tVal (e2 fIn ma mb)) :=
  (pt_cmp (pc_din hu ha hb) hm).imp fun σ H Q h => fin_read (tVal_read h)
theorem ge_fni (hu : X.A.units + 1 < cLine) (ha : GE X W a ma) (hb : GE X W b mb) (hm : behindInMarks .NotIn b = false := by first | exact nobehind _ (by decide) (by decide) | rfl) : GE X W (.Compare a [.NotIn] [b] pos) (e2 fNi ma mb) :=
  (pe_cmp (pc_dnotin hu ha hb) hm).imp fun σ H Q h => fni_read h
theorem ge_fin (hu : X.A.units + 1 < cLine) (ha : GE X W a ma) (hb : GE X W b mb) (hm : behindInMarks .In b = false := by first | exact nobehind _ (by decide) (by decide) | rfl) : GE X W (.Compare a [.In] [b] pos) (e2 fIn ma mb) :=
  (pe_cmp (pc_din hu ha hb) hm).imp fun σ H Q h => fin_read h
theorem ge_kni (hu : X.A.units + 1 < cLine) (ha : GE X W a ma) (hb : GE X W b mb) (hm : behindInMarks .NotIn b = false := by first | exact nobehind _ (by decide) (by decide) | rfl) : GE X W (.Compare a [.NotIn] [b] pos) (e2 kNi ma mb) :=
  (pe_cmp (pc_dnotin hu ha hb) hm).imp fun σ H Q h => kni_read h
theorem ge_kin (hu : X.A.units + 1 < cLine) (ha : GE X W a ma) (hb : GE X W b mb) (hm : behindInMarks .In b = false := by first | exact nobehind _ (by decide) (by decide) | rfl) : GE X W (.Compare a [.In] [b] pos) (e2 kIn ma mb) :=
  (pe_cmp (pc_din hu ha hb) hm).imp fun σ H Q h => kin_read h
theorem ge_fget (hu : X.A.units + 1 < cLine) (hd : GE X W d md) (hk : GE X W k mk) (hs : NoSl k := by exact fun _ _ => rfl) : GE X W (.Subscript d k pos) (e2 fGet md mk) := (pe_dget hu hd hk hs).imp fun σ H Q ⟨ι, ρ, S, s, r, p⟩ => by
  refine ⟨ι, ρ, S, s, r, Po.bd p fun x S1 ι1 H1 y e1 s1 r1 p1 => ?_⟩
  refine ⟨ι1, ρ, S1, s1, r.ext e1, Po.bd p1 fun z S2 ι2 H2 w e2 s2 r2 p2 => ?_⟩
  have r1 := Rep.ext e2 _ _ r1
  unfold fGet at p2
  split at p2
  · rename_i kvs g2
    split at p2
    · rename_i hk
      obtain ⟨kk, hkk⟩ := keyD_ok hk
      obtain ⟨a, en, rfl, h2, hr⟩ := dk_ok s2 r1 g2
      have t := fget_ok hkk hr
      cases c : fget kvs z with
      | none => rw [c] at p2; exact p2.elim
      | some u =>
        rw [c] at p2 t
        obtain ⟨v, hv, rv⟩ := t
        refine ⟨a, v, rfl, ?_, Po.ret p2 s2 rv⟩
        rw [rep_key r2 hkk, ← hv]
        exact .inl ⟨en, kk, h2, rfl, rfl⟩
    · exact p2.elim
  · exact p2.elim
theorem gs_fput {value : Expr} (hu : X.A.units + 1 < cLine) (hv : GE X W value mv) (hd : GE X W d md) (hk : GE X W k mk)
    (hs : swapsWith value (some (.Subscript d k pos')) pos.line X.env = pure false := by rfl) : GS X W (.Assign [.Subscript d k pos'] value pos) (sFPut md mk mv) := (ps_dput hu hd hk hv hs).imp fun En σ H ⟨ι, ρ, S, s, r, p⟩ => by
  unfold sFPut at p
  refine ⟨ι, ρ, S, s, r, PoS.bo r p fun w S1 ι1 H1 v e1 s1 r1 rr1 p1 => ?_⟩
  refine ⟨ι1, ρ, S1, s1, rr1, PoS.bo rr1 p1 fun x S2 ι2 H2 y e2 s2 r2 rr2 p2 => ?_⟩
  refine ⟨ι2, ρ, S2, s2, rr2, PoS.bo rr2 p2 fun z S3 ι3 H3 t e3 s3 r3 rr3 p3 => ?_⟩
  split at p3
  · rename_i n
    split at p3
    · rename_i kvs g
      split at p3
      · rename_i hl
        obtain ⟨kk, hkk⟩ := keyD_ok hl.2
        have hy := rep_key r3 hkk
        have r2 := Rep.ext e3 _ _ r2
        rw [Rep] at r2
        obtain ⟨a, rfl, ha⟩ := r2
        obtain ⟨en, he, hr⟩ := s3.get ha g
        have rw3 : Rep X.K ι3 H3 w v := Rep.ext e3 _ _ (Rep.ext e2 _ _ r1)
        refine ⟨a, upd H3 a (.dK (putK en kk v)), rfl, ?_, ?_⟩
        · rw [hy]; exact DPut.k he (by rw [hr.length, sizeLine_eq]; omega)
        have em : Ext ι3 H3 ι3 (upd H3 a (.dK (putK en kk v))) := ext_mut he trivial
        exact p3 ι3 _ σ em (s3.put ha ⟨_, upd_same, KsR.ext em _ _ (fput_ok hkk rw3 hr)⟩ ⟨_, he, trivial⟩) (rr3.ext em)
      · exact p3.elim
    · exact p3.elim
  · exact p3.elim
theorem ge_dctF : GE X W (.Dict [] [] pos) eDctF := pe_dnewK.imp fun σ H Q ⟨ι, ρ, S, s, r, p⟩ q hq => by
  have e := ext_new (ι := ι) (t := [q]) (o := HO.dK []) hq
  exact Po.ret (Po.mono e p) (s.new hq ⟨[], upd_same, rfl⟩) (Rep.newL s)
theorem ge_fdct1 (hu : X.A.units + 3 < cLine) (hk : GE X W k mk) (hv : GE X W v mv) : GE X W (.Dict [some k] [v] pos) (eFDct1 mk mv) := (pe_disp (pps_cons hk hv pps_nil) rfl rfl (by intro h; cases h) (Nat.le_of_ble_eq_true rfl)).imp fun σ H Q ⟨ι, ρ, S, s, r, p⟩ => by
  intro pA hp
  have e0 : Ext ι H (ι ++ [pA]) (upd H pA (.dK [])) := ext_new hp
  have s0 : Sim X.K (ι ++ [pA]) (S ++ [.dk []]) (upd H pA (.dK [])) := s.new hp ⟨[], upd_same, rfl⟩
  have ha : (ι ++ [pA])[S.length]? = some pA := by rw [← s.len, List.getElem?_append_right (Nat.le_refl _)]; simp
  refine ⟨_, ρ, _, s0, r.ext e0, Po.bd (Po.mono e0 p) fun x S1 ι1 H1 y e1 s1 r1 p1 => ?_⟩
  refine ⟨ι1, ρ, S1, s1, (r.ext e0).ext e1, Po.bd p1 fun z S2 ι2 H2 w e2 s2 r2 p2 => ?_⟩
  split at p2
  · rename_i g
    split at p2
    · rename_i hk
      obtain ⟨kk, hkk⟩ := keyD_ok hk
      have r1 := Rep.ext e2 _ _ r1
      have hy := rep_key r1 hkk
      have ha2 := (e1.trans e2).at ha
      obtain ⟨en, he, hr⟩ := s2.get ha2 g
      rw [KsR] at hr
      subst hr
      refine ⟨he, [(kk, w)], by rw [hy]; rfl, Nat.le_of_ble_eq_true rfl, ?_⟩
      have em : Ext ι2 H2 ι2 (upd H2 pA (.dK [(kk, w)])) := ext_mut he trivial
      exact Po.ret (Po.mono em p2) (s2.put ha2 ⟨_, upd_same, kk, w, [], rfl, hkk, Rep.ext em _ _ r2, rfl⟩ ⟨_, he, trivial⟩) (by rw [Rep]; exact ⟨pA, rfl, ha2⟩)
    · exact p2.elim
  · exact p2.elim
theorem fOf_ok {K : PySem.W.Frag} {ι : List Addr} {H : Hp} : ∀ {xs : List D} {vs : List V} {kvs : List (D × D)}, RepL K ι H xs vs → fOf xs = some kvs →
    ∃ (ps : List Addr) (en : List (Key × V)), vs = ps.map V.ref ∧ Paired (fun p kv => SqT K H p [kV kv.1, kv.2]) ps en ∧ KsR keyD K ι H kvs en
  | [], vs, kvs, r, h => by
    cases h
    exact ⟨[], [], r.nil, .nil, rfl⟩
  | x :: xs, vs, kvs, r, h => by
    obtain ⟨y, t, rfl, r1, r2⟩ := r.cons
    unfold fOf at h
    split at h
    · rename_i hh; cases hh
    · rename_i k' v' r' hh
      cases hh
      split at h
      · rename_i tl g2
        split at h
        · rename_i hk
          cases h
          obtain ⟨ps, en, e1, e2, e3⟩ := fOf_ok r2 g2
          rw [Rep] at r1
          obtain ⟨a, ws, rfl, h1, h2⟩ := r1
          obtain ⟨y1, t1, rfl, q1, q2⟩ := h2.cons
          obtain ⟨y2, t2, rfl, q3, q4⟩ := q2.cons
          have := q4.nil
          subst this
          obtain ⟨kk, hkk⟩ := keyD_ok hk
          have hy := rep_key q1 hkk
          subst hy
          exact ⟨a :: ps, (kk, y2) :: en, by rw [e1]; rfl, .cons h1.sq e2, kk, y2, en, rfl, hkk, q3, e3⟩
        · cases h
      · cases h
    · cases h
theorem ffold_ok {K : PySem.W.Frag} {ι : List Addr} {H : Hp} : ∀ {kvs : List (D × D)} {en : List (Key × V)} {acc : List (D × D)} {ac : List (Key × V)}, KsR keyD K ι H kvs en → KsR keyD K ι H acc ac →
    KsR keyD K ι H (kvs.foldl (fun acc p => fput acc p.1 p.2) acc) (mergeK ac en)
  | [], en, acc, ac, h, g => by rw [KsR] at h; subst h; exact g
  | p :: kvs, en, acc, ac, h, g => by
    rw [KsR] at h
    obtain ⟨kk, y, t, rfl, h1, h2, h3⟩ := h
    have := ffold_ok h3 (fput_ok h1 h2 g)
    exact this
theorem no_dictTF : NoExF dictTF := by
  intro ds S c S'
  unfold dictTF
  split <;> (try split) <;> (try split) <;> (try split) <;> simp [new1]
theorem zc_dictTF (hc : X.calm = true) : CallR X (.type "dict") (rB X dictTF) := by
  intro pins s σ H xs us Q I r ⟨ι, S, ds, sm, rd, po⟩
  unfold dictTF at po
  split at po
  · rename_i zs
    obtain ⟨v, rfl, h⟩ := one_of (ds := []) rd
    split at po
    · rename_i kvs hk
      split at po
      · rename_i hl
        rw [Rep] at h
        obtain ⟨a, vs, rfl, h1, h2⟩ := h
        obtain ⟨ps, en, rfl, e2, e3⟩ := fOf_ok h2 hk
        have hflat : zs.all k0 = false := by
          cases zs with
          | nil => exact absurd rfl hl.2
          | cons z zs =>
            unfold fOf at hk
            split at hk
            · rename_i hh; cases hh
            · rename_i hh; cases hh; rfl
            · cases hk
        rw [hflat] at h1
        obtain ⟨ob, hdn, h1⟩ := h1
        refine call_dictPT hc pins s σ H _ us Q I r ⟨a, ob, ps, en, rfl, hdn, h1, e2, fun t ht => ?_⟩
        have ex : Ext ι H (ι ++ [t]) (upd H t (.dK (mergeK [] en))) := ext_new ht
        exact Po.ret (Po.mono ex po) (sm.new ht ⟨_, upd_same, KsR.ext ex _ _ (ffold_ok e3 rfl)⟩) (Rep.newL sm)
      · exact po.elim
    · exact po.elim
  · exact po.elim
theorem no_dlen : NoExF dlenF := by
  intro ds S c S'
  unfold dlenF
  split <;> (try split) <;> (try split) <;> simp
theorem zc_dlen : CallR X (.builtin "len") (rB X dlenF) := by
  intro pins s σ H xs us Q I r ⟨ι, S, ds, sm, rd, po⟩
  unfold dlenF at po
  split at po
  · obtain ⟨v, rfl, h⟩ := one_of (ds := []) rd
    rw [Rep] at h
    obtain ⟨a, rfl, ha⟩ := h
    split at po
    · rename_i kvs g
      split at po
      · rename_i hl
        obtain ⟨en, he, hr⟩ := sm.get ha g
        refine call_len_dT pins s σ H _ us Q I r ⟨a, en, rfl, he, ?_⟩
        exact Po.ret po sm (by rw [Rep, hr.length])
      · exact po.elim
    · rename_i kvs g
      split at po
      · rename_i hl
        obtain ⟨en, he, hr⟩ := sm.get ha g
        refine call_lenD pins s σ H _ us Q I r ⟨a, en, rfl, he, ?_⟩
        exact Po.ret po sm (by rw [Rep, hr.length])
      · exact po.elim
    · exact po.elim
  · exact po.elim
theorem ge_fget2 {apos : Pos} (hu : X.A.units + 1 < cLine) (hd : GE X W d md) (hk : GE X W k mk) (hv : GE X W v mv) (m : M2 X d "get" apos k v pos := by exact ⟨rfl, rfl, rfl, rfl⟩) : GE X W (.Call (.Attribute d "get" apos) [k, v] [] pos) (eFGet2 md mk mv) := (pe_dget2 hu hd hk hv m).imp fun σ H Q ⟨ι, ρ, S, s, r, p⟩ => by
  refine ⟨ι, ρ, S, s, r, Po.bd p fun y S1 ι1 H1 yv e1 s1 r1 p1 => ?_⟩
  split at p1
  · rename_i kvs0 g0
    obtain ⟨a, en0, rfl, h0, hr0⟩ := dk_ok s1 r1 g0
    refine ⟨a, rfl, .inl ⟨_, h0⟩, ι1, ρ, S1, s1, r.ext e1, Po.bd p1 fun x S2 ι2 H2 xv e2 s2 r2 p2 => ?_⟩
    refine ⟨ι2, ρ, S2, s2, (r.ext e1).ext e2, Po.bd p2 fun w S3 ι3 H3 wv e3 s3 r3 p3 => ?_⟩
    split at p3
    · rename_i kvs g
      split at p3
      · rename_i hk
        obtain ⟨kk, hkk⟩ := keyD_ok hk
        obtain ⟨a', en, ea, h2, hr⟩ := dk_ok s3 (Rep.ext e3 _ _ (Rep.ext e2 _ _ r1)) g
        cases ea
        refine ⟨valV en kk, ?_, ?_⟩
        · rw [rep_key (Rep.ext e3 _ _ r2) hkk]; exact .inl ⟨en, kk, h2, rfl, rfl⟩
        have t := fget_ok hkk hr
        cases c : fget kvs x with
        | none =>
          rw [c] at t p3
          rw [t]
          exact Po.ret p3 s3 r3
        | some u =>
          rw [c] at t p3
          obtain ⟨v', hv', rv⟩ := t
          rw [hv']
          exact Po.ret p3 s3 rv
      · exact p3.elim
    · exact p3.elim
  · exact p1.elim
theorem no_revT (d : D) (S : Store) (c : String) (S' : Store) : revTD d S ≠ some (.ex c S') := by unfold revTD; split <;> simp
theorem repL_reverse {K : PySem.W.Frag} {ι : List Addr} {H : Hp} : ∀ {ds : List D} {vs : List V}, RepL K ι H ds vs → RepL K ι H ds.reverse vs.reverse
  | [], vs, r => by have := r.nil; subst this; exact r
  | d :: ds, vs, r => by
    obtain ⟨v, t, rfl, r1, r2⟩ := r.cons
    rw [List.reverse_cons, List.reverse_cons]
    exact (repL_reverse r2).append (RepL.one r1)
theorem ge_revT {e : Expr} {m : SE} {k : Nat} {p1 p2 p3 : Pos} (he : GE X W e m) : GE X W (.Subscript e (.Slice none none (some (.UnaryOp .USub (.Constant (.int 1) k p1) p2)) p3) pos) (e1 revTD m) :=
  (pe_revT he).imp fun σ H Q ⟨ι, ρ, S, s, r, p⟩ => by
    refine ⟨ι, ρ, S, s, r, Po.bd p fun d S1 ι1 H1 x e1 s1 r1 p1 => ?_⟩
    have p1 := p1.noex (E' := fun _ _ _ => False) fun c S' => no_revT d S1 c S'
    unfold revTD at p1
    split at p1
    · rw [Rep] at r1
      obtain ⟨a, vs, rfl, h1, h2⟩ := r1
      exact ⟨a, vs, rfl, h1.sq, fun q hq => s1.newTup hq (repL_reverse h2) p1⟩
    · exact p1.elim
end
end Z
namespace Z
open PySem PySem.Spec PyProof.Rows L2
/-! ### repr of data -/
mutual
/-- how many signs and things, by the kit's count -/
def PD.wgt : PD → Nat
  | .str s => s.length
  | .int i => i.natAbs.log2 + 1
  | .lst xs => wgtL xs
  | .tup xs => wgtL xs
  | _ => 0
def wgtL : List PD → Nat
  | [] => 0
  | x :: xs => PD.wgt x + 1 + wgtL xs
end
mutual
/-- no number in it is long -/
def PD.sml (B : Nat) : PD → Bool
  | .int i => decide (i.natAbs.log2 < B)
  | .lst xs => smlL B xs
  | .tup xs => smlL B xs
  | _ => true
def smlL (B : Nat) : List PD → Bool
  | [] => true
  | x :: xs => PD.sml B x && smlL B xs
end
def PD.rok (B : Nat) (x : PD) : Prop := x.sml B = true ∧ (B + 3) * x.wgt + (B + 1) ≤ 16777216
/-- the text -/
noncomputable def rtext (x : PD) : List Nat := x.py.shown.cps.toList
open Classical in
noncomputable def reprD : Fn := fun ds S => match ds with
  | [d] => (match dat S d with
    | some x => if x.dep ≤ 60 ∧ (x.rok 20 ∨ x.rok 302) then some (.ok (.str (rtext x)) S) else none
    | none => none)
  | _ => none
theorem o_reprD {d : D} {S : Store} {x : PD} (h : dat S d = some x) (hd : x.dep ≤ 60) (hr : x.rok 20 ∨ x.rok 302) : reprD [d] S = some (.ok (.str (rtext x)) S) := by
  unfold reprD
  dsimp only
  rw [h]
  dsimp only
  rw [if_pos ⟨hd, hr⟩]
/-! the text has signs below 128 -/
def Asc (s : Str) : Prop := ∀ c ∈ s.cps.toList, c < 128
theorem Asc.add {a b : Str} (ha : Asc a) (hb : Asc b) : Asc (a ++ b) := fun c hc => by
  have : c ∈ a.cps.toList ++ b.cps.toList := by
    have e : (a ++ b).cps = a.cps ++ b.cps := rfl
    rw [e] at hc
    simpa using hc
  rcases List.mem_append.mp this with h | h
  · exact ha c h
  · exact hb c h
theorem asc_lit (s : String) (h : (s.toList.all fun c => decide (c.toNat < 128)) = true) : Asc (Str.ofString s) := by
  intro c hc
  rw [Str.ofString_eq_toList] at hc
  simp only [List.toList_toArray] at hc
  obtain ⟨k, hk, rfl⟩ := List.mem_map.mp hc
  exact of_decide_eq_true (List.all_eq_true.mp h k hk)
theorem asc_reprChar : ∀ c, c < 128 → ∀ k ∈ Builtin.Str.reprChar 34 c, k < 128 := by decide +kernel
theorem asc_reprChar' : ∀ c, c < 128 → ∀ k ∈ Builtin.Str.reprChar 39 c, k < 128 := by decide +kernel
theorem asc_fold {q : Nat} (hq : ∀ c, c < 128 → ∀ k ∈ Builtin.Str.reprChar q c, k < 128) : ∀ (l : List Nat) (acc : Array Nat), (∀ c ∈ l, c < 128) → (∀ k ∈ acc.toList, k < 128) → ∀ k ∈ (l.foldl (fun out c => out ++ (Builtin.Str.reprChar q c).toArray) acc).toList, k < 128
  | [], acc, _, h => h
  | c :: r, acc, hl, h => by
    rw [List.foldl_cons]
    refine asc_fold hq r _ (fun x hx => hl x (List.mem_cons_of_mem _ hx)) fun k hk => ?_
    simp only [Array.toList_append, List.toList_toArray] at hk
    rcases List.mem_append.mp hk with hk | hk
    · exact h k hk
    · exact hq c (hl c (by simp)) k hk
theorem asc_reprText {x : Str} (h : Asc x) : Asc (reprText x) := by
  intro k hk
  unfold reprText at hk
  rw [Array.toList_push] at hk
  have hq : reprQuote x = 34 ∨ reprQuote x = 39 := by unfold reprQuote; split <;> simp
  have hf : ∀ c, c < 128 → ∀ k ∈ Builtin.Str.reprChar (reprQuote x) c, k < 128 := by
    rcases hq with e | e <;> rw [e]
    · exact asc_reprChar
    · exact asc_reprChar'
  rw [← Array.foldl_toList] at hk
  rcases List.mem_append.mp hk with hk | hk
  · refine asc_fold hf _ _ h (fun k hk => ?_) k hk
    simp at hk
    subst hk
    rcases hq with e | e <;> rw [e] <;> decide
  · simp at hk
    subst hk
    rcases hq with e | e <;> rw [e] <;> decide
theorem asc_textFrom : ∀ (ts : List Str) (k : Nat) (acc : Str), Asc acc → (∀ t ∈ ts, Asc t) → Asc (textFrom k acc ts)
  | [], _, acc, h, _ => h
  | t :: ts, k, acc, h, ht => by
    rw [textFrom]
    refine asc_textFrom ts (k + 1) _ ((h.add ?_).add (ht t (by simp))) fun x hx => ht x (List.mem_cons_of_mem _ hx)
    split
    · exact asc_lit ", " (by decide)
    · exact asc_lit "" (by decide)
theorem asc_join : ∀ ts : List Str, (∀ t ∈ ts, Asc t) → Asc (Str.join ", " ts)
  | [], _ => fun c hc => by cases hc
  | [x], h => h x (by simp)
  | x :: y :: r, h => by
    have ih := asc_join (y :: r) fun t ht => h t (List.mem_cons_of_mem _ ht)
    show Asc (x ++ ", " ++ Str.join ", " (y :: r))
    exact ((h x (by simp)).add (asc_lit ", " (by decide))).add ih
mutual
theorem asc_shown : ∀ x : PD, x.asc → Asc x.py.shown
  | .non, _ => asc_lit "None" (by decide)
  | .bl b, _ => by
    cases b
    · exact asc_lit "False" (by decide)
    · exact asc_lit "True" (by decide)
  | .int i, _ => fun c hc => by
    have e : (PD.int i).py.shown = str (dec i) := dec_eq i
    rw [e] at hc
    exact dec_asc i c (by simpa using hc)
  | .str s, h => by
    rw [PD.asc] at h
    exact asc_reprText (x := Z.str s) fun c hc => h c (by simpa using hc)
  | .lst xs, h => by
    rw [PD.asc] at h
    show Asc (listText (PyData.shownAll (pyL xs)))
    unfold listText
    exact (asc_textFrom _ _ _ (asc_lit "[" (by decide)) (asc_shownL xs h)).add (asc_lit "]" (by decide))
  | .tup xs, h => by
    rw [PD.asc] at h
    show Asc (tupleText (PyData.shownAll (pyL xs)))
    unfold tupleText
    refine ((asc_lit "(" (by decide)).add (asc_join _ (asc_shownL xs h))).add ?_
    split
    · exact asc_lit ",)" (by decide)
    · exact asc_lit ")" (by decide)
theorem asc_shownL : ∀ xs : List PD, ascL xs → ∀ t ∈ PyData.shownAll (pyL xs), Asc t
  | [], _, t, h => by cases h
  | x :: xs, h, t, ht => by
    rw [ascL] at h
    rw [pyL, PyData.shownAll] at ht
    rcases List.mem_cons.mp ht with rfl | ht
    · exact asc_shown x h.1
    · exact asc_shownL xs h.2 t ht
end
/-! its length -/
mutual
theorem py_wgt : ∀ x : PD, x.py.weight ≤ x.wgt
  | .non => Nat.le_refl _
  | .bl _ => Nat.le_refl _
  | .int i => by
    show (if i == 0 then 0 else i.natAbs.log2 + 1) ≤ i.natAbs.log2 + 1
    split <;> omega
  | .str s => by
    show (Z.str s).cps.size ≤ s.length
    simp
  | .lst xs => by simp only [PD.py, PyData.weight, PD.wgt]; exact py_wgtL xs
  | .tup xs => by simp only [PD.py, PyData.weight, PD.wgt]; exact py_wgtL xs
theorem py_wgtL : ∀ xs : List PD, PyData.weightAll (pyL xs) ≤ wgtL xs
  | [] => Nat.le_refl _
  | x :: xs => by
    have h1 := py_wgt x
    have h2 := py_wgtL xs
    simp only [pyL, PyData.weightAll, wgtL]
    omega
end
theorem len_ofString (s : String) : (Str.ofString s).length = s.length := by
  exact PySem.ofString_length s
mutual
theorem py_leaves (B : Nat) (hB : 0 < B) : ∀ x : PD, x.asc → x.sml B = true → x.py.leavesShort (B + 1) = true
  | .non, _, _ => rfl
  | .bl _, _, _ => rfl
  | .int i, _, h => by
    have h' : i.natAbs.log2 < B := by simpa [PD.sml] using h
    show decide ((Str.ofString (toString i)).length ≤ B + 1) = true
    rw [len_ofString]
    exact decide_eq_true (int_text_length_le hB h')
  | .str s, h, _ => by
    rw [PD.asc] at h
    show ((Z.str s).cps.toList.all fun c => decide (c < 16 ^ 8)) = true
    refine List.all_eq_true.mpr fun c hc => decide_eq_true ?_
    have := h c (by simpa using hc)
    exact Nat.lt_trans this (by decide)
  | .lst xs, h, g => by
    rw [PD.asc] at h
    simp only [PD.sml] at g
    simp only [PD.py, PyData.leavesShort]
    exact py_leavesL B hB xs h g
  | .tup xs, h, g => by
    rw [PD.asc] at h
    simp only [PD.sml] at g
    simp only [PD.py, PyData.leavesShort]
    exact py_leavesL B hB xs h g
theorem py_leavesL (B : Nat) (hB : 0 < B) : ∀ xs : List PD, ascL xs → smlL B xs = true → PyData.leavesShortAll (B + 1) (pyL xs) = true
  | [], _, _ => rfl
  | x :: xs, h, g => by
    rw [ascL] at h
    rw [smlL, Bool.and_eq_true] at g
    rw [pyL, PyData.leavesShortAll, py_leaves B hB x h.1 g.1, py_leavesL B hB xs h.2 g.2]
    rfl
end
mutual
theorem py_showable (B : Nat) (hB : B ≤ 1920) : ∀ x : PD, x.sml B = true → x.py.showable = true
  | .non, _ => rfl
  | .bl _, _ => rfl
  | .int i, h => by
    have h' : i.natAbs.log2 < B := by simpa [PD.sml] using h
    exact decide_eq_true (show i.natAbs.log2 < 1920 by omega)
  | .str s, _ => rfl
  | .lst xs, g => by simp only [PD.sml] at g; simp only [PD.py, PyData.showable]; exact py_showableL B hB xs g
  | .tup xs, g => by simp only [PD.sml] at g; simp only [PD.py, PyData.showable]; exact py_showableL B hB xs g
theorem py_showableL (B : Nat) (hB : B ≤ 1920) : ∀ xs : List PD, smlL B xs = true → PyData.showableAll (pyL xs) = true
  | [], _ => rfl
  | x :: xs, g => by
    rw [smlL, Bool.and_eq_true] at g
    rw [pyL, PyData.showableAll, py_showable B hB x g.1, py_showableL B hB xs g.2]
    rfl
end
theorem rok_len {x : PD} (ha : x.asc) {B : Nat} (h8 : 8 ≤ B) (h : x.rok B) : x.py.shown.length ≤ sizeLine := by
  have h1 := PyData.shown_le (B + 1) (by omega) x.py (py_leaves B (by omega) x ha h.1)
  have h2 := py_wgt x
  have h3 := h.2
  have h4 : (B + 1 + 2) * x.py.weight ≤ (B + 3) * x.wgt := Nat.mul_le_mul (by omega) h2
  rw [sizeLine_eq]
  omega
section
variable {X : Cx}
theorem no_reprD : NoExF reprD := by
  intro ds S c S'
  unfold reprD
  split
  · split
    · split <;> simp
    · simp
  · simp
theorem zc_reprD (hg : X.A.guards = some []) (hu : X.A.units + 65 < cLine) : CallR X (.builtin "repr") (rB X reprD) := by
  intro pins s σ H xs us Q I r ⟨ι, S, ds, sm, rd, po⟩
  unfold reprD at po
  split at po
  · rename_i d
    obtain ⟨v, rfl, h⟩ := one_of (ds := []) rd
    obtain ⟨u, rfl, ru⟩ := vals1 r
    split at po
    · rename_i x hx
      split at po
      · rename_i hc
        obtain ⟨dp, ha⟩ := dat_ok sm h hx
        obtain ⟨as, rr⟩ := Dp.reads I x.py v u dp ru
        have hsz : x.py.shown.length ≤ sizeLine := hc.2.elim (fun q => rok_len ha (by decide) q) (fun q => rok_len ha (by decide) q)
        have hs : x.py.showable = true := hc.2.elim (fun q => py_showable 20 (by decide) x q.1) (fun q => py_showable 302 (by decide) x q.1)
        have hnd := PyData.hasDict_of_canLay x.py (py_lay x ha)
        have hasc := asc_shown x ha
        have fin : ∀ (h' : Heap) (t t' : Tok), (∀ b o, s.heap.get? b = some o → h'.get? b = some o) → EP X pins σ Q (.str x.py.shown t) { s with heap := h', toks := t' } := fun h' t t' hk =>
          ⟨.str x.py.shown, H, I.kept (t' := t') hk, ⟨t, rfl⟩, Po.ret po sm (by
            rw [Rep]
            refine ⟨?_, fun c hc => hasc c hc⟩
            show V.str x.py.shown = V.str (Z.str (rtext x))
            simp [rtext, Z.str])⟩
        have hdep := py_depth x
        have hcd := hc.1
        cases x with
        | non =>
          cases dp
          cases ru
          exact PySem.P.repr_of_none (fin s.heap s.toks (s.toks + 1) fun _ _ e => e)
        | bl b =>
          cases dp
          cases ru
          exact PySem.P.repr_of_bool (by
            have := fin s.heap s.toks (s.toks + 1) fun _ _ e => e
            cases b <;> exact this)
        | int i =>
          cases dp
          obtain ⟨t', rfl⟩ := ru
          exact PySem.P.repr_of_int (of_decide_eq_true hs) (fin s.heap s.toks (s.toks + 1) fun _ _ e => e)
        | str z =>
          cases dp
          obtain ⟨t', rfl⟩ := ru
          exact PySem.P.repr_of_str (fin s.heap s.toks (s.toks + 1) fun _ _ e => e) hsz
        | lst zs =>
          cases dp
          cases ru
          exact repr_of_reads' rr hs (fun e => by rw [hnd] at e; cases e) hg (by rw [hdep]; omega) (fun _ _ e => e) (fun h' t tk hk => fin h' t tk hk) hsz
        | tup zs =>
          cases dp
          cases ru
          exact repr_of_reads' rr hs (fun e => by rw [hnd] at e; cases e) hg (by rw [hdep]; omega) (fun _ _ e => e) (fun h' t tk hk => fin h' t tk hk) hsz
      · exact po.elim
    · exact po.elim
  · exact po.elim
end
end Z
namespace Z
open PySem PySem.Spec PyProof.Rows L2
/-! ### except X as e: what the suite asks of e -/
/-- isinstance(e, (c1, ..)) of the exception in hand -/
def rIsET (K : PySem.W.Frag) (D a : Addr) : List V → Hp → VK → Prop := fun xs H Q => ∃ (tp : Addr) (cs : List V) (us : List Value) (b : Bool), xs = [.ref a, .ref tp] ∧ H tp = some (.tup cs) ∧ Paired ClsV cs us ∧ PySem.W.kitAny K (.ref D) us = some b ∧ Q (.bl b) H
theorem call_isET {X : Cx} {a D : Addr} {oe : Obj} {pn : List (Addr × Obj)} (C : ExcC X.K D) (hz : Zc (.ref D) none oe) (hf : ∃ vs, oe.data = .fields vs) : CallR (X.suite a ((a, oe) :: pn)) (.builtin "isinstance") (rIsET X.K D a) := by
  intro pins s σ H xs us Q I r h
  obtain ⟨tp, cs, ws, b, rfl, hT, k, e, q⟩ := h
  obtain ⟨u1, u2, rfl, r1, r2⟩ := vals2 r
  cases (show u2 = Value.ref tp from r2)
  cases (show u1 = Value.ref a from r1)
  obtain ⟨hget, _⟩ := I.pin (a, oe) (List.mem_append.mpr (.inl List.mem_cons_self))
  obtain ⟨vs, hv⟩ := hf
  have J : PySem.W.InstAt s.heap a oe D none := by
    obtain ⟨oc, od, oda, osl⟩ := oe
    obtain ⟨h1, h2⟩ := hz
    dsimp only at h1 h2 hv
    subst h1 h2 hv
    exact ⟨hget, rfl, rfl, trivial⟩
  obtain ⟨_, its, rv, o, h1, h2, n, h3⟩ := (show ObjOk X.prog X.w H s.heap tp (.tup cs) from I.hok tp _ hT)
  have e3 := ClsV.all k rv
  subst e3
  obtain ⟨oc, od, dt, sl⟩ := o
  simp only at h2 h3
  subst h2 h3
  exact PySem.W.kia_tup (PySem.W.handS_kitx_exc C.hg C.hk C.hs C.hd C.ha C.hn C.ht C.hm) I.kIn J h1 e (fun z => nomatch z) fun tk => ⟨.bl b, H, I.kept (t' := tk) fun _ _ z => z, rfl, q⟩
def HE (X : Cx) (W : WX) (i : Nat) (a : Addr) (e : Expr) (m : SE) : Prop := PE X e (fun σ H Q => σ[i]? = some (some (.ref a)) ∧ tE X.K X.mg W m σ H Q)
def HA (X : Cx) (W : WX) (i : Nat) (a : Addr) (es : List Expr) (ms : List SE) : Prop := PA X es (fun σ H Q => σ[i]? = some (some (.ref a)) ∧ tA X.K X.mg W ms σ H Q)
def tH (K : PySem.W.Frag) (mg : Mg) (W : WX) (i : Nat) (a : Addr) (m : SS) : TS := fun D σ H => σ[i]? = some (some (.ref a)) ∧ tS K mg W m { D with nx := fun σ' H' => σ'[i]? = some (some (.ref a)) → D.nx σ' H' } σ H
def HS (X : Cx) (W : WX) (i : Nat) (a : Addr) (st : Stmt) (m : SS) : Prop := PS X st (tH X.K X.mg W i a m)
def HSs (X : Cx) (W : WX) (i : Nat) (a : Addr) (st : List Stmt) (m : SS) : Prop := PSs X st (tH X.K X.mg W i a m)
section
variable {X : Cx} {W : WX} {i : Nat} {a : Addr} {e : Expr} {es : List Expr} {ma : SE} {ms : List SE} {pos : Pos}
theorem he_of (h : GE X W e ma) : HE X W i a e ma := h.imp fun σ H Q ⟨_, q⟩ => q
theorem ha_nil : HA X W i a [] [] := (ga_nil (W := W)).imp fun σ H Q ⟨_, q⟩ => q
theorem ha_cons (ha : HE X W i a e ma) (hr : HA X W i a es ms) (hs : starEach (e :: es) X.env = (false, eval e X.env) :: starEach es X.env := by rfl) : HA X W i a (e :: es) (ma :: ms) := (pa_cons ha hr hs).imp fun σ H Q h => by
  obtain ⟨hσ, ι, ρ, S, s, r, p⟩ := h
  refine ⟨hσ, ι, ρ, S, s, r, Po.bd p fun d S1 ι1 H1 x e1 s1 r1 p1 => ?_⟩
  refine ⟨hσ, ι1, ρ, S1, s1, r.ext e1, Po.bd p1 fun ds S2 ι2 H2 ys e2 s2 r2 p2 => ?_⟩
  exact Po.ret p2 s2 (by rw [RepL]; exact ⟨x, ys, rfl, Rep.ext e2 _ _ r1, r2⟩)
theorem he_lst (h : HA X W i a es ms) (hl : ms.length ≤ 1000 := by exact Nat.le_of_ble_eq_true rfl) : HE X W i a (.List es pos) (eLst ms) := (pe_lst h).imp fun σ H Q h => by
  obtain ⟨hσ, ι, ρ, S, s, r, p⟩ := h
  refine ⟨hσ, ι, ρ, S, s, r, Po.evL p fun ds S1 ι1 H1 vs hd e1 s1 r1 p1 => ⟨?_, fun q hq => ?_⟩⟩
  · rw [r1.length, hd]; exact Nat.le_trans hl (by decide)
  · exact Po.ret (Po.mono (ext_new (t := [q]) (o := .lst vs) hq) p1) (s1.newL hq r1) (Rep.newL s1)
theorem hs_set (k : Nat) {x : Str} {pos' : Pos} (hk : k ≠ i) (hN : X.N.Nodup) (he : HE X W i a e ma) (hi : X.N[k]? = some x := by rfl) (hx : Loc X.env.scope x := by first | exact Or.inl rfl | exact Or.inr rfl) (hs : swapsWith e (some (.Name x pos')) pos.line X.env = pure false := by rfl) (hf : X.fn x = true ∨ X.env.scope.names.lookup x = some .local := by first | exact .inl rfl | exact .inr rfl) :
    HS X W i a (.Assign [.Name x pos'] e pos) (sAsg ma (Z.gName k)) := (ps_set hN hi hx he hs hf).imp fun D σ H ⟨hσ, ι, ρ, S, s, r, p⟩ => by
  refine ⟨hσ, ι, ρ, S, s, r, PoS.bo r p fun d S1 ι1 H1 x e1 s1 r1 r2 p1 => ?_⟩
  exact p1 ι1 H1 _ .refl s1 (r2.set r1) (by rw [List.getElem?_set_ne hk]; exact hσ)
theorem hss_one {st : Stmt} {m : SS} (h1 : HS X W i a st m) : HSs X W i a [st] m := pss_one h1
theorem hss_cons {st : Stmt} {rest : List Stmt} {m m' : SS} (h1 : HS X W i a st m) (h2 : HSs X W i a rest m') : HSs X W i a (st :: rest) (sq m m') := (pss_cons h1 h2).imp fun D σ H ⟨hσ, ι, ρ, S, s, r, p⟩ => by
  refine ⟨hσ, ι, ρ, S, s, r, ?_⟩
  unfold sq at p
  match g : m ρ S, p with
  | none, p => exact p
  | some (.nx ρ1 S1), p => exact fun ι1 H1 σ1 e1 s1 r1 hσ1 => ⟨hσ1, ι1, ρ1, S1, s1, r1, PoS.mono e1 p⟩
  | some (.rt d S1), p => exact p
  | some (.bk ρ1 S1), p => exact p
  | some (.ct ρ1 S1), p => exact p
  | some (.ex c ρ1 S1), p => exact p
/-- a class that stands in the text: an own one, or a built-in one -/
def ClsN (X : Cx) (x : Str) (v : V) (u : Value) : Prop := ClsV v u ∧ ∀ pos : Pos, PE X (.Name x pos) (tC v)
theorem ClsN.own {x : Str} {C : Addr} (hg : Gl X x) (hm : X.mg x = some (.ref C)) (hd : (x == ("__debug__" : Str)) = false := by decide) : ClsN X x (.ref C) (.ref C) := ⟨.own C, fun _ => pe_glob hg hm rfl hd⟩
theorem ClsN.blt {x : Str} {T : String} (hg : Gl X x) (hm : X.mg x = none) (hv : bootBuiltins x = some (.type T)) (hn : x ≠ "__name__" := by decide) (hd : (x == ("__debug__" : Str)) = false := by decide) : ClsN X x (.ty T) (.type T) := ⟨.ty T, fun _ => pe_bltn hg hm hv rfl hn hd⟩
/-- isinstance(e, T) -/
theorem he_is {D : Addr} {oe : Obj} {pn : List (Addr × Obj)} {n f T : Str} {v : V} {u : Value} {b : Bool} {p p1 p2 : Pos} (C : ExcC X.K D) (hz : Zc (.ref D) none oe) (hf : ∃ vs, oe.data = .fields vs)
    (hT : ClsN (X.suite a ((a, oe) :: pn)) T v u) (hb : PySem.W.kitOne X.K (.ref D) u = some b)
    (hg : Gl (X.suite a ((a, oe) :: pn)) f) (hm : X.mg f = none) (hv : bootBuiltins f = some (.builtin "isinstance"))
    (hN : X.N[i]? = some n := by rfl) (hvis : Vis X.env.scope n := by first | exact Or.inl rfl | exact Or.inr (Or.inl rfl) | exact Or.inr (Or.inr rfl))
    (hd : (n == ("__debug__" : Str)) = false := by decide) (hcd : (n == ("__classdict__" : Str)) = false := by decide) (hn : f ≠ "__name__" := by decide) (hdb : (f == ("__debug__" : Str)) = false := by decide)
    (hs2 : starEach [.Name T p2] (X.suite a ((a, oe) :: pn)).env = (false, eval (.Name T p2) (X.suite a ((a, oe) :: pn)).env) :: starEach [] (X.suite a ((a, oe) :: pn)).env := by rfl)
    (hs : starEach (.Name n p1 :: [.Name T p2]) (X.suite a ((a, oe) :: pn)).env = (false, eval (.Name n p1) (X.suite a ((a, oe) :: pn)).env) :: starEach [.Name T p2] (X.suite a ((a, oe) :: pn)).env := by rfl)
    (hpl : (backTo pos (starEach [.Name T p2] (X.suite a ((a, oe) :: pn)).env)).any (·.1) = false := by rfl) :
    HE (X.suite a ((a, oe) :: pn)) W i a (.Call (.Name f p) [.Name n p1, .Name T p2] [] pos) (eC (.bl b)) :=
  (pe_callB (call_isE C hz hf) hg hm hv (pa_cons (pe_var hN hvis hd hcd) (pa_cons (hT.2 p2) pa_nil hs2) hs) hn hdb hs hpl).imp fun σ H Q ⟨hσ, ι, ρ, S, s, r, p⟩ =>
    ⟨_, hσ, v, u, b, rfl, fun w hw => hT.1.eq hw, hb, Po.ret p s (by rw [Rep])⟩
/-- isinstance(e, (T1, ..)) -/
inductive ClsNs (X : Cx) : List Expr → List V → List Value → Prop
  | nil : ClsNs X [] [] []
  | cons {x : Str} {pos : Pos} {v : V} {u : Value} {es : List Expr} {vs : List V} {us : List Value} (h : ClsN X x v u) (r : ClsNs X es vs us) (hs : starEach (.Name x pos :: es) X.env = (false, eval (.Name x pos) X.env) :: starEach es X.env := by rfl) : ClsNs X (.Name x pos :: es) (v :: vs) (u :: us)
theorem ClsNs.pa {es : List Expr} {vs : List V} {us : List Value} (h : ClsNs X es vs us) : PA X es (fun σ H Q => Q vs H) := by
  induction h with
  | nil => exact pa_nil
  | cons h r hs ih => exact pa_cons (h.2 _) ih hs
theorem ClsNs.paired {es : List Expr} {vs : List V} {us : List Value} (h : ClsNs X es vs us) : Paired ClsV vs us := by
  induction h with
  | nil => exact .nil
  | cons h r hs ih => exact .cons h.1 ih
theorem he_isT {D : Addr} {oe : Obj} {pn : List (Addr × Obj)} {n f : Str} {ts : List Expr} {vs : List V} {us : List Value} {b : Bool} {x1} {p p1 p2 : Pos} (C : ExcC X.K D) (hz : Zc (.ref D) none oe) (hf : ∃ vs, oe.data = .fields vs)
    (hT : ClsNs (X.suite a ((a, oe) :: pn)) ts vs us) (hb : PySem.W.kitAny X.K (.ref D) us = some b) (hl : vs.length ≤ 1000)
    (hg : Gl (X.suite a ((a, oe) :: pn)) f) (hm : X.mg f = none) (hv : bootBuiltins f = some (.builtin "isinstance"))
    (hN : X.N[i]? = some n := by rfl) (hvis : Vis X.env.scope n := by first | exact Or.inl rfl | exact Or.inr (Or.inl rfl) | exact Or.inr (Or.inr rfl))
    (hd : (n == ("__debug__" : Str)) = false := by decide) (hcd : (n == ("__classdict__" : Str)) = false := by decide) (hn : f ≠ "__name__" := by decide) (hdb : (f == ("__debug__" : Str)) = false := by decide)
    (hs2 : starEach [.Tuple ts x1 p2] (X.suite a ((a, oe) :: pn)).env = (false, eval (.Tuple ts x1 p2) (X.suite a ((a, oe) :: pn)).env) :: starEach [] (X.suite a ((a, oe) :: pn)).env := by rfl)
    (hs : starEach (.Name n p1 :: [.Tuple ts x1 p2]) (X.suite a ((a, oe) :: pn)).env = (false, eval (.Name n p1) (X.suite a ((a, oe) :: pn)).env) :: starEach [.Tuple ts x1 p2] (X.suite a ((a, oe) :: pn)).env := by rfl)
    (hpl : (backTo pos (starEach [.Tuple ts x1 p2] (X.suite a ((a, oe) :: pn)).env)).any (·.1) = false := by rfl) :
    HE (X.suite a ((a, oe) :: pn)) W i a (.Call (.Name f p) [.Name n p1, .Tuple ts x1 p2] [] pos) (eC (.bl b)) :=
  (pe_callB (call_isET C hz hf) hg hm hv (pa_cons (pe_var hN hvis hd hcd) (pa_cons (pe_tup2 hT.pa) pa_nil hs2) hs) hn hdb hs hpl).imp fun σ H Q ⟨hσ, ι, ρ, S, s, r, p⟩ =>
    ⟨_, hσ, Nat.le_trans hl (by decide), fun q hq => .inl ⟨q, vs, us, b, rfl, upd_same, hT.paired, hb, Po.ret (Po.mono (ext_tup hq) p) (s.tup hq) (by rw [Rep])⟩⟩
/-! ### the statement -/
/-- the name goes -/
def unI (i : Nat) : Option Out → Option Out
  | some (.nx ρ S) => some (.nx (ρ.set i none) S)
  | some (.bk ρ S) => some (.bk (ρ.set i none) S)
  | some (.ct ρ S) => some (.ct (ρ.set i none) S)
  | some (.rt d S) => some (.rt d S)
  | _ => none
def pickH (c : String) : List (String × SS) → Option SS
  | [] => none
  | (x, h) :: r => if c = x then some h else pickH c r
def sTryAs (i : Nat) (hs : List (String × SS)) (b : SS) : SS := fun ρ S => match b ρ S with
  | some (.ex c ρ1 S1) => (match pickH c hs with
    | some h => if i < ρ1.length then unI i (h (ρ1.set i none) S1) else none
    | none => none)
  | r => r
theorem pickH_mem {c : String} {h : SS} : ∀ {hs : List (String × SS)}, pickH c hs = some h → (c, h) ∈ hs
  | [], e => by cases e
  | (x, g) :: r, e => by
    rw [pickH] at e
    split at e
    · rename_i hx
      cases e
      rw [hx]
      exact List.mem_cons_self
    · exact List.mem_cons_of_mem _ (pickH_mem e)
theorem EnvR.unset {K : PySem.W.Frag} {ι : List Addr} {H : Hp} {ρ : Env} {σ : L2.St} (h : EnvR K ι H ρ σ) (i : Nat) (o : Option V) : EnvR K ι H (ρ.set i none) (σ.set i o) := by
  refine ⟨by simp [h.1], fun j e g => ?_⟩
  by_cases hj : i = j
  · subst hj
    by_cases hl : i < ρ.length
    · rw [List.getElem?_set_self hl] at g; cases g
    · rw [List.getElem?_eq_none (by simpa using hl)] at g; cases g
  · rw [List.getElem?_set_ne hj] at g ⊢
    exact h.2 j e g
theorem gs_try_as {x n : Str} {ZE : Addr} {body suite : List Stmt} {b₀ : Stmt} {np pos' : Pos} {i : Nat} {mb : SS} {hs : List (String × SS)} (gZ : X.mg x = some (.ref ZE)) (hst : X.stack = X.env :: X.outer) (hf : X.env.frame = some X.env.locals) (tk : Takes X W) (hg : Gl X x)
    (hN : X.N.Nodup) (hi : X.N[i]? = some n) (hln : X.env.kindOf n = some .local)
    (hb : ∀ (W' : WX) (pn : List (Addr × Obj)) (xe : Value → Shared → Prop), Takes (X.tr pn xe) W' → PassesOwn (model X.prog X.w) X.A X.env xe → GSs (X.tr pn xe) W' body mb)
    (hsu : ∀ c h, (c, h) ∈ hs → ∃ D : Addr, X.mg (Str.ofString c) = some (.ref D) ∧ PySem.W.exmOne X.K (.ref D) (.ref ZE) = some true ∧ ∀ (a : Addr) (oe : Obj) (pn : List (Addr × Obj)), Zc (.ref D) none oe → (∃ vs, oe.data = .fields vs) → HSs (X.suite a ((a, oe) :: pn)) W i a (b₀ :: suite) h)
    (hdb : (x == ("__debug__" : Str)) = false := by decide) :
    GS X W (.Try body [.ExceptHandler (some (.Name x np)) (some n) (b₀ :: suite) pos'] [] [] pos) (sTryAs i hs mb) :=
  (ps_try_as (tb := fun W' => tS X.K X.mg W' mb) (ts := fun a cls d D σ H => ∃ p ∈ hs, X.mg (Str.ofString p.1) = some cls ∧ d = none ∧ tH X.K X.mg W i a p.2 D σ H) (Wout := W) hst hf hN hi hln ⟨hg, hdb, Or.inl gZ⟩ tk (fun W' pn xe t po => hb W' pn xe t po)
    (fun a oe cls d pn hz hfd => ⟨fun pins s σ H D I q => by
      obtain ⟨p, hp, hm, rfl, q⟩ := q
      obtain ⟨D', hD, _, hh⟩ := hsu p.1 p.2 hp
      obtain rfl : Value.ref D' = cls := by rw [hD] at hm; exact Option.some.inj hm
      exact (hh a oe pn hz hfd).run pins s σ H D I q⟩)).imp fun En σ H ⟨ι, ρ, S, s, r, q⟩ => by
    refine ⟨ι, ρ, S, s, r, ?_⟩
    unfold sTryAs at q
    match g : mb ρ S, q with
    | none, q => exact q
    | some (.nx ρ1 S1), q => exact q
    | some (.rt d S1), q => exact q
    | some (.bk ρ1 S1), q => exact q
    | some (.ct ρ1 S1), q => exact q
    | some (.ex c ρ1 S1), q =>
      dsimp only at q
      cases hp : pickH c hs with
      | none => rw [hp] at q; exact q.elim
      | some h =>
        rw [hp] at q
        dsimp only at q
        by_cases hil : i < ρ1.length
        · rw [if_pos hil] at q
          intro ι' H' σ' cls e1 s1 r1 hm
          have hmem := pickH_mem hp
          obtain ⟨D', hD, hex, _⟩ := hsu c h hmem
          obtain rfl : Value.ref D' = cls := by rw [hD] at hm; exact Option.some.inj hm
          refine ⟨true, hex, fun _ a na => ⟨(c, h), hmem, hD, rfl, ?_, ι', ρ1.set i none, S1, s1, r1.unset i _, ?_⟩, fun h => nomatch h⟩
          · rw [List.getElem?_set_self (by rw [← r1.1]; exact hil)]
          · have q := PoS.mono e1 q
            show PoS _ _ _ _ _ _ (h (ρ1.set i none) S1)
            match g2 : h (ρ1.set i none) S1, q with
            | none, q => exact q
            | some (.nx ρ2 S2), q => exact fun ι2 H2 σ2 e2 s2 r2 _ => q ι2 H2 _ e2 s2 (r2.unset i _)
            | some (.rt d S2), q => exact q
            | some (.bk ρ2 S2), q => exact fun ι2 H2 σ2 e2 s2 r2 => q ι2 H2 _ e2 s2 (r2.unset i _)
            | some (.ct ρ2 S2), q => exact fun ι2 H2 σ2 e2 s2 r2 => q ι2 H2 _ e2 s2 (r2.unset i _)
            | some (.ex c2 ρ2 S2), q => exact q.elim
        · rw [if_neg hil] at q; exact q.elim
end
end Z
namespace Z
open PySem PySem.Spec PyProof.Rows L2
/-- a class of errors in hand: caught by the clause of the class at ZE; isinstance asks it rightly -/
structure ExH (K : PySem.W.Frag) (D ZE : Addr) : Prop where
  exm : PySem.W.exmOne K (.ref D) (.ref ZE) = some true
  C : ExcC K D
theorem hs_nil {P : String → SS → Prop} : ∀ c h, (c, h) ∈ ([] : List (String × SS)) → P c h := fun c h hm => by cases hm
theorem hs_cons {P : String → SS → Prop} {c : String} {h : SS} {r : List (String × SS)} (p : P c h) (q : ∀ c' h', (c', h') ∈ r → P c' h') : ∀ c' h', (c', h') ∈ (c, h) :: r → P c' h' := fun c' h' hm => by
  rcases List.mem_cons.mp hm with e | hm
  · cases e; exact p
  · exact q c' h' hm
@[simp] theorem x_tryas (i : Nat) (hs : List (String × SS)) (b : SS) (ρ : Env) (S : Store) : sTryAs i hs b ρ S = match b ρ S with
  | some (.ex c ρ1 S1) => (match pickH c hs with
    | some h => if i < ρ1.length then unI i (h (ρ1.set i none) S1) else none
    | none => none)
  | r => r := rfl
end Z
namespace Z
open PySem PySem.Spec PyProof.Rows L2
theorem kit_own {K : PySem.W.Frag} {D T : Addr} {b : Bool} (hself : PySem.W.subIn K (.ref D) (.ref D) = some true) (hd : PySem.W.hasDictIn K T = true) (ht : PySem.W.typeIn K (.ref T) = some (.type "type")) (hs : PySem.W.subIn K (.ref D) (.ref T) = some b) : PySem.W.kitOne K (.ref D) (.ref T) = some b := by
  unfold PySem.W.kitOne
  by_cases h : (Value.ref D == Value.ref T) = true
  · rw [if_pos h]
    have e : D = T := Value.ref.inj (beq_iff_eq.mp h)
    subst e
    rw [hself] at hs
    exact hs
  · rw [if_neg h]
    obtain ⟨cd, hc, _⟩ := PySem.W.any_some hd
    have e2 : ((PySem.W.clsIn K T).isSome && PySem.W.typeIn K (.ref T) == some (.type "type")) = true := by rw [hc, ht] <;> rfl
    show (if ((PySem.W.clsIn K T).isSome && PySem.W.typeIn K (.ref T) == some (.type "type")) = true then PySem.W.subIn K (.ref D) (.ref T) else none) = some b
    rw [if_pos e2]
    exact hs
theorem kit_blt {K : PySem.W.Frag} {D : Addr} {T : String} {b : Bool} (hm : PySem.W.kitMeta T = true) (hs : PySem.W.subIn K (.ref D) (.type T) = some b) : PySem.W.kitOne K (.ref D) (.type T) = some b := by
  unfold PySem.W.kitOne
  have h : ¬ (Value.ref D == Value.type T) = true := fun h => by cases beq_iff_eq.mp h
  rw [if_neg h]
  show (if PySem.W.kitMeta T = true then PySem.W.subIn K (.ref D) (.type T) else none) = some b
  rw [if_pos hm]
  exact hs
end Z
namespace L2
open PySem PySem.Spec PyProof.Rows
/-! ### methods and instances, where no guard stands -/
section
variable {X : Cx} {CX : CXT} {k : Nat} {f C : Addr} {fd : FuncData} {ps : List Str} {sp : Sp} {dvs : List V} {ds : List Value} {E : St → XK} {x m : Str} {p pos apos : Pos} {e o : Expr} {es : List Expr} {ta : TE} {t : TA}
def tMethSD (C : Addr) (m : Str) (sp : Sp) (E : St → XK) (ta : TE) (t : TA) : TE := fun σ H Q => ta σ H fun x H1 => ∃ a dx fs, x = .ref a ∧ H1 a = some (.ins C dx fs) ∧ fs.lookup m = none ∧
  t σ H1 fun vs H2 => sp (x :: (vs ++ [])) H2 Q (E σ)
theorem pe_methG {pl : Sem Bool} (he : PE X o ta) (c : Cls X.K C) (hm : Meth X.K C m f) (F : FnG X.prog X.w X.K X.mg X.base CX k f fd ps sp) (hr : RoomG k X.A) (hb : Binds X.K fd ps []) (hx : ∀ σ, PassesAt CX X σ (E σ)) (ha : PA X (e :: es) t)
    (hst : starEach (e :: es) X.env = (false, eval e X.env) :: starEach es X.env := by rfl) (hpl : (backTo pos (starEach es X.env)).any (·.1) = false := by rfl)
    (ht : eval (.Call (.Attribute o m apos) (e :: es) [] pos) X.env = (do
      let ov ← eval o X.env
      standAt apos.atName
      let (f, first) ← holding [ov] (getMethod ov m pl)
      callWith pos f first (backTo pos (starEach (e :: es) X.env)) (backToKw pos (keywordEach [] X.env))) := by rfl) :
    PE X (.Call (.Attribute o m apos) (e :: es) [] pos) (tMethSD C m sp E ta t) := by
  refine ⟨fun pins s σ H Q I h => ?_⟩
  refine PySem.W.methodCall_KW (pl := pl) (thn (he.run pins s σ H _ I h) fun u s1 ⟨x, H1, I1, rx, a, dx, fs, ex, ea, l, q⟩ => ?_) ht
  subst ex
  obtain rfl : u = Value.ref a := rx
  refine getmeth_ok I1 ea c hm l ?_
  refine PySem.W.callWith_K (first := [.ref a]) (h₀ := X.base) I.ok.mod.kin hm.kp (thn (ha.run pos pins s1 σ H1 _ I1 q) fun us s2 ⟨vs, H2, I2, r, q2⟩ => ⟨I2.kIn, ?_⟩) hst hpl
  have := run_fnG (us := .ref a :: us) (vs := .ref a :: vs) (ds := []) (dvs := []) F hr hb .nil (hx σ) I2 (.cons rfl r) q2
  exact this
theorem pe_methG0 {pl : Sem Bool} (he : PE X o ta) (c : Cls X.K C) (hm : Meth X.K C m f) (F : FnG X.prog X.w X.K X.mg X.base CX k f fd ps sp) (hr : RoomG k X.A) (hb : Binds X.K fd ps []) (hx : ∀ σ, PassesAt CX X σ (E σ))
    (ht : eval (.Call (.Attribute o m apos) [] [] pos) X.env = (do
      let ov ← eval o X.env
      standAt apos.atName
      let (f, first) ← holding [ov] (getMethod ov m pl)
      callWith pos f first (backTo pos (starEach [] X.env)) (backToKw pos (keywordEach [] X.env))) := by rfl) :
    PE X (.Call (.Attribute o m apos) [] [] pos) (tMethSD C m sp E ta tNil) := by
  refine ⟨fun pins s σ H Q I h => ?_⟩
  refine PySem.W.methodCall_KW (pl := pl) (thn (he.run pins s σ H _ I h) fun u s1 ⟨x, H1, I1, rx, a, dx, fs, ex, ea, l, q⟩ => ?_) ht
  subst ex
  obtain rfl : u = Value.ref a := rx
  refine getmeth_ok I1 ea c hm l ?_
  exact PySem.W.callWith_K0 (first := [.ref a]) I1.kIn hm.kp (run_fnG (us := [.ref a]) (vs := [.ref a]) (ds := []) (dvs := []) F hr hb .nil (hx σ) I1 (.cons rfl .nil) q)
theorem RoomG.make {k : Nat} {A : Around} (r : RoomG (k + 1) A) (C : Addr) (us : List Value) (kw : List (Str × Value)) : RoomG k (A.under (.builtin "type.__call__" ⟨.ref C :: us, kw⟩)) := ⟨r.r.make C us kw, r.g⟩
def tMakeSD (C : Addr) (sp : Sp) (E : St → XK) (t : TA) : TE := fun σ H Q => t σ H fun vs H1 => ∀ x dx, H1 x = none → H1 dx = none → dx ≠ x →
  sp (.ref x :: (vs ++ [])) (upd (upd H1 dx (.own x)) x (.ins C dx [])) (fun v H2 => v = .non ∧ Q (.ref x) H2) (E σ)
theorem run_makeG {pins : List (Addr × Obj)} {σ : St} {H : Hp} {s : Shared} {Q : VK} {us : List Value} {vs : List V} (M : Mk X.K C f) (F : FnG X.prog X.w X.K X.mg X.base CX k f fd ps sp) (hr : RoomG (k + 1) X.A) (hb : Binds X.K fd ps [])
    (hx : PassesAt CX X σ (E σ)) (I : Inv X pins σ H s) (r : Vals vs us)
    (h : ∀ x dx, H x = none → H dx = none → dx ≠ x → sp (.ref x :: (vs ++ [])) (upd (upd H dx (.own x)) x (.ins C dx [])) (fun v H2 => v = .non ∧ Q (.ref x) H2) (E σ)) :
    wpAny (model X.prog X.w) X.A (call (.ref C) us) (EP X pins σ Q) X.xe s := by
  have hq := h (s.heap.objs.size + 1) s.heap.objs.size (I.hok.fresh (Nat.le_succ _)) (I.hok.fresh (Nat.le_refl _)) (Nat.ne_of_lt (Nat.lt_succ_self _))
  have I2 := Inv.made (C := C) I
  have r2 : Vals (V.ref (s.heap.objs.size + 1) :: (vs ++ [])) (Value.ref (s.heap.objs.size + 1) :: (us ++ [])) := .cons rfl (r.append .nil)
  have hl : (Value.ref (s.heap.objs.size + 1) :: us ++ []).length = ps.length := by
    have e := r2.length
    rw [F.len _ _ _ _ hq] at e
    exact e.symm
  have hB := hb _ (Value.ref (s.heap.objs.size + 1) :: us) I2.kIn hl
  rw [List.cons_append] at hB
  refine wpAny_call (make_map (f := f) I.kIn M.makes M.init (beq_iff_eq.mp M.fn) (codeAny_mono (F.run _ X.stack _ _ ⟨Value.ref (s.heap.objs.size + 1) :: us, []⟩ (Value.ref (s.heap.objs.size + 1) :: (us ++ [])) _ _ (E σ) (hr.make C us [])
    (I2.env0.make C us []) hB r2 hq) fun r s' hq' => ?_))
  cases r with
  | error e => exact hx pins _ _ e s' I2 hq'
  | ok fl =>
    cases fl with
    | ret u =>
      obtain ⟨v, H', I3, rv, ev, q3⟩ := I2.after hq'
      subst ev
      exact ⟨rv, ⟨V.ref (s.heap.objs.size + 1), H', I3, rfl, q3⟩⟩
    | next => exact False.elim hq'
    | brk => exact False.elim hq'
    | cont => exact False.elim hq'
theorem pe_makeG0 (M : Mk X.K C f) (F : FnG X.prog X.w X.K X.mg X.base CX k f fd ps sp) (hr : RoomG (k + 1) X.A) (hg : Gl X x) (hm : X.mg x = some (.ref C)) (hb : Binds X.K fd ps []) (hx : ∀ σ, PassesAt CX X σ (E σ))
    (hdb : (x == ("__debug__" : Str)) = false := by decide) : PE X (.Call (.Name x p) [] [] pos) (tMakeSD C sp E tNil) := by
  refine ⟨fun pins s σ H Q I h => ?_⟩
  refine wpAny_Call_Name_kw (ld_glob I hg hm ?_ hdb)
  exact PySem.W.callWith_K0 I.kIn M.kp (run_makeG (us := []) M F hr hb (hx σ) I .nil h)
end
end L2
namespace Z
open PySem PySem.Spec PyProof.Rows L2
/-! ### instances: what is meant -/
def insAt (c : String) (S : Store) (d : D) : Option (List (String × D)) := match d with
  | .ref n => (match S[n]? with | some (.ins c' fs) => if c' = c then some fs else none | _ => none)
  | _ => none
/-- o.f -/
def eFld (c f : String) (o : SE) : SE := fun ρ S => bd (o ρ S) fun d S1 => match insAt c S1 d with
  | some fs => (match fs.lookup f with | some v => some (.ok v S1) | none => none)
  | none => none
def putA (f : String) (v : D) : List (String × D) → List (String × D)
  | [] => [(f, v)]
  | (g, x) :: r => if g = f then (g, v) :: r else (g, x) :: putA f v r
/-- o.f = v -/
def sFld (c f : String) (o v : SE) : SS := fun ρ S => bo (v ρ S) ρ fun w S1 => bo (o ρ S1) ρ fun d S2 => match d with
  | .ref n => (match S2[n]? with | some (.ins c' fs) => if c' = c ∧ fs.length < 1000 then some (.nx ρ (S2.set n (.ins c (putA f w fs)))) else none | _ => none)
  | _ => none
/-- o.m(..) -/
def eMeth (c m : String) (F : Fn) (o : SE) (es : List SE) : SE := fun ρ S => bd (o ρ S) fun d S1 => match insAt c S1 d with
  | some fs => if (fs.lookup m).isNone = true then bd (evL es ρ S1) fun ds S2 => F (d :: ds) S2 else none
  | none => none
/-- C() -/
def eMake0 (c : String) (F : Fn) : SE := fun ρ S => match F [.ref S.length] (S ++ [.ins c []]) with
  | some (.ok .non S2) => some (.ok (.ref S.length) S2)
  | some (.ex x S2) => some (.ex x S2)
  | _ => none
theorem ofString_inj {a b : String} (h : Str.ofString a = Str.ofString b) : a = b := by
  rw [Str.ofString_eq_toList, Str.ofString_eq_toList] at h
  injection h with h
  have h1 : a.toList.map Char.toNat = b.toList.map Char.toNat := by simpa using congrArg Array.toList h
  have key : ∀ xs ys : List Char, xs.map Char.toNat = ys.map Char.toNat → xs = ys := by
    intro xs
    induction xs with
    | nil => intro ys h; cases ys with
      | nil => rfl
      | cons _ _ => cases h
    | cons c xs ih => intro ys h; cases ys with
      | nil => cases h
      | cons d ys =>
        simp only [List.map_cons, List.cons.injEq] at h
        rw [Char.toNat_inj.mp h.1, ih ys h.2]
  exact String.toList_inj.mp (key _ _ h1)
section
variable {K : PySem.W.Frag} {ι : List Addr} {H : Hp}
theorem fs_look : ∀ {fs : List (String × D)} {gs : List (Str × V)} (f : String), KsR keyF K ι H fs gs → (match fs.lookup f with | some d => ∃ v, gs.lookup (Str.ofString f) = some v ∧ Rep K ι H d v | none => gs.lookup (Str.ofString f) = none)
  | [], gs, f, h => by rw [KsR] at h; subst h; rfl
  | p :: r, gs, f, h => by
    rw [KsR] at h
    obtain ⟨k, v, t, rfl, e2, e3, e4⟩ := h
    obtain rfl : Str.ofString p.1 = k := by injection e2
    by_cases c : f = p.1
    · subst c
      have e5 : List.lookup p.1 (p :: r) = some p.2 := by simp [List.lookup]
      have e6 : List.lookup (Str.ofString p.1) ((Str.ofString p.1, v) :: t) = some v := by simp [List.lookup]
      rw [e5]
      exact ⟨v, e6, e3⟩
    · have hb : (f == p.1) = false := by simpa using c
      have hb2 : (Str.ofString f == Str.ofString p.1) = false := by
        rw [Bool.eq_false_iff]
        intro q
        exact c (ofString_inj (beq_iff_eq.mp q))
      have e5 : List.lookup f (p :: r) = List.lookup f r := by simp [List.lookup, hb]
      have e6 : List.lookup (Str.ofString f) ((Str.ofString p.1, v) :: t) = List.lookup (Str.ofString f) t := by simp [List.lookup, hb2]
      rw [e5, e6]
      exact fs_look f e4
theorem fs_put : ∀ {fs : List (String × D)} {gs : List (Str × V)} (f : String) {d : D} {v : V}, KsR keyF K ι H fs gs → Rep K ι H d v → KsR keyF K ι H (putA f d fs) (putF (Str.ofString f) v gs)
  | [], gs, f, d, v, h, hv => by
    rw [KsR] at h; subst h
    exact ⟨_, _, [], rfl, rfl, hv, rfl⟩
  | p :: r, gs, f, d, v, h, hv => by
    rw [KsR] at h
    obtain ⟨k, w, t, rfl, e2, e3, e4⟩ := h
    obtain rfl : Str.ofString p.1 = k := by injection e2
    obtain ⟨g, x⟩ := p
    rw [putA, putF]
    by_cases c : g = f
    · subst c
      rw [if_pos rfl, if_pos rfl]
      exact ⟨_, _, _, rfl, rfl, hv, e4⟩
    · rw [if_neg c, if_neg fun q => c (ofString_inj q)]
      exact ⟨_, _, _, rfl, rfl, e3, fs_put f e4 hv⟩
theorem ins_sim {S : Store} (s : Sim K ι S H) {c : String} {C : Addr} (en : PySem.W.nsIn K mainGlobals (Str.ofString c) = some (some (.ref C))) {d : D} {v : V} (r : Rep K ι H d v) {fs : List (String × D)} (h : insAt c S d = some fs) :
    ∃ n a dx gs, d = .ref n ∧ v = .ref a ∧ ι[n]? = some a ∧ S[n]? = some (.ins c fs) ∧ H a = some (.ins C dx gs) ∧ KsR keyF K ι H fs gs := by
  unfold insAt at h
  split at h
  · rename_i n
    split at h
    · rename_i c' fs' g
      split at h
      · rename_i hc
        cases h
        subst hc
        rw [Rep] at r
        obtain ⟨a, rfl, ha⟩ := r
        obtain ⟨C', dx, gs, en', he, hr⟩ := s.get ha g
        rw [en] at en'
        injection en' with en'
        injection en' with en'
        injection en' with en'
        subst en'
        exact ⟨n, a, dx, gs, rfl, rfl, ha, g, he, hr⟩
      · cases h
    · cases h
  · cases h
end
/-- a method of a class -/
structure GM (P : Program) (w : World) (K : PySem.W.Frag) (mg : Mg) (base : Heap) (C : Addr) (m : Str) (k : Nat) (F : Fn) : Prop where
  ex : ∃ f fd ps, Meth K C m f ∧ Binds K fd ps [] ∧ FnG P w K mg base (L2.CX P w) k f fd ps (spF K mg F)
/-- how an instance is begun -/
structure GN (P : Program) (w : World) (K : PySem.W.Frag) (mg : Mg) (base : Heap) (C : Addr) (k : Nat) (F : Fn) : Prop where
  ex : ∃ f fd ps, Mk K C f ∧ Binds K fd ps [] ∧ FnG P w K mg base (L2.CX P w) k f fd ps (spF K mg F)
section
variable {X : Cx} {W : WX} {pos pos' p apos : Pos} {o value : Expr} {mo mv : SE} {C : Addr} {c f : String} {k : Nat} {F : Fn}
theorem ge_fld (en : PySem.W.nsIn X.K mainGlobals (Str.ofString c) = some (some (.ref C))) (cl : Cls X.K C) (na : NoAttr X.K C (Str.ofString f)) (ho : GE X W o mo)
    (hb : attributeBase o (Str.ofString f) X.env (eval o X.env) = eval o X.env := by rfl) : GE X W (.Attribute o (Str.ofString f) pos) (eFld c f mo) := (pe_fld ho hb).imp fun σ H Q h => by
  obtain ⟨ι, ρ, S, s, r, p⟩ := h
  refine ⟨ι, ρ, S, s, r, Po.bd p fun d S1 ι1 H1 v e1 s1 r1 p1 => ?_⟩
  split at p1
  · rename_i fs hi
    obtain ⟨n, a, dx, gs, rfl, rfl, ha, g, he, hr⟩ := ins_sim s1 en r1 hi
    have hl := fs_look f hr
    split at p1
    · rename_i d e
      rw [e] at hl
      obtain ⟨v, hv, rv⟩ := hl
      exact ⟨a, C, dx, gs, v, rfl, he, cl, na, hv, Po.ret p1 s1 rv⟩
    · exact p1.elim
  · exact p1.elim
theorem gs_fld (en : PySem.W.nsIn X.K mainGlobals (Str.ofString c) = some (some (.ref C))) (cl : Cls X.K C) (na : NoAttr X.K C (Str.ofString f)) (hv : GE X W value mv) (ho : GE X W o mo)
    (hs : swapsWith value (some (.Attribute o (Str.ofString f) pos')) pos.line X.env = pure false := by rfl) : GS X W (.Assign [.Attribute o (Str.ofString f) pos'] value pos) (Z.sFld c f mo mv) := (ps_fld ho hv hs).imp fun En σ H ⟨ι, ρ, S, s, r, p⟩ => by
  unfold Z.sFld at p
  refine ⟨ι, ρ, S, s, r, PoS.bo r p fun w S1 ι1 H1 v e1 s1 r1 rr1 p1 => ?_⟩
  refine ⟨ι1, ρ, S1, s1, rr1, PoS.bo rr1 p1 fun x S2 ι2 H2 y e2 s2 r2 rr2 p2 => ?_⟩
  split at p2
  · rename_i n
    split at p2
    · rename_i c' fs g
      split at p2
      · rename_i hl
        obtain ⟨rfl, hl⟩ := hl
        obtain ⟨n', a, dx, gs, hn, rfl, ha, g', he, hr⟩ := ins_sim s2 en r2 (fs := fs) (by unfold insAt; simp [g])
        cases hn
        have rw2 : Rep X.K ι2 H2 w v := Rep.ext e2 _ _ r1
        have em : Ext ι2 H2 ι2 (upd H2 a (.ins C dx (putF (Str.ofString f) v gs))) := ext_mut he trivial
        refine ⟨a, C, dx, gs, rfl, he, cl, na, by rw [hr.length]; exact hl, ?_⟩
        exact p2 ι2 _ σ em (s2.put ha ⟨C, dx, _, en, upd_same, KsR.ext em _ _ (fs_put f hr rw2)⟩ ⟨_, he, trivial⟩) (rr2.ext em)
      · exact p2.elim
    · exact p2.elim
  · exact p2.elim
theorem ge_meth {m : String} {e : Expr} {es : List Expr} {ms : List SE} (en : PySem.W.nsIn X.K mainGlobals (Str.ofString c) = some (some (.ref C))) (cl : Cls X.K C) (G : GM X.prog X.w X.K X.mg X.base C (Str.ofString m) k F) (hr : RoomG k X.A) (tk : Takes X W)
    (ho : GE X W o mo) (ha : GA X W (e :: es) ms)
    (hst : starEach (e :: es) X.env = (false, eval e X.env) :: starEach es X.env := by rfl) (hpl : (backTo pos (starEach es X.env)).any (·.1) = false := by rfl)
    {pl : Sem Bool} (ht : eval (.Call (.Attribute o (Str.ofString m) apos) (e :: es) [] pos) X.env = (do
      let ov ← eval o X.env
      standAt apos.atName
      let (f, first) ← holding [ov] (getMethod ov (Str.ofString m) pl)
      callWith pos f first (backTo pos (starEach (e :: es) X.env)) (backToKw pos (keywordEach [] X.env))) := by rfl) :
    GE X W (.Call (.Attribute o (Str.ofString m) apos) (e :: es) [] pos) (eMeth c m F mo ms) := by
  obtain ⟨f, fd, ps, hm, hb, G⟩ := G.ex
  refine (pe_methG (E := fun σ cls d H' => W cls d σ H') ho cl hm G hr hb (fun σ => passAt tk σ) ha hst hpl ht).imp fun σ H Q h => ?_
  obtain ⟨ι, ρ, S, s, r, p⟩ := h
  refine ⟨ι, ρ, S, s, r, Po.bd p fun d S1 ι1 H1 v e1 s1 r1 p1 => ?_⟩
  split at p1
  · rename_i fs hi
    obtain ⟨n, a, dx, gs, rfl, rfl, ha, g, he, hr1⟩ := ins_sim s1 en r1 hi
    have hl := fs_look m hr1
    split at p1
    · rename_i hn
      have hn' : fs.lookup m = none := Option.isNone_iff_eq_none.mp hn
      rw [hn'] at hl
      refine ⟨a, dx, gs, rfl, he, hl, ι1, ρ, S1, s1, r.ext e1, Po.evL p1 fun ds S2 ι2 H2 vs hd e2 s2 r2 p2 => ?_⟩
      refine ⟨ι2, S2, .ref n :: ds, s2, ?_, p2⟩
      rw [List.append_nil, RepL]
      exact ⟨_, _, rfl, Rep.ext e2 _ _ r1, r2⟩
    · exact p1.elim
  · exact p1.elim
theorem ge_meth0 {m : String} (en : PySem.W.nsIn X.K mainGlobals (Str.ofString c) = some (some (.ref C))) (cl : Cls X.K C) (G : GM X.prog X.w X.K X.mg X.base C (Str.ofString m) k F) (hr : RoomG k X.A) (tk : Takes X W)
    (ho : GE X W o mo) {pl : Sem Bool} (ht : eval (.Call (.Attribute o (Str.ofString m) apos) [] [] pos) X.env = (do
      let ov ← eval o X.env
      standAt apos.atName
      let (f, first) ← holding [ov] (getMethod ov (Str.ofString m) pl)
      callWith pos f first (backTo pos (starEach [] X.env)) (backToKw pos (keywordEach [] X.env))) := by rfl) :
    GE X W (.Call (.Attribute o (Str.ofString m) apos) [] [] pos) (eMeth c m F mo []) := by
  obtain ⟨f, fd, ps, hm, hb, G⟩ := G.ex
  refine (pe_methG0 (E := fun σ cls d H' => W cls d σ H') ho cl hm G hr hb (fun σ => passAt tk σ) ht).imp fun σ H Q h => ?_
  obtain ⟨ι, ρ, S, s, r, p⟩ := h
  refine ⟨ι, ρ, S, s, r, Po.bd p fun d S1 ι1 H1 v e1 s1 r1 p1 => ?_⟩
  split at p1
  · rename_i fs hi
    obtain ⟨n, a, dx, gs, rfl, rfl, ha, g, he, hr1⟩ := ins_sim s1 en r1 hi
    have hl := fs_look m hr1
    split at p1
    · rename_i hn
      have hn' : fs.lookup m = none := Option.isNone_iff_eq_none.mp hn
      rw [hn'] at hl
      refine ⟨a, dx, gs, rfl, he, hl, ?_⟩
      show spF X.K X.mg F (V.ref a :: ([] ++ [])) H1 Q _
      refine ⟨ι1, S1, [.ref n], s1, ?_, p1⟩
      exact RepL.one r1
    · exact p1.elim
  · exact p1.elim
theorem ge_make0 (G : GN X.prog X.w X.K X.mg X.base C k F) (hr : RoomG (k + 1) X.A) (tk : Takes X W) (hg : Gl X (Str.ofString c)) (en : PySem.W.nsIn X.K mainGlobals (Str.ofString c) = some (some (.ref C))) (hm : X.mg (Str.ofString c) = some (.ref C))
    (hdb : (Str.ofString c == ("__debug__" : Str)) = false := by decide) : GE X W (.Call (.Name (Str.ofString c) p) [] [] pos) (eMake0 c F) := by
  obtain ⟨f, fd, ps, M, hb, G⟩ := G.ex
  refine (pe_makeG0 (E := fun σ cls d H' => W cls d σ H') M G hr hg hm hb (fun σ => passAt tk σ) hdb).imp fun σ H Q h => ?_
  obtain ⟨ι, ρ, S, s, r, p⟩ := h
  intro x dx hx hdx hne
  have hx' : (upd H dx (.own x)) x = none := by rw [upd_ne (Ne.symm hne)]; exact hx
  have s1 : Sim X.K ι S (upd H dx (.own x)) := s.tup hdx
  have e1 : Ext ι H ι (upd H dx (.own x)) := ext_tup hdx
  have e2 : Ext ι (upd H dx (.own x)) (ι ++ [x]) (upd (upd H dx (.own x)) x (.ins C dx [])) := ext_new hx'
  have e12 := e1.trans e2
  have s2 := s1.new (o := .ins C dx []) (m := .ins c []) hx' ⟨C, dx, [], en, upd_same, rfl⟩
  show spF X.K X.mg F (V.ref x :: ([] ++ [])) _ _ _
  refine ⟨ι ++ [x], S ++ [.ins c []], [.ref S.length], s2, RepL.one (Rep.newL s), ?_⟩
  unfold eMake0 at p
  generalize F [.ref S.length] (S ++ [.ins c []]) = q at p ⊢
  cases q with
  | none => exact p.elim
  | some q =>
    cases q with
    | ok d S2 =>
      cases d with
      | non => exact fun ι' H' v e s' rv => ⟨by rw [Rep] at rv; exact rv, p ι' H' (.ref x) (e12.trans e) s' (Rep.ext e _ _ (Rep.newL s))⟩
      | _ => exact p.elim
    | ex c S2 => exact fun ι' H' cls e s' hc => p ι' H' cls (e12.trans e) s' hc
end
/-! ### what is meant, step by step -/
section
variable {ρ : Env} {S : Store}
@[simp] theorem o_insAt (c : String) (n : Nat) : insAt c S (.ref n) = (match S[n]? with | some (.ins c' fs) => if c' = c then some fs else none | _ => none) := rfl
@[simp] theorem x_fld (c f : String) (o : SE) : eFld c f o ρ S = bd (o ρ S) fun d S1 => match insAt c S1 d with
  | some fs => (match fs.lookup f with | some v => some (.ok v S1) | none => none)
  | none => none := rfl
@[simp] theorem x_sfld (c f : String) (o v : SE) : Z.sFld c f o v ρ S = bo (v ρ S) ρ fun w S1 => bo (o ρ S1) ρ fun d S2 => match d with
  | .ref n => (match S2[n]? with | some (.ins c' fs) => if c' = c ∧ fs.length < 1000 then some (.nx ρ (S2.set n (.ins c (putA f w fs)))) else none | _ => none)
  | _ => none := rfl
@[simp] theorem x_meth (c m : String) (F : Fn) (o : SE) (es : List SE) : eMeth c m F o es ρ S = bd (o ρ S) fun d S1 => match insAt c S1 d with
  | some fs => if (fs.lookup m).isNone = true then bd (evL es ρ S1) fun ds S2 => F (d :: ds) S2 else none
  | none => none := rfl
@[simp] theorem x_make0 (c : String) (F : Fn) : eMake0 c F ρ S = match F [.ref S.length] (S ++ [.ins c []]) with
  | some (.ok .non S2) => some (.ok (.ref S.length) S2)
  | some (.ex x S2) => some (.ex x S2)
  | _ => none := rfl
end
/-! ### walks over a dict of flat keys -/
def kOk : D → Bool
  | .int _ => true
  | .str s => s.all fun c => decide (c < 128)
  | _ => false
/-- the keys of a locked dict -/
def iKeyF (d : SE) : SI := fun ρ S => bd (d ρ S) fun y S1 => match y with
  | .ref n => (match S1[n]? with
    | some (.dkl kvs) => if (kvs.all fun p => kOk p.1) = true then some (.ok ⟨kvs.map (·.1), fun S => S[n]? = some (.dkl kvs)⟩ S1) else none
    | _ => none)
  | _ => none
open Classical in
/-- a statement while a dict is locked -/
noncomputable def sLockF (lk : Env → Store → Option Nat) (m : SS) : SS := fun ρ S => match lk ρ S with
  | some n => (match S[n]? with
    | some (.dk kvs) => (match m ρ (S.set n (.dkl kvs)) with
      | some (.nx ρ1 S1) => if S1[n]? = some (.dkl kvs) then some (.nx ρ1 (S1.set n (.dk kvs))) else none
      | some (.rt d S1) => if S1[n]? = some (.dkl kvs) then some (.rt d (S1.set n (.dk kvs))) else none
      | _ => none)
    | _ => none)
  | none => none
def lkVar (i : Nat) : Env → Store → Option Nat := fun ρ _ => match ρ[i]? with
  | some (some (.ref n)) => some n
  | _ => none
def lkFld (i : Nat) (c f : String) : Env → Store → Option Nat := fun ρ S => match ρ[i]? with
  | some (some d) => (match insAt c S d with
    | some fs => (match fs.lookup f with
      | some (.ref n) => some n
      | _ => none)
    | none => none)
  | _ => none
section
variable {X : Cx} {W : WX} {e : Expr} {m : SE}
theorem ritm_keyF {K : PySem.W.Frag} {ι : List Addr} {H : Hp} {n : Nat} {a : Addr} {o : Obj} {kvs : List (D × D)} {en : List (Key × V)} (ha : ι[n]? = some a) (he : H a = some (.frz o (.dK en))) (hr : KsR keyD K ι H kvs en) (hi : (kvs.all fun p => kOk p.1) = true) :
    RItm K ι H ⟨kvs.map (·.1), fun S => S[n]? = some (.dkl kvs)⟩ (Itk a o en) := fun ι' H' S' e s c => by
  have he' := e.frz _ _ _ he
  have hr' := KsR.ext e _ _ hr
  refine ⟨fun i x hx => ?_, he', by simp [hr.length]⟩
  rw [List.getElem?_map] at hx
  obtain ⟨p, hp, rfl⟩ := Option.map_eq_some_iff.mp hx
  have hil : i < kvs.length := (List.getElem?_eq_some_iff.mp hp).1
  refine ⟨⟨he', by rw [hr.length]; exact hil⟩, fun v H'' y => ?_⟩
  have key : ∀ {kvs : List (D × D)} {en : List (Key × V)} {i : Nat} {p : D × D} {k : Key} {v : V}, KsR keyD K ι H kvs en → kvs[i]? = some p → en[i]? = some (k, v) → keyD p.1 = some k := by
    intro kvs
    induction kvs with
    | nil => intro en i p k v h h1 _; simp at h1
    | cons q r ih =>
      intro en i p k v h h1 h2
      rw [KsR] at h
      obtain ⟨k', v', t, rfl, g1, _, g3⟩ := h
      cases i with
      | zero => simp at h1 h2; obtain ⟨rfl, rfl⟩ := h2; subst h1; exact g1
      | succ i => exact ih g3 (by simpa using h1) (by simpa using h2)
  obtain ⟨rfl, k, v', h1, rfl⟩ := y
  refine ⟨.refl, s, ?_⟩
  have hk := key hr hp h1
  have ho := List.all_eq_true.mp hi p (List.mem_of_getElem? hp)
  revert hk ho
  generalize p.1 = q
  intro hk ho
  cases q with
  | int i => cases hk; rw [Rep]; rfl
  | str t =>
    cases hk
    rw [Rep]
    exact ⟨rfl, fun c hc => of_decide_eq_true (List.all_eq_true.mp ho c hc)⟩
  | _ => cases hk
theorem gi_keyF {tg : Expr} (h : GE X W e m) : GI X W tg e (iKeyF m) := (pi_keys h).imp fun σ H R ⟨ι, ρ, S, sm, r, p⟩ => by
  refine ⟨ι, ρ, S, sm, r, Po.bd p fun y S1 ι1 H1 x e1 s1 r1 p1 => ?_⟩
  split at p1
  · rename_i n
    split at p1
    · rename_i kvs g
      split at p1
      · rename_i hi
        rw [Rep] at r1
        obtain ⟨a, rfl, ha⟩ := r1
        obtain ⟨o, en, he, hr⟩ := s1.get ha g
        exact ⟨a, o, rfl, .inl ⟨en, he, Po.ritm p1 s1 (ritm_keyF ha he hr hi)⟩⟩
      · exact p1.elim
    · exact p1.elim
  · exact p1.elim
theorem gs_lockF {st : Stmt} {mm : SS} (lk : Env → Store → Option Nat) (h : GS X W st mm) : GS X W st (sLockF lk mm) := (ps_lock h).imp fun D σ H ⟨ι, ρ, S, s, r, p⟩ => by
  unfold sLockF at p
  split at p
  · rename_i n g
    split at p
    · rename_i kvs g2
      have hnl : n < ι.length := by rw [s.len]; exact (List.getElem?_eq_some_iff.mp g2).1
      obtain ⟨a, ha⟩ : ∃ a, ι[n]? = some a := ⟨_, List.getElem?_eq_getElem hnl⟩
      obtain ⟨en, he, hr⟩ := s.get ha g2
      refine ⟨a, .dK en, he, trivial, fun od => ?_⟩
      have e0 : Ext ι H ι (upd H a (.frz od (.dK en))) := ext_mut he trivial
      refine ⟨ι, ρ, S.set n (.dkl kvs), s.put ha ⟨od, en, upd_same, KsR.ext e0 _ _ hr⟩ ⟨_, he, trivial⟩, r.ext e0, ?_⟩
      have hf : upd H a (.frz od (.dK en)) a = some (.frz od (.dK en)) := upd_same
      have back : ∀ {ι' : List Addr} {H' : Hp} {S1 : Store}, Ext ι (upd H a (.frz od (.dK en))) ι' H' → Sim X.K ι' S1 H' → S1[n]? = some (.dkl kvs) → H' a = some (.frz od (.dK en)) ∧ Ext ι H ι' (upd H' a (.dK en)) ∧ Sim X.K ι' (S1.set n (.dk kvs)) (upd H' a (.dK en)) ∧
          (∀ d v, Rep X.K ι' H' d v → Rep X.K ι' (upd H' a (.dK en)) d v) := by
        intro ι' H' S1 e1 s1 g3
        have hfa := e1.frz _ _ _ hf
        have wk : Wk H' (upd H' a (.dK en)) := by
          refine ⟨fun b xs hb => ?_, fun b q u hb => ?_, fun b q u hb => ?_⟩
          · rw [upd_ne (by rintro rfl; rw [hfa] at hb; cases hb)]; exact hb
          · rw [upd_ne (by rintro rfl; rw [hfa] at hb; cases hb)]; exact hb
          · rw [upd_ne (by rintro rfl; rw [hfa] at hb; cases hb)]; exact hb
        have eT : Ext ι H ι' (upd H' a (.dK en)) := by
          refine ⟨e1.pre, fun b xs hb => ?_, fun b q u hb => ?_⟩
          · have hne : b ≠ a := by rintro rfl; rw [he] at hb; cases hb
            rw [upd_ne hne]
            exact e1.tup _ _ (by rw [upd_ne hne]; exact hb)
          · have hne : b ≠ a := by rintro rfl; rw [he] at hb; cases hb
            rw [upd_ne hne]
            exact e1.frz _ _ _ (by rw [upd_ne hne]; exact hb)
        have ha1 := e1.at ha
        have hn1 := (List.getElem?_eq_some_iff.mp g3).1
        refine ⟨hfa, eT, ⟨by simp [s1.len], s1.nd, fun j o b h1 h2 => ?_⟩, fun d v => Rep.wk wk d v⟩
        by_cases hj : n = j
        · subst hj
          rw [List.getElem?_set_self hn1] at h1
          cases h1
          rw [ha1] at h2; cases h2
          obtain ⟨q, en', k1, k2⟩ := s1.get ha1 g3
          rw [hfa] at k1
          cases k1
          exact ⟨en, upd_same, KsR.wkK wk _ _ k2⟩
        · rw [List.getElem?_set_ne hj] at h1
          refine (s1.obj j o b h1 h2).wk wk ?_
          rw [upd_ne]
          rintro rfl
          obtain ⟨l1, q1⟩ := List.getElem?_eq_some_iff.mp ha1
          obtain ⟨l2, q2⟩ := List.getElem?_eq_some_iff.mp h2
          exact hj ((List.getElem_inj s1.nd).mp (q1.trans q2.symm))
      match q : mm ρ (S.set n (.dkl kvs)), p with
      | none, p => exact p
      | some (.nx ρ1 S1), p =>
        dsimp only at p
        split at p
        · rename_i g3
          intro ι' H' σ' e1 s1 r1
          obtain ⟨b1, b2, b3, b4⟩ := back e1 s1 g3
          exact ⟨b1, p ι' _ σ' b2 b3 ⟨r1.1, fun j d hj => let ⟨v, x1, x2⟩ := r1.2 j d hj; ⟨v, x1, b4 _ _ x2⟩⟩⟩
        · exact p.elim
      | some (.rt d S1), p =>
        dsimp only at p
        split at p
        · rename_i g3
          intro ι' H' v e1 s1 r1
          obtain ⟨b1, b2, b3, b4⟩ := back e1 s1 g3
          exact ⟨b1, p ι' _ v b2 b3 (b4 _ _ r1)⟩
        · exact p.elim
      | some (.bk _ _), p => exact p.elim
      | some (.ct _ _), p => exact p.elim
      | some (.ex _ _ _), p => exact p.elim
    · exact p.elim
  · exact p.elim
/-- what is not told -/
def eNo : SE := fun _ _ => none
theorem ge_no {e : Expr} : GE X W e eNo := ⟨fun _ _ _ _ _ _ ⟨_, _, _, _, _, p⟩ => False.elim p⟩
@[simp] theorem x_no (ρ : Env) (S : Store) : eNo ρ S = none := rfl
theorem no_dictLF : NoExF dictLF := by
  intro ds S c S'
  unfold dictLF
  split <;> (try split) <;> (try split) <;> (try split) <;> simp [new1]
theorem zc_dictLF (hc : X.calm = true) : CallR X (.type "dict") (rB X dictLF) := by
  intro pins s σ H xs us Q I r ⟨ι, S, ds, sm, rd, po⟩
  unfold dictLF at po
  split at po
  · obtain ⟨v, rfl, h⟩ := one_of (ds := []) rd
    split at po
    · rename_i zs g
      split at po
      · rename_i kvs hk
        split at po
        · rename_i hl
          obtain ⟨a, vs, rfl, i1, e1, r1⟩ := lst_ok sm h g
          obtain ⟨ps, en, rfl, e2, e3⟩ := fOf_ok r1 hk
          refine call_dictP hc pins s σ H _ us Q I r ⟨a, ps, en, rfl, SqL.of e1, e2, fun t ht => ?_⟩
          have ex : Ext ι H (ι ++ [t]) (upd H t (.dK (mergeK [] en))) := ext_new ht
          exact Po.ret (Po.mono ex po) (sm.new ht ⟨_, upd_same, KsR.ext ex _ _ (ffold_ok e3 rfl)⟩) (Rep.newL sm)
        · exact po.elim
      · exact po.elim
    · exact po.elim
  · exact po.elim
end
end Z
namespace Z
def c_MOST_EQUATIONS : D := .int 8
def c_LETTERS : D := .str [97, 98, 99, 100, 101, 102, 103, 104, 105, 106, 107, 108, 109, 110, 111, 112, 113, 114, 115, 116, 117, 118, 119, 120, 121, 122]
def c_MOST_DEEP : D := .int 10
def c_MOST_TERMS : D := .int 20
noncomputable def b_term_of : SS :=
  sRet (e2 fGet (eCall dictTF [eVar 0]) (eVar 1))
noncomputable def R_term_of : Fn := runF 2 2 (b_term_of)
noncomputable def lb_followed_1 : SS :=
  sIf (tVal (e2 eqD (e2 ixD (eVar 0) (eC (.int 0))) (eC (.str [115, 105, 103, 110])))) (sq (sIf (tVal (e2 eqD (eVar 1) (eC (.int 0)))) (sRet (eTup [eTup [eC (.str [115, 105, 103, 110]), e2 ixD (eVar 0) (eC (.int 1))], eVar 2])) (sNx)) (sq (sAsg (e2 subD (eVar 1) (eC (.int 1))) (gName 1)) (sAsg (e2 ixD (eVar 0) (eC (.int 2))) (gName 0)))) (sIf (tVal (e2 eqD (e2 ixD (eVar 0) (eC (.int 0))) (eC (.str [98, 101, 104, 105, 110, 100])))) (sq (sAsg (e2 addD (eVar 1) (eC (.int 1))) (gName 1)) (sAsg (e2 ixD (eVar 0) (eC (.int 1))) (gName 0))) (sq (sAsg (eC (.bl true)) (gName 2)) (sq (sAsg (e2 ixD (eVar 0) (e2 addD (eC (.int 1)) (e2 modD (eVar 1) (eC (.int 2))))) (gName 0)) (sAsg (e2 fdivD (eVar 1) (eC (.int 2))) (gName 1)))))
noncomputable def b_followed : SS :=
  sq (sAsg (eC (.bl false)) (gName 2)) (sq (sWh (tVal (e2 neD (e2 ixD (eVar 0) (eC (.int 0))) (eC (.str [114, 111, 119])))) (lb_followed_1)) (sRet (eTup [eTup [eC (.str [99, 97, 108, 108]), e2 ixD (eVar 0) (eC (.int 1)), eVar 1], eVar 2])))
noncomputable def R_followed : Fn := runF 2 3 (b_followed)
noncomputable def lb_law_spring_1 : SS :=
  sAsg (e2 modD (e2 addD (e2 mulD (eVar 1) (eC (.int 69621))) (eVar 2)) (eC (.int 2147483647))) (gName 1)
noncomputable def b_law_spring : SS :=
  sq (sAsg (eC (.int 987654321)) (gName 1)) (sq (sFor (iAny (eVar 0)) (gName 2) (lb_law_spring_1)) (sRet (eLst [eCall listF [eVar 0], eC (.int 0), eVar 1])))
noncomputable def R_law_spring : Fn := runF 1 3 (b_law_spring)
noncomputable def b_law_drop : SS :=
  sq (sIf (tAnd (tVal (e2 eqD (e2 ixD (eVar 0) (eC (.int 1))) (eC (.int 0)))) (tVal (e2 gtD (eCall lenF [e2 ixD (eVar 0) (eC (.int 0))]) (eC (.int 0))))) (sq (sAsg (eMt .list popF (e2 ixD (eVar 0) (eC (.int 0))) [eC (.int 0)]) (gName 2)) (sq (sIf (tVal (e2 ltD (eCall absF [eVar 2]) (e2 powD (eC (.int 10)) (eC (.int 18))))) (sRet (e2 modD (eVar 2) (eVar 1))) (sNx)) (sAsg (eCall absF [eVar 2]) (setF (eVar 0) (eC (.int 1)))))) (sNx)) (sq (sIf (tVal (e2 gtD (e2 ixD (eVar 0) (eC (.int 1))) (eC (.int 0)))) (sq (sAsg (e2 modD (e2 ixD (eVar 0) (eC (.int 1))) (eVar 1)) (gName 3)) (sq (sAsg (e2 fdivD (e2 ixD (eVar 0) (eC (.int 1))) (eVar 1)) (setF (eVar 0) (eC (.int 1)))) (sRet (eVar 3)))) (sNx)) (sq (sAsg (e2 modD (e2 addD (e2 mulD (e2 ixD (eVar 0) (eC (.int 2))) (e2 ixD (eVar 0) (eC (.int 2)))) (eC (.int 7919))) (eC (.int 2147483647))) (setF (eVar 0) (eC (.int 2)))) (sRet (e2 modD (e2 fdivD (e2 ixD (eVar 0) (eC (.int 2))) (eC (.int 8))) (eVar 1)))))
noncomputable def R_law_drop : Fn := runF 2 4 (b_law_drop)
noncomputable def b_law_kept_v2 : SS :=
  sRet (eOr (e2 isD (eVar 0) (eC .non)) (eOr (e2 eqD (e2 ixD (eVar 0) (eC (.int 0))) (eC (.str [119, 97, 105, 116, 115]))) (e2 eqD (eVar 1) (eVar 0))))
noncomputable def R_law_kept_v2 : Fn := runF 2 2 (b_law_kept_v2)
noncomputable def b_law_good_v2 : SS :=
  sq (sIf (tOr (tNot (tVal (e1 (isiD .tuple) (eVar 0)))) (tVal (e2 eqD (eCall lenF [eVar 0]) (eC (.int 0))))) (sRet (eC (.bl false))) (sNx)) (sRet (eOr (e2 inD (e2 ixD (eVar 0) (eC (.int 0))) (eLst [eC (.str [115, 105, 103, 110]), eC (.str [102, 114, 101, 101])])) (eAnd (e2 eqD (e2 ixD (eVar 0) (eC (.int 0))) (eC (.str [119, 97, 105, 116, 115]))) (eAnd (e2 eqD (eCall lenF [eVar 0]) (eC (.int 2))) (e2 fNi (e2 ixD (eVar 0) (eC (.int 1))) (eVar 1))))))
noncomputable def R_law_good_v2 : Fn := runF 2 2 (b_law_good_v2)
noncomputable def b_Coming___init__ : SS :=
  Z.sFld "Coming" "terms" (eVar 0) (eDctF)
noncomputable def R_Coming___init__ : Fn := runF 1 1 (b_Coming___init__)
noncomputable def b_Coming_tell : SS :=
  sq (sIf (tVal (e2 fIn (eVar 1) (eFld "Coming" "terms" (eVar 0)))) (sRaise "Told") (sNx)) (sq (sIf (tVal (e2 geD (eCall dlenF [eFld "Coming" "terms" (eVar 0)]) (eC c_MOST_EQUATIONS))) (sRaise "TooBig") (sNx)) (sFPut (eFld "Coming" "terms" (eVar 0)) (eVar 1) (eVar 2)))
noncomputable def R_Coming_tell : Fn := runF 3 3 (b_Coming_tell)
noncomputable def b_Coming_known : SS :=
  sq (sIf (tVal (e2 fNi (eVar 1) (eFld "Coming" "terms" (eVar 0)))) (sRaise "NoName") (sNx)) (sRet (e2 fGet (eFld "Coming" "terms" (eVar 0)) (eVar 1)))
noncomputable def R_Coming_known : Fn := runF 2 2 (b_Coming_known)
noncomputable def lb_walk_1 (F_followed : Fn) (F_term_of : Fn) : SS :=
  sq (sAsg (eCall F_followed [eCall F_term_of [eVar 0, eVar 1], eVar 2]) (gTup [gName 6, gName 7])) (sq (sIf (tVal (e2 eqD (e2 ixD (eVar 6) (eC (.int 0))) (eC (.str [115, 105, 103, 110])))) (sRet (eTup [eC (.str [115, 105, 103, 110]), e2 ixD (eVar 6) (eC (.int 1)), eVar 3])) (sNx)) (sq (sAsg (eSl (eVar 6) (some (eC (.int 1))) none) (gTup [gName 1, gName 2])) (sq (sIf (tVal (eVar 7)) (sAsg (eDctF) (gName 5)) (sNx)) (sq (sAsg (eOr (e2 kIn (eTup [eVar 1, eVar 2]) (eVar 4)) (eAnd (e2 fIn (eVar 1) (eVar 5)) (e2 leD (e2 fGet (eVar 5) (eVar 1)) (eVar 2)))) (gName 8)) (sq (sExp (eMt .list appendF (eVar 3) [eTup [eVar 1, eVar 2]])) (sq (sKPut (eVar 4) (eTup [eVar 1, eVar 2]) (eC (.bl true))) (sq (sIf (tVal (eVar 8)) (sRet (eTup [eC (.str [102, 114, 101, 101]), eVar 3])) (sNx)) (sFPut (eVar 5) (eVar 1) (eVar 2)))))))))
noncomputable def b_walk (F_followed : Fn) (F_term_of : Fn) : SS :=
  sq (sAsg (eLst [eTup [eVar 1, eVar 2]]) (gName 3)) (sq (sAsg (eDct1 (eTup [eVar 1, eVar 2]) (eC (.bl true))) (gName 4)) (sq (sAsg (eFDct1 (eVar 1) (eVar 2)) (gName 5)) (sWh (tVal (eC (.bl true))) (lb_walk_1 F_followed F_term_of))))
noncomputable def R_walk : Fn := runF 3 9 (b_walk R_followed R_term_of)
noncomputable def lb_law_names_v2_1 (F_law_drop : Fn) : SS :=
  sAsg (e2 addD (eVar 1) (e2 ixD (eC (.str [97, 98, 99, 100, 101, 102, 103, 104, 105, 106, 107, 108, 109, 110, 111, 112, 113, 114, 115, 116, 117, 118, 119, 120, 121, 122])) (eCall F_law_drop [eVar 0, eC (.int 26)]))) (gName 1)
noncomputable def b_law_names_v2 (F_law_drop : Fn) : SS :=
  sq (sAsg (e2 ixD (eC (.str [97, 99, 100, 101, 102, 103, 104, 105, 106, 107, 108, 109, 110, 111, 112, 113, 114, 115, 116, 117, 118, 119, 120, 121])) (eCall F_law_drop [eVar 0, eC (.int 24)])) (gName 1)) (sq (sFor (iR1 (eC (.int 7))) (gName 2) (lb_law_names_v2_1 F_law_drop)) (sq (sAsg (eLc (iR1 (eC (.int 8))) (gName 2) (tYes) (eSl (eVar 1) none (some (e2 addD (eVar 2) (eC (.int 1))))) [2]) (gName 3)) (sq (sIf (tVal (e2 eqD (eCall F_law_drop [eVar 0, eC (.int 4)]) (eC (.int 3)))) (sAsg (eLst [eC (.str [114, 111, 119]), eC (.str [115, 105, 103, 110]), eC (.str [122, 105]), eC (.str [122, 105, 112, 112]), eC (.str [98, 101, 104, 105, 110]), eC (.str [114, 101, 97, 100, 121]), eC (.str [111, 110, 101]), eC (.str [98])]) (gName 3)) (sNx)) (sq (sAsg (eCall F_law_drop [eVar 0, eC (.int 8)]) (gName 4)) (sRet (e2 addD (eSl (eVar 3) (some (eVar 4)) none) (eSl (eVar 3) none (some (eVar 4)))))))))
noncomputable def R_law_names_v2 : Fn := runF 1 5 (b_law_names_v2 R_law_drop)
noncomputable def lb_Coming_sign_1 (F_followed : Fn) : SS :=
  sq (sIf (tOr (tVal (e2 kIn (eTup [eVar 1, eVar 2]) (eVar 3))) (tVal (e2 leD (eFGet2 (eVar 4) (eVar 1) (e2 addD (eVar 2) (eC (.int 1)))) (eVar 2)))) (sRet (eTup [eC (.str [102, 114, 101, 101])])) (sNx)) (sq (sKPut (eVar 3) (eTup [eVar 1, eVar 2]) (eC (.bl true))) (sq (sFPut (eVar 4) (eVar 1) (eVar 2)) (sq (sAsg (eCall F_followed [e2 fGet (eFld "Coming" "terms" (eVar 0)) (eVar 1), eVar 2]) (gTup [gName 5, gName 6])) (sq (sIf (tVal (e2 eqD (e2 ixD (eVar 5) (eC (.int 0))) (eC (.str [115, 105, 103, 110])))) (sRet (eVar 5)) (sNx)) (sq (sIf (tVal (eVar 6)) (sAsg (eDctF) (gName 4)) (sNx)) (sAsg (eSl (eVar 5) (some (eC (.int 1))) none) (gTup [gName 1, gName 2])))))))
noncomputable def b_Coming_sign (F_Coming_known : Fn) (F_followed : Fn) : SS :=
  sq (sExp (eMeth "Coming" "known" F_Coming_known (eVar 0) [eVar 1])) (sq (sAsg (eDctT) (gName 3)) (sq (sAsg (eDctF) (gName 4)) (sq (sWh (tVal (e2 fIn (eVar 1) (eFld "Coming" "terms" (eVar 0)))) (lb_Coming_sign_1 F_followed)) (sRet (eTup [eC (.str [119, 97, 105, 116, 115]), eVar 1])))))
noncomputable def R_Coming_sign : Fn := runF 3 7 (b_Coming_sign R_Coming_known R_followed)
noncomputable def b_law_term (F_law_drop : Fn) (F_law_term : Fn) : SS :=
  sq (sAsg (e2 mulD (eCall F_law_drop [eVar 0, eC (.int 7)]) (eCall intF [e2 gtD (eVar 2) (eC (.int 1))])) (gName 3)) (sq (sIf (tVal (e2 ltD (eVar 3) (eC (.int 2)))) (sRet (eTup [eC (.str [114, 111, 119]), e2 ixD (eVar 1) (eCall F_law_drop [eVar 0, eCall lenF [eVar 1]])])) (sNx)) (sq (sIf (tVal (e2 ltD (eVar 3) (eC (.int 4)))) (sRet (eTup [eC (.str [115, 105, 103, 110]), eCall F_law_drop [eVar 0, eC (.int 10)], eCall F_law_term [eVar 0, eVar 1, e2 subD (eVar 2) (eC (.int 1))]])) (sNx)) (sq (sIf (tVal (e2 eqD (eVar 3) (eC (.int 4)))) (sRet (eTup [eC (.str [98, 101, 104, 105, 110, 100]), eCall F_law_term [eVar 0, eVar 1, e2 subD (eVar 2) (eC (.int 1))]])) (sNx)) (sRet (eTup [eC (.str [122, 105, 112]), eCall F_law_term [eVar 0, eVar 1, e2 subD (eVar 2) (eC (.int 1))], eCall F_law_term [eVar 0, eVar 1, e2 subD (eVar 2) (eC (.int 1))]])))))
noncomputable def R_law_term : Nat → Fn
  | 0 => fun _ _ => none
  | d + 1 => runF 3 4 (b_law_term R_law_drop (R_law_term d))
noncomputable def lb_law_v45_1 (F_Coming_sign : Fn) (F_law_good : Fn) (F_law_kept : Fn) : SS :=
  sIf (tVal (e2 fIn (e2 ixD (e2 ixD (eVar 4) (eVar 10)) (eC (.int 0))) (eVar 6))) (sq (sAsg (eMeth "Coming" "sign" F_Coming_sign (eVar 5) [e2 ixD (e2 ixD (eVar 4) (eVar 10)) (eC (.int 0)), e2 ixD (e2 ixD (eVar 4) (eVar 10)) (eC (.int 1))]) (gName 11)) (sq (sIf (tOr (tNot (tVal (eCall F_law_good [eVar 11, eVar 6]))) (tNot (tVal (eCall F_law_kept [e2 ixD (eVar 7) (eVar 10), eVar 11])))) (sRet (eC (.bl false))) (sNx)) (sAsg (eVar 11) (setF (eVar 7) (eVar 10))))) (sNx)
noncomputable def lb_law_v45_2 (F_Coming_tell : Fn) (F_Coming_sign : Fn) (F_law_good : Fn) (F_law_kept : Fn) : SS :=
  sq (sExp (eMeth "Coming" "tell" F_Coming_tell (eVar 5) [eVar 8, eVar 9])) (sq (sFPut (eVar 6) (eVar 8) (eVar 9)) (sFor (iR1 (eC (.int 8))) (gName 10) (lb_law_v45_1 F_Coming_sign F_law_good F_law_kept)))
noncomputable def lb_law_v45_3 (F_walk : Fn) : SS :=
  sq (sAsg (eCall F_walk [eCall tupleF [eVar 3], e2 ixD (e2 ixD (eVar 4) (eVar 10)) (eC (.int 0)), e2 ixD (e2 ixD (eVar 4) (eVar 10)) (eC (.int 1))]) (gName 11)) (sIf (tVal (e2 neD (e2 ixD (eVar 7) (eVar 10)) (eSl (eVar 11) none (some (e1 negD (eC (.int 1))))))) (sRet (eC (.bl false))) (sNx))
noncomputable def b_law_v45 (F_law_spring : Fn) (F_law_names : Fn) (F_law_drop : Fn) (F_law_term : Fn) (F_Coming___init__ : Fn) (F_Coming_tell : Fn) (F_Coming_sign : Fn) (F_law_good : Fn) (F_law_kept : Fn) (F_walk : Fn) : SS :=
  sq (sAsg (eCall F_law_spring [eVar 0]) (gName 1)) (sq (sAsg (eSl (eCall F_law_names [eVar 1]) none (some (e2 addD (eC (.int 2)) (eCall F_law_drop [eVar 1, eC (.int 5)])))) (gName 2)) (sq (sAsg (eLc (iAny (eVar 2)) (gName 8) (tYes) (eTup [eVar 8, eCall F_law_term [eVar 1, eVar 2, e2 addD (eC (.int 1)) (eCall F_law_drop [eVar 1, eC (.int 4)])]]) [8]) (gName 3)) (sq (sAsg (eLc (iR1 (eC (.int 8))) (gName 10) (tYes) (eTup [e2 ixD (eVar 2) (eCall F_law_drop [eVar 1, eCall lenF [eVar 2]]), eCall F_law_drop [eVar 1, eC (.int 31)]]) [10]) (gName 4)) (sq (sAsg (eMake0 "Coming" F_Coming___init__) (gName 5)) (sq (sAsg (eDctF) (gName 6)) (sq (sAsg (e2 mulD (eLst [eC .non]) (eC (.int 8))) (gName 7)) (sq (sFor (iAny (eVar 3)) (gTup [gName 8, gName 9]) (lb_law_v45_2 F_Coming_tell F_Coming_sign F_law_good F_law_kept)) (sq (sFor (iR1 (eC (.int 8))) (gName 10) (lb_law_v45_3 F_walk)) (sRet (eC (.bl true)))))))))))
noncomputable def R_law_v45 : Fn := runF 1 12 (b_law_v45 R_law_spring R_law_names_v2 R_law_drop (R_law_term 24) R_Coming___init__ R_Coming_tell R_Coming_sign R_law_good_v2 R_law_kept_v2 R_walk)
noncomputable def b_is_name : SS :=
  sq (sIf (tOr (tNot (tVal (e1 (isiD .str) (eVar 0)))) (tOr (tNot (tVal (eCh leD leD (eC (.int 1)) (eCall lenF [eVar 0]) (eC (.int 8))))) (tOr (tVal (e2 eqD (eVar 0) (eC (.str [122, 105, 112])))) (tVal (e2 eqD (eVar 0) (eC (.str [98, 101, 104, 105, 110, 100]))))))) (sRet (eC (.bl false))) (sNx)) (sRet (eCall allF [eLc (iAny (eVar 0)) (gName 1) (tYes) (e2 inD (eVar 1) (eC c_LETTERS)) [1]]))
noncomputable def R_is_name : Fn := runF 1 2 (b_is_name)
noncomputable def b_is_sign : SS :=
  sRet (eAnd (e1 (isiD .int) (eVar 0)) (eAnd (eNot (e1 (isiD .bool) (eVar 0))) (eCh leD leD (eC (.int 0)) (eVar 0) (eC (.int 9)))))
noncomputable def R_is_sign : Fn := runF 1 1 (b_is_sign)
noncomputable def b_law_is_name : SS :=
  sq (sIf (tOr (tNot (tVal (e1 (isiD .str) (eVar 0)))) (tOr (tVal (e2 ltD (eCall lenF [eVar 0]) (eC (.int 1)))) (tOr (tVal (e2 gtD (eCall lenF [eVar 0]) (eC (.int 8)))) (tVal (e2 inD (eVar 0) (eLst [eC (.str [122, 105, 112]), eC (.str [98, 101, 104, 105, 110, 100])])))))) (sRet (eC (.bl false))) (sNx)) (sRet (e2 eqD (eLc (iAny (eVar 0)) (gName 1) (tVal (e2 ninD (eVar 1) (eC (.str [97, 98, 99, 100, 101, 102, 103, 104, 105, 106, 107, 108, 109, 110, 111, 112, 113, 114, 115, 116, 117, 118, 119, 120, 121, 122])))) (eVar 1) [1]) (eLst [])))
noncomputable def R_law_is_name : Fn := runF 1 2 (b_law_is_name)
noncomputable def b_within (F_is_name : Fn) (F_is_sign : Fn) : SS :=
  sq (sIf (tOr (tNot (tVal (e1 (isiD .tuple) (eVar 0)))) (tOr (tVal (e2 ltD (eCall lenF [eVar 0]) (eC (.int 2)))) (tNot (tVal (e1 (isiD .str) (e2 ixD (eVar 0) (eC (.int 0)))))))) (sRet (eC .non)) (sNx)) (sq (sIf (tAnd (tVal (e2 eqD (e2 ixD (eVar 0) (eC (.int 0))) (eC (.str [114, 111, 119])))) (tAnd (tVal (e2 eqD (eCall lenF [eVar 0]) (eC (.int 2)))) (tVal (eCall F_is_name [e2 ixD (eVar 0) (eC (.int 1))])))) (sRet (eLst [])) (sNx)) (sq (sIf (tAnd (tVal (e2 eqD (e2 ixD (eVar 0) (eC (.int 0))) (eC (.str [115, 105, 103, 110])))) (tAnd (tVal (e2 eqD (eCall lenF [eVar 0]) (eC (.int 3)))) (tVal (eCall F_is_sign [e2 ixD (eVar 0) (eC (.int 1))])))) (sRet (eLst [e2 ixD (eVar 0) (eC (.int 2))])) (sNx)) (sq (sIf (tAnd (tVal (e2 eqD (e2 ixD (eVar 0) (eC (.int 0))) (eC (.str [98, 101, 104, 105, 110, 100])))) (tVal (e2 eqD (eCall lenF [eVar 0]) (eC (.int 2))))) (sRet (eLst [e2 ixD (eVar 0) (eC (.int 1))])) (sNx)) (sq (sIf (tAnd (tVal (e2 eqD (e2 ixD (eVar 0) (eC (.int 0))) (eC (.str [122, 105, 112])))) (tVal (e2 eqD (eCall lenF [eVar 0]) (eC (.int 3))))) (sRet (eLst [e2 ixD (eVar 0) (eC (.int 1)), e2 ixD (eVar 0) (eC (.int 2))])) (sNx)) (sRet (eC .non))))))
noncomputable def R_within : Fn := runF 1 1 (b_within R_is_name R_is_sign)
noncomputable def lb_law_names_1 (F_law_drop : Fn) : SS :=
  sAsg (e2 addD (eVar 1) (e2 ixD (eC (.str [97, 98, 99, 100, 101, 102, 103, 104, 105, 106, 107, 108, 109, 110, 111, 112, 113, 114, 115, 116, 117, 118, 119, 120, 121, 122])) (eCall F_law_drop [eVar 0, eC (.int 26)]))) (gName 1)
noncomputable def b_law_names (F_law_drop : Fn) : SS :=
  sq (sAsg (e2 ixD (eC (.str [97, 99, 100, 101, 102, 103, 104, 105, 106, 107, 108, 109, 110, 111, 112, 113, 114, 115, 116, 117, 118, 119, 120, 121])) (eCall F_law_drop [eVar 0, eC (.int 24)])) (gName 1)) (sq (sFor (iR1 (eC (.int 7))) (gName 2) (lb_law_names_1 F_law_drop)) (sq (sAsg (eLc (iR1 (eC (.int 8))) (gName 2) (tYes) (eSl (eVar 1) none (some (e2 addD (eVar 2) (eC (.int 1))))) [2]) (gName 3)) (sq (sAsg (eCall F_law_drop [eVar 0, eC (.int 4)]) (gName 4)) (sq (sIf (tVal (e2 eqD (eVar 4) (eC (.int 3)))) (sAsg (eLst [eC (.str [114, 111, 119]), eC (.str [115, 105, 103, 110]), eC (.str [122, 105]), eC (.str [122, 105, 112, 112]), eC (.str [98, 101, 104, 105, 110]), eC (.str [114, 101, 97, 100, 121]), eC (.str [111, 110, 101]), eC (.str [98])]) (gName 3)) (sNx)) (sq (sIf (tVal (e2 eqD (eVar 4) (eC (.int 2)))) (sq (sAsg (e2 addD (eSl (eVar 1) (some (eC (.int 1))) none) (e2 ixD (eC (.str [98, 122, 97])) (eCall F_law_drop [eVar 0, eC (.int 3)]))) (gName 1)) (sAsg (eLc (iR1 (eC (.int 8))) (gName 2) (tYes) (eSl (eVar 1) (some (eVar 2)) none) [2]) (gName 3))) (sNx)) (sq (sAsg (eCall F_law_drop [eVar 0, eC (.int 8)]) (gName 5)) (sRet (e2 addD (eSl (eVar 3) (some (eVar 5)) none) (eSl (eVar 3) none (some (eVar 5)))))))))))
noncomputable def R_law_names : Fn := runF 1 6 (b_law_names R_law_drop)
noncomputable def lb_law_wrapped_1 (F_law_drop : Fn) : SS :=
  sq (sAsg (eCall F_law_drop [eVar 0, eC (.int 20)]) (gName 4)) (sIf (tVal (e2 ltD (eVar 4) (eC (.int 10)))) (sAsg (eTup [eC (.str [115, 105, 103, 110]), eVar 4, eVar 1]) (gName 1)) (sAsg (eTup [eC (.str [98, 101, 104, 105, 110, 100]), eVar 1]) (gName 1)))
noncomputable def b_law_wrapped (F_law_drop : Fn) : SS :=
  sq (sFor (iR1 (eVar 2)) (gName 3) (lb_law_wrapped_1 F_law_drop)) (sRet (eVar 1))
noncomputable def R_law_wrapped : Fn := runF 3 5 (b_law_wrapped R_law_drop)
noncomputable def lb_is_term_1 (F_within : Fn) : SS :=
  sq (sAsg (eMt .list popF (eVar 1) []) (gTup [gName 3, gName 4])) (sq (sAsg (eCall F_within [eVar 3]) (gName 5)) (sq (sAug 2 iaddD (eC (.int 1))) (sq (sIf (tOr (tVal (e2 isD (eVar 5) (eC .non))) (tOr (tVal (e2 gtD (eVar 4) (eC c_MOST_DEEP))) (tVal (e2 gtD (eVar 2) (eC c_MOST_TERMS))))) (sRet (eC (.bl false))) (sNx)) (sExp (eMt .list extendF (eVar 1) [eLc (iAny (eVar 5)) (gName 6) (tYes) (eTup [eVar 6, e2 addD (eVar 4) (eC (.int 1))]) [6]])))))
noncomputable def b_is_term (F_within : Fn) : SS :=
  sq (sAsg (eLst [eTup [eVar 0, eC (.int 1)]]) (gName 1)) (sq (sAsg (eC (.int 0)) (gName 2)) (sq (sWh (tVal (e2 neD (eVar 1) (eLst []))) (lb_is_term_1 F_within)) (sRet (eC (.bl true)))))
noncomputable def R_is_term : Fn := runF 1 7 (b_is_term R_within)
noncomputable def lb_law_great_1 (F_law_drop : Fn) : SS :=
  sq (sAsg (eCall F_law_drop [eVar 0, eC (.int 8)]) (gName 4)) (sAsg (e2 addD (e2 ixD (eVar 2) (eVar 4)) (eC (.int 1))) (setF (eVar 2) (eVar 4)))
noncomputable def lb_law_great_2 : SS :=
  sAsg (eLc (iR3 (eC (.int 0)) (eCall lenF [eVar 5]) (eC (.int 2))) (gName 7) (tYes) (eTup [eC (.str [122, 105, 112]), e2 ixD (eVar 5) (eVar 7), e2 ixD (eVar 5) (e2 addD (eVar 7) (eC (.int 1)))]) [7]) (gName 5)
noncomputable def b_law_great (F_law_drop : Fn) (F_law_wrapped : Fn) : SS :=
  sq (sAsg (e2 mulD (eLst [eC (.int 0)]) (eC (.int 8))) (gName 2)) (sq (sFor (iR1 (e2 addD (eC (.int 4)) (eCall F_law_drop [eVar 0, eC (.int 4)]))) (gName 3) (lb_law_great_1 F_law_drop)) (sq (sAsg (eLc (iAny (eVar 2)) (gName 6) (tYes) (eCall F_law_wrapped [eVar 0, eTup [eC (.str [114, 111, 119]), e2 ixD (eVar 1) (eCall F_law_drop [eVar 0, eCall lenF [eVar 1]])], eVar 6]) [6]) (gName 5)) (sq (sWh (tVal (e2 gtD (eCall lenF [eVar 5]) (eC (.int 1)))) (lb_law_great_2)) (sRet (e2 ixD (eVar 5) (eC (.int 0)))))))
noncomputable def R_law_great : Fn := runF 2 8 (b_law_great R_law_drop R_law_wrapped)
noncomputable def lb_law_deeper_1 (F_law_drop : Fn) (F_law_wrapped : Fn) : SS :=
  sq (sAsg (eCall F_law_drop [eVar 0, eC (.int 2)]) (gName 5)) (sq (sAsg (eTup [eC (.str [114, 111, 119]), e2 ixD (eVar 1) (eCall F_law_drop [eVar 0, eCall lenF [eVar 1]])]) (gName 6)) (sAsg (eCall F_law_wrapped [eVar 0, e2 ixD (eLst [eTup [eC (.str [122, 105, 112]), eVar 3, eVar 6], eTup [eC (.str [122, 105, 112]), eVar 6, eVar 3]]) (eVar 5), eCall F_law_drop [eVar 0, eC (.int 2)]]) (gName 3)))
noncomputable def b_law_deeper (F_law_drop : Fn) (F_law_wrapped : Fn) : SS :=
  sq (sAsg (eCall F_law_drop [eVar 0, eC (.int 4)]) (gName 2)) (sq (sAsg (eTup [eC (.str [114, 111, 119]), e2 ixD (eVar 1) (eCall F_law_drop [eVar 0, eCall lenF [eVar 1]])]) (gName 3)) (sq (sAsg (eCall F_law_wrapped [eVar 0, eVar 3, e2 ixD (eLst [e2 addD (eC (.int 8)) (eCall F_law_drop [eVar 0, eC (.int 4)]), e2 addD (eC (.int 5)) (eCall F_law_drop [eVar 0, eC (.int 5)])]) (eCall intF [e2 gtD (eVar 2) (eC (.int 0))])]) (gName 3)) (sq (sFor (iR1 (eVar 2)) (gName 4) (lb_law_deeper_1 F_law_drop F_law_wrapped)) (sRet (eVar 3)))))
noncomputable def R_law_deeper : Fn := runF 2 7 (b_law_deeper R_law_drop R_law_wrapped)
noncomputable def b_law_size (F_law_is_name : Fn) (F_law_size : Fn) : SS :=
  sq (sIf (tOr (tNot (tVal (e1 (isiD .tuple) (eVar 0)))) (tVal (e2 gtD (eVar 1) (eC (.int 10))))) (sRet (eC (.int 1000))) (sNx)) (sq (sIf (tAnd (tVal (e2 eqD (eCall lenF [eVar 0]) (eC (.int 2)))) (tAnd (tVal (e2 eqD (e2 ixD (eVar 0) (eC (.int 0))) (eC (.str [114, 111, 119])))) (tVal (eCall F_law_is_name [e2 ixD (eVar 0) (eC (.int 1))])))) (sRet (eC (.int 1))) (sNx)) (sq (sIf (tAnd (tVal (e2 eqD (eCall lenF [eVar 0]) (eC (.int 2)))) (tVal (e2 eqD (e2 ixD (eVar 0) (eC (.int 0))) (eC (.str [98, 101, 104, 105, 110, 100]))))) (sRet (e2 addD (eC (.int 1)) (eCall F_law_size [e2 ixD (eVar 0) (eC (.int 1)), e2 addD (eVar 1) (eC (.int 1))]))) (sNx)) (sq (sIf (tAnd (tVal (e2 eqD (eCall lenF [eVar 0]) (eC (.int 3)))) (tVal (e2 eqD (e2 ixD (eVar 0) (eC (.int 0))) (eC (.str [122, 105, 112]))))) (sRet (e2 addD (e2 addD (eC (.int 1)) (eCall F_law_size [e2 ixD (eVar 0) (eC (.int 1)), e2 addD (eVar 1) (eC (.int 1))])) (eCall F_law_size [e2 ixD (eVar 0) (eC (.int 2)), e2 addD (eVar 1) (eC (.int 1))]))) (sNx)) (sq (sIf (tAnd (tVal (e2 eqD (eCall lenF [eVar 0]) (eC (.int 3)))) (tAnd (tVal (e2 eqD (e2 ixD (eVar 0) (eC (.int 0))) (eC (.str [115, 105, 103, 110])))) (tAnd (tVal (e2 inRD (e2 ixD (eVar 0) (eC (.int 1))) (eC (.int 10)))) (tVal (e1 (isiD .int) (e2 ixD (eVar 0) (eC (.int 1)))))))) (sRet (e2 addD (e2 addD (eC (.int 1)) (eCall F_law_size [e2 ixD (eVar 0) (eC (.int 2)), e2 addD (eVar 1) (eC (.int 1))])) (e2 mulD (eC (.int 1000)) (eCall intF [e1 (isiD .bool) (e2 ixD (eVar 0) (eC (.int 1)))])))) (sNx)) (sRet (eC (.int 1000)))))))
noncomputable def R_law_size : Nat → Fn
  | 0 => fun _ _ => none
  | d + 1 => runF 2 2 (b_law_size R_law_is_name (R_law_size d))
noncomputable def b_law_any_term (F_law_drop : Fn) (F_law_great : Fn) (F_law_deeper : Fn) (F_law_term : Fn) : SS :=
  sq (sAsg (eCall F_law_drop [eVar 0, eC (.int 8)]) (gName 2)) (sq (sIf (tVal (e2 eqD (eVar 2) (eC (.int 6)))) (sRet (eCall F_law_great [eVar 0, eVar 1])) (sNx)) (sq (sIf (tVal (e2 eqD (eVar 2) (eC (.int 7)))) (sRet (eCall F_law_deeper [eVar 0, eVar 1])) (sNx)) (sRet (eCall F_law_term [eVar 0, eVar 1, e2 addD (eC (.int 1)) (eCall F_law_drop [eVar 0, eC (.int 5)])]))))
noncomputable def R_law_any_term : Fn := runF 2 3 (b_law_any_term R_law_drop R_law_great R_law_deeper (R_law_term 24))
noncomputable def lb_names_in_1 (F_within : Fn) : SS :=
  sq (sAsg (eMt .list popF (eVar 2) []) (gName 3)) (sq (sIf (tVal (e2 eqD (e2 ixD (eVar 3) (eC (.int 0))) (eC (.str [114, 111, 119])))) (sExp (eMt .list appendF (eVar 1) [e2 ixD (eVar 3) (eC (.int 1))])) (sNx)) (sExp (eMt .list extendF (eVar 2) [eCall F_within [eVar 3]])))
noncomputable def b_names_in (F_within : Fn) : SS :=
  sq (sAsg (eLst []) (gName 1)) (sq (sAsg (eLst [eVar 0]) (gName 2)) (sq (sWh (tVal (e2 neD (eVar 2) (eLst []))) (lb_names_in_1 F_within)) (sRet (eCall ssetF [eVar 1]))))
noncomputable def R_names_in : Fn := runF 1 4 (b_names_in R_within)
noncomputable def b_law_many (F_law_many : Fn) : SS :=
  sq (sIf (tVal (e2 eqD (e2 ixD (eVar 0) (eC (.int 0))) (eC (.str [114, 111, 119])))) (sRet (eC (.int 1))) (sNx)) (sRet (e2 addD (eC (.int 1)) (eCall sumF [eLc (iAny (eSl (eVar 0) (some (eC (.int 1))) none)) (gName 1) (tVal (e1 (isiD .tuple) (eVar 1))) (eCall F_law_many [eVar 1]) [1]])))
noncomputable def R_law_many : Nat → Fn
  | 0 => fun _ _ => none
  | d + 1 => runF 1 2 (b_law_many (R_law_many d))
noncomputable def b_law_deep (F_law_deep : Fn) : SS :=
  sq (sIf (tVal (e2 eqD (e2 ixD (eVar 0) (eC (.int 0))) (eC (.str [114, 111, 119])))) (sRet (eC (.int 1))) (sNx)) (sRet (e2 addD (eC (.int 1)) (eCall maxLF [eLc (iAny (eSl (eVar 0) (some (eC (.int 1))) none)) (gName 1) (tVal (e1 (isiD .tuple) (eVar 1))) (eCall F_law_deep [eVar 1]) [1]])))
noncomputable def R_law_deep : Nat → Fn
  | 0 => fun _ _ => none
  | d + 1 => runF 1 2 (b_law_deep (R_law_deep d))
noncomputable def lb_law_met_1 (F_law_met : Fn) : SS :=
  sIf (tVal (e1 (isiD .tuple) (eVar 2))) (sAsg (e2 addD (eVar 1) (eCall F_law_met [eVar 2])) (gName 1)) (sNx)
noncomputable def b_law_met (F_law_met : Fn) : SS :=
  sq (sIf (tVal (e2 eqD (e2 ixD (eVar 0) (eC (.int 0))) (eC (.str [114, 111, 119])))) (sRet (eLst [e2 ixD (eVar 0) (eC (.int 1))])) (sNx)) (sq (sAsg (eLst []) (gName 1)) (sq (sFor (iAny (eSl (eVar 0) (some (eC (.int 1))) none)) (gName 2) (lb_law_met_1 F_law_met)) (sRet (eVar 1))))
noncomputable def R_law_met : Nat → Fn
  | 0 => fun _ _ => none
  | d + 1 => runF 1 3 (b_law_met (R_law_met d))
noncomputable def lb_law_good_term_1 : SS :=
  sAsg (e2 ixD (eVar 2) (e1 negD (eC (.int 1)))) (gName 2)
noncomputable def b_law_good_term (F_law_any_term : Fn) (F_law_many : Fn) (F_law_deep : Fn) : SS :=
  sq (sAsg (eCall F_law_any_term [eVar 0, eVar 1]) (gName 2)) (sq (sWh (tOr (tVal (e2 gtD (eCall F_law_many [eVar 2]) (eC (.int 20)))) (tVal (e2 gtD (eCall F_law_deep [eVar 2]) (eC (.int 10))))) (lb_law_good_term_1)) (sRet (eVar 2)))
noncomputable def R_law_good_term : Fn := runF 2 3 (b_law_good_term R_law_any_term (R_law_many 24) (R_law_deep 24))
noncomputable def b_is_equation (F_is_name : Fn) (F_is_term : Fn) : SS :=
  sRet (eAnd (e1 (isiD .tuple) (eVar 0)) (eAnd (e2 eqD (eCall lenF [eVar 0]) (eC (.int 2))) (eAnd (eCall F_is_name [e2 ixD (eVar 0) (eC (.int 0))]) (eCall F_is_term [e2 ixD (eVar 0) (eC (.int 1))]))))
noncomputable def R_is_equation : Fn := runF 1 1 (b_is_equation R_is_name R_is_term)
noncomputable def lb_is_book_1 (F_names_in : Fn) : SS :=
  sIf (tNot (tVal (eCall allF [eLc (iAny (eCall F_names_in [eVar 3])) (gName 5) (tYes) (e2 inD (eVar 5) (eVar 1)) [5]]))) (sRet (eC (.bl false))) (sNx)
noncomputable def b_is_book (F_is_equation : Fn) (F_names_in : Fn) : SS :=
  sq (sIf (tOr (tNot (tVal (e1 (isiD .tuple) (eVar 0)))) (tOr (tVal (e2 gtD (eCall lenF [eVar 0]) (eC c_MOST_EQUATIONS))) (tNot (tVal (eCall allF [eLc (iAny (eVar 0)) (gName 4) (tYes) (eCall F_is_equation [eVar 4]) [4]]))))) (sRet (eC (.bl false))) (sNx)) (sq (sAsg (eLc (iAny (eVar 0)) (gTup [gName 2, gName 3]) (tYes) (eVar 2) [2, 3]) (gName 1)) (sq (sIf (tVal (e2 ltD (eCall lsetF [eVar 1]) (eCall lenF [eVar 1]))) (sRet (eC (.bl false))) (sNx)) (sq (sFor (iAny (eVar 0)) (gTup [gName 2, gName 3]) (lb_is_book_1 F_names_in)) (sRet (eC (.bl true))))))
noncomputable def R_is_book : Fn := runF 1 6 (b_is_book R_is_equation R_names_in)
noncomputable def b_law_book (F_law_good_term : Fn) : SS :=
  sRet (eCall tupleF [eLc (iAny (eVar 1)) (gName 2) (tYes) (eTup [eVar 2, eCall F_law_good_term [eVar 0, eVar 1]]) [2]])
noncomputable def R_law_book : Fn := runF 2 3 (b_law_book R_law_good_term)
noncomputable def lb_words_of_1 : SS :=
  sq (sAsg (eMt .list popF (eVar 2) []) (gName 3)) (sIf (tVal (e2 eqD (e2 ixD (eVar 3) (eC (.int 0))) (eC (.str [114, 111, 119])))) (sExp (eMt .list appendF (eVar 1) [e2 ixD (eVar 3) (eC (.int 1))])) (sIf (tVal (e2 eqD (e2 ixD (eVar 3) (eC (.int 0))) (eC (.str [115, 105, 103, 110])))) (sq (sExp (eMt .list appendF (eVar 1) [eCall strF [e2 ixD (eVar 3) (eC (.int 1))]])) (sExp (eMt .list appendF (eVar 2) [e2 ixD (eVar 3) (eC (.int 2))]))) (sIf (tVal (e2 eqD (e2 ixD (eVar 3) (eC (.int 0))) (eC (.str [98, 101, 104, 105, 110, 100])))) (sq (sExp (eMt .list appendF (eVar 1) [eC (.str [98, 101, 104, 105, 110, 100])])) (sExp (eMt .list appendF (eVar 2) [e2 ixD (eVar 3) (eC (.int 1))]))) (sq (sExp (eMt .list appendF (eVar 1) [eC (.str [122, 105, 112])])) (sExp (eMt .list extendF (eVar 2) [eLst [e2 ixD (eVar 3) (eC (.int 2)), e2 ixD (eVar 3) (eC (.int 1))]]))))))
noncomputable def b_words_of : SS :=
  sq (sAsg (eLst []) (gName 1)) (sq (sAsg (eLst [eVar 0]) (gName 2)) (sq (sWh (tVal (e2 neD (eVar 2) (eLst []))) (lb_words_of_1)) (sRet (eVar 1))))
noncomputable def R_words_of : Fn := runF 1 4 (b_words_of)
noncomputable def b_hangs (F_followed : Fn) : SS :=
  sRet (e2 ixD (eCall F_followed [eVar 0, eVar 1]) (eC (.int 0)))
noncomputable def R_hangs : Fn := runF 2 2 (b_hangs R_followed)
noncomputable def b_show_term (F_words_of : Fn) : SS :=
  sRet (eMt .str joinF (eC (.str [32])) [eCall F_words_of [eVar 0]])
noncomputable def R_show_term : Fn := runF 1 1 (b_show_term R_words_of)
noncomputable def b_show_equation (F_show_term : Fn) : SS :=
  sRet (e2 addD (e2 addD (eVar 0) (eC (.str [32, 61, 32]))) (eCall F_show_term [eVar 1]))
noncomputable def R_show_equation : Fn := runF 2 2 (b_show_equation R_show_term)
noncomputable def b_show_book (F_show_equation : Fn) : SS :=
  sRet (eMt .str joinF (eC (.str [10])) [eLc (iAny (eVar 0)) (gTup [gName 1, gName 2]) (tYes) (eCall F_show_equation [eVar 1, eVar 2]) [1, 2]])
noncomputable def R_show_book : Fn := runF 1 3 (b_show_book R_show_equation)
noncomputable def b_law_words (F_law_words : Fn) : SS :=
  sq (sIf (tVal (e2 eqD (e2 ixD (eVar 0) (eC (.int 0))) (eC (.str [114, 111, 119])))) (sRet (eLst [e2 ixD (eVar 0) (eC (.int 1))])) (sNx)) (sq (sIf (tVal (e2 eqD (e2 ixD (eVar 0) (eC (.int 0))) (eC (.str [115, 105, 103, 110])))) (sRet (e2 addD (eLst [eCall strF [e2 ixD (eVar 0) (eC (.int 1))]]) (eCall F_law_words [e2 ixD (eVar 0) (eC (.int 2))]))) (sNx)) (sq (sIf (tVal (e2 eqD (e2 ixD (eVar 0) (eC (.int 0))) (eC (.str [98, 101, 104, 105, 110, 100])))) (sRet (e2 addD (eLst [eC (.str [98, 101, 104, 105, 110, 100])]) (eCall F_law_words [e2 ixD (eVar 0) (eC (.int 1))]))) (sNx)) (sRet (e2 addD (e2 addD (eLst [eC (.str [122, 105, 112])]) (eCall F_law_words [e2 ixD (eVar 0) (eC (.int 1))])) (eCall F_law_words [e2 ixD (eVar 0) (eC (.int 2))])))))
noncomputable def R_law_words : Nat → Fn
  | 0 => fun _ _ => none
  | d + 1 => runF 1 1 (b_law_words (R_law_words d))
noncomputable def b_law_cell : SS :=
  sq (sIf (tVal (e2 ltD (eVar 1) (eCall lenF [eVar 0]))) (sRet (e2 modD (e2 ixD (eVar 0) (eVar 1)) (e2 powD (eC (.int 10)) (eC (.int 18))))) (sNx)) (sq (sAsg (e2 addD (eC (.int 19)) (e2 mulD (e2 mulD (eC (.int 11)) (eVar 1)) (eVar 1))) (gName 2)) (sq (sIf (tVal (e2 gtD (eCall lenF [eVar 0]) (eC (.int 0)))) (sAsg (e2 addD (eVar 2) (e2 mulD (e2 modD (e2 ixD (eVar 0) (e2 modD (eVar 1) (eCall lenF [eVar 0]))) (eC (.int 1000003))) (e2 addD (eVar 1) (eC (.int 7))))) (gName 2)) (sNx)) (sq (sAsg (e2 modD (e2 mulD (eVar 2) (eC (.int 48271))) (eC (.int 2147483647))) (gName 2)) (sRet (e2 fdivD (e2 modD (e2 powD (eVar 2) (eC (.int 5))) (eC (.int 2147483647))) (eC (.int 3)))))))
noncomputable def R_law_cell : Fn := runF 2 3 (b_law_cell)
noncomputable def lb_law_term_v2_1 : SS :=
  sq (sAsg (e2 modD (eVar 4) (eC (.int 5))) (gName 6)) (sq (sAsg (e2 addD (e2 fdivD (eVar 4) (eC (.int 5))) (e2 mulD (eC (.int 977)) (eVar 5))) (gName 4)) (sIf (tVal (e2 ltD (eVar 6) (eC (.int 2)))) (sAsg (eTup [eC (.str [115, 105, 103, 110]), e2 addD (e2 modD (eVar 4) (eC (.int 3))) (e2 mulD (eC (.int 7)) (e2 modD (eVar 0) (eC (.int 2)))), eVar 3]) (gName 3)) (sIf (tVal (e2 eqD (eVar 6) (eC (.int 2)))) (sAsg (eTup [eC (.str [98, 101, 104, 105, 110, 100]), eVar 3]) (gName 3)) (sq (sAsg (eTup [eC (.str [114, 111, 119]), e2 ixD (eVar 1) (e2 modD (e2 fdivD (eVar 4) (eC (.int 3))) (eCall lenF [eVar 1]))]) (gName 7)) (sq (sIf (tVal (e2 eqD (e2 modD (e2 fdivD (eVar 4) (eC (.int 11))) (eC (.int 2))) (eC (.int 0)))) (sAsg (eTup [eC (.str [115, 105, 103, 110]), e2 modD (e2 fdivD (eVar 4) (eC (.int 13))) (eC (.int 3)), eVar 7]) (gName 7)) (sNx)) (sq (sIf (tAnd (tVal (e2 eqD (eVar 5) (eC (.int 0)))) (tVal (e2 eqD (e2 modD (e2 fdivD (eVar 4) (eC (.int 17))) (eC (.int 4))) (eC (.int 0))))) (sAsg (eTup [eC (.str [98, 101, 104, 105, 110, 100]), eTup [eC (.str [122, 105, 112]), eVar 7, eTup [eC (.str [114, 111, 119]), e2 ixD (eVar 1) (e2 modD (e2 fdivD (eVar 4) (eC (.int 19))) (eCall lenF [eVar 1]))]]]) (gName 7)) (sNx)) (sAsg (e2 ixD (eLst [eTup [eC (.str [122, 105, 112]), eVar 3, eVar 7], eTup [eC (.str [122, 105, 112]), eVar 7, eVar 3]]) (e2 modD (e2 fdivD (eVar 4) (eC (.int 2))) (eC (.int 2)))) (gName 3))))))))
noncomputable def b_law_term_v2 : SS :=
  sq (sAsg (eTup [eC (.str [114, 111, 119]), e2 ixD (eVar 1) (e2 modD (eVar 0) (eCall lenF [eVar 1]))]) (gName 3)) (sq (sAsg (e2 fdivD (eVar 0) (eC (.int 7))) (gName 4)) (sq (sFor (iR1 (eVar 2)) (gName 5) (lb_law_term_v2_1)) (sRet (eVar 3))))
noncomputable def R_law_term_v2 : Fn := runF 3 8 (b_law_term_v2)
noncomputable def lb_law_book_v2_1 (F_law_cell : Fn) (F_law_term : Fn) : SS :=
  sq (sAsg (eCall F_law_cell [eVar 0, e2 addD (eC (.int 1)) (eVar 5)]) (gName 6)) (sq (sAsg (eCall F_law_term [e2 fdivD (eVar 6) (eC (.int 6)), eVar 3, e2 addD (eC (.int 1)) (e2 modD (eVar 6) (eC (.int 5)))]) (gName 7)) (sq (sIf (tVal (e2 gtD (e2 modD (e2 fdivD (eVar 6) (eC (.int 5))) (eC (.int 3))) (eC (.int 0)))) (sAsg (eTup [eC (.str [115, 105, 103, 110]), e2 modD (e2 fdivD (eVar 6) (eC (.int 15))) (eC (.int 3)), eVar 7]) (gName 7)) (sNx)) (sExp (eMt .list appendF (eVar 4) [eTup [e2 ixD (eVar 3) (eVar 5), eVar 7]]))))
noncomputable def b_law_book_v2 (F_law_cell : Fn) (F_law_term : Fn) : SS :=
  sq (sAsg (eCall F_law_cell [eVar 0, eC (.int 0)]) (gName 1)) (sq (sAsg (e2 ixD (eLst [eLst [eC (.str [97]), eC (.str [98]), eC (.str [99]), eC (.str [100])], eLst [eC (.str [120, 120]), eC (.str [120]), eC (.str [120, 120, 120]), eC (.str [121])], eLst [eC (.str [114, 111]), eC (.str [115, 105, 103, 110]), eC (.str [114, 111, 119]), eC (.str [111, 110, 101])]]) (e2 modD (eVar 1) (eC (.int 3)))) (gName 2)) (sq (sAsg (eSl (eVar 2) none (some (e2 addD (eC (.int 1)) (e2 modD (e2 fdivD (eVar 1) (eC (.int 3))) (eC (.int 4)))))) (gName 3)) (sq (sAsg (eLst []) (gName 4)) (sq (sFor (iR1 (eCall lenF [eVar 3])) (gName 5) (lb_law_book_v2_1 F_law_cell F_law_term)) (sRet (eCall tupleF [eVar 4]))))))
noncomputable def R_law_book_v2 : Fn := runF 1 8 (b_law_book_v2 R_law_cell R_law_term_v2)
noncomputable def b_law_term_of : SS :=
  sRet (e2 ixD (eLc (iAny (eVar 0)) (gTup [gName 2, gName 3]) (tVal (e2 eqD (eVar 2) (eVar 1))) (eVar 3) [2, 3]) (eC (.int 0)))
noncomputable def R_law_term_of : Fn := runF 2 4 (b_law_term_of)
noncomputable def b_law_followed (F_law_followed : Fn) : SS :=
  sq (sIf (tAnd (tVal (e2 eqD (e2 ixD (eVar 0) (eC (.int 0))) (eC (.str [115, 105, 103, 110])))) (tVal (e2 eqD (eVar 1) (eC (.int 0))))) (sRet (eTup [eC (.str [115, 105, 103, 110]), e2 ixD (eVar 0) (eC (.int 1)), eC (.bl false)])) (sNx)) (sq (sIf (tVal (e2 eqD (e2 ixD (eVar 0) (eC (.int 0))) (eC (.str [114, 111, 119])))) (sRet (eTup [eC (.str [99, 97, 108, 108]), e2 ixD (eVar 0) (eC (.int 1)), eVar 1, eC (.bl false)])) (sNx)) (sq (sIf (tVal (e2 eqD (e2 ixD (eVar 0) (eC (.int 0))) (eC (.str [115, 105, 103, 110])))) (sRet (eCall F_law_followed [e2 ixD (eVar 0) (eC (.int 2)), e2 subD (eVar 1) (eC (.int 1))])) (sNx)) (sq (sIf (tVal (e2 eqD (e2 ixD (eVar 0) (eC (.int 0))) (eC (.str [98, 101, 104, 105, 110, 100])))) (sRet (eCall F_law_followed [e2 ixD (eVar 0) (eC (.int 1)), e2 addD (eVar 1) (eC (.int 1))])) (sNx)) (sq (sAsg (eCall F_law_followed [e2 ixD (eLst [e2 ixD (eVar 0) (eC (.int 1)), e2 ixD (eVar 0) (eC (.int 2))]) (e2 modD (eVar 1) (eC (.int 2))), e2 fdivD (eVar 1) (eC (.int 2))]) (gName 2)) (sRet (e2 addD (eSl (eVar 2) none (some (e1 negD (eC (.int 1))))) (eTup [eC (.bl true)])))))))
noncomputable def R_law_followed : Nat → Fn
  | 0 => fun _ _ => none
  | d + 1 => runF 2 3 (b_law_followed (R_law_followed d))
noncomputable def lb_law_walk_1 (F_law_followed : Fn) (F_law_term_of : Fn) : SS :=
  sq (sAsg (eCall F_law_followed [eCall F_law_term_of [eVar 0, e2 ixD (e2 ixD (eVar 3) (e1 negD (eC (.int 1)))) (eC (.int 0))], e2 ixD (e2 ixD (eVar 3) (e1 negD (eC (.int 1)))) (eC (.int 1))]) (gName 7)) (sq (sIf (tVal (e2 eqD (e2 ixD (eVar 7) (eC (.int 0))) (eC (.str [115, 105, 103, 110])))) (sRet (eTup [eC (.str [115, 105, 103, 110]), e2 ixD (eVar 7) (eC (.int 1)), eVar 3])) (sNx)) (sq (sAsg (e2 addD (eVar 4) (eCall intF [e2 ixD (eVar 7) (eC (.int 3))])) (gName 4)) (sq (sAsg (eSl (eVar 7) (some (eC (.int 1))) (some (eC (.int 3)))) (gName 8)) (sq (sAsg (eFGet2 (eVar 6) (e2 ixD (eVar 8) (eC (.int 0))) (eTup [eC (.int 0), e1 negD (eC (.int 1))])) (gName 9)) (sq (sAsg (eOr (e2 kIn (eVar 8) (eVar 5)) (eAnd (e2 eqD (e2 ixD (eVar 9) (eC (.int 1))) (eVar 4)) (e2 leD (e2 ixD (eVar 9) (eC (.int 0))) (e2 ixD (eVar 8) (eC (.int 1)))))) (gName 10)) (sq (sExp (eMt .list appendF (eVar 3) [eVar 8])) (sq (sKPut (eVar 5) (eVar 8) (eCall dlenF [eVar 5])) (sq (sFPut (eVar 6) (e2 ixD (eVar 8) (eC (.int 0))) (eTup [e2 ixD (eVar 8) (eC (.int 1)), eVar 4])) (sIf (tVal (eVar 10)) (sRet (eTup [eC (.str [102, 114, 101, 101]), eVar 3])) (sNx))))))))))
noncomputable def b_law_walk (F_law_followed : Fn) (F_law_term_of : Fn) : SS :=
  sq (sAsg (eLst [eTup [eVar 1, eVar 2]]) (gName 3)) (sq (sAsg (eC (.int 0)) (gName 4)) (sq (sAsg (eDct1 (eTup [eVar 1, eVar 2]) (eC (.int 0))) (gName 5)) (sq (sAsg (eFDct1 (eVar 1) (eTup [eVar 2, eC (.int 0)])) (gName 6)) (sWh (tVal (eC (.bl true))) (lb_law_walk_1 F_law_followed F_law_term_of)))))
noncomputable def R_law_walk : Fn := runF 3 11 (b_law_walk (R_law_followed 24) R_law_term_of)
noncomputable def lb_law_v13_1 (F_law_cell : Fn) (F_law_walk : Fn) (F_walk : Fn) : SS :=
  sq (sAsg (eCall F_law_cell [eVar 0, e2 addD (eC (.int 20)) (eVar 4)]) (gName 5)) (sq (sAsg (e2 modD (eVar 5) (e2 ixD (eLst [eC (.int 4), eC (.int 20), eC (.int 60), eC (.int 150)]) (eVar 4))) (gName 6)) (sq (sIf (tAnd (tVal (e2 eqD (eVar 4) (eC (.int 3)))) (tAnd (tVal (e2 eqD (e2 modD (e2 fdivD (eVar 5) (eC (.int 150))) (eC (.int 4))) (eC (.int 0)))) (tVal (e2 eqD (eVar 2) (e2 ixD (e2 ixD (eVar 1) (eC (.int 0))) (eC (.int 0))))))) (sAsg (e2 subD (eC (.int 2000)) (e2 modD (e2 fdivD (eVar 5) (eC (.int 600))) (eC (.int 3)))) (gName 6)) (sNx)) (sq (sAsg (eCall F_law_walk [eVar 1, eVar 2, eVar 6]) (gName 7)) (sq (sAsg (eCall F_walk [eVar 1, eVar 2, eVar 6]) (gName 8)) (sq (sIf (tOr (tNot (tVal (e1 (isiD .tuple) (eVar 8)))) (tOr (tVal (e2 neD (eVar 8) (eVar 7))) (tNot (tVal (e1 (isiD .list) (e2 ixD (eVar 8) (e1 negD (eC (.int 1))))))))) (sRet (eC (.bl false))) (sNx)) (sq (sExp (eMt .list appendF (e2 ixD (eVar 8) (e1 negD (eC (.int 1)))) [eTup [eC (.str [97]), eC (.int 0)]])) (sIf (tVal (e2 neD (eCall F_walk [eVar 1, eVar 2, eVar 6]) (eVar 7))) (sRet (eC (.bl false))) (sNx))))))))
noncomputable def lb_law_v13_2 (F_law_cell : Fn) (F_law_walk : Fn) (F_walk : Fn) : SS :=
  sFor (iR1 (eC (.int 4))) (gName 4) (lb_law_v13_1 F_law_cell F_law_walk F_walk)
noncomputable def b_law_v13 (F_law_book : Fn) (F_law_cell : Fn) (F_law_walk : Fn) (F_walk : Fn) : SS :=
  sq (sAsg (eCall F_law_book [eVar 0]) (gName 1)) (sq (sFor (iAny (eVar 1)) (gTup [gName 2, gName 3]) (lb_law_v13_2 F_law_cell F_law_walk F_walk)) (sRet (eC (.bl true))))
noncomputable def R_law_v13 : Fn := runF 1 9 (b_law_v13 R_law_book_v2 R_law_cell R_law_walk R_walk)
noncomputable def lb_law_chain_1 (F_law_drop : Fn) : SS :=
  sAsg (e2 ixD (eLst [eTup [eC (.str [98, 101, 104, 105, 110, 100]), eVar 4], eTup [eC (.str [115, 105, 103, 110]), eCall F_law_drop [eVar 0, eC (.int 10)], eVar 4]]) (eCall F_law_drop [eVar 0, eC (.int 2)])) (gName 4)
noncomputable def lb_law_chain_2 (F_law_drop : Fn) : SS :=
  sq (sAsg (eTup [eC (.str [114, 111, 119]), e2 ixD (eVar 1) (e2 modD (e2 addD (eVar 3) (eC (.int 1))) (eC (.int 8)))]) (gName 4)) (sq (sFor (iR1 (eCall F_law_drop [eVar 0, eC (.int 3)])) (gName 5) (lb_law_chain_1 F_law_drop)) (sq (sIf (tVal (e2 eqD (eVar 3) (eC (.int 7)))) (sAsg (eTup [eC (.str [115, 105, 103, 110]), eCall F_law_drop [eVar 0, eC (.int 10)], eVar 4]) (gName 4)) (sNx)) (sExp (eMt .list appendF (eVar 2) [eTup [e2 ixD (eVar 1) (eVar 3), eVar 4]]))))
noncomputable def b_law_chain (F_law_drop : Fn) : SS :=
  sq (sAsg (eLst []) (gName 2)) (sq (sFor (iR1 (eC (.int 8))) (gName 3) (lb_law_chain_2 F_law_drop)) (sRet (eCall tupleF [eVar 2])))
noncomputable def R_law_chain : Fn := runF 2 6 (b_law_chain R_law_drop)
noncomputable def lb_law_far_right_1 (F_law_followed : Fn) : SS :=
  sq (sAsg (e2 addD (eVar 6) (eC (.int 1))) (gName 6)) (sq (sIf (tVal (e2 leD (eFGet2 (eVar 5) (e2 ixD (eVar 7) (eC (.int 1))) (e2 addD (e2 ixD (eVar 7) (eC (.int 2))) (eC (.int 1)))) (e2 ixD (eVar 7) (eC (.int 2))))) (sRet (eAnd (e2 eqD (e2 ixD (eVar 4) (eC (.int 0))) (eC (.str [102, 114, 101, 101]))) (eAnd (e2 eqD (eCall lenF [eVar 4]) (eC (.int 2))) (eAnd (e2 eqD (eCall lenF [e2 ixD (eVar 4) (eC (.int 1))]) (eVar 6)) (e2 eqD (e2 ixD (e2 ixD (eVar 4) (eC (.int 1))) (e1 negD (eC (.int 1)))) (eSl (eVar 7) (some (eC (.int 1))) (some (eC (.int 3))))))))) (sNx)) (sq (sFPut (eVar 5) (e2 ixD (eVar 7) (eC (.int 1))) (e2 ixD (eVar 7) (eC (.int 2)))) (sAsg (eCall F_law_followed [e2 fGet (eVar 3) (e2 ixD (eVar 7) (eC (.int 1))), e2 ixD (eVar 7) (eC (.int 2))]) (gName 7))))
noncomputable def b_law_far_right (F_walk : Fn) (F_law_followed : Fn) : SS :=
  sq (sAsg (eCall dictTF [eVar 0]) (gName 3)) (sq (sAsg (eCall F_walk [eVar 0, eVar 1, eVar 2]) (gName 4)) (sq (sIf (tOr (tNot (tVal (e1 (isiD .tuple) (eVar 4)))) (tVal (e2 neD (e2 ixD (e2 ixD (eVar 4) (e1 negD (eC (.int 1)))) (eC (.int 0))) (eTup [eVar 1, eVar 2])))) (sRet (eC (.bl false))) (sNx)) (sq (sAsg (eDctF) (gName 5)) (sq (sAsg (eC (.int 0)) (gName 6)) (sq (sAsg (eTup [eC (.str [99, 97, 108, 108]), eVar 1, eVar 2, eC (.bl false)]) (gName 7)) (sq (sWh (tVal (e2 eqD (e2 ixD (eVar 7) (eC (.int 0))) (eC (.str [99, 97, 108, 108])))) (lb_law_far_right_1 F_law_followed)) (sRet (eAnd (e2 eqD (eCall reprD [eSl (eVar 4) none (some (eC (.int 2)))]) (eCall reprD [eSl (eVar 7) none (some (eC (.int 2)))])) (eAnd (e2 eqD (eCall lenF [eVar 4]) (eC (.int 3))) (e2 eqD (eCall lenF [e2 ixD (eVar 4) (eC (.int 2))]) (eVar 6)))))))))))
noncomputable def R_law_far_right : Fn := runF 3 8 (b_law_far_right R_walk (R_law_followed 24))
noncomputable def lb_law_hangs_1 : SS :=
  sIf (tVal (e2 eqD (e2 ixD (eVar 0) (eC (.int 0))) (eC (.str [115, 105, 103, 110])))) (sq (sIf (tVal (e2 eqD (eVar 1) (eC (.int 0)))) (sRet (eTup [e2 ixD (eVar 0) (eC (.int 1)), eC .non])) (sNx)) (sq (sAsg (e2 subD (eVar 1) (eC (.int 1))) (gName 1)) (sAsg (e2 ixD (eVar 0) (eC (.int 2))) (gName 0)))) (sIf (tVal (e2 eqD (e2 ixD (eVar 0) (eC (.int 0))) (eC (.str [98, 101, 104, 105, 110, 100])))) (sq (sAsg (e2 addD (eVar 1) (eC (.int 1))) (gName 1)) (sAsg (e2 ixD (eVar 0) (eC (.int 1))) (gName 0))) (sq (sAsg (e2 ixD (eVar 0) (e2 addD (eC (.int 1)) (e2 modD (eVar 1) (eC (.int 2))))) (gName 0)) (sAsg (e2 fdivD (eVar 1) (eC (.int 2))) (gName 1))))
noncomputable def b_law_hangs : SS :=
  sq (sWh (tVal (e2 neD (e2 ixD (eVar 0) (eC (.int 0))) (eC (.str [114, 111, 119])))) (lb_law_hangs_1)) (sRet (eTup [e2 ixD (eVar 0) (eC (.int 1)), eVar 1]))
noncomputable def R_law_hangs : Fn := runF 2 2 (b_law_hangs)
noncomputable def lb_law_walked_1 (F_law_hangs : Fn) : SS :=
  sq (sIf (tOr (tVal (e2 kIn (eTup [eVar 1, eVar 2]) (eVar 3))) (tVal (e2 gtD (eVar 2) (eVar 4)))) (sRet (eTup [eC (.str [102, 114, 101, 101])])) (sNx)) (sq (sIf (tVal (e2 gtD (eCall dlenF [eVar 3]) (eC (.int 20000)))) (sRet (eTup [eC (.str [108, 111, 110, 103])])) (sNx)) (sq (sKPut (eVar 3) (eTup [eVar 1, eVar 2]) (eC (.int 1))) (sq (sAsg (eCall F_law_hangs [e2 fGet (eVar 0) (eVar 1), eVar 2]) (gTup [gName 5, gName 2])) (sq (sIf (tVal (e2 isD (eVar 2) (eC .non))) (sRet (eTup [eC (.str [115, 105, 103, 110]), eVar 5])) (sNx)) (sAsg (eVar 5) (gName 1))))))
noncomputable def b_law_walked (F_law_hangs : Fn) : SS :=
  sq (sAsg (eDctT) (gName 3)) (sq (sAsg (e2 addD (eVar 2) (eC (.int 300))) (gName 4)) (sq (sWh (tVal (e2 fIn (eVar 1) (eVar 0))) (lb_law_walked_1 F_law_hangs)) (sRet (eTup [eC (.str [119, 97, 105, 116, 115]), eVar 1]))))
noncomputable def R_law_walked : Fn := runF 3 6 (b_law_walked R_law_hangs)
noncomputable def b_law_same_v2 : SS :=
  sq (sIf (tOr (tNot (tVal (e1 (isiD .tuple) (eVar 0)))) (tOr (tVal (e2 neD (eCall lenF [eVar 0]) (eCall lenF [eVar 1]))) (tNot (tVal (e1 (isiD .str) (e2 ixD (eVar 0) (eC (.int 0)))))))) (sRet (eC (.bl false))) (sNx)) (sRet (eAnd (e2 eqD (eVar 0) (eVar 1)) (eNot (e1 (isiD .bool) (e2 ixD (eVar 0) (e1 negD (eC (.int 1))))))))
noncomputable def R_law_same_v2 : Fn := runF 2 2 (b_law_same_v2)
noncomputable def b_law_telling (F_Coming_tell : Fn) : SS :=
  sq (sAsg (eC (.int 0)) (gName 3)) (sq (sAsg (e2 mulD (eLst [eC (.bl false)]) (eC (.int 4))) (gName 4)) (sq (sTryAs 5 [("Told", sq (sAsg (eC (.bl false)) (gName 6)) (sAsg (eLst [eC (.bl true), eC (.bl false), eC (.bl true), eVar 6]) (gName 4))), ("TooBig", sq (sAsg (eC (.bl false)) (gName 6)) (sAsg (eLst [eC (.bl false), eC (.bl true), eC (.bl true), eVar 6]) (gName 4)))] (sAsg (eMeth "Coming" "tell" F_Coming_tell (eVar 0) [eVar 1, eVar 2]) (gName 3))) (sRet (eTup [eVar 3, eVar 4]))))
noncomputable def R_law_telling : Fn := runF 3 7 (b_law_telling R_Coming_tell)
noncomputable def lb_law_v43_1 (F_law_drop : Fn) (F_law_term : Fn) (F_law_telling : Fn) : SS :=
  sq (sAsg (eLc (iAny (eVar 2)) (gName 7) (tVal (e2 fNi (eVar 7) (eVar 4))) (eVar 7) [7]) (gName 6)) (sq (sAsg (e2 ixD (eVar 2) (eCall F_law_drop [eVar 1, eC (.int 11)])) (gName 7)) (sq (sIf (tVal (e2 gtD (eCall F_law_drop [eVar 1, eC (.int 5)]) (eC (.int 0)))) (sAsg (e2 ixD (eVar 6) (eCall F_law_drop [eVar 1, eCall lenF [eVar 6]])) (gName 7)) (sNx)) (sq (sAsg (eCall F_law_term [eVar 1, eVar 2, e2 addD (eC (.int 1)) (eCall F_law_drop [eVar 1, eC (.int 4)])]) (gName 8)) (sq (sAsg (eCall F_law_telling [eVar 3, eVar 7, eVar 8]) (gTup [gName 9, gName 10])) (sIf (tVal (e2 fIn (eVar 7) (eVar 4))) (sIf (tVal (e2 neD (eVar 10) (eLst [eC (.bl true), eC (.bl false), eC (.bl true), eC (.bl false)]))) (sRet (eC (.bl false))) (sNx)) (sIf (tVal (e2 eqD (eCall dlenF [eVar 4]) (eC (.int 8)))) (sIf (tVal (e2 neD (eVar 10) (eLst [eC (.bl false), eC (.bl true), eC (.bl true), eC (.bl false)]))) (sRet (eC (.bl false))) (sNx)) (sIf (tOr (tVal (e2 neD (eVar 10) (e2 mulD (eLst [eC (.bl false)]) (eC (.int 4))))) (tVal (e2 isntD (eVar 9) (eC .non)))) (sRet (eC (.bl false))) (sFPut (eVar 4) (eVar 7) (eVar 8)))))))))
noncomputable def lb_law_v43_2 (F_law_same : Fn) (F_Coming_sign : Fn) (F_law_walked : Fn) : SS :=
  sIf (tNot (tVal (eCall F_law_same [eMeth "Coming" "sign" F_Coming_sign (eVar 3) [eVar 7, eC (.int 0)], eCall F_law_walked [eVar 4, eVar 7, eC (.int 0)]]))) (sRet (eC (.bl false))) (sNx)
noncomputable def b_law_v43 (F_law_spring : Fn) (F_law_names : Fn) (F_Coming___init__ : Fn) (F_law_drop : Fn) (F_law_term : Fn) (F_law_telling : Fn) (F_law_same : Fn) (F_Coming_sign : Fn) (F_law_walked : Fn) : SS :=
  sq (sAsg (eCall F_law_spring [eVar 0]) (gName 1)) (sq (sAsg (e2 addD (eCall F_law_names [eVar 1]) (eLst [eC (.str [122, 121]), eC (.str [122, 120]), eC (.str [122, 119, 122, 119, 122, 119, 122, 119])])) (gName 2)) (sq (sAsg (eMake0 "Coming" F_Coming___init__) (gName 3)) (sq (sAsg (eDctF) (gName 4)) (sq (sFor (iR1 (e2 addD (eC (.int 12)) (eCall F_law_drop [eVar 1, eC (.int 5)]))) (gName 5) (lb_law_v43_1 F_law_drop F_law_term F_law_telling)) (sq (sLockF (lkVar 4) (sFor (iKeyF (eVar 4)) (gName 7) (lb_law_v43_2 F_law_same F_Coming_sign F_law_walked))) (sRet (eC (.bl true))))))))
noncomputable def R_law_v43 : Fn := runF 1 11 (b_law_v43 R_law_spring R_law_names_v2 R_Coming___init__ R_law_drop (R_law_term 24) R_law_telling R_law_same_v2 R_Coming_sign R_law_walked)
noncomputable def lb_law_equations_1 (F_law_term : Fn) (F_law_drop : Fn) : SS :=
  sExp (eMt .list appendF (eVar 3) [eTup [eVar 4, eCall F_law_term [eVar 0, eSl (eVar 1) none (some (e2 addD (eVar 2) (eCall F_law_drop [eVar 0, eC (.int 3)]))), e2 addD (eC (.int 1)) (eCall F_law_drop [eVar 0, eC (.int 4)])]]])
noncomputable def b_law_equations (F_law_term : Fn) (F_law_drop : Fn) : SS :=
  sq (sAsg (eLst []) (gName 3)) (sq (sFor (iAny (eSl (eVar 1) none (some (eVar 2)))) (gName 4) (lb_law_equations_1 F_law_term F_law_drop)) (sRet (eVar 3)))
noncomputable def R_law_equations : Fn := runF 3 5 (b_law_equations (R_law_term 24) R_law_drop)
noncomputable def lb_law_v44_1 (F_Coming_tell : Fn) : SS :=
  sExp (eMeth "Coming" "tell" F_Coming_tell (eVar 4) [eVar 5, eVar 6])
noncomputable def lb_law_v44_2 (F_law_walked : Fn) (F_law_same : Fn) (F_Coming_sign : Fn) : SS :=
  sq (sAsg (eCall F_law_walked [eVar 7, eVar 5, eVar 9]) (gName 10)) (sIf (tOr (tNot (tVal (eCall F_law_same [eMeth "Coming" "sign" F_Coming_sign (eVar 4) [eVar 5, eVar 9], eVar 10]))) (tNot (tVal (eCall F_law_same [eMeth "Coming" "sign" F_Coming_sign (eVar 4) [eVar 5, eVar 9], eVar 10])))) (sRet (eC (.bl false))) (sNx))
noncomputable def lb_law_v44_3 (F_law_drop : Fn) (F_law_walked : Fn) (F_law_same : Fn) (F_Coming_sign : Fn) : SS :=
  sq (sAsg (eLst [eC (.int 0), eC (.int 1), eC (.int 2), eC (.int 3), eC (.int 4), eC (.int 5), eCall F_law_drop [eVar 1, eC (.int 61)]]) (gName 8)) (sq (sIf (tVal (e2 eqD (eVar 5) (e2 ixD (e2 ixD (eVar 3) (eC (.int 0))) (eC (.int 0))))) (sExp (eMt .list appendF (eVar 8) [e2 ixD (eLst [eCall F_law_drop [eVar 1, eC (.int 2001)], eC (.int 2000)]) (eCall F_law_drop [eVar 1, eC (.int 2)])])) (sNx)) (sFor (iAny (eVar 8)) (gName 9) (lb_law_v44_2 F_law_walked F_law_same F_Coming_sign)))
noncomputable def b_law_v44 (F_law_spring : Fn) (F_law_names : Fn) (F_law_equations : Fn) (F_law_drop : Fn) (F_Coming___init__ : Fn) (F_Coming_tell : Fn) (F_law_walked : Fn) (F_law_same : Fn) (F_Coming_sign : Fn) : SS :=
  sq (sAsg (eCall F_law_spring [eVar 0]) (gName 1)) (sq (sAsg (eCall F_law_names [eVar 1]) (gName 2)) (sq (sAsg (eCall F_law_equations [eVar 1, eVar 2, e2 addD (eC (.int 1)) (eCall F_law_drop [eVar 1, eC (.int 5)])]) (gName 3)) (sq (sAsg (eMake0 "Coming" F_Coming___init__) (gName 4)) (sq (sFor (iAny (eVar 3)) (gTup [gName 5, gName 6]) (lb_law_v44_1 F_Coming_tell)) (sq (sAsg (eCall dictLF [eVar 3]) (gName 7)) (sq (sLockF (lkVar 7) (sFor (iKeyF (eVar 7)) (gName 5) (lb_law_v44_3 F_law_drop F_law_walked F_law_same F_Coming_sign))) (sRet (eC (.bl true)))))))))
noncomputable def R_law_v44 : Fn := runF 1 11 (b_law_v44 R_law_spring R_law_names_v2 R_law_equations R_law_drop R_Coming___init__ R_Coming_tell R_law_walked R_law_same_v2 R_Coming_sign)
end Z
namespace Z
/-! ### walks, lists -/
theorem forL_nil {chk : Store → Prop} {g : SG} {b : SS} {ρ : Env} {S : Store} (h : chk S) : forL chk g b [] ρ S = some (.nx ρ S) := by rw [forL, if_pos h]
theorem forL_cons {chk : Store → Prop} {g : SG} {b : SS} {x : D} {r : List D} {ρ ρ1 ρ2 : Env} {S S1 S2 : Store} (h : chk S) (hg : g x ρ S = some (ρ1, S1)) (hb : b ρ1 S1 = some (.nx ρ2 S2)) : forL chk g b (x :: r) ρ S = forL chk g b r ρ2 S2 := by
  rw [forL, if_pos h, hg]
  dsimp only
  rw [hb]
theorem forL_rt {chk : Store → Prop} {g : SG} {b : SS} {x : D} {r : List D} {ρ ρ1 : Env} {S S1 S2 : Store} {d : D} (h : chk S) (hg : g x ρ S = some (ρ1, S1)) (hb : b ρ1 S1 = some (.rt d S2)) : forL chk g b (x :: r) ρ S = some (.rt d S2) := by
  rw [forL, if_pos h, hg]
  dsimp only
  rw [hb]
theorem lcL_map {chk : Store → Prop} {g : SG} {t : ST} {e : SE} {S : Store} {ρ : Env} (f : D → D) : ∀ (xs acc : List D), acc.length + xs.length ≤ LINE →
    (∀ acc, chk (S ++ [.lst acc])) →
    (∀ x ∈ xs, ∀ acc, ∃ ρ1, g x ρ (S ++ [.lst acc]) = some (ρ1, S ++ [.lst acc]) ∧ t ρ1 (S ++ [.lst acc]) = some (.ok true (S ++ [.lst acc])) ∧ e ρ1 (S ++ [.lst acc]) = some (.ok (f x) (S ++ [.lst acc]))) →
    lcL chk g t e S.length xs ρ (S ++ [.lst acc]) = some (.ok (.ref S.length) (S ++ [.lst (acc ++ xs.map f)]))
  | [], acc, _, hc, _ => by rw [lcL, if_pos (hc acc)]; simp
  | x :: xs, acc, hl, hc, h => by
    obtain ⟨ρ1, h1, h2, h3⟩ := h x (by simp) acc
    rw [List.length_cons] at hl
    rw [lcL, if_pos (hc acc), h1]
    dsimp only
    rw [h2, bq_ok, if_pos rfl, h3, bq_ok]
    have hlt : acc.length < LINE := by omega
    simp only [List.getElem?_append_right (Nat.le_refl _), Nat.sub_self, List.getElem?_cons_zero, if_pos hlt]
    have e : (S ++ [MO.lst acc]).set S.length (.lst (acc ++ [f x])) = S ++ [.lst (acc ++ [f x])] := by simp
    rw [e, lcL_map f xs (acc ++ [f x]) (by simp; omega) hc fun y hy => h y (List.mem_cons_of_mem _ hy)]
    simp
theorem lcL_filter {chk : Store → Prop} {g : SG} {t : ST} {e : SE} {S : Store} {ρ : Env} (q : D → Bool) (f : D → D) : ∀ (xs acc : List D), acc.length + xs.length ≤ LINE →
    (∀ acc, chk (S ++ [.lst acc])) →
    (∀ x ∈ xs, ∀ acc, ∃ ρ1, g x ρ (S ++ [.lst acc]) = some (ρ1, S ++ [.lst acc]) ∧ t ρ1 (S ++ [.lst acc]) = some (.ok (q x) (S ++ [.lst acc])) ∧ (q x = true → e ρ1 (S ++ [.lst acc]) = some (.ok (f x) (S ++ [.lst acc])))) →
    lcL chk g t e S.length xs ρ (S ++ [.lst acc]) = some (.ok (.ref S.length) (S ++ [.lst (acc ++ (xs.filter q).map f)]))
  | [], acc, _, hc, _ => by rw [lcL, if_pos (hc acc)]; simp
  | x :: xs, acc, hl, hc, h => by
    obtain ⟨ρ1, h1, h2, h3⟩ := h x (by simp) acc
    rw [List.length_cons] at hl
    rw [lcL, if_pos (hc acc), h1]
    dsimp only
    rw [h2, bq_ok]
    by_cases hq : q x = true
    · rw [if_pos hq, h3 hq, bq_ok]
      have hlt : acc.length < LINE := by omega
      simp only [List.getElem?_append_right (Nat.le_refl _), Nat.sub_self, List.getElem?_cons_zero, if_pos hlt]
      have e : (S ++ [MO.lst acc]).set S.length (.lst (acc ++ [f x])) = S ++ [.lst (acc ++ [f x])] := by simp
      rw [e, lcL_filter q f xs (acc ++ [f x]) (by simp; omega) hc fun y hy => h y (List.mem_cons_of_mem _ hy)]
      simp [hq]
    · rw [if_neg hq, lcL_filter q f xs acc (by omega) hc fun y hy => h y (List.mem_cons_of_mem _ hy)]
      simp [hq]
@[simp] theorem x_lc (it : SI) (g : SG) (t : ST) (e : SE) (own : List Nat) (ρ : Env) (S : Store) : eLc it g t e own ρ S = bd (it ρ S) fun J S1 => lcL J.chk g t e S1.length J.xs (wipe ρ own) (S1 ++ [.lst []]) := rfl
@[simp] theorem isi_str (s : List Nat) (S : Store) (t : Ty) : isiD t (.str s) S = some (.ok (.bl (match t with | .str => true | _ => false)) S) := rfl
@[simp] theorem isi_non (S : Store) (t : Ty) : isiD t .non S = some (.ok (.bl false) S) := rfl
@[simp] theorem isi_bl (b : Bool) (S : Store) (t : Ty) : isiD t (.bl b) S = some (.ok (.bl (match t with | .int => true | .bool => true | _ => false)) S) := rfl
@[simp] theorem isi_int (i : Int) (S : Store) (t : Ty) : isiD t (.int i) S = some (.ok (.bl (match t with | .int => true | _ => false)) S) := rfl
@[simp] theorem isi_tup (xs : List D) (S : Store) (t : Ty) : isiD t (.tup xs) S = some (.ok (.bl (match t with | .tuple => true | _ => false)) S) := rfl
theorem isi_ref {n : Nat} {xs : List D} {S : Store} (h : S[n]? = some (.lst xs)) (t : Ty) : isiD t (.ref n) S = some (.ok (.bl (match t with | .list => true | _ => false)) S) := by cases t <;> simp [isiD, isiB, h]
@[simp] theorem in_str (k : Nat) (z : List Nat) (S : Store) : inD (.str [k]) (.str z) S = some (.ok (.bl (decide (k ∈ z))) S) := rfl
@[simp] theorem nin_str (k : Nat) (z : List Nat) (S : Store) : ninD (.str [k]) (.str z) S = some (.ok (.bl (!decide (k ∈ z))) S) := rfl
theorem bls_map {α : Type} (q : α → Bool) : ∀ xs : List α, blsOf (xs.map fun x => .bl (q x)) = some (xs.map q)
  | [] => rfl
  | x :: xs => by simp [blsOf, bls_map q xs]
theorem all_ref {n : Nat} {S : Store} {α : Type} {xs : List α} {q : α → Bool} (h : S[n]? = some (.lst (xs.map fun x => .bl (q x)))) : allF [.ref n] S = some (.ok (.bl (xs.all q)) S) := by
  simp [allF, h, bls_map, List.all_map]
theorem atI_mem {α : Type} {xs : List α} {v : Int} (h0 : 0 ≤ v) (h1 : v < xs.length) : ∃ x, atI xs v = some x ∧ x ∈ xs := by
  have hv : v.toNat < xs.length := by omega
  refine ⟨xs[v.toNat], ?_, List.getElem_mem hv⟩
  simp [atI, ixN, h0, h1, hv]
theorem cut_len {α : Type} (xs : List α) (lo hi : Option Int) : (cut xs lo hi).length ≤ xs.length := by
  unfold cut
  simp
  omega
/-- what each round keeps -/
theorem forL_inv {chk : Store → Prop} {g : SG} {b : SS} (I : Env → Store → Prop) (hc : ∀ ρ S, I ρ S → chk S) : ∀ (l : List D), (∀ x ∈ l, ∀ ρ S, I ρ S → ∃ ρ1 S1, g x ρ S = some (ρ1, S1) ∧ ∃ ρ2 S2, b ρ1 S1 = some (.nx ρ2 S2) ∧ I ρ2 S2) → ∀ ρ S, I ρ S → ∃ ρ' S', forL chk g b l ρ S = some (.nx ρ' S') ∧ I ρ' S'
  | [], _, ρ, S, i => ⟨ρ, S, forL_nil (hc ρ S i), i⟩
  | x :: l, h, ρ, S, i => by
    obtain ⟨ρ1, S1, h1, ρ2, S2, h2, h3⟩ := h x (by simp) ρ S i
    rw [forL_cons (hc ρ S i) h1 h2]
    exact forL_inv I hc l (fun y hy => h y (List.mem_cons_of_mem _ hy)) ρ2 S2 h3
theorem set_self {S : Store} {i : Nat} {o : MO} (h : S[i]? = some o) : S.set i o = S := by
  apply List.ext_getElem?
  intro j
  by_cases hj : i = j
  · subst hj; rw [List.getElem?_set_self (List.getElem?_eq_some_iff.mp h).1, h]
  · rw [List.getElem?_set_ne hj]

theorem forL_ct {chk : Store → Prop} {g : SG} {b : SS} {x : D} {r : List D} {ρ ρ1 ρ2 : Env} {S S1 S2 : Store} (h : chk S) (hg : g x ρ S = some (ρ1, S1)) (hb : b ρ1 S1 = some (.ct ρ2 S2)) : forL chk g b (x :: r) ρ S = forL chk g b r ρ2 S2 := by
  rw [forL, if_pos h, hg]
  dsimp only
  rw [hb]
/-- rounds by their number -/
theorem forL_idx {chk : Store → Prop} {g : SG} {b : SS} (I : Nat → Env → Store → Prop) (hc : ∀ i ρ S, I i ρ S → chk S) : ∀ (l : List D) (n : Nat), (∀ i x, l[i]? = some x → ∀ ρ S, I (n + i) ρ S → ∃ ρ1 S1, g x ρ S = some (ρ1, S1) ∧ ∃ ρ2 S2, (b ρ1 S1 = some (.nx ρ2 S2) ∨ b ρ1 S1 = some (.ct ρ2 S2)) ∧ I (n + i + 1) ρ2 S2) →
    ∀ ρ S, I n ρ S → ∃ ρ' S', forL chk g b l ρ S = some (.nx ρ' S') ∧ I (n + l.length) ρ' S'
  | [], n, _, ρ, S, i => ⟨ρ, S, forL_nil (hc n ρ S i), i⟩
  | x :: l, n, h, ρ, S, i => by
    obtain ⟨ρ1, S1, h1, ρ2, S2, h2, h3⟩ := h 0 x rfl ρ S i
    obtain ⟨ρ', S', h4, h5⟩ := forL_idx I hc l (n + 1) (fun j y hy ρ S i' => by
      have := h (j + 1) y (by simpa using hy) ρ S (by rw [show n + (j + 1) = n + 1 + j by omega]; exact i')
      rw [show n + (j + 1) + 1 = n + 1 + j + 1 by omega] at this
      exact this) ρ2 S2 h3
    refine ⟨ρ', S', ?_, by rw [List.length_cons, show n + (l.length + 1) = n + 1 + l.length by omega]; exact h5⟩
    rcases h2 with h2 | h2
    · rw [forL_cons (hc n ρ S i) h1 h2, h4]
    · rw [forL_ct (hc n ρ S i) h1 h2, h4]
/-- rounds of range(n) -/
theorem forL_range {g : SG} {b : SS} {n : Nat} (I : Nat → Env → Store → Prop) (h : ∀ k, k < n → ∀ ρ S, I k ρ S → ∃ ρ1 S1, g (.int (k : Nat)) ρ S = some (ρ1, S1) ∧ ∃ ρ2 S2, (b ρ1 S1 = some (.nx ρ2 S2) ∨ b ρ1 S1 = some (.ct ρ2 S2)) ∧ I (k + 1) ρ2 S2) (ρ : Env) (S : Store) (i : I 0 ρ S) :
    ∃ ρ' S', forL (fun _ => True) g b ((List.range n).map fun (k : Nat) => .int k) ρ S = some (.nx ρ' S') ∧ I n ρ' S' := by
  have := forL_idx (chk := fun _ => True) (g := g) (b := b) I (fun _ _ _ _ => trivial) ((List.range n).map fun (k : Nat) => .int k) 0 (fun i x hx ρ S j => by
    rw [List.getElem?_map] at hx
    obtain ⟨k, hk, rfl⟩ := Option.map_eq_some_iff.mp hx
    have hi : i < n := by simpa using (List.getElem?_eq_some_iff.mp hk).1
    rw [List.getElem?_range hi] at hk
    cases hk
    rw [Nat.zero_add] at j ⊢
    exact h i hi ρ S j) ρ S i
  simpa using this
theorem get_app {S : Store} {i : Nat} {o : MO} (h : S[i]? = some o) (T : Store) : (S ++ T)[i]? = some o := by rw [List.getElem?_append_left (List.getElem?_eq_some_iff.mp h).1]; exact h
theorem atI_nat {α : Type} {xs : List α} {k : Nat} {x : α} (h : xs[k]? = some x) : atI xs (k : Int) = some x := by
  have hk := (List.getElem?_eq_some_iff.mp h).1
  have := (List.getElem?_eq_some_iff.mp h).2
  simp [atI, ixN, hk, this]
theorem atI_int {α : Type} {xs : List α} {k : Int} {x : α} (h0 : 0 ≤ k) (h : xs[k.toNat]? = some x) : atI xs k = some x := by
  have := atI_nat h
  rwa [Int.toNat_of_nonneg h0] at this
theorem sWh_rt {t : ST} {b : SS} {ρ : Env} {S S1 S2 : Store} {d : D} (h : t ρ S = some (.ok true S1)) (hb : b ρ S1 = some (.rt d S2)) : sWh t b ρ S = some (.rt d S2) := by
  rw [sWh, h]
  dsimp only
  rw [hb]
theorem sWh_go {t : ST} {b : SS} {ρ ρ2 : Env} {S S1 S2 : Store} (h : t ρ S = some (.ok true S1)) (hb : b ρ S1 = some (.nx ρ2 S2)) : sWh t b ρ S = sWh t b ρ2 S2 := by
  conv => lhs; rw [sWh]
  rw [h]
  dsimp only
  rw [hb]
theorem sWh_stop {t : ST} {b : SS} {ρ : Env} {S S1 : Store} (h : t ρ S = some (.ok false S1)) : sWh t b ρ S = some (.nx ρ S1) := by
  rw [sWh, h]
theorem pick_str {names : List (List Nat)} (h : 0 < names.length) (x : Int) : ∃ s, s ∈ names ∧ atI (names.map D.str) (x % (names.length : Int)) = some (.str s) := by
  have v0 := Int.emod_nonneg x (b := (names.length : Int)) (by omega)
  have v1 := Int.emod_lt_of_pos x (b := (names.length : Int)) (by omega)
  obtain ⟨y, h1, h2⟩ := atI_mem (xs := names.map D.str) v0 (by simpa using v1)
  obtain ⟨s, h3, rfl⟩ := List.mem_map.mp h2
  exact ⟨s, h3, h1⟩
theorem mod_nat (x : Int) {m : Int} (h : 0 < m) : ∃ k : Nat, x % m = (k : Int) ∧ (k : Int) < m := ⟨(x % m).toNat, by rw [Int.toNat_of_nonneg (Int.emod_nonneg x (by omega))], by have := Int.emod_lt_of_pos x h; have := Int.emod_nonneg x (b := m) (by omega); omega⟩
theorem cut_map {α β : Type} (f : α → β) (xs : List α) (lo hi : Option Int) : cut (xs.map f) lo hi = (cut xs lo hi).map f := by
  unfold cut; simp [List.map_drop, List.map_take]
theorem cut_take {α : Type} (xs : List α) (v : Nat) : cut xs none (some (v : Int)) = xs.take v := by
  unfold cut sIx
  have : ¬ (v : Int) < 0 := by omega
  simp only [this, if_false, List.drop_zero, Nat.sub_zero, Int.toNat_natCast]
  rw [Nat.min_comm, ← List.take_take]
  exact List.take_of_length_le (by simp; omega)
end Z
namespace Z
/-! ### the spring of drawn numbers -/
structure Spr where
  cells : List Int
  carry : Int
  mixed : Int
def Spr.ok (s : Spr) : Prop := 0 ≤ s.carry ∧ 0 ≤ s.mixed ∧ s.mixed < 2147483647
/-- the spring's next number below many -/
def Spr.drop (s : Spr) (many : Int) : Int × Spr :=
  match s.carry == 0, s.cells with
  | true, cell :: r =>
    let a := if cell < 0 then -cell else cell
    if a < 1000000000000000000 then (cell % many, ⟨r, 0, s.mixed⟩)
    else (a % many, ⟨r, a / many, s.mixed⟩)
  | true, [] => let m := (s.mixed * s.mixed + 7919) % 2147483647; (m / 8 % many, ⟨[], 0, m⟩)
  | false, cs => (s.carry % many, ⟨cs, s.carry / many, s.mixed⟩)
def intsOf : List D → Option (List Int)
  | [] => some []
  | .int i :: r => (intsOf r).map (i :: ·)
  | _ :: _ => none
theorem intsOf_map : ∀ ns : List Int, intsOf (ns.map .int) = some ns
  | [] => rfl
  | n :: r => by simp [intsOf, intsOf_map r]
theorem intsOf_eq : ∀ {ds : List D} {ns : List Int}, intsOf ds = some ns → ds = ns.map .int
  | [], ns, h => by cases h; rfl
  | d :: ds, ns, h => by
    cases d with
    | int i =>
      rw [intsOf] at h
      obtain ⟨ms, h1, rfl⟩ := Option.map_eq_some_iff.mp h
      rw [intsOf_eq h1]; rfl
    | _ => cases h
/-- a spring stands at p, its cells at c -/
structure SprAt (S : Store) (p c : Nat) (s : Spr) : Prop where
  ne : p ≠ c
  hp : S[p]? = some (.lst [.ref c, .int s.carry, .int s.mixed])
  hc : S[c]? = some (.lst (s.cells.map .int))
  ok : s.ok
def putSpr (S : Store) (p c : Nat) (s : Spr) : Store := (S.set c (.lst (s.cells.map .int))).set p (.lst [.ref c, .int s.carry, .int s.mixed])
instance (s : Spr) : Decidable s.ok := by unfold Spr.ok; infer_instance
/-- the spring that stands at p -/
def sprOf (S : Store) (p : Nat) : Option (Nat × Spr) := match S[p]? with
  | some (.lst [.ref c, .int k, .int m]) => (match S[c]? with
    | some (.lst xs) => (match intsOf xs with
      | some cells => if p ≠ c ∧ (Spr.mk cells k m).ok then some (c, ⟨cells, k, m⟩) else none
      | none => none)
    | _ => none)
  | _ => none
theorem sprOf_at {S : Store} {p c : Nat} {s : Spr} (h : SprAt S p c s) : sprOf S p = some (c, s) := by
  unfold sprOf
  rw [h.hp]
  dsimp only
  rw [h.hc]
  dsimp only
  rw [intsOf_map]
  dsimp only
  rw [if_pos ⟨h.ne, h.ok⟩]
theorem at_sprOf {S : Store} {p c : Nat} {s : Spr} (h : sprOf S p = some (c, s)) : SprAt S p c s := by
  unfold sprOf at h
  split at h
  · rename_i c' k m h1
    split at h
    · rename_i xs h2
      split at h
      · rename_i cells h3
        split at h
        · rename_i h4
          cases h
          exact ⟨h4.1, h1, by rw [h2, intsOf_eq h3], h4.2⟩
        · cases h
      · cases h
    · cases h
  · cases h
/-- what only draws: its value and the spring behind it -/
def drawn (S : Store) (p : Nat) (f : Spr → Option (D × Spr)) : M D := match sprOf S p with
  | some (c, s) => (match f s with
    | some (d, s') => some (.ok d (putSpr S p c s'))
    | none => none)
  | none => none
theorem drawn_eq {S : Store} {p c : Nat} {s s' : Spr} {d : D} {f : Spr → Option (D × Spr)} (h : SprAt S p c s) (e : f s = some (d, s')) : drawn S p f = some (.ok d (putSpr S p c s')) := by
  unfold drawn
  rw [sprOf_at h]
  dsimp only
  rw [e]
theorem drawn_ne {S : Store} {p : Nat} {f : Spr → Option (D × Spr)} (h : drawn S p f ≠ none) : ∃ c s d s', SprAt S p c s ∧ f s = some (d, s') ∧ drawn S p f = some (.ok d (putSpr S p c s')) := by
  unfold drawn at h ⊢
  split at h
  · rename_i c s h1
    split at h
    · rename_i d s' h2
      exact ⟨c, s, d, s', at_sprOf h1, h2, rfl⟩
    · exact absurd rfl h
  · exact absurd rfl h
theorem SprAt.lt {S : Store} {p c : Nat} {s : Spr} (h : SprAt S p c s) : p < S.length ∧ c < S.length := ⟨(List.getElem?_eq_some_iff.mp h.hp).1, (List.getElem?_eq_some_iff.mp h.hc).1⟩
theorem SprAt.put {S : Store} {p c : Nat} {s s' : Spr} (h : SprAt S p c s) (o : s'.ok) : SprAt (putSpr S p c s') p c s' := by
  obtain ⟨l1, l2⟩ := h.lt
  refine ⟨h.ne, ?_, ?_, o⟩
  · unfold putSpr; rw [List.getElem?_set_self (by simpa using l1)]
  · unfold putSpr; rw [List.getElem?_set_ne h.ne, List.getElem?_set_self l2]
theorem SprAt.same {S : Store} {p c : Nat} {s : Spr} (h : SprAt S p c s) : putSpr S p c s = S := by
  unfold putSpr
  rw [set_self h.hc, set_self h.hp]
theorem putSpr_put (S : Store) {p c : Nat} (h : p ≠ c) (s s' : Spr) : putSpr (putSpr S p c s) p c s' = putSpr S p c s' := by
  unfold putSpr
  rw [List.set_comm _ _ h, List.set_set, List.set_set]
theorem SprAt.cellsPut {S : Store} {p c : Nat} {s : Spr} (h : SprAt S p c s) (cs : List Int) : S.set c (.lst (cs.map .int)) = putSpr S p c ⟨cs, s.carry, s.mixed⟩ := by
  unfold putSpr
  rw [set_self (S := S.set c _)]
  rw [List.getElem?_set_ne h.ne.symm]; exact h.hp
theorem drop_ok {s : Spr} (h : s.ok) {many : Int} (h1 : 0 < many) : (s.drop many).2.ok := by
  obtain ⟨a, b, c⟩ := h
  have hm : 0 ≤ (s.mixed * s.mixed + 7919) % 2147483647 ∧ (s.mixed * s.mixed + 7919) % 2147483647 < 2147483647 := ⟨Int.emod_nonneg _ (by decide), Int.emod_lt_of_pos _ (by decide)⟩
  unfold Spr.drop
  split
  · rename_i cell r _ _
    by_cases hz : (if cell < 0 then -cell else cell) < 1000000000000000000
    · simp only [hz, if_true]; exact ⟨Int.le_refl 0, b, c⟩
    · simp only [hz, if_false]; exact ⟨Int.ediv_nonneg (by show 0 ≤ (if cell < 0 then -cell else cell); split <;> omega) (by omega), b, c⟩
  · exact ⟨Int.le_refl 0, hm.1, hm.2⟩
  · exact ⟨Int.ediv_nonneg a (by omega), b, c⟩
theorem ten18 : (10:Int) ^ (18:Int).toNat = 1000000000000000000 := by decide
theorem s_law_drop {S : Store} {p c : Nat} {s : Spr} (h : SprAt S p c s) {many : Int} (h1 : 0 < many) (h2 : many.natAbs.log2 < 9000) : R_law_drop [.ref p, .int many] S = some (.ok (.int (s.drop many).1) (putSpr S p c (s.drop many).2)) := by
  obtain ⟨lp, lc⟩ := h.lt
  have hne := h.ne
  have hne' := h.ne.symm
  obtain ⟨cells, carry, mixed⟩ := s
  have hk : 0 ≤ carry := h.ok.1
  have hp : S[p] = .lst [.ref c, .int carry, .int mixed] := by have := h.hp; rw [List.getElem?_eq_getElem lp] at this; simpa using this
  have hc : S[c] = .lst (cells.map .int) := by have := h.hc; rw [List.getElem?_eq_getElem lc] at this; simpa using this
  have hm : small mixed := (small_iff mixed).mpr (by have := h.ok; have h4 := this.2.1; have h5 := this.2.2; dsimp only at h4 h5; omega)
  have e1 : ∀ X, (S.set c X).set p (.lst [.ref c, .int carry, .int mixed]) = S.set c X := fun X => set_self (by rw [List.getElem?_set_ne hne']; exact h.hp)
  have e2 : ∀ Y, (S.set c (.lst (cells.map .int))).set p Y = S.set p Y := fun Y => by rw [set_self h.hc]
  unfold R_law_drop
  rw [run_eq (n := 2) _ _ rfl]
  unfold b_law_drop
  by_cases c0 : carry = 0
  · subst c0
    cases cells with
    | nil => simp at e2; simp [e2, h.hp, h.hc, hp, hc, lp, lc, hne, hne', atI, ixN, h1, h2, hm, Spr.drop, putSpr]
    | cons x xs =>
      by_cases hx : (if x < 0 then -x else x) < 1000000000000000000
      · simp [h.hp, h.hc, hp, hc, lp, lc, hne, hne', atI, ixN, h1, h2, hm, Spr.drop, putSpr, small_iff (10 : Int), hx, e1]
      · by_cases hy : 0 < (if x < 0 then -x else x)
        · simp [h.hp, h.hc, hp, hc, lp, lc, hne, hne', atI, ixN, h1, h2, hm, Spr.drop, putSpr, small_iff (10 : Int), hx, hy]
        · exfalso; omega
  · have h0 : 0 < carry := by omega
    have hb : (carry == 0) = false := by simp [c0]
    simp [h.hp, h.hc, hp, hc, lp, lc, hne, hne', atI, ixN, h1, h2, hm, Spr.drop, putSpr, c0, h0, hb, e2]
/-! ### draws -/
def Sp (S : Store) (p c : Nat) : Prop := ∃ s, SprAt S p c s
theorem Sp.ne {S : Store} {p c : Nat} (h : Sp S p c) : p ≠ c := let ⟨_, h⟩ := h; h.ne
theorem Sp.lt {S : Store} {p c : Nat} (h : Sp S p c) : p < S.length ∧ c < S.length := let ⟨_, h⟩ := h; h.lt
/-- all old objects but the spring stand -/
structure Fr (p c : Nat) (S S' : Store) : Prop where
  le : S.length ≤ S'.length
  old : ∀ i, i < S.length → i ≠ p → i ≠ c → S'[i]? = S[i]?
theorem Fr.refl {p c : Nat} {S : Store} : Fr p c S S := ⟨Nat.le_refl _, fun _ _ _ _ => rfl⟩
theorem Fr.trans {p c : Nat} {S S' S'' : Store} (a : Fr p c S S') (b : Fr p c S' S'') : Fr p c S S'' := ⟨Nat.le_trans a.le b.le, fun i h1 h2 h3 => by rw [b.old i (Nat.lt_of_lt_of_le h1 a.le) h2 h3, a.old i h1 h2 h3]⟩
theorem Fr.app {p c : Nat} {S G : Store} : Fr p c S (S ++ G) := ⟨by simp, fun i h _ _ => List.getElem?_append_left h⟩
theorem Sp.app {p c : Nat} {S G : Store} (h : Sp S p c) : Sp (S ++ G) p c := by
  obtain ⟨s, h⟩ := h
  obtain ⟨h1, h2⟩ := h.lt
  exact ⟨s, h.ne, by rw [List.getElem?_append_left h1]; exact h.hp, by rw [List.getElem?_append_left h2]; exact h.hc, h.ok⟩
theorem drop_lt {s : Spr} (h : s.ok) {many : Int} (h1 : 0 < many) : 0 ≤ (s.drop many).1 ∧ (s.drop many).1 < many := by
  have k : ∀ x : Int, 0 ≤ x % many ∧ x % many < many := fun x => ⟨Int.emod_nonneg _ (by omega), Int.emod_lt_of_pos _ h1⟩
  unfold Spr.drop
  split
  · rename_i cell _ _ _
    by_cases hz : (if cell < 0 then -cell else cell) < 1000000000000000000
    · simp only [hz, if_true]; exact k _
    · simp only [hz, if_false]; exact k _
  · exact k _
  · exact k _
theorem s_drop {S : Store} {p c : Nat} (h : Sp S p c) (many : Int) (h1 : 0 < many) (h2 : many < 18446744073709551616) : ∃ v S', R_law_drop [.ref p, .int many] S = some (.ok (.int v) S') ∧ 0 ≤ v ∧ v < many ∧ Sp S' p c ∧ S'.length = S.length ∧ Fr p c S S' := by
  obtain ⟨s, h⟩ := h
  obtain ⟨a, b⟩ := drop_lt h.ok h1
  have hl : (putSpr S p c (s.drop many).2).length = S.length := by unfold putSpr; simp
  exact ⟨_, _, s_law_drop h h1 (lg_lt (by omega)), a, b, ⟨_, h.put (drop_ok h.ok h1)⟩, hl, Nat.le_of_eq hl.symm, fun i _ g1 g2 => by unfold putSpr; rw [List.getElem?_set_ne (Ne.symm g1), List.getElem?_set_ne (Ne.symm g2)]⟩
def mixL : List Int → Int → Int
  | [], m => m
  | n :: r, m => mixL r ((m * 69621 + n) % 2147483647)
theorem mixL_ok : ∀ (ns : List Int) (m : Int), 0 ≤ m → m < 2147483647 → 0 ≤ mixL ns m ∧ mixL ns m < 2147483647
  | [], m, a, b => ⟨a, b⟩
  | n :: r, m, a, b => mixL_ok r _ (Int.emod_nonneg _ (by decide)) (Int.emod_lt_of_pos _ (by decide))
theorem spring_loop {A : SS} (hA : ∀ d m n S, small m → A [some d, some (.int m), some (.int n)] S = some (.nx [some d, some (.int ((m * 69621 + n) % 2147483647)), some (.int n)] S)) {S : Store} {d : D} : ∀ (ns : List Int) (m : Int) (o : Option D), 0 ≤ m → m < 2147483647 →
    ∃ o', forL (fun _ => True) (gName 2) A (ns.map .int) [some d, some (.int m), o] S = some (.nx [some d, some (.int (mixL ns m)), o'] S)
  | [], m, o, a, b => ⟨o, by rw [List.map_nil, forL_nil trivial]; rfl⟩
  | n :: r, m, o, a, b => by
    obtain ⟨o', h⟩ := spring_loop hA r _ (some (.int n)) (Int.emod_nonneg (m * 69621 + n) (by decide)) (Int.emod_lt_of_pos (m * 69621 + n) (by decide : (0:Int) < 2147483647))
    refine ⟨o', ?_⟩
    rw [List.map_cons, forL_cons (ρ1 := [some d, some (.int m), some (.int n)]) trivial rfl (hA d m n S ((small_iff m).mpr (by omega)))]
    exact h
theorem s_law_spring (ns : List Int) (S : Store) : ∃ S', R_law_spring [.fl (ns.map .int)] S = some (.ok (.ref (S.length + 1)) S') ∧ SprAt S' (S.length + 1) S.length ⟨ns, 0, mixL ns 987654321⟩ ∧ S'.length = S.length + 2 ∧ Fr (S.length + 1) S.length S S' := by
  obtain ⟨o', h⟩ := spring_loop (A := lb_law_spring_1) (fun d m n S h => by simp [lb_law_spring_1, h]) (S := S) (d := .fl (ns.map .int)) ns 987654321 none (by decide) (by decide)
  obtain ⟨m1, m2⟩ := mixL_ok ns 987654321 (by decide) (by decide)
  refine ⟨S ++ [.lst (ns.map .int), .lst [.ref S.length, .int 0, .int (mixL ns 987654321)]], ?_, ⟨by simp, by simp, by simp, by simp, m1, m2⟩, by simp, Fr.app⟩
  unfold R_law_spring
  rw [run_eq (n := 1) _ _ rfl]
  unfold b_law_spring
  simp [h]
end Z
namespace Z
/-! ### terms -/
inductive Tm where
  | row (s : List Nat) | sign (i : Nat) (t : Tm) | beh (t : Tm) | zip (a b : Tm)
abbrev wRow : List Nat := [114, 111, 119]
abbrev wSign : List Nat := [115, 105, 103, 110]
abbrev wBeh : List Nat := [98, 101, 104, 105, 110, 100]
abbrev wZip : List Nat := [122, 105, 112]
abbrev wCall : List Nat := [99, 97, 108, 108]
def Tm.d : Tm → D
  | .row s => .tup [.str wRow, .str s]
  | .sign i t => .tup [.str wSign, .int i, t.d]
  | .beh t => .tup [.str wBeh, t.d]
  | .zip a b => .tup [.str wZip, a.d, b.d]
def Tm.depth : Tm → Nat
  | .row _ => 1
  | .sign _ t => t.depth + 1
  | .beh t => t.depth + 1
  | .zip a b => max a.depth b.depth + 1
def Tm.pd : Tm → PD
  | .row s => .tup [.str wRow, .str s]
  | .sign i t => .tup [.str wSign, .int i, t.pd]
  | .beh t => .tup [.str wBeh, t.pd]
  | .zip a b => .tup [.str wZip, a.pd, b.pd]
theorem Tm.d_pd (g : Nat → Option PD) : ∀ t : Tm, t.d.pd g = some t.pd
  | .row s => by simp [Tm.d, Tm.pd, D.pd, pdL]
  | .sign i t => by simp [Tm.d, Tm.pd, D.pd, pdL, Tm.d_pd g t]
  | .beh t => by simp [Tm.d, Tm.pd, D.pd, pdL, Tm.d_pd g t]
  | .zip a b => by simp [Tm.d, Tm.pd, D.pd, pdL, Tm.d_pd g a, Tm.d_pd g b]
theorem Tm.pd_dep : ∀ t : Tm, t.pd.dep = t.depth
  | .row s => by simp [Tm.pd, Tm.depth, PD.dep, depL]
  | .sign i t => by simp [Tm.pd, Tm.depth, PD.dep, depL, Tm.pd_dep t]
  | .beh t => by simp [Tm.pd, Tm.depth, PD.dep, depL, Tm.pd_dep t]
  | .zip a b => by simp [Tm.pd, Tm.depth, PD.dep, depL, Tm.pd_dep a, Tm.pd_dep b]
mutual
theorem PD.eqv_refl : ∀ x : PD, x.eqv x = true
  | .non => rfl
  | .bl b => by simp [PD.eqv]
  | .int i => by simp [PD.eqv]
  | .str s => by simp [PD.eqv]
  | .lst xs => by rw [PD.eqv]; exact eqvL_refl xs
  | .tup xs => by rw [PD.eqv]; exact eqvL_refl xs
theorem eqvL_refl : ∀ xs : List PD, eqvL xs xs = true
  | [] => rfl
  | x :: xs => by rw [eqvL, PD.eqv_refl x, eqvL_refl xs]; rfl
end
theorem ne_same {d : D} {S : Store} {x : PD} (h : dat S d = some x) (hd : x.dep ≤ 64) : neD d d S = some (.ok (.bl false) S) := by
  unfold neD; rw [h]; simp [hd, PD.eqv_refl]
theorem eq_same {d : D} {S : Store} {x : PD} (h : dat S d = some x) (hd : x.dep ≤ 64) : eqD d d S = some (.ok (.bl true) S) := by
  unfold eqD; rw [h]; simp [hd, PD.eqv_refl]
/-- on what the sign at n of a term hangs -/
def hang : Tm → Nat → D
  | .row s, n => .tup [.str wCall, .str s, .int n]
  | .sign i _, 0 => .tup [.str wSign, .int i]
  | .sign _ t, n + 1 => hang t n
  | .beh t, n => hang t (n + 1)
  | .zip a b, n => if n % 2 = 0 then hang a (n / 2) else hang b (n / 2)
theorem hang_form : ∀ (t : Tm) (n : Nat), (∃ i : Nat, hang t n = .tup [.str wSign, .int i]) ∨ ∃ (s : List Nat) (k : Nat), hang t n = .tup [.str wCall, .str s, .int k]
  | .row s, n => .inr ⟨s, n, rfl⟩
  | .sign i _, 0 => .inl ⟨i, rfl⟩
  | .sign _ t, n + 1 => hang_form t n
  | .beh t, n => hang_form t (n + 1)
  | .zip a b, n => by
    rw [hang]
    split
    · exact hang_form a _
    · exact hang_form b _
theorem hang_dat (t : Tm) (n : Nat) (S : Store) : ∃ x, dat S (hang t n) = some x ∧ x.dep ≤ 64 := by
  rcases hang_form t n with ⟨i, h⟩ | ⟨s, k, h⟩
  · rw [h]; exact ⟨.tup [.str wSign, .int i], by simp [dat, D.pd, pdL], by simp [PD.dep, depL]⟩
  · rw [h]; exact ⟨.tup [.str wCall, .str s, .int k], by simp [dat, D.pd, pdL], by simp [PD.dep, depL]⟩
noncomputable abbrev fW : SS := sWh (tVal (e2 neD (e2 ixD (eVar 0) (eC (.int 0))) (eC (.str [114, 111, 119])))) lb_followed_1
theorem followed_loop (S : Store) : ∀ (t : Tm) (n : Nat) (z : Bool), (∃ z', fW [some t.d, some (.int n), some (.bl z)] S = some (.rt (.tup [hang t n, .bl z']) S)) ∨
    ∃ s k z', hang t n = .tup [.str wCall, .str s, .int (k : Nat)] ∧ fW [some t.d, some (.int n), some (.bl z)] S = some (.nx [some (Tm.row s).d, some (.int k), some (.bl z')] S)
  | .row s, n, z => .inr ⟨s, n, z, rfl, sWh_stop (by simp [lb_followed_1, Tm.d, atI, ixN])⟩
  | .sign i t, 0, z => .inl ⟨z, sWh_rt (S1 := S) (by simp [lb_followed_1, Tm.d, atI, ixN]) (by simp [lb_followed_1, Tm.d, atI, ixN, hang])⟩
  | .sign i t, n + 1, z => by
    have e : fW [some (Tm.sign i t).d, some (.int ((n + 1 : Nat) : Int)), some (.bl z)] S = fW [some t.d, some (.int n), some (.bl z)] S :=
      sWh_go (S1 := S) (by simp [lb_followed_1, Tm.d, atI, ixN]) (by
        have h0 : ¬ ((n : Int) + 1 = 0) := by omega
        have h1 : (n : Int) + 1 - 1 = n := by omega
        simp [lb_followed_1, Tm.d, atI, ixN, h0, h1])
    rw [e, hang]
    exact followed_loop S t n z
  | .beh t, n, z => by
    have e : fW [some (Tm.beh t).d, some (.int n), some (.bl z)] S = fW [some t.d, some (.int ((n + 1 : Nat) : Int)), some (.bl z)] S :=
      sWh_go (S1 := S) (by simp [lb_followed_1, Tm.d, atI, ixN]) (by simp [lb_followed_1, Tm.d, atI, ixN])
    rw [e, hang]
    exact followed_loop S t (n + 1) z
  | .zip a b, n, z => by
    have e : fW [some (Tm.zip a b).d, some (.int n), some (.bl z)] S = fW [some (if n % 2 = 0 then a else b).d, some (.int ((n / 2 : Nat) : Int)), some (.bl true)] S :=
      sWh_go (S1 := S) (by simp [lb_followed_1, Tm.d, atI, ixN]) (by
        rcases Nat.mod_two_eq_zero_or_one n with h | h
        · have e1 : (1 + (n : Int) % 2) = ((1 : Nat) : Int) := by omega
          simp [lb_followed_1, Tm.d, h, e1, at0]
          simp [atI, ixN]
        · have e1 : (1 + (n : Int) % 2) = ((2 : Nat) : Int) := by omega
          simp [lb_followed_1, Tm.d, h, e1, at0]
          simp [atI, ixN])
    rw [e, hang]
    split
    · exact followed_loop S a (n / 2) true
    · exact followed_loop S b (n / 2) true
theorem s_followed (t : Tm) (n : Nat) (S : Store) : ∃ z : Bool, R_followed [t.d, .int n] S = some (.ok (.tup [hang t n, .bl z]) S) := by
  unfold R_followed
  rw [run_eq (n := 2) _ _ rfl]
  unfold b_followed
  rcases followed_loop S t n false with ⟨z', h⟩ | ⟨s, k, z', h1, h⟩
  · refine ⟨z', ?_⟩
    simp [h]
  · refine ⟨z', ?_⟩
    simp [h, Tm.d, atI, ixN, h1]
theorem s_hangs (t : Tm) (n : Nat) (S : Store) : R_hangs [t.d, .int n] S = some (.ok (hang t n) S) := by
  obtain ⟨z, h⟩ := s_followed t n S
  unfold R_hangs
  rw [run_eq (n := 2) _ _ rfl]
  unfold b_hangs
  simp [h, at0]
def ent (e : List Nat × Tm) : D := .tup [.str e.1, e.2.d]
abbrev bookD (es : List (List Nat × Tm)) : D := .tup (es.map ent)
end Z
namespace Z
/-! ### terms drawn from the spring -/
structure Nm (S : Store) (p c l : Nat) (names : List (List Nat)) : Prop where
  at' : S[l]? = some (.lst (names.map .str))
  np : l ≠ p
  nc : l ≠ c
  pos : 0 < names.length
  few : names.length ≤ 100
theorem Nm.fr {S S' : Store} {p c l : Nat} {names : List (List Nat)} (h : Nm S p c l names) (f : Fr p c S S') : Nm S' p c l names := ⟨by rw [f.old l (List.getElem?_eq_some_iff.mp h.at').1 h.np h.nc]; exact h.at', h.np, h.nc, h.pos, h.few⟩
/-- signs below 10, names of the given ones -/
def Tm.In (ns : List (List Nat)) : Tm → Prop
  | .row s => s ∈ ns
  | .sign i t => i < 10 ∧ t.In ns
  | .beh t => t.In ns
  | .zip a b => a.In ns ∧ b.In ns
theorem drop_nat {S : Store} {p c : Nat} (h : Sp S p c) (many : Nat) (h1 : 0 < many) (h2 : many < 1000000000) : ∃ (v : Nat) (S' : Store), R_law_drop [.ref p, .int many] S = some (.ok (.int v) S') ∧ v < many ∧ Sp S' p c ∧ S'.length = S.length ∧ Fr p c S S' := by
  obtain ⟨v, S', e, v0, v1, hs, hl, hf⟩ := s_drop h many (by omega) (by omega)
  exact ⟨v.toNat, S', by rw [Int.toNat_of_nonneg v0]; exact e, by omega, hs, hl, hf⟩
/-- a drawn name -/
theorem pick_nm {S : Store} {p c l : Nat} {names : List (List Nat)} (hn : Nm S p c l names) (hs : Sp S p c) : ∃ (v : Nat) (s : List Nat) (S' : Store), R_law_drop [.ref p, .int names.length] S = some (.ok (.int v) S') ∧ S'[l]? = some (.lst (names.map .str)) ∧ atI (names.map D.str) (v : Int) = some (.str s) ∧ s ∈ names ∧ Sp S' p c ∧ S'.length = S.length ∧ Fr p c S S' := by
  obtain ⟨v, S', e, hv, h1, h2, h3⟩ := drop_nat hs names.length hn.pos (by have := hn.few; omega)
  exact ⟨v, names[v], S', e, (hn.fr h3).at', atI_nat (by simp [hv]), List.getElem_mem hv, h1, h2, h3⟩
theorem s_law_term {p c l : Nat} {names : List (List Nat)} : ∀ (d : Nat) (deep : Nat) (S : Store), deep ≤ d + 1 → Nm S p c l names → Sp S p c →
    ∃ t S', R_law_term (d + 1) [.ref p, .ref l, .int deep] S = some (.ok (Tm.d t) S') ∧ t.In names ∧ t.depth ≤ max deep 1 ∧ Sp S' p c ∧ Fr p c S S' := by
  intro d
  induction d with
  | zero =>
    intro deep S hd hn hs
    obtain ⟨v, S1, e1, hv, hs1, hl1, f1⟩ := drop_nat hs 7 (by decide) (by decide)
    obtain ⟨w, s, S2, e2', g2, a2, m2, hs2, hl2, f2⟩ := pick_nm (hn.fr f1) hs1
    refine ⟨.row s, S2, ?_, m2, by simp [Tm.depth]; omega, hs2, f1.trans f2⟩
    have hdp : ¬ (1 : Int) < deep := by omega
    have g1 := (hn.fr f1).at'
    unfold R_law_term
    rw [run_eq (n := 3) _ _ rfl]
    unfold b_law_term
    simp at e1
    simp [e1, hdp, g1, e2', g2, a2, Tm.d]
  | succ d ih =>
    intro deep S hd hn hs
    obtain ⟨v, S1, e1, hv, hs1, hl1, f1⟩ := drop_nat hs 7 (by decide) (by decide)
    have hn1 := hn.fr f1
    have g1 := hn1.at'
    simp at e1
    obtain ⟨w, hw, hw7⟩ : ∃ w : Nat, (v : Int) * (if (1 : Int) < deep then 1 else 0) = (w : Int) ∧ (w = 0 ∨ 1 < deep) := by
      by_cases h : 1 < deep
      · exact ⟨v, by rw [if_pos (by omega)]; omega, .inr h⟩
      · exact ⟨0, by rw [if_neg (by omega)]; omega, .inl rfl⟩
    have hsv : small (v : Int) := small_nat (by omega)
    by_cases c2 : (w : Int) < 2
    · obtain ⟨x, s, S2, e2', g2, a2, m2, hs2, hl2, f2⟩ := pick_nm hn1 hs1
      refine ⟨.row s, S2, ?_, m2, by simp [Tm.depth]; omega, hs2, f1.trans f2⟩
      unfold R_law_term
      rw [run_eq (n := 3) _ _ rfl]
      unfold b_law_term
      simp [e1, hsv, hw, c2, g1, e2', g2, a2, Tm.d]
    have hdeep : 1 < deep := by rcases hw7 with h | h <;> omega
    have hd1 : (deep : Int) - 1 = ((deep - 1 : Nat) : Int) := by omega
    have hwv : (v : Int) = w := by rw [← hw, if_pos (by omega)]; omega
    by_cases c4 : (w : Int) < 4
    · obtain ⟨x, S2, e2', hx, hs2, hl2, f2⟩ := drop_nat hs1 10 (by decide) (by decide)
      obtain ⟨t, S3, e3, i3, d3, hs3, f3⟩ := ih (deep - 1) S2 (by omega) (hn1.fr f2) hs2
      refine ⟨.sign x t, S3, ?_, ⟨hx, i3⟩, by simp [Tm.depth]; omega, hs3, (f1.trans f2).trans f3⟩
      unfold R_law_term
      rw [run_eq (n := 3) _ _ rfl]
      unfold b_law_term
      simp at e2'
      rw [← hd1] at e3
      simp [e1, hsv, hw, c2, c4, e2', e3, Tm.d]
    by_cases c5 : w = 4
    · obtain ⟨t, S3, e3, i3, d3, hs3, f3⟩ := ih (deep - 1) S1 (by omega) hn1 hs1
      refine ⟨.beh t, S3, ?_, i3, by simp [Tm.depth]; omega, hs3, f1.trans f3⟩
      unfold R_law_term
      rw [run_eq (n := 3) _ _ rfl]
      unfold b_law_term
      rw [← hd1] at e3
      subst c5
      simp [e1, hsv, hw, e3, Tm.d]
    · obtain ⟨t, S3, e3, i3, d3, hs3, f3⟩ := ih (deep - 1) S1 (by omega) hn1 hs1
      obtain ⟨t', S4, e4, i4, d4, hs4, f4⟩ := ih (deep - 1) S3 (by omega) (hn1.fr f3) hs3
      refine ⟨.zip t t', S4, ?_, ⟨i3, i4⟩, by simp [Tm.depth]; omega, hs4, (f1.trans f3).trans f4⟩
      unfold R_law_term
      rw [run_eq (n := 3) _ _ rfl]
      unfold b_law_term
      have c5' : ¬ (w : Int) = 4 := by omega
      rw [← hd1] at e3 e4
      simp [e1, hsv, hw, c2, c4, c5', c5, e3, e4, Tm.d]

theorem s_law_wrapped {p c : Nat} {names : List (List Nat)} {S : Store} {t0 : Tm} {many : Nat} (hm : many ≤ 1000) (ht : t0.In names) (hs : Sp S p c) :
    ∃ t S', R_law_wrapped [.ref p, t0.d, .int many] S = some (.ok (Tm.d t) S') ∧ t.In names ∧ t.depth ≤ t0.depth + many ∧ Sp S' p c ∧ S'.length = S.length ∧ Fr p c S S' := by
  have key := forL_range (g := gName 3) (b := lb_law_wrapped_1 R_law_drop) (n := many) (fun k ρ S' => ∃ (t : Tm) (o3 o4 : Option D), ρ = [some (.ref p), some t.d, some (.int many), o3, o4] ∧ t.In names ∧ t.depth ≤ t0.depth + k ∧ Sp S' p c ∧ S'.length = S.length ∧ Fr p c S S')
    (by
      rintro k hk ρ S' ⟨t, o3, o4, rfl, hi, hd, hs', hl, hf⟩
      obtain ⟨v, S2, e, hv, h1, h2, h3⟩ := drop_nat hs' 20 (by decide) (by decide)
      simp at e
      refine ⟨_, _, rfl, ?_⟩
      by_cases c10 : (v : Int) < 10
      · exact ⟨[some (.ref p), some (Tm.sign v t).d, some (.int many), some (.int k), some (.int v)], S2, .inl (by simp [lb_law_wrapped_1, e, c10, Tm.d]), _, _, _, rfl, ⟨by omega, hi⟩, by simp [Tm.depth]; omega, h1, by rw [h2, hl], hf.trans h3⟩
      · exact ⟨[some (.ref p), some (Tm.beh t).d, some (.int many), some (.int k), some (.int v)], S2, .inl (by simp [lb_law_wrapped_1, e, c10, Tm.d]), _, _, _, rfl, hi, by simp [Tm.depth]; omega, h1, by rw [h2, hl], hf.trans h3⟩)
    [some (.ref p), some t0.d, some (.int many), none, none] S ⟨t0, _, _, rfl, ht, Nat.le_refl _, hs, rfl, .refl⟩
  obtain ⟨ρ', S', h, t, o3, o4, rfl, hi, hd, h1, h2, h3⟩ := key
  refine ⟨t, S', ?_, hi, hd, h1, h2, h3⟩
  unfold R_law_wrapped
  rw [run_eq (n := 3) _ _ rfl]
  unfold b_law_wrapped
  simp [show many ≤ 1000000000 by omega, h]
/-- a comprehension whose items change what stands -/
theorem lcL_run {chk : Store → Prop} {g : SG} {t : ST} {e : SE} {l : Nat} {ρ : Env} (J : Store → Prop) (P : D → Prop) (hset : ∀ S acc acc', J S → S[l]? = some (.lst acc) → J (S.set l (.lst acc'))) (hc : ∀ S, J S → chk S) :
    ∀ (xs acc : List D) (S : Store), J S → S[l]? = some (.lst acc) → acc.length + xs.length ≤ LINE →
    (∀ x ∈ xs, ∀ S acc, J S → S[l]? = some (.lst acc) → ∃ ρ1 y S', g x ρ S = some (ρ1, S) ∧ t ρ1 S = some (.ok true S) ∧ e ρ1 S = some (.ok y S') ∧ S'[l]? = some (.lst acc) ∧ J S' ∧ P y) →
    ∃ ys S', lcL chk g t e l xs ρ S = some (.ok (.ref l) S') ∧ S'[l]? = some (.lst (acc ++ ys)) ∧ J S' ∧ ys.length = xs.length ∧ ∀ y ∈ ys, P y
  | [], acc, S, j, hl, _, _ => ⟨[], S, by rw [lcL, if_pos (hc S j)], by simpa using hl, j, rfl, fun y h => by cases h⟩
  | x :: xs, acc, S, j, hl, hn, h => by
    obtain ⟨ρ1, y, S1, h1, h2, h3, h4, h5, h6⟩ := h x (by simp) S acc j hl
    rw [List.length_cons] at hn
    have hlt : acc.length < LINE := by omega
    have hl1 : l < S1.length := (List.getElem?_eq_some_iff.mp h4).1
    obtain ⟨ys, S2, h7, h8, h9, h10, h11⟩ := lcL_run J P hset hc xs (acc ++ [y]) (S1.set l (.lst (acc ++ [y]))) (hset S1 acc _ h5 h4) (by rw [List.getElem?_set_self hl1]) (by simp; omega) fun z hz => h z (List.mem_cons_of_mem _ hz)
    refine ⟨y :: ys, S2, ?_, by simpa using h8, h9, by simp [h10], fun z hz => ?_⟩
    · rw [lcL, if_pos (hc S j), h1]
      dsimp only
      rw [h2, bq_ok, if_pos rfl, h3, bq_ok, h4]
      dsimp only
      rw [if_pos hlt, h7]
    · rcases List.mem_cons.mp hz with rfl | hz
      · exact h6
      · exact h11 z hz
theorem Fr.set {p c l : Nat} {S S' : Store} {o : MO} (f : Fr p c S S') (h : S.length ≤ l) : Fr p c S (S'.set l o) := ⟨by simpa using f.le, fun i h1 h2 h3 => by rw [List.getElem?_set_ne (by omega)]; exact f.old i h1 h2 h3⟩
theorem Sp.set {p c l : Nat} {S : Store} {o : MO} (h : Sp S p c) (hp : l ≠ p) (hc : l ≠ c) : Sp (S.set l o) p c := by
  obtain ⟨s, h⟩ := h
  exact ⟨s, h.ne, by rw [List.getElem?_set_ne hp]; exact h.hp, by rw [List.getElem?_set_ne hc]; exact h.hc, h.ok⟩
def pairs : List Tm → List Tm
  | a :: b :: r => .zip a b :: pairs r
  | _ => []
theorem pairs_len : ∀ ts : List Tm, (pairs ts).length = ts.length / 2
  | [] => rfl
  | [_] => by simp [pairs]
  | a :: b :: r => by rw [pairs, List.length_cons, pairs_len r, List.length_cons, List.length_cons]; omega
theorem pairs_get : ∀ (ts : List Tm) (k : Nat) (a b : Tm), ts[2 * k]? = some a → ts[2 * k + 1]? = some b → (pairs ts)[k]? = some (.zip a b)
  | a :: b :: r, 0, x, y, h, h' => by simp at h h'; subst h h'; rfl
  | a :: b :: r, k + 1, x, y, h, h' => by
    rw [pairs]
    simp only [List.getElem?_cons_succ]
    exact pairs_get r k x y (by rw [show 2 * (k + 1) = 2 * k + 1 + 1 by omega] at h; simpa using h) (by rw [show 2 * (k + 1) + 1 = 2 * k + 1 + 1 + 1 by omega] at h'; simpa using h')
theorem pairs_mem {names : List (List Nat)} {d : Nat} : ∀ ts : List Tm, (∀ t ∈ ts, t.In names ∧ t.depth ≤ d) → ∀ t ∈ pairs ts, t.In names ∧ t.depth ≤ d + 1
  | [], _, t, h => by cases h
  | [_], _, t, h => by cases h
  | a :: b :: r, g, t, h => by
    rw [pairs] at h
    have ga := g a (by simp)
    have gb := g b (by simp)
    rcases List.mem_cons.mp h with rfl | h
    · exact ⟨⟨ga.1, gb.1⟩, by simp [Tm.depth]; omega⟩
    · exact pairs_mem r (fun x hx => g x (by simp [hx])) t h
theorem great_pairs {S : Store} {r : Nat} {ts : List Tm} {n : Nat} (hr : S[r]? = some (.lst (ts.map Tm.d))) (hn : ts.length = 2 * n) (n1 : 0 < n) (n2 : n ≤ 1000) (o0 o1 o2 o3 o4 o6 o7 : Option D) :
    lb_law_great_2 [o0, o1, o2, o3, o4, some (.ref r), o6, o7] S = some (.nx [o0, o1, o2, o3, o4, some (.ref S.length), o6, o7] (S ++ [.lst ((pairs ts).map Tm.d)])) := by
  have hlc := lcL_map (chk := fun _ => True) (g := gName 7) (t := tYes) (e := (eTup [eC (.str [122, 105, 112]), e2 ixD (eVar 5) (eVar 7), e2 ixD (eVar 5) (e2 addD (eVar 7) (eC (.int 1)))])) (S := S) (ρ := [o0, o1, o2, o3, o4, some (.ref r), o6, none])
    (fun x => match x with | .int k => (match (pairs ts)[(k / 2).toNat]? with | some t => t.d | none => .non) | _ => .non) (stepsL 0 2 n) [] (by rw [LINE_eq]; simp [stepsL]; omega) (fun _ => trivial) (fun x hx acc => by
    obtain ⟨k, hk, rfl⟩ := List.mem_map.mp hx
    have hk := List.mem_range.mp hk
    refine ⟨_, rfl, rfl, ?_⟩
    have ha : ts[2 * k]? = some ts[2 * k] := List.getElem?_eq_getElem (by omega)
    have hb : ts[2 * k + 1]? = some ts[2 * k + 1] := List.getElem?_eq_getElem (by omega)
    have hp := pairs_get ts k _ _ ha hb
    have a1 : atI (ts.map Tm.d) ((k : Int) * 2) = some ts[2 * k].d := by
      rw [show (k : Int) * 2 = ((2 * k : Nat) : Int) by omega]; exact atI_nat (by simp [ha])
    have a2 : atI (ts.map Tm.d) ((k : Int) * 2 + 1) = some ts[2 * k + 1].d := by
      rw [show (k : Int) * 2 + 1 = ((2 * k + 1 : Nat) : Int) by omega]; exact atI_nat (by simp [hb])
    have g := get_app hr [.lst acc]
    have hd : ((0 : Int) + (k : Int) * 2) / 2 = k := by omega
    simp only [hd, Int.toNat_natCast, hp]
    simp [g, a1, a2, Tm.d])
  have e1 : (stepsL 0 2 n).map (fun x => match x with | .int k => (match (pairs ts)[(k / 2).toNat]? with | some t => t.d | none => .non) | _ => .non) = (pairs ts).map Tm.d := by
    apply List.ext_getElem?
    intro i
    have hl : (pairs ts).length = n := by rw [pairs_len, hn]; omega
    unfold stepsL
    rw [List.map_map, List.getElem?_map, List.getElem?_map]
    by_cases hi : i < n
    · rw [List.getElem?_range hi]
      have hd : ((0 : Int) + (i : Int) * 2) / 2 = i := by omega
      have hp : (pairs ts)[i]? = some (pairs ts)[i] := List.getElem?_eq_getElem (by omega)
      simp only [Option.map_some, Function.comp_def, hd, Int.toNat_natCast, hp]
    · rw [List.getElem?_eq_none (by simpa using hi), List.getElem?_eq_none (by omega)]; rfl
  rw [List.nil_append, e1] at hlc
  have hlen : ((ts.length : Int)) = 2 * n := by omega
  have hcount : ((2 * (n : Int) - 1) / 2 + 1).toNat = n := by omega
  have hr24 : r24 0 (2 * (n : Int)) 2 := (r24_iff _ _ _).mpr (by omega)
  have hb1 : (0 : Int) < 2 * n := by omega
  unfold lb_law_great_2
  simp [hr, hlen, hr24, hb1, n1, wipe, hcount, hlc]

theorem tms_of {names : List (List Nat)} {d : Nat} : ∀ {ys : List D}, (∀ y ∈ ys, ∃ t : Tm, y = t.d ∧ t.In names ∧ t.depth ≤ d) → ∃ ts : List Tm, ys = ts.map Tm.d ∧ ∀ t ∈ ts, t.In names ∧ t.depth ≤ d
  | [], _ => ⟨[], rfl, fun t h => by cases h⟩
  | y :: ys, h => by
    obtain ⟨t, rfl, h1⟩ := h y (by simp)
    obtain ⟨ts, rfl, h2⟩ := tms_of fun z hz => h z (List.mem_cons_of_mem _ hz)
    exact ⟨t :: ts, rfl, fun x hx => by rcases List.mem_cons.mp hx with rfl | hx; exact h1; exact h2 x hx⟩
def natD (ws : List Nat) : List D := ws.map fun (k : Nat) => D.int k
theorem s_law_great {S : Store} {p c l : Nat} {names : List (List Nat)} (hn : Nm S p c l names) (hs : Sp S p c) :
    ∃ t S', R_law_great [.ref p, .ref l] S = some (.ok (Tm.d t) S') ∧ t.In names ∧ t.depth ≤ 11 ∧ Sp S' p c ∧ Fr p c S S' := by
  let A0 : Store := S ++ [.lst [.int 0], .lst (natD (List.replicate 8 0))]
  let w : Nat := S.length + 1
  have hlt := hs.lt
  have hsA : Sp A0 p c := hs.app
  have hfA : Fr p c S A0 := .app
  obtain ⟨v, S1, e1, hv, hs1, hl1, f1⟩ := drop_nat hsA 4 (by decide) (by decide)
  have hAl : A0.length = S.length + 2 := by simp [A0]
  have hw1 : S1[w]? = some (.lst (natD (List.replicate 8 0))) := by
    rw [f1.old w (by rw [hAl]; omega) (by omega) (by omega)]; simp [A0, w]
  -- the rounds
  have key := forL_range (g := gName 3) (b := lb_law_great_1 R_law_drop) (n := 4 + v) (fun k ρ S' => ∃ (ws : List Nat) (o3 o4 : Option D), ρ = [some (.ref p), some (.ref l), some (.ref w), o3, o4, none, none, none] ∧ S'[w]? = some (.lst (natD ws)) ∧ ws.length = 8 ∧ (∀ x ∈ ws, x ≤ k) ∧ Sp S' p c ∧ Fr p c S S' ∧ S'.length = S.length + 2)
    (by
      rintro k hk ρ S' ⟨ws, o3, o4, rfl, hws, hw8, hwk, hs', hf', hl'⟩
      obtain ⟨a, S2, e, ha, h1, h2, h3⟩ := drop_nat hs' 8 (by decide) (by decide)
      simp at e
      refine ⟨_, _, rfl, ?_⟩
      have hws2 : S2[w]? = some (.lst (natD ws)) := by rw [h3.old w (by omega) (by omega) (by omega)]; exact hws
      have haw : a < ws.length := by omega
      have hat : atI (natD ws) (a : Int) = some (.int (ws[a] : Nat)) := atI_nat (by simp [natD, haw])
      have hix : ixN (natD ws).length (a : Int) = some a := by unfold ixN; simp [natD]; omega
      have hset : (natD ws).set a (.int ((ws[a] : Nat) + 1 : Int)) = natD (ws.set a (ws[a] + 1)) := by simp [natD, List.map_set]
      refine ⟨[some (.ref p), some (.ref l), some (.ref w), some (.int k), some (.int a), none, none, none], S2.set w (.lst (natD (ws.set a (ws[a] + 1)))), .inl ?_, _, _, _, rfl, by rw [List.getElem?_set_self (by omega)], by simpa using hw8, fun x hx => ?_, h1.set (by omega) (by omega), (hf'.trans h3).set (by omega), by simp; omega⟩
      · rw [← hset]
        simp [lb_law_great_1, e, hws2, hat, hix, -List.map_set]
      · rcases List.mem_or_eq_of_mem_set hx with h | h
        · have := hwk x h; omega
        · have := hwk ws[a] (List.getElem_mem haw); omega)
    [some (.ref p), some (.ref l), some (.ref w), none, none, none, none, none] S1 ⟨List.replicate 8 0, _, _, rfl, hw1, by simp, by simp, hs1, hfA.trans f1, by omega⟩
  obtain ⟨ρ', S2, hfor, ws, o3, o4, rfl, hws, hw8, hwk, hs2, hf2, hl2⟩ := key
  have hn2 := hn.fr hf2
  have hll : l < S.length := (List.getElem?_eq_some_iff.mp hn.at').1
  -- the rows wrapped
  obtain ⟨ys, S3, hlc, hys, ⟨hs3, hf3⟩, hyl, hyP⟩ := lcL_run (chk := fun S => S[w]? = some (.lst (natD ws))) (g := gName 6) (t := tYes) (e := eCall R_law_wrapped [eVar 0, eTup [eC (.str [114, 111, 119]), e2 ixD (eVar 1) (eCall R_law_drop [eVar 0, eCall lenF [eVar 1]])], eVar 6]) (l := S2.length) (ρ := [some (.ref p), some (.ref l), some (.ref w), o3, o4, none, none, none])
    (fun S' => Sp S' p c ∧ Fr p c S2 S') (fun y => ∃ t : Tm, y = t.d ∧ t.In names ∧ t.depth ≤ 8) (fun S' acc acc' j _ => ⟨j.1.set (by omega) (by omega), j.2.set (Nat.le_refl _)⟩)
    (fun S' j => by rw [j.2.old w (by omega) (by omega) (by omega)]; exact hws) (natD ws) [] (S2 ++ [.lst []]) ⟨hs2.app, .app⟩ (by simp) (by rw [LINE_eq]; simp [natD, hw8])
    (by
      intro x hx S' acc ⟨j1, j2⟩ hl'
      obtain ⟨k, hk, rfl⟩ := List.mem_map.mp hx
      have hkw := hwk k hk
      have hn' := hn2.fr j2
      obtain ⟨u, s, S4, h1, h2, h3, h4, h5, h6, h7⟩ := pick_nm hn' j1
      obtain ⟨t, S5, q1, q2, q3, q4, q5, q6⟩ := s_law_wrapped (names := names) (S := S4) (t0 := .row s) (many := k) (by omega) h4 h5
      have g1 := hn'.at'
      refine ⟨[some (.ref p), some (.ref l), some (.ref w), o3, o4, none, some (.int k), none], t.d, S5, rfl, rfl, ?_, ?_, ⟨q4, (j2.trans h7).trans q6⟩, t, rfl, q2, by simp [Tm.depth] at q3; omega⟩
      · simp [Tm.d] at q1
        simp [g1, h1, h2, h3, q1]
      · have f := h7.trans q6
        have hlen : S2.length < S'.length := (List.getElem?_eq_some_iff.mp hl').1
        rw [f.old S2.length hlen (by omega) (by omega)]; exact hl')
  obtain ⟨ts, rfl, hts⟩ := tms_of hyP
  rw [List.nil_append] at hys
  have ht8 : ts.length = 8 := by rw [List.length_map] at hyl; rw [hyl]; simp [natD, hw8]
  have p1 : (pairs ts).length = 4 := by rw [pairs_len, ht8]
  have p2 : (pairs (pairs ts)).length = 2 := by rw [pairs_len, p1]
  have p3 : (pairs (pairs (pairs ts))).length = 1 := by rw [pairs_len, p2]
  have m3 := pairs_mem _ (pairs_mem _ (pairs_mem _ hts))
  obtain ⟨t, ht⟩ : ∃ t, pairs (pairs (pairs ts)) = [t] := List.length_eq_one_iff.mp p3
  have htm := m3 t (by rw [ht]; simp)
  let B1 : Store := S3 ++ [.lst ((pairs ts).map Tm.d)]
  let B2 : Store := B1 ++ [.lst ((pairs (pairs ts)).map Tm.d)]
  let B3 : Store := B2 ++ [.lst ((pairs (pairs (pairs ts))).map Tm.d)]
  have hwh : sWh (tVal (e2 gtD (eCall lenF [eVar 5]) (eC (.int 1)))) lb_law_great_2 [some (.ref p), some (.ref l), some (.ref w), o3, o4, some (.ref S2.length), none, none] S3 = some (.nx [some (.ref p), some (.ref l), some (.ref w), o3, o4, some (.ref B2.length), none, none] B3) := by
    rw [sWh_go (S1 := S3) (by simp [hys, ht8]) (great_pairs (n := 4) hys ht8 (by decide) (by decide) _ _ _ _ _ _ _)]
    rw [sWh_go (S1 := B1) (by simp [B1, p1]) (great_pairs (S := B1) (r := S3.length) (n := 2) (by simp [B1]) p1 (by decide) (by decide) _ _ _ _ _ _ _)]
    rw [sWh_go (S1 := B2) (by simp [B1, B2, p2]) (great_pairs (S := B2) (r := B1.length) (n := 1) (by simp [B2]) p2 (by decide) (by decide) _ _ _ _ _ _ _)]
    exact sWh_stop (by simp [B1, B2, B3, p3])
  refine ⟨t, B3, ?_, htm.1, htm.2, ((hs3.app).app).app, ((((hf2.trans hf3).trans .app).trans .app).trans .app)⟩
  unfold R_law_great
  rw [run_eq (n := 2) _ _ rfl]
  unfold b_law_great
  have hB3 : B3[B2.length]? = some (.lst [t.d]) := by simp [B3, ht]
  have e1' : R_law_drop [.ref p, .int 4] (S ++ [.lst [.int 0], .lst [.int 0, .int 0, .int 0, .int 0, .int 0, .int 0, .int 0, .int 0]]) = some (.ok (.int v) S1) := e1
  have hr4 : r62 (4 + (v : Int)) := r62_of (by omega) (by omega)
  have htn : (4 + (v : Int)).toNat = 4 + v := by omega
  have hww : w = S.length + 1 := rfl
  rw [hww] at hfor hlc hwh hws
  simp [e1', hr4, htn, hfor, hws, wipe, hlc, hwh, hB3, at0]

theorem s_law_deeper {S : Store} {p c l : Nat} {names : List (List Nat)} (hn : Nm S p c l names) (hs : Sp S p c) :
    ∃ t S', R_law_deeper [.ref p, .ref l] S = some (.ok (Tm.d t) S') ∧ t.In names ∧ t.depth ≤ 20 ∧ Sp S' p c ∧ Fr p c S S' := by
  obtain ⟨z, S1, e1, hz, hs1, hl1, f1⟩ := drop_nat hs 4 (by decide) (by decide)
  have hn1 := hn.fr f1
  obtain ⟨u, s0, S2, a1, a2, a3, a4, hs2, hl2, f2⟩ := pick_nm hn1 hs1
  obtain ⟨x8, S3, b1, hx8, hs3, hl3, f3⟩ := drop_nat hs2 4 (by decide) (by decide)
  obtain ⟨x5, S4, c1, hx5, hs4, hl4, f4⟩ := drop_nat hs3 5 (by decide) (by decide)
  let S5 : Store := S4 ++ [.lst [.int (8 + (x8 : Int)), .int (5 + (x5 : Int))]]
  obtain ⟨wr, hwr, hwr2⟩ : ∃ wr : Nat, atI [D.int (8 + (x8 : Int)), .int (5 + (x5 : Int))] (if 0 < z then 1 else 0) = some (.int wr) ∧ wr + z ≤ 13 := by
    by_cases h : 0 < z
    · exact ⟨5 + x5, by rw [if_pos h]; simp [atI, ixN], by omega⟩
    · exact ⟨8 + x8, by rw [if_neg h]; simp [at0], by omega⟩
  obtain ⟨t1, S6, q1, q2, q3, q4, q5, q6⟩ := s_law_wrapped (names := names) (S := S5) (t0 := .row s0) (many := wr) (by omega) a4 hs4.app
  have f6 : Fr p c S S6 := ((((f1.trans f2).trans f3).trans f4).trans .app).trans q6
  have key := forL_range (g := gName 4) (b := lb_law_deeper_1 R_law_drop R_law_wrapped) (n := z) (fun k ρ S' => ∃ (t : Tm) (o4 o5 o6 : Option D), ρ = [some (.ref p), some (.ref l), some (.int z), some t.d, o4, o5, o6] ∧ t.In names ∧ t.depth ≤ 1 + wr + 2 * k ∧ Sp S' p c ∧ Fr p c S S')
    (by
      rintro k hk ρ S' ⟨t, o4, o5, o6, rfl, hi, hd, hs', hf'⟩
      have hn' := hn.fr hf'
      obtain ⟨sd, T1, g1, g2, g3, g4, g5⟩ := drop_nat hs' 2 (by decide) (by decide)
      obtain ⟨uu, s, T2, h1, h2, h3, h4, h5, h6, h7⟩ := pick_nm (hn'.fr g5) g3
      have hgl := (hn'.fr g5).at'
      let T3 : Store := T2 ++ [.lst [(Tm.zip t (.row s)).d, (Tm.zip (.row s) t).d]]
      obtain ⟨m, T4, k1, k2, k3, k4, k5⟩ := drop_nat (S := T3) h5.app 2 (by decide) (by decide)
      have hsel : atI [(Tm.zip t (.row s)).d, (Tm.zip (.row s) t).d] (sd : Int) = some (if sd = 0 then Tm.zip t (.row s) else .zip (.row s) t).d := by
        by_cases e : sd = 0
        · subst e; simp [at0]
        · have e' : sd = 1 := by omega
          subst e'; simp [atI, ixN]
      obtain ⟨t2, T5, r1, r2, r3, r4, r5, r6⟩ := s_law_wrapped (names := names) (S := T4) (t0 := if sd = 0 then Tm.zip t (.row s) else .zip (.row s) t) (many := m) (by omega) (by split <;> exact ⟨by assumption, by assumption⟩) k3
      refine ⟨_, _, rfl, [some (.ref p), some (.ref l), some (.int z), some t2.d, some (.int k), some (.int sd), some (Tm.row s).d], T5, .inl ?_, t2, _, _, _, rfl, r2, ?_, r4, ((((hf'.trans g5).trans h7).trans .app).trans k5).trans r6⟩
      · simp at g1 k1
        simp only [T3] at k1
        simp [Tm.d] at hsel k1
        simp [lb_law_deeper_1, g1, hgl, h1, h2, h3, hsel, k1, Tm.d, r1]
      · have : (if sd = 0 then Tm.zip t (.row s) else .zip (.row s) t).depth ≤ t.depth + 1 := by
          split <;> (simp [Tm.depth]; have : 1 ≤ t.depth := by cases t <;> simp [Tm.depth]
                     omega)
        omega) [some (.ref p), some (.ref l), some (.int z), some t1.d, none, none, none] S6 ⟨t1, _, _, _, rfl, q2, by simp [Tm.depth] at q3; omega, q4, f6⟩
  obtain ⟨ρ', S7, hfor, t, o4, o5, o6, rfl, hi, hd, hs7, hf7⟩ := key
  refine ⟨t, S7, ?_, hi, by omega, hs7, hf7⟩
  have g1 := hn1.at'
  simp at e1 b1 c1
  simp only [S5, Tm.d] at q1
  unfold R_law_deeper
  rw [run_eq (n := 2) _ _ rfl]
  unfold b_law_deeper
  simp [e1, g1, a1, a2, a3, b1, c1, hwr, q1, show z ≤ 1000000000 by omega, hfor]

theorem s_law_any_term {S : Store} {p c l : Nat} {names : List (List Nat)} (hn : Nm S p c l names) (hs : Sp S p c) :
    ∃ t S', R_law_any_term [.ref p, .ref l] S = some (.ok (Tm.d t) S') ∧ t.In names ∧ t.depth ≤ 20 ∧ Sp S' p c ∧ Fr p c S S' := by
  obtain ⟨w, S1, e1, hw, hs1, hl1, f1⟩ := drop_nat hs 8 (by decide) (by decide)
  have hn1 := hn.fr f1
  simp at e1
  by_cases c6 : w = 6
  · obtain ⟨t, S2, a1, a2, a3, a4, a5⟩ := s_law_great hn1 hs1
    refine ⟨t, S2, ?_, a2, by omega, a4, f1.trans a5⟩
    subst c6
    unfold R_law_any_term
    rw [run_eq (n := 2) _ _ rfl]
    unfold b_law_any_term
    simp at e1
    simp [e1, a1]
  by_cases c7 : w = 7
  · obtain ⟨t, S2, a1, a2, a3, a4, a5⟩ := s_law_deeper hn1 hs1
    refine ⟨t, S2, ?_, a2, by omega, a4, f1.trans a5⟩
    subst c7
    unfold R_law_any_term
    rw [run_eq (n := 2) _ _ rfl]
    unfold b_law_any_term
    simp at e1
    simp [e1, a1]
  · obtain ⟨v, S2, b1, hv, hs2, hl2, f2⟩ := drop_nat hs1 5 (by decide) (by decide)
    obtain ⟨t, S3, a1, a2, a3, a4, a5⟩ := s_law_term (names := names) 23 (1 + v) S2 (by omega) (hn1.fr f2) hs2
    refine ⟨t, S3, ?_, a2, by omega, a4, (f1.trans f2).trans a5⟩
    have c6' : ¬ (w : Int) = 6 := by omega
    have c7' : ¬ (w : Int) = 7 := by omega
    simp at b1 a1
    unfold R_law_any_term
    rw [run_eq (n := 2) _ _ rfl]
    unfold b_law_any_term
    simp [e1, c6, c7, c6', c7', b1, a1]
end Z
namespace Z
/-! ### names drawn from the spring -/
abbrev az : List Nat := [97, 98, 99, 100, 101, 102, 103, 104, 105, 106, 107, 108, 109, 110, 111, 112, 113, 114, 115, 116, 117, 118, 119, 120, 121, 122]
abbrev az0 : List Nat := [97, 99, 100, 101, 102, 103, 104, 105, 106, 107, 108, 109, 110, 111, 112, 113, 114, 115, 116, 117, 118, 119, 120, 121]
/-- a name -/
structure IsNm (s : List Nat) : Prop where
  l1 : 1 ≤ s.length
  l8 : s.length ≤ 8
  az : ∀ k ∈ s, k ∈ Z.az
  nz : s ≠ wZip
  nb : s ≠ wBeh
/-- the letters: eight, the first one neither b nor z -/
structure Ltr (n : Nat) (s : List Nat) : Prop where
  len : s.length = n
  az : ∀ k ∈ s, k ∈ Z.az
  hd : ∃ a r, s = a :: r ∧ a ∈ az0
theorem draw_of {xs : List Nat} {S : Store} {p c : Nat} (hs : Sp S p c) (h1 : 0 < xs.length) (h2 : xs.length < 1000000000) : ∃ (v : Nat) (a : Nat) (S' : Store), R_law_drop [.ref p, .int xs.length] S = some (.ok (.int v) S') ∧ atI xs (v : Int) = some a ∧ a ∈ xs ∧ Sp S' p c ∧ S'.length = S.length ∧ Fr p c S S' := by
  obtain ⟨v, S', e, hv, a, b, d⟩ := drop_nat hs xs.length h1 h2
  exact ⟨v, xs[v], S', e, atI_nat (by simp [hv]), List.getElem_mem hv, a, b, d⟩
theorem az0_az : ∀ k ∈ az0, k ∈ az := by decide
theorem letters_loop {A : SS} {p c : Nat} {o3 o4 o5 : Option D} (hA : ∀ (S : Store) (w : List Nat) (x : D), Sp S p c → w.length ≤ 100 → ∃ (k : Nat) (S' : Store), A [some (.ref p), some (.str w), some x, o3, o4, o5] S = some (.nx [some (.ref p), some (.str (w ++ [k])), some x, o3, o4, o5] S') ∧ k ∈ az ∧ Sp S' p c ∧ S'.length = S.length ∧ Fr p c S S')
    {S : Store} {w : List Nat} (hw : Ltr 1 w) (hs : Sp S p c) : ∃ (w' : List Nat) (o2 : Option D) (S' : Store), forL (fun _ => True) (gName 2) A ((List.range 7).map fun (k : Nat) => .int k) [some (.ref p), some (.str w), none, o3, o4, o5] S = some (.nx [some (.ref p), some (.str w'), o2, o3, o4, o5] S') ∧ Ltr 8 w' ∧ Sp S' p c ∧ S'.length = S.length ∧ Fr p c S S' := by
  obtain ⟨ρ', S', h, w', o2, rfl, h1, h2, h3, h4⟩ := forL_range (g := gName 2) (b := A) (n := 7) (fun k ρ S' => ∃ (w' : List Nat) (o2 : Option D), ρ = [some (.ref p), some (.str w'), o2, o3, o4, o5] ∧ Ltr (1 + k) w' ∧ Sp S' p c ∧ S'.length = S.length ∧ Fr p c S S') (by
    rintro k hk ρ S' ⟨w', o2, rfl, hw', h1, h2, h3⟩
    obtain ⟨a, S2, e, ha, g1, g2, g3⟩ := hA S' w' (.int k) h1 (by rw [hw'.len]; omega)
    refine ⟨_, _, rfl, _, _, .inl e, w' ++ [a], _, rfl, ⟨by simp [hw'.len]; omega, fun x hx => ?_, ?_⟩, g1, by rw [g2, h2], h3.trans g3⟩
    · rcases List.mem_append.mp hx with h | h
      · exact hw'.az x h
      · simp at h; subst h; exact ha
    · obtain ⟨b, r, rfl, hb⟩ := hw'.hd
      exact ⟨b, r ++ [a], rfl, hb⟩) [some (.ref p), some (.str w), none, o3, o4, o5] S ⟨w, none, rfl, hw, hs, rfl, .refl⟩
  exact ⟨w', o2, S', h, h1, h2, h3, h4⟩
theorem pre_name {w : List Nat} (h : Ltr 8 w) {k : Nat} (hk : k < 8) : IsNm (w.take (k + 1)) := by
  obtain ⟨a, r, rfl, ha⟩ := h.hd
  have hl := h.len
  refine ⟨by simp, by simp at hl ⊢; omega, fun x hx => h.az x (List.mem_of_mem_take hx), fun e => ?_, fun e => ?_⟩
  · rw [List.take_succ_cons] at e
    have : a = 122 := (List.cons.inj e).1
    subst this; revert ha; decide
  · rw [List.take_succ_cons] at e
    have : a = 98 := (List.cons.inj e).1
    subst this; revert ha; decide
theorem suf_name {w : List Nat} {x : Nat} (h : Ltr 8 w) (hx : x ∈ [98, 122, 97]) {k : Nat} (hk : k < 8) : IsNm ((w.drop 1 ++ [x]).drop k) := by
  have hl := h.len
  have hl2 : (w.drop 1 ++ [x]).length = 8 := by simp; omega
  have hlast : ∀ s : List Nat, (w.drop 1 ++ [x]).drop k = s → s.getLast? = some x := fun s e => by
    rw [← e, List.getLast?_drop, hl2, if_neg (by omega)]; simp
  have hxa : x ∈ az := by revert hx; simp; omega
  refine ⟨by rw [List.length_drop, hl2]; omega, by rw [List.length_drop, hl2]; omega, fun y hy => ?_, fun e => ?_, fun e => ?_⟩
  · rcases List.mem_append.mp (List.mem_of_mem_drop hy) with h' | h'
    · exact h.az y (List.mem_of_mem_drop h')
    · simp at h'; subst h'; exact hxa
  · have := hlast _ e
    simp at this; subst this; revert hx; decide
  · have := hlast _ e
    simp at this; subst this; revert hx; decide

theorem cut_drop {α : Type} (xs : List α) (v : Nat) : cut xs (some (v : Int)) none = xs.drop v := by
  unfold cut sIx
  have : ¬ (v : Int) < 0 := by omega
  simp only [this, if_false, Int.toNat_natCast]
  by_cases h : v ≤ xs.length
  · rw [Nat.min_eq_left h, List.take_of_length_le (by simp)]
  · rw [Nat.min_eq_right (by omega), List.drop_eq_nil_of_le (Nat.le_refl _), List.drop_eq_nil_of_le (by omega)]; simp
/-- the names a law draws -/
structure Drawn (S : Store) (p c l : Nat) (names : List (List Nat)) : Prop where
  nm : Nm S p c l names
  l8 : names.length = 8
  ok : ∀ s ∈ names, IsNm s
  nd : names.Nodup
theorem nd_take {w : List Nat} (h : w.length = 8) : ((List.range 8).map fun k => w.take (k + 1)).Nodup := by
  refine List.pairwise_map.mpr (List.Pairwise.imp_of_mem (fun {a b} ha hb hab e => hab ?_) List.nodup_range)
  have h1 := congrArg List.length e
  have h2 := List.mem_range.mp ha
  have h3 := List.mem_range.mp hb
  simp only [List.length_take, h] at h1
  omega
theorem nd_drop {w : List Nat} (h : w.length = 8) : ((List.range 8).map fun k => w.drop k).Nodup := by
  refine List.pairwise_map.mpr (List.Pairwise.imp_of_mem (fun {a b} ha hb hab e => hab ?_) List.nodup_range)
  have h1 := congrArg List.length e
  have h2 := List.mem_range.mp ha
  have h3 := List.mem_range.mp hb
  simp only [List.length_drop, h] at h1
  omega
theorem nd_turn {α : Type} {xs : List α} (h : xs.Nodup) (t : Nat) : (xs.drop t ++ xs.take t).Nodup := by
  have : (xs.take t ++ xs.drop t).Nodup := by rw [List.take_append_drop]; exact h
  exact (List.perm_append_comm.nodup_iff).mp this
theorem names_tail {p c r : Nat} {S : Store} {ns : List (List Nat)} (hr : S[r]? = some (.lst (ns.map .str))) (rp : r ≠ p) (rc : r ≠ c) (h8 : ns.length = 8) (hok : ∀ s ∈ ns, IsNm s) (hnd : ns.Nodup) (hs : Sp S p c) :
    ∃ (t : Nat) (l : Nat) (names : List (List Nat)) (S1 S' : Store), R_law_drop [.ref p, .int 8] S = some (.ok (.int t) S1) ∧ S1[r]? = some (.lst (ns.map .str)) ∧
      slD (some (t : Int)) none (.ref r) S1 = some (.ok (.ref S1.length) (S1 ++ [.lst ((ns.map .str).drop t)])) ∧
      slD none (some (t : Int)) (.ref r) (S1 ++ [.lst ((ns.map .str).drop t)]) = some (.ok (.ref (S1.length + 1)) (S1 ++ [.lst ((ns.map .str).drop t), .lst ((ns.map .str).take t)])) ∧
      addD (.ref S1.length) (.ref (S1.length + 1)) (S1 ++ [.lst ((ns.map .str).drop t), .lst ((ns.map .str).take t)]) = some (.ok (.ref l) S') ∧ Drawn S' p c l names ∧ Sp S' p c ∧ Fr p c S S' := by
  obtain ⟨t, S1, e, ht, h1, h2, h3⟩ := drop_nat hs 8 (by decide) (by decide)
  have hr1 : S1[r]? = some (.lst (ns.map .str)) := by rw [h3.old r (List.getElem?_eq_some_iff.mp hr).1 rp rc]; exact hr
  have hlt := h1.lt
  refine ⟨t, S1.length + 2, ns.drop t ++ ns.take t, S1, S1 ++ [.lst ((ns.map .str).drop t), .lst ((ns.map .str).take t), .lst ((ns.map .str).drop t ++ (ns.map .str).take t)], e, hr1, ?_, ?_, ?_, ⟨⟨by simp [List.map_drop, List.map_take], by omega, by omega, by simp; omega, by simp; omega⟩, by simp; omega, fun s hs' => ?_, nd_turn hnd t⟩, h1.app, h3.trans .app⟩
  · simp [slD, hr1, new1, cut_drop]
  · have := get_app hr1 [.lst ((ns.map .str).drop t)]
    unfold slD
    dsimp only
    rw [this]
    simp [new1, cut_take]
  · have hL : (8 - t) + min t 8 ≤ LINE := by rw [LINE_eq]; omega
    simp [h8, hL]
  · rcases List.mem_append.mp hs' with h | h
    · exact hok s (List.mem_of_mem_drop h)
    · exact hok s (List.mem_of_mem_take h)
theorem s_law_names {S : Store} {p c : Nat} (hs : Sp S p c) : ∃ (l : Nat) (names : List (List Nat)) (S' : Store), R_law_names [.ref p] S = some (.ok (.ref l) S') ∧ Drawn S' p c l names ∧ Sp S' p c ∧ Fr p c S S' := by
  obtain ⟨v, a, S1, e1, at1, ha, hs1, hl1, f1⟩ := draw_of (xs := az0) hs (by decide) (by decide)
  obtain ⟨w, o2, S2, hfor, hw, hs2, hl2, f2⟩ := letters_loop (A := lb_law_names_1 R_law_drop) (p := p) (c := c) (o3 := none) (o4 := none) (o5 := none) (fun S w x hs hw => by
    obtain ⟨v, k, S', e, hat, hk, g1, g2, g3⟩ := draw_of (xs := az) hs (by decide) (by decide)
    refine ⟨k, S', ?_, hk, g1, g2, g3⟩
    have hL : w.length + 1 ≤ LINE := by rw [LINE_eq]; omega
    simp at e
    simp [lb_law_names_1, e, hat, hL]) (S := S1) (w := [a]) ⟨rfl, fun k hk => by simp at hk; subst hk; exact az0_az _ ha, a, [], rfl, ha⟩ hs1
  have hwL : w.length ≤ LINE := by rw [LINE_eq, hw.len]; decide
  have hlc := lcL_map (chk := fun _ => True) (g := gName 2) (t := tYes) (e := eSl (eVar 1) none (some (e2 addD (eVar 2) (eC (.int 1))))) (S := S2) (ρ := [some (.ref p), some (.str w), none, none, none, none]) (fun x => match x with | .int k => .str (w.take (k.toNat + 1)) | _ => .non) ((List.range 8).map fun (k : Nat) => .int k) [] (by rw [LINE_eq]; decide) (fun _ => trivial) (fun x hx acc => by
    obtain ⟨k, hk, rfl⟩ := List.mem_map.mp hx
    refine ⟨_, rfl, rfl, ?_⟩
    have : cut w none (some ((k : Int) + 1)) = w.take (k + 1) := by rw [show (k : Int) + 1 = ((k + 1 : Nat) : Int) by omega, cut_take]
    simp [slD, hwL, this])
  have en : ((List.range 8).map fun (k : Nat) => D.int k).map (fun x => match x with | D.int k => D.str (w.take (k.toNat + 1)) | _ => D.non) = ((List.range 8).map fun k => w.take (k + 1)).map .str := by simp
  rw [List.nil_append, en] at hlc
  obtain ⟨y, S3, e3, hy, hs3, hl3, f3⟩ := drop_nat (S := S2 ++ [.lst (((List.range 8).map fun k => w.take (k + 1)).map .str)]) hs2.app 4 (by decide) (by decide)
  have hlt := hs.lt
  have f23 : Fr p c S S3 := ((f1.trans f2).trans .app).trans f3
  have hS3 : S2.length < S3.length := by rw [hl3]; simp
  have hrN : S3[S2.length]? = some (.lst (((List.range 8).map fun k => w.take (k + 1)).map .str)) := by
    rw [f3.old S2.length (by simp) (by omega) (by omega)]; simp
  have at1' : atI ([97, 99, 100, 101, 102, 103, 104, 105, 106, 107, 108, 109, 110, 111, 112, 113, 114, 115, 116, 117, 118, 119, 120, 121] : List Nat) (v : Int) = some a := at1
  simp at e1 e3 hlc
  by_cases y3 : y = 3
  · let cn : List (List Nat) := [[114, 111, 119], [115, 105, 103, 110], [122, 105], [122, 105, 112, 112], [98, 101, 104, 105, 110], [114, 101, 97, 100, 121], [111, 110, 101], [98]]
    have hcn : ∀ s ∈ cn, IsNm s := by
      intro s hs
      simp only [cn, List.mem_cons, List.not_mem_nil, or_false] at hs
      rcases hs with rfl | rfl | rfl | rfl | rfl | rfl | rfl | rfl <;> exact ⟨by decide, by decide, by decide, by decide, by decide⟩
    obtain ⟨t, l, names, T1, S', q1, q2, q3, q4, q5, q6, q7, q8⟩ := names_tail (S := S3 ++ [.lst (cn.map .str)]) (r := S3.length) (ns := cn) (by simp) (by omega) (by omega) rfl hcn (by decide) hs3.app
    refine ⟨l, names, S', ?_, q6, q7, (f23.trans .app).trans q8⟩
    subst y3
    simp [cn] at q1
    unfold R_law_names
    rw [run_eq (n := 1) _ _ rfl]
    unfold b_law_names
    simp at e3
    simp [e1, at1', hfor, wipe, hlc, e3, q1, q3, q4, q5]
  have y3' : ¬ (y : Int) = 3 := by omega
  by_cases y2 : y = 2
  · obtain ⟨v2, b, S4, e4, at4, hb, hs4, hl4, f4⟩ := draw_of (xs := [98, 122, 97]) hs3 (by decide) (by decide)
    have at4' : atI ([98, 122, 97] : List Nat) (v2 : Int) = some b := at4
    obtain ⟨w2, hw2e⟩ : ∃ w2 : List Nat, w2 = w.tail ++ [b] := ⟨_, rfl⟩
    have hw2 : w2.length = 8 := by simp [hw2e, hw.len]
    have hlc2 := lcL_map (chk := fun _ => True) (g := gName 2) (t := tYes) (e := eSl (eVar 1) (some (eVar 2)) none) (S := S4) (ρ := [some (.ref p), some (.str w2), none, some (.ref S2.length), some (.int 2), none]) (fun x => match x with | .int k => .str (w2.drop k.toNat) | _ => .non) ((List.range 8).map fun (k : Nat) => .int k) [] (by rw [LINE_eq]; decide) (fun _ => trivial) (fun x hx acc => by
      obtain ⟨k, hk, rfl⟩ := List.mem_map.mp hx
      refine ⟨_, rfl, rfl, ?_⟩
      have hL : w2.length ≤ LINE := by rw [LINE_eq, hw2]; decide
      simp [slD, hL, cut_drop])
    have en2 : ((List.range 8).map fun (k : Nat) => D.int k).map (fun x => match x with | D.int k => D.str (w2.drop k.toNat) | _ => D.non) = ((List.range 8).map fun k => w2.drop k).map .str := by simp
    rw [List.nil_append, en2] at hlc2
    obtain ⟨t, l, names, T1, S', q1, q2, q3, q4, q5, q6, q7, q8⟩ := names_tail (S := S4 ++ [.lst (((List.range 8).map fun k => w2.drop k).map .str)]) (r := S4.length) (ns := (List.range 8).map fun k => w2.drop k) (by simp) (by omega) (by omega) (by simp) (fun s hs' => by
      obtain ⟨k, hk, rfl⟩ := List.mem_map.mp hs'
      have := suf_name hw hb (List.mem_range.mp hk)
      rw [hw2e]
      simpa using this) (nd_drop hw2) hs4.app
    refine ⟨l, names, S', ?_, q6, q7, ((f23.trans f4).trans .app).trans q8⟩
    subst y2
    have hc1 : cut w (some 1) none = w.tail := by rw [← List.drop_one]; exact cut_drop w 1
    simp [-o_addr] at q1 q3 q4 q5 hlc2 e4 e3
    have hsl : ∀ T, slD (some 1) none (.str w) T = some (.ok (.str w.tail) T) := fun T => by simp [slD, hwL, hc1]
    have hL1 : w.length - 1 + 1 ≤ LINE := by rw [LINE_eq, hw.len]; decide
    unfold R_law_names
    rw [run_eq (n := 1) _ _ rfl]
    unfold b_law_names
    simp [-o_addr, e1, at1', hfor, wipe, hlc, e3, hsl, hL1, e4, at4', ← hw2e, hlc2, q1, q3, q4, q5]
  · have y2' : ¬ (y : Int) = 2 := by omega
    obtain ⟨t, l, names, T1, S', q1, q2, q3, q4, q5, q6, q7, q8⟩ := names_tail (S := S3) (r := S2.length) (ns := (List.range 8).map fun k => w.take (k + 1)) hrN (by omega) (by omega) (by simp) (fun s hs' => by
      obtain ⟨k, hk, rfl⟩ := List.mem_map.mp hs'
      exact pre_name hw (List.mem_range.mp hk)) (nd_take hw.len) hs3
    refine ⟨l, names, S', ?_, q6, q7, f23.trans q8⟩
    simp [-o_addr] at q3 q4 q5
    unfold R_law_names
    rw [run_eq (n := 1) _ _ rfl]
    unfold b_law_names
    simp [-o_addr, e1, at1', hfor, wipe, hlc, e3, y3, y3', y2, y2', q1, q3, q4, q5]
end Z
namespace Z
/-! ### how great a term is -/
def Tm.size : Tm → Nat
  | .row _ => 1
  | .sign _ t => 1 + t.size
  | .beh t => 1 + t.size
  | .zip a b => 1 + (a.size + b.size)
theorem isi_tm (t : Tm) (S : Store) : isiD .tuple t.d S = some (.ok (.bl true) S) := by cases t <;> rfl
theorem lcL_nil {chk : Store → Prop} {g : SG} {t : ST} {e : SE} {l : Nat} {ρ : Env} {S : Store} (h : chk S) : lcL chk g t e l [] ρ S = some (.ok (.ref l) S) := by rw [lcL, if_pos h]
theorem lcL_no {chk : Store → Prop} {g : SG} {t : ST} {e : SE} {l : Nat} {x : D} {r : List D} {ρ ρ1 : Env} {S S1 S2 : Store} (h : chk S) (hg : g x ρ S = some (ρ1, S1)) (ht : t ρ1 S1 = some (.ok false S2)) : lcL chk g t e l (x :: r) ρ S = lcL chk g t e l r ρ S2 := by
  rw [lcL, if_pos h, hg]
  dsimp only
  rw [ht, bq_ok, if_neg (by decide)]
theorem lcL_yes {chk : Store → Prop} {g : SG} {t : ST} {e : SE} {l : Nat} {x y : D} {r acc : List D} {ρ ρ1 : Env} {S S1 S2 S3 : Store} (h : chk S) (hg : g x ρ S = some (ρ1, S1)) (ht : t ρ1 S1 = some (.ok true S2)) (he : e ρ1 S2 = some (.ok y S3)) (hl : S3[l]? = some (.lst acc)) (hn : acc.length < LINE) : lcL chk g t e l (x :: r) ρ S = lcL chk g t e l r ρ (S3.set l (.lst (acc ++ [y]))) := by
  rw [lcL, if_pos h, hg]
  dsimp only
  rw [ht, bq_ok, if_pos rfl, he, bq_ok, hl]
  dsimp only
  rw [if_pos hn]
theorem cut_tail (x : D) (xs : List D) : cut (x :: xs) (some 1) none = xs := by have := cut_drop (x :: xs) 1; simpa using this
/-- one part, or two, after what is none -/
theorem parts1 {F : Fn} {S : Store} {ρ0 : Option D} {pre : List D} {t : Tm} {v : Int} {G : Store} (hpre : ∀ x ∈ pre, ∃ i : Int, x = .int i) (hF : F [t.d] (S ++ [.lst []]) = some (.ok (.int v) (S ++ [.lst []] ++ G))) :
    lcL (fun _ => True) (gName 1) (tVal (e1 (isiD .tuple) (eVar 1))) (eCall F [eVar 1]) S.length (pre ++ [t.d]) [ρ0, none] (S ++ [.lst []]) = some (.ok (.ref S.length) (S ++ .lst [.int v] :: G)) := by
  induction pre with
  | nil =>
    rw [List.nil_append, lcL_yes (S1 := S ++ [.lst []]) (S2 := S ++ [.lst []]) (acc := []) (y := .int v) (S3 := S ++ [.lst []] ++ G) (ρ1 := [ρ0, some t.d]) trivial rfl (by simp [isi_tm]) (by simpa using hF) (by simp) (by simp), lcL_nil trivial]
    simp
  | cons x pre ih =>
    obtain ⟨i, rfl⟩ := hpre x (by simp)
    rw [List.cons_append, lcL_no (S1 := S ++ [.lst []]) (S2 := S ++ [.lst []]) (ρ1 := [ρ0, some (.int i)]) trivial rfl (by simp)]
    exact ih fun y hy => hpre y (List.mem_cons_of_mem _ hy)
theorem parts2 {F : Fn} {S : Store} {ρ0 : Option D} {a b : Tm} {v w : Int} {G G' : Store} (hF : F [a.d] (S ++ [.lst []]) = some (.ok (.int v) (S ++ [.lst []] ++ G))) (hF' : F [b.d] (S ++ .lst [.int v] :: G) = some (.ok (.int w) (S ++ .lst [.int v] :: G ++ G'))) :
    lcL (fun _ => True) (gName 1) (tVal (e1 (isiD .tuple) (eVar 1))) (eCall F [eVar 1]) S.length [a.d, b.d] [ρ0, none] (S ++ [.lst []]) = some (.ok (.ref S.length) (S ++ .lst [.int v, .int w] :: (G ++ G'))) := by
  rw [lcL_yes (S1 := S ++ [.lst []]) (S2 := S ++ [.lst []]) (acc := []) (y := .int v) (S3 := S ++ [.lst []] ++ G) (ρ1 := [ρ0, some a.d]) trivial rfl (by simp [isi_tm]) (by simpa using hF) (by simp) (by simp)]
  have e : (S ++ [MO.lst []] ++ G).set S.length (.lst ([] ++ [.int v])) = S ++ .lst [.int v] :: G := by simp
  rw [e, lcL_yes (S1 := S ++ .lst [.int v] :: G) (S2 := S ++ .lst [.int v] :: G) (acc := [.int v]) (y := .int w) (S3 := S ++ .lst [.int v] :: G ++ G') (ρ1 := [ρ0, some b.d]) trivial rfl (by simp [isi_tm]) (by simpa using hF') (by simp) (by simp), lcL_nil trivial]
  simp
theorem s_law_many : ∀ (t : Tm) (d : Nat) (S : Store), t.depth ≤ d → ∃ G, R_law_many d [t.d] S = some (.ok (.int t.size) (S ++ G))
  | t, 0, S, h => by cases t <;> simp [Tm.depth] at h
  | .row s, d + 1, S, h => by
    refine ⟨[], ?_⟩
    unfold R_law_many
    rw [run_eq (n := 1) _ _ rfl]
    unfold b_law_many
    simp [Tm.d, at0, Tm.size]
  | .sign i t, d + 1, S, h => by
    obtain ⟨G, hG⟩ := s_law_many t d (S ++ [.lst []]) (by simp [Tm.depth] at h; omega)
    have hp := parts1 (ρ0 := some (Tm.sign i t).d) (pre := [.int i]) (fun x hx => by simp at hx; exact ⟨_, hx⟩) hG
    refine ⟨.lst [.int t.size] :: G, ?_⟩
    unfold R_law_many
    rw [run_eq (n := 1) _ _ rfl]
    unfold b_law_many
    simp [Tm.d] at hp
    simp [Tm.d, at0, slD, cut_tail, wipe, hp, intsL, Tm.size]
  | .beh t, d + 1, S, h => by
    obtain ⟨G, hG⟩ := s_law_many t d (S ++ [.lst []]) (by simp [Tm.depth] at h; omega)
    have hp := parts1 (ρ0 := some (Tm.beh t).d) (pre := []) (fun x hx => by cases hx) hG
    refine ⟨.lst [.int t.size] :: G, ?_⟩
    unfold R_law_many
    rw [run_eq (n := 1) _ _ rfl]
    unfold b_law_many
    simp [Tm.d] at hp
    simp [Tm.d, at0, slD, cut_tail, wipe, hp, intsL, Tm.size]
  | .zip a b, d + 1, S, h => by
    obtain ⟨G, hG⟩ := s_law_many a d (S ++ [.lst []]) (by simp [Tm.depth] at h; omega)
    obtain ⟨G', hG'⟩ := s_law_many b d (S ++ .lst [.int a.size] :: G) (by simp [Tm.depth] at h; omega)
    have hp := parts2 (ρ0 := some (Tm.zip a b).d) hG hG'
    refine ⟨.lst [.int a.size, .int b.size] :: (G ++ G'), ?_⟩
    unfold R_law_many
    rw [run_eq (n := 1) _ _ rfl]
    unfold b_law_many
    simp [Tm.d] at hp
    simp [Tm.d, at0, slD, cut_tail, wipe, hp, intsL, Tm.size]
theorem s_law_deep : ∀ (t : Tm) (d : Nat) (S : Store), t.depth ≤ d → ∃ G, R_law_deep d [t.d] S = some (.ok (.int t.depth) (S ++ G))
  | t, 0, S, h => by cases t <;> simp [Tm.depth] at h
  | .row s, d + 1, S, h => by
    refine ⟨[], ?_⟩
    unfold R_law_deep
    rw [run_eq (n := 1) _ _ rfl]
    unfold b_law_deep
    simp [Tm.d, at0, Tm.depth]
  | .sign i t, d + 1, S, h => by
    obtain ⟨G, hG⟩ := s_law_deep t d (S ++ [.lst []]) (by simp [Tm.depth] at h; omega)
    have hp := parts1 (ρ0 := some (Tm.sign i t).d) (pre := [.int i]) (fun x hx => by simp at hx; exact ⟨_, hx⟩) hG
    refine ⟨.lst [.int t.depth] :: G, ?_⟩
    unfold R_law_deep
    rw [run_eq (n := 1) _ _ rfl]
    unfold b_law_deep
    simp [Tm.d] at hp
    simp [Tm.d, at0, slD, cut_tail, wipe, hp, intsL, maxI, Tm.depth, Int.add_comm]
  | .beh t, d + 1, S, h => by
    obtain ⟨G, hG⟩ := s_law_deep t d (S ++ [.lst []]) (by simp [Tm.depth] at h; omega)
    have hp := parts1 (ρ0 := some (Tm.beh t).d) (pre := []) (fun x hx => by cases hx) hG
    refine ⟨.lst [.int t.depth] :: G, ?_⟩
    unfold R_law_deep
    rw [run_eq (n := 1) _ _ rfl]
    unfold b_law_deep
    simp [Tm.d] at hp
    simp [Tm.d, at0, slD, cut_tail, wipe, hp, intsL, maxI, Tm.depth, Int.add_comm]
  | .zip a b, d + 1, S, h => by
    obtain ⟨G, hG⟩ := s_law_deep a d (S ++ [.lst []]) (by simp [Tm.depth] at h; omega)
    obtain ⟨G', hG'⟩ := s_law_deep b d (S ++ .lst [.int a.depth] :: G) (by simp [Tm.depth] at h; omega)
    have hp := parts2 (ρ0 := some (Tm.zip a b).d) hG hG'
    refine ⟨.lst [.int a.depth, .int b.depth] :: (G ++ G'), ?_⟩
    unfold R_law_deep
    rw [run_eq (n := 1) _ _ rfl]
    unfold b_law_deep
    simp [Tm.d] at hp
    simp [Tm.d, at0, slD, cut_tail, wipe, hp, intsL, maxI, Tm.depth, Int.add_comm]
    omega
def Tm.last : Tm → Tm
  | .row s => .row s
  | .sign _ t => t
  | .beh t => t
  | .zip _ b => b
theorem last_ix (t : Tm) (h : 1 < t.depth) (S : Store) : ixD t.d (.int (-1)) S = some (.ok t.last.d S) := by
  cases t with
  | row s => simp [Tm.depth] at h
  | sign i t => simp [Tm.d, Tm.last, atI, ixN]
  | beh t => simp [Tm.d, Tm.last, atI, ixN]
  | zip a b => simp [Tm.d, Tm.last, atI, ixN]
theorem last_depth (t : Tm) (h : 1 < t.depth) : t.last.depth < t.depth := by
  cases t <;> simp [Tm.depth, Tm.last] at h ⊢
  omega
theorem last_in {names : List (List Nat)} (t : Tm) (h : t.In names) : t.last.In names := by
  cases t with
  | row s => exact h
  | sign i t => exact h.2
  | beh t => exact h
  | zip a b => exact h.2
theorem size1 (t : Tm) (h : ¬ 1 < t.depth) : t.size = 1 ∧ t.depth = 1 := by
  have pos : ∀ t : Tm, 0 < t.depth := fun t => by cases t <;> simp [Tm.depth]
  cases t with
  | row s => exact ⟨rfl, rfl⟩
  | sign i t => have := pos t; simp [Tm.depth] at h; omega
  | beh t => have := pos t; simp [Tm.depth] at h; omega
  | zip a b => have := pos a; simp [Tm.depth] at h; omega
noncomputable abbrev goodT : ST := tOr (tVal (e2 gtD (eCall (R_law_many 24) [eVar 2]) (eC (.int 20)))) (tVal (e2 gtD (eCall (R_law_deep 24) [eVar 2]) (eC (.int 10))))
theorem good_test (t : Tm) (h : t.depth ≤ 24) (o0 o1 : Option D) (S : Store) : ∃ G, goodT [o0, o1, some t.d] S = some (.ok (decide (20 < t.size) || decide (10 < t.depth)) (S ++ G)) := by
  obtain ⟨G, hG⟩ := s_law_many t 24 S h
  by_cases c : 20 < t.size
  · have c' : (20 : Int) < t.size := by omega
    exact ⟨G, by simp [hG, c, c']⟩
  · have c' : ¬ (20 : Int) < t.size := by omega
    obtain ⟨G', hG'⟩ := s_law_deep t 24 (S ++ G) h
    refine ⟨G ++ G', ?_⟩
    by_cases k : 10 < t.depth
    · have k' : (10 : Int) < t.depth := by omega
      simp [hG, c, c', hG', k, k']
    · have k' : ¬ (10 : Int) < t.depth := by omega
      simp [hG, c, c', hG', k, k']
theorem good_loop {names : List (List Nat)} (o0 o1 : Option D) : ∀ (n : Nat) (t : Tm) (S : Store), t.depth ≤ n → t.depth ≤ 24 → t.In names → ∃ t' G, sWh goodT lb_law_good_term_1 [o0, o1, some t.d] S = some (.nx [o0, o1, some (Tm.d t')] (S ++ G)) ∧ t'.In names ∧ t'.size ≤ 20 ∧ t'.depth ≤ 10 := by
  intro n
  induction n with
  | zero => intro t S h; cases t <;> simp [Tm.depth] at h
  | succ n ih =>
    intro t S h h24 hi
    obtain ⟨G, hG⟩ := good_test t h24 o0 o1 S
    by_cases c : 20 < t.size ∨ 10 < t.depth
    · have hd : 1 < t.depth := by
        by_cases e : 1 < t.depth
        · exact e
        · have := size1 t e; omega
      have hl := last_depth t hd
      obtain ⟨t', G', h1, h2, h3, h4⟩ := ih t.last (S ++ G) (by omega) (by omega) (last_in t hi)
      refine ⟨t', G ++ G', ?_, h2, h3, h4⟩
      rw [sWh_go (S1 := S ++ G) (ρ2 := [o0, o1, some t.last.d]) (S2 := S ++ G) (by rw [hG]; simp [c]) (by simp [lb_law_good_term_1, last_ix t hd]), h1]
      simp
    · refine ⟨t, G, ?_, hi, by omega, by omega⟩
      have c1 : ¬ 20 < t.size := by omega
      have c2 : ¬ 10 < t.depth := by omega
      exact sWh_stop (by rw [hG]; simp [c1, c2])
theorem s_law_good_term {S : Store} {p c l : Nat} {names : List (List Nat)} (hn : Nm S p c l names) (hs : Sp S p c) :
    ∃ t S', R_law_good_term [.ref p, .ref l] S = some (.ok (Tm.d t) S') ∧ t.In names ∧ t.size ≤ 20 ∧ t.depth ≤ 10 ∧ Sp S' p c ∧ Fr p c S S' := by
  obtain ⟨t, S1, e1, i1, d1, hs1, f1⟩ := s_law_any_term hn hs
  obtain ⟨t', G, h1, h2, h3, h4⟩ := good_loop (some (.ref p)) (some (.ref l)) 24 t S1 (by omega) (by omega) i1
  refine ⟨t', S1 ++ G, ?_, h2, h3, h4, hs1.app, f1.trans .app⟩
  unfold R_law_good_term
  rw [run_eq (n := 2) _ _ rfl]
  unfold b_law_good_term
  simp [e1, h1]
end Z
namespace Z
/-! ### words -/
def Tm.words : Tm → List (List Nat)
  | .row s => [s]
  | .sign i t => dec i :: t.words
  | .beh t => wBeh :: t.words
  | .zip a b => wZip :: (a.words ++ b.words)
theorem words_len : ∀ t : Tm, t.words.length = t.size
  | .row _ => rfl
  | .sign _ t => by simp [Tm.words, Tm.size, words_len t]; omega
  | .beh t => by simp [Tm.words, Tm.size, words_len t]; omega
  | .zip a b => by simp [Tm.words, Tm.size, words_len a, words_len b]; omega
theorem s_law_words {names : List (List Nat)} : ∀ (t : Tm) (d : Nat) (S : Store), t.depth ≤ d → t.In names → t.size ≤ 1000 → ∃ G l, R_law_words d [t.d] S = some (.ok (.ref l) (S ++ G)) ∧ (S ++ G)[l]? = some (.lst (t.words.map .str)) ∧ S.length ≤ l
  | t, 0, S, h, _, _ => by cases t <;> simp [Tm.depth] at h
  | .row s, d + 1, S, h, _, _ => by
    refine ⟨[.lst [.str s]], S.length, ?_, by simp [Tm.words], Nat.le_refl _⟩
    unfold R_law_words
    rw [run_eq (n := 1) _ _ rfl]
    unfold b_law_words
    have a1 : ∀ a b : D, atI [a, b] 1 = some b := fun a b => by simp [atI, ixN]
    simp [Tm.d, at0, a1]
  | .sign i t, d + 1, S, h, hi, hz => by
    obtain ⟨G, l, e, hl, hle⟩ := s_law_words t d (S ++ [.lst [.str (dec i)]]) (by simp [Tm.depth] at h; omega) hi.2 (by simp [Tm.size] at hz; omega)
    refine ⟨.lst [.str (dec i)] :: (G ++ [.lst ((Tm.sign i t).words.map .str)]), S.length + 1 + G.length, ?_, by simp [Tm.words, Nat.add_assoc, Nat.add_comm 1], by omega⟩
    have a1 : ∀ a b c : D, atI [a, b, c] 1 = some b ∧ atI [a, b, c] 2 = some c := fun a b c => by simp [atI, ixN]
    have hlg : (i : Int).natAbs.log2 < 1920 := by
      have : i < 10 := hi.1
      have h1 : i.log2 ≤ i := Nat.log2_le_self i
      simp; omega
    have hL : 1 + t.size ≤ LINE := by rw [LINE_eq]; simp [Tm.size] at hz; omega
    have hL' : t.size + 1 ≤ LINE := by omega
    unfold R_law_words
    rw [run_eq (n := 1) _ _ rfl]
    unfold b_law_words
    simp at e hl hlg
    simp [Tm.d, at0, a1, hlg, e, hl, words_len, hL, hL', Tm.words, Nat.add_comm, Nat.add_left_comm]
  | .beh t, d + 1, S, h, hi, hz => by
    obtain ⟨G, l, e, hl, hle⟩ := s_law_words t d (S ++ [.lst [.str wBeh]]) (by simp [Tm.depth] at h; omega) hi (by simp [Tm.size] at hz; omega)
    refine ⟨.lst [.str wBeh] :: (G ++ [.lst ((Tm.beh t).words.map .str)]), S.length + 1 + G.length, ?_, by simp [Tm.words, Nat.add_assoc, Nat.add_comm 1], by omega⟩
    have a1 : ∀ a b : D, atI [a, b] 1 = some b := fun a b => by simp [atI, ixN]
    have hL : 1 + t.size ≤ LINE := by rw [LINE_eq]; simp [Tm.size] at hz; omega
    have hL' : t.size + 1 ≤ LINE := by omega
    unfold R_law_words
    rw [run_eq (n := 1) _ _ rfl]
    unfold b_law_words
    simp at e hl
    simp [Tm.d, at0, a1, e, hl, words_len, hL, hL', Tm.words, Nat.add_comm, Nat.add_left_comm]
  | .zip a b, d + 1, S, h, hi, hz => by
    have hza : a.size ≤ 1000 := by simp [Tm.size] at hz; omega
    have hzb : b.size ≤ 1000 := by simp [Tm.size] at hz; omega
    obtain ⟨G, l, e, hl, hle⟩ := s_law_words a d (S ++ [.lst [.str wZip]]) (by simp [Tm.depth] at h; omega) hi.1 hza
    obtain ⟨G', l', e', hl', hle'⟩ := s_law_words b d (S ++ .lst [.str wZip] :: (G ++ [.lst ((wZip :: a.words).map .str)])) (by simp [Tm.depth] at h; omega) hi.2 hzb
    refine ⟨.lst [.str wZip] :: (G ++ .lst ((wZip :: a.words).map .str) :: (G' ++ [.lst ((Tm.zip a b).words.map .str)])), S.length + (1 + G.length + 1 + G'.length), ?_, by
      have : S.length + (1 + G.length + 1 + G'.length) - S.length = G.length + (G'.length + 1) + 1 := by omega
      rw [List.getElem?_append_right (by omega), this]
      simp [Tm.words], by omega⟩
    have a1 : ∀ a b c : D, atI [a, b, c] 1 = some b ∧ atI [a, b, c] 2 = some c := fun a b c => by simp [atI, ixN]
    have hL : a.size + 1 ≤ LINE := by rw [LINE_eq]; omega
    have hL2 : a.size + 1 + b.size ≤ LINE := by rw [LINE_eq]; omega
    have hL3 : 1 + a.size ≤ LINE := by rw [LINE_eq]; omega
    have hz1 : (S ++ (MO.lst [.str wZip] :: G))[S.length]? = some (.lst [.str wZip]) := by simp
    have hw1 : (S ++ MO.lst [.str wZip] :: (G ++ MO.lst ((wZip :: a.words).map .str) :: G'))[S.length + (G.length + 1)]? = some (.lst ((wZip :: a.words).map .str)) := by
      rw [List.getElem?_append_right (by omega), show S.length + (G.length + 1) - S.length = G.length + 1 by omega]; simp
    unfold R_law_words
    rw [run_eq (n := 2 - 1) _ _ rfl]
    unfold b_law_words
    simp at e hl e' hl' hw1
    simp [Tm.d, at0, a1, e, hl, words_len, hL, hL2, hL3, Nat.add_comm, Nat.add_left_comm]
    have hL4 : b.size + (a.size + 1) ≤ LINE := by rw [LINE_eq]; simp [Tm.size] at hz; omega
    have hL5 : 1 + a.size + b.size ≤ LINE := by omega
    simp [e', hl', hw1, words_len, hL2, hL4, hL5, Tm.words, Nat.add_comm, Nat.add_left_comm]
end Z
namespace Z
theorem eqvL_nilP : ∀ xs : List PD, eqvL xs [] = xs.isEmpty
  | [] => rfl
  | _ :: _ => rfl
theorem pdL_tm (g : Nat → Option PD) : ∀ ts : List Tm, pdL g (ts.map Tm.d) = some (ts.map Tm.pd)
  | [] => rfl
  | t :: ts => by rw [List.map_cons, pdL, Tm.d_pd, pdL_tm g ts]; rfl
theorem depL_tm {k : Nat} : ∀ ts : List Tm, (∀ t ∈ ts, t.depth ≤ k) → depL (ts.map Tm.pd) ≤ k
  | [], _ => by simp [depL]
  | t :: ts, h => by
    have := depL_tm ts fun x hx => h x (List.mem_cons_of_mem _ hx)
    have := h t (by simp)
    rw [List.map_cons, depL, Tm.pd_dep]
    omega
theorem dat_tms {S : Store} {n : Nat} {ts : List Tm} (h : S[n]? = some (.lst (ts.map Tm.d))) : dat S (.ref n) = some (.lst (ts.map Tm.pd)) := by
  unfold dat
  rw [D.pd, rdR, h]
  dsimp only
  rw [pdL_tm]; rfl
theorem ne_nil_tm {S : Store} {a b : Nat} {ts : List Tm} (h : S[a]? = some (.lst (ts.map Tm.d))) (h' : S[b]? = some (.lst [])) (hd : ∀ t ∈ ts, t.depth ≤ 60) : neD (.ref a) (.ref b) S = some (.ok (.bl (!ts.isEmpty)) S) := by
  unfold neD
  rw [dat_tms h, dat_tms (ts := []) h']
  have : (PD.lst (ts.map Tm.pd)).dep ≤ 64 ∧ (PD.lst (([] : List Tm).map Tm.pd)).dep ≤ 64 := ⟨by have := depL_tm ts hd; simp [PD.dep]; omega, by simp [PD.dep, depL]⟩
  dsimp only
  rw [if_pos this, PD.eqv, List.map_nil, eqvL_nilP]
  cases ts <;> rfl
theorem pop_last {S : Store} {n : Nat} {xs : List D} {x : D} (h : S[n]? = some (.lst (xs ++ [x]))) : popF [.ref n] S = some (.ok x (S.set n (.lst xs))) := by
  simp [popF, h]

def allWords : List Tm → List (List Nat)
  | [] => []
  | t :: r => t.words ++ allWords r
def sizes : List Tm → Nat
  | [] => 0
  | t :: r => t.size + sizes r
theorem allWords_len : ∀ ts : List Tm, (allWords ts).length = sizes ts
  | [] => rfl
  | t :: r => by simp [allWords, sizes, words_len, allWords_len r]
theorem size_pos (t : Tm) : 0 < t.size := by cases t <;> simp [Tm.size] <;> omega
noncomputable abbrev wordsT : ST := tVal (e2 neD (eVar 2) (eLst []))
/-- st: the stack, its top first -/
theorem words_loop {names : List (List Nat)} (S : Store) (o0 : Option D) : ∀ (n : Nat) (st : List Tm) (ws : List (List Nat)) (G : Store) (o3 : Option D), sizes st ≤ n → sizes st ≤ 1000 → ws.length + sizes st ≤ 1000 → (∀ t ∈ st, t.depth ≤ 60 ∧ t.In names) →
    ∃ G' o3', sWh wordsT lb_words_of_1 [o0, some (.ref S.length), some (.ref (S.length + 1)), o3] (S ++ .lst (ws.map .str) :: .lst ((st.reverse).map Tm.d) :: G) =
      some (.nx [o0, some (.ref S.length), some (.ref (S.length + 1)), o3'] (S ++ .lst ((ws ++ allWords st).map .str) :: .lst [] :: G')) := by
  intro n
  have test : ∀ (st : List Tm) (ws : List (List Nat)) (G : Store) (o3 : Option D), (∀ t ∈ st, t.depth ≤ 60 ∧ t.In names) → wordsT [o0, some (.ref S.length), some (.ref (S.length + 1)), o3] (S ++ .lst (ws.map .str) :: .lst ((st.reverse).map Tm.d) :: G) = some (.ok (!st.isEmpty) (S ++ .lst (ws.map .str) :: .lst ((st.reverse).map Tm.d) :: (G ++ [.lst []]))) := by
    intro st ws G o3 hst
    have := ne_nil_tm (S := S ++ .lst (ws.map .str) :: .lst ((st.reverse).map Tm.d) :: (G ++ [.lst []])) (a := S.length + 1) (b := S.length + (G.length + 1 + 1)) (ts := st.reverse) (by simp) (by simp) (fun t ht => (hst t (by simpa using ht)).1)
    simp at this
    simp [this]
  induction n with
  | zero =>
    intro st ws G o3 h _ _ hst
    have : st = [] := by
      cases st with
      | nil => rfl
      | cons t r => have := size_pos t; simp [sizes] at h; omega
    subst this
    refine ⟨G ++ [.lst []], o3, ?_⟩
    rw [sWh_stop (by rw [test [] ws G o3 hst]; rfl)]
    simp [allWords]
  | succ n ih =>
    intro st ws G o3 h h1 h2 hst
    cases st with
    | nil =>
      refine ⟨G ++ [.lst []], o3, ?_⟩
      rw [sWh_stop (by rw [test [] ws G o3 hst]; rfl)]
      simp [allWords]
    | cons t r =>
      have ht := test (t :: r) ws G o3 hst
      obtain ⟨hd, hi⟩ := hst t (by simp)
      have hr := fun x hx => hst x (List.mem_cons_of_mem t hx)
      have hpop := pop_last (S := S ++ .lst (ws.map .str) :: .lst ((t :: r).reverse.map Tm.d) :: (G ++ [.lst []])) (n := S.length + 1) (xs := r.reverse.map Tm.d) (x := t.d) (by simp)
      have hset : ∀ x, (S ++ MO.lst (ws.map .str) :: .lst ((t :: r).reverse.map Tm.d) :: (G ++ [.lst []])).set (S.length + 1) x = S ++ .lst (ws.map .str) :: x :: (G ++ [.lst []]) := fun x => by simp
      rw [hset] at hpop
      have hwL : ws.length < LINE := by rw [LINE_eq]; omega
      have hrl : r.length ≤ sizes r := by
        clear ih h h1 h2 hst ht hr hpop hset
        induction r with
        | nil => exact Nat.le_refl _
        | cons a r ih => have := size_pos a; simp [sizes]; omega
      have hrL : r.length + 2 ≤ LINE := by rw [LINE_eq]; simp [sizes] at h1; omega
      have hrL1 : r.length < LINE := by omega
      simp at hpop ht
      have hrl2 : r.length + 1 + 1 ≤ LINE := hrL
      cases t with
      | row s =>
        obtain ⟨G', o3', hx⟩ := ih r (ws ++ [s]) (G ++ [.lst []]) (some (Tm.row s).d) (by simp [sizes, Tm.size] at h; omega) (by simp [sizes, Tm.size] at h1; omega) (by simp [sizes, Tm.size] at h2 ⊢; omega) hr
        refine ⟨G', o3', ?_⟩
        have e2' : allWords (Tm.row s :: r) = s :: allWords r := rfl
        rw [e2', show ws ++ s :: allWords r = ws ++ [s] ++ allWords r by simp, ← hx]
        refine sWh_go (by simpa using ht) ?_
        have a1 : ∀ a b : D, atI [a, b] 1 = some b := fun a b => by simp [atI, ixN]
        simp only [Tm.d] at hpop
        simp [lb_words_of_1, hpop, Tm.d, at0, a1, hwL]
      | sign i t =>
        have hi' : i < 10 := hi.1
        obtain ⟨G', o3', hx⟩ := ih (t :: r) (ws ++ [dec i]) (G ++ [.lst []]) (some (Tm.sign i t).d) (by simp [sizes, Tm.size] at h ⊢; omega) (by simp [sizes, Tm.size] at h1 ⊢; omega) (by simp [sizes, Tm.size] at h2 ⊢; omega) (fun x hx => by rcases List.mem_cons.mp hx with rfl | hx; exact ⟨by simp [Tm.depth] at hd; omega, hi.2⟩; exact hr x hx)
        refine ⟨G', o3', ?_⟩
        have e2' : allWords (Tm.sign i t :: r) = dec i :: allWords (t :: r) := rfl
        rw [e2', show ws ++ dec i :: allWords (t :: r) = ws ++ [dec i] ++ allWords (t :: r) by simp, ← hx]
        refine sWh_go (by simpa using ht) ?_
        have a1 : ∀ a b c : D, atI [a, b, c] 1 = some b ∧ atI [a, b, c] 2 = some c := fun a b c => by simp [atI, ixN]
        have hlg : i.log2 < 1920 := by have h1 : i.log2 ≤ i := Nat.log2_le_self i; omega
        simp only [Tm.d] at hpop
        simp [lb_words_of_1, hpop, Tm.d, at0, a1, hwL, hlg, hrL1]
      | beh t =>
        obtain ⟨G', o3', hx⟩ := ih (t :: r) (ws ++ [wBeh]) (G ++ [.lst []]) (some (Tm.beh t).d) (by simp [sizes, Tm.size] at h ⊢; omega) (by simp [sizes, Tm.size] at h1 ⊢; omega) (by simp [sizes, Tm.size] at h2 ⊢; omega) (fun x hx => by rcases List.mem_cons.mp hx with rfl | hx; exact ⟨by simp [Tm.depth] at hd; omega, hi⟩; exact hr x hx)
        refine ⟨G', o3', ?_⟩
        have e2' : allWords (Tm.beh t :: r) = wBeh :: allWords (t :: r) := rfl
        rw [e2', show ws ++ wBeh :: allWords (t :: r) = ws ++ [wBeh] ++ allWords (t :: r) by simp, ← hx]
        refine sWh_go (by simpa using ht) ?_
        have a1 : ∀ a b : D, atI [a, b] 1 = some b := fun a b => by simp [atI, ixN]
        simp only [Tm.d] at hpop
        simp [lb_words_of_1, hpop, Tm.d, at0, a1, hwL, hrL1]
      | zip a b =>
        obtain ⟨G', o3', hx⟩ := ih (a :: b :: r) (ws ++ [wZip]) (G ++ [.lst []] ++ [.lst [b.d, a.d]]) (some (Tm.zip a b).d) (by simp [sizes, Tm.size] at h ⊢; omega) (by simp [sizes, Tm.size] at h1 ⊢; omega) (by simp [sizes, Tm.size] at h2 ⊢; omega) (fun x hx => by
          rcases List.mem_cons.mp hx with rfl | hx
          · exact ⟨by simp [Tm.depth] at hd; omega, hi.1⟩
          · rcases List.mem_cons.mp hx with rfl | hx
            · exact ⟨by simp [Tm.depth] at hd; omega, hi.2⟩
            · exact hr x hx)
        refine ⟨G', o3', ?_⟩
        have e2' : allWords (Tm.zip a b :: r) = wZip :: allWords (a :: b :: r) := by simp [allWords, Tm.words]
        rw [e2', show ws ++ wZip :: allWords (a :: b :: r) = ws ++ [wZip] ++ allWords (a :: b :: r) by simp, ← hx]
        refine sWh_go (by simpa using ht) ?_
        have a1 : ∀ a b c : D, atI [a, b, c] 1 = some b ∧ atI [a, b, c] 2 = some c := fun a b c => by simp [atI, ixN]
        have hrL3 : r.length + 2 ≤ LINE := hrL
        simp only [Tm.d] at hpop
        simp [lb_words_of_1, hpop, Tm.d, at0, a1, hwL, extendF, hrL3]

theorem s_words_of {names : List (List Nat)} (t : Tm) (S : Store) (hd : t.depth ≤ 60) (hi : t.In names) (hz : t.size ≤ 1000) : ∃ G, R_words_of [t.d] S = some (.ok (.ref S.length) (S ++ .lst (t.words.map .str) :: G)) := by
  obtain ⟨G', o3', h⟩ := words_loop (names := names) S (some t.d) (t.size) [t] [] [] none (by simp [sizes]) (by simpa [sizes] using hz) (by simpa [sizes] using hz) (fun x hx => by simp at hx; subst hx; exact ⟨hd, hi⟩)
  refine ⟨.lst [] :: G', ?_⟩
  unfold R_words_of
  rw [run_eq (n := 1) _ _ rfl]
  unfold b_words_of
  simp [allWords] at h
  simp [h]
end Z
namespace Z
/-! ### texts of terms and books -/
theorem dec_small {i : Nat} (h : i < 10) : (dec i).length ≤ 8 := by
  match i, h with
  | 0, _ | 1, _ | 2, _ | 3, _ | 4, _ | 5, _ | 6, _ | 7, _ | 8, _ | 9, _ => decide
theorem words_sum {names : List (List Nat)} (hn : ∀ s ∈ names, s.length ≤ 8) : ∀ t : Tm, t.In names → (t.words.map List.length).sum ≤ 8 * t.size
  | .row s, h => by have := hn s h; simp [Tm.words, Tm.size]; omega
  | .sign i t, h => by
    have := words_sum hn t h.2
    have := dec_small h.1
    simp [Tm.words, Tm.size]; omega
  | .beh t, h => by have := words_sum hn t h; simp [Tm.words, Tm.size]; omega
  | .zip a b, h => by
    have := words_sum hn a h.1
    have := words_sum hn b h.2
    simp [Tm.words, Tm.size]; omega
theorem s_show_term {names : List (List Nat)} (hn : ∀ s ∈ names, s.length ≤ 8) (t : Tm) (S : Store) (hd : t.depth ≤ 60) (hi : t.In names) (hz : t.size ≤ 1000) : ∃ G, R_show_term [t.d] S = some (.ok (.str (joinS [32] t.words)) (S ++ G)) := by
  obtain ⟨G, h⟩ := s_words_of t S hd hi hz
  refine ⟨.lst (t.words.map .str) :: G, ?_⟩
  have hs := words_sum hn t hi
  have hl := words_len t
  have hL : (t.words.map List.length).sum + t.words.length ≤ 16777216 := by omega
  unfold R_show_term
  rw [run_eq (n := 1) _ _ rfl]
  unfold b_show_term
  simp [h, strsL_map, hL]

theorem joinS_len (sep : List Nat) : ∀ ys : List (List Nat), (joinS sep ys).length ≤ (ys.map List.length).sum + ys.length * sep.length
  | [] => by simp [joinS]
  | [x] => by simp [joinS]
  | x :: y :: r => by
    have := joinS_len sep (y :: r)
    rw [joinS]
    simp [Nat.add_mul] at this ⊢
    omega
def eqText (e : List Nat × Tm) : List Nat := e.1 ++ [32, 61, 32] ++ joinS [32] e.2.words
theorem s_show_equation {names : List (List Nat)} (hn : ∀ s ∈ names, s.length ≤ 8) (e : List Nat × Tm) (S : Store) (he : e.1 ∈ names) (hd : e.2.depth ≤ 60) (hi : e.2.In names) (hz : e.2.size ≤ 1000) : ∃ G, R_show_equation [.str e.1, e.2.d] S = some (.ok (.str (eqText e)) (S ++ G)) := by
  obtain ⟨G, h⟩ := s_show_term hn e.2 S hd hi hz
  refine ⟨G, ?_⟩
  have h8 := hn _ he
  have hs := words_sum hn e.2 hi
  have hj := joinS_len [32] e.2.words
  have hl := words_len e.2
  simp at hj
  have hL : e.1.length + 3 ≤ LINE := by rw [LINE_eq]; omega
  have hL2 : e.1.length + 3 + (joinS [32] e.2.words).length ≤ LINE := by rw [LINE_eq]; omega
  have hL3 : e.1.length + ((joinS [32] e.2.words).length + 3) ≤ LINE := by omega
  unfold R_show_equation
  rw [run_eq (n := 2) _ _ rfl]
  unfold b_show_equation
  simp [h, hL, hL2, hL3, eqText]

theorem lcL_app {chk : Store → Prop} {g : SG} {t : ST} {e : SE} {S : Store} {ρ : Env} (f : D → D) : ∀ (xs acc : List D) (G : Store), acc.length + xs.length ≤ LINE →
    (∀ acc G, chk (S ++ .lst acc :: G)) →
    (∀ x ∈ xs, ∀ acc G, ∃ ρ1 G', g x ρ (S ++ .lst acc :: G) = some (ρ1, S ++ .lst acc :: G) ∧ t ρ1 (S ++ .lst acc :: G) = some (.ok true (S ++ .lst acc :: G)) ∧ e ρ1 (S ++ .lst acc :: G) = some (.ok (f x) (S ++ .lst acc :: (G ++ G')))) →
    ∃ G', lcL chk g t e S.length xs ρ (S ++ .lst acc :: G) = some (.ok (.ref S.length) (S ++ .lst (acc ++ xs.map f) :: (G ++ G')))
  | [], acc, G, _, hc, _ => ⟨[], by rw [lcL, if_pos (hc acc G)]; simp⟩
  | x :: xs, acc, G, hl, hc, h => by
    obtain ⟨ρ1, G1, h1, h2, h3⟩ := h x (by simp) acc G
    rw [List.length_cons] at hl
    have hlt : acc.length < LINE := by omega
    obtain ⟨G2, h5⟩ := lcL_app f xs (acc ++ [f x]) (G ++ G1) (by simp; omega) hc fun z hz => h z (List.mem_cons_of_mem _ hz)
    refine ⟨G1 ++ G2, ?_⟩
    rw [lcL, if_pos (hc acc G), h1]
    dsimp only
    rw [h2, bq_ok, if_pos rfl, h3, bq_ok]
    have e1 : (S ++ MO.lst acc :: (G ++ G1))[S.length]? = some (.lst acc) := by simp
    rw [e1]
    dsimp only
    have e2 : (S ++ MO.lst acc :: (G ++ G1)).set S.length (.lst (acc ++ [f x])) = S ++ .lst (acc ++ [f x]) :: (G ++ G1) := by simp
    rw [if_pos hlt, e2, h5]
    simp
end Z
namespace Z
/-! ### books -/
/-- appends of items made of any kind of things -/
theorem lcL_appM {α : Type} {chk : Store → Prop} {g : SG} {t : ST} {e : SE} {S : Store} {ρ : Env} (en f : α → D) : ∀ (xs : List α) (acc : List D) (G : Store), acc.length + xs.length ≤ LINE →
    (∀ acc G, chk (S ++ .lst acc :: G)) →
    (∀ x ∈ xs, ∀ acc G, ∃ ρ1 G', g (en x) ρ (S ++ .lst acc :: G) = some (ρ1, S ++ .lst acc :: G) ∧ t ρ1 (S ++ .lst acc :: G) = some (.ok true (S ++ .lst acc :: G)) ∧ e ρ1 (S ++ .lst acc :: G) = some (.ok (f x) (S ++ .lst acc :: (G ++ G')))) →
    ∃ G', lcL chk g t e S.length (xs.map en) ρ (S ++ .lst acc :: G) = some (.ok (.ref S.length) (S ++ .lst (acc ++ xs.map f) :: (G ++ G')))
  | [], acc, G, _, hc, _ => ⟨[], by rw [List.map_nil, lcL, if_pos (hc acc G)]; simp⟩
  | x :: xs, acc, G, hl, hc, h => by
    obtain ⟨ρ1, G1, h1, h2, h3⟩ := h x (by simp) acc G
    rw [List.length_cons] at hl
    have hlt : acc.length < LINE := by omega
    obtain ⟨G2, h5⟩ := lcL_appM en f xs (acc ++ [f x]) (G ++ G1) (by simp; omega) hc fun z hz => h z (List.mem_cons_of_mem _ hz)
    refine ⟨G1 ++ G2, ?_⟩
    rw [List.map_cons, lcL, if_pos (hc acc G), h1]
    dsimp only
    rw [h2, bq_ok, if_pos rfl, h3, bq_ok]
    have e1 : (S ++ MO.lst acc :: (G ++ G1))[S.length]? = some (.lst acc) := by simp
    rw [e1]
    dsimp only
    have e2 : (S ++ MO.lst acc :: (G ++ G1)).set S.length (.lst (acc ++ [f x])) = S ++ .lst (acc ++ [f x]) :: (G ++ G1) := by simp
    rw [if_pos hlt, e2, h5]
    simp
/-- an equation of drawn names, its term not too great -/
structure EqOk (names : List (List Nat)) (e : List Nat × Tm) : Prop where
  nm : e.1 ∈ names
  inn : e.2.In names
  size : e.2.size ≤ 20
  depth : e.2.depth ≤ 10
theorem eqText_len {names : List (List Nat)} (hn : ∀ s ∈ names, s.length ≤ 8) {e : List Nat × Tm} (h : EqOk names e) : (eqText e).length ≤ 400 := by
  have hs := words_sum hn e.2 h.inn
  have hj := joinS_len [32] e.2.words
  have hl := words_len e.2
  have h8 := hn _ h.nm
  have := h.size
  simp at hj
  simp [eqText]
  omega
theorem sum_le {α : Type} {f : α → Nat} {k : Nat} : ∀ xs : List α, (∀ x ∈ xs, f x ≤ k) → (xs.map f).sum ≤ xs.length * k
  | [], _ => by simp
  | x :: xs, h => by
    have := sum_le xs fun y hy => h y (List.mem_cons_of_mem _ hy)
    have := h x (by simp)
    simp [Nat.add_mul]; omega
theorem s_show_book {names : List (List Nat)} (hn : ∀ s ∈ names, s.length ≤ 8) (es : List (List Nat × Tm)) (S : Store) (h8 : es.length ≤ 100) (he : ∀ e ∈ es, EqOk names e) : ∃ G, R_show_book [bookD es] S = some (.ok (.str (joinS [10] (es.map eqText))) (S ++ G)) := by
  obtain ⟨G, h⟩ := lcL_appM (chk := fun _ => True) (g := gTup [gName 1, gName 2]) (t := tYes) (e := eCall R_show_equation [eVar 1, eVar 2]) (S := S) (ρ := [some (bookD es), none, none]) ent (fun e => .str (eqText e)) es [] [] (by rw [LINE_eq]; simp; omega) (fun _ _ => trivial) (fun e hx acc G => by
    have o := he e hx
    obtain ⟨G', h⟩ := s_show_equation hn e (S ++ .lst acc :: G) o.nm (by have := o.depth; omega) o.inn (by have := o.size; omega)
    refine ⟨_, G', rfl, rfl, ?_⟩
    simp [h])
  refine ⟨.lst ((es.map eqText).map .str) :: G, ?_⟩
  unfold R_show_book
  rw [run_eq (n := 1) _ _ rfl]
  unfold b_show_book
  have e1 : es.map (fun e => D.str (eqText e)) = (es.map eqText).map .str := by simp
  rw [List.nil_append, List.nil_append, e1] at h
  have hL : ((es.map eqText).map List.length).sum + es.length ≤ 16777216 := by
    have := sum_le (f := fun e => (eqText e).length) es fun x hx => eqText_len hn (he x hx)
    simp [Function.comp_def] at this ⊢
    omega
  simp [wipe, h, strsL_map, -List.map_map, hL]
inductive All2 {α β : Type} (P : α → β → Prop) : List α → List β → Prop where
  | nil : All2 P [] []
  | cons {a : α} {b : β} {as : List α} {bs : List β} (h : P a b) (t : All2 P as bs) : All2 P (a :: as) (b :: bs)
theorem lcL_rel {chk : Store → Prop} {g : SG} {t : ST} {e : SE} {l : Nat} {ρ : Env} (J : Store → Prop) (P : D → D → Prop) (hset : ∀ S acc acc', J S → S[l]? = some (.lst acc) → J (S.set l (.lst acc'))) (hc : ∀ S, J S → chk S) :
    ∀ (xs acc : List D) (S : Store), J S → S[l]? = some (.lst acc) → acc.length + xs.length ≤ LINE →
    (∀ x ∈ xs, ∀ S acc, J S → S[l]? = some (.lst acc) → ∃ ρ1 y S', g x ρ S = some (ρ1, S) ∧ t ρ1 S = some (.ok true S) ∧ e ρ1 S = some (.ok y S') ∧ S'[l]? = some (.lst acc) ∧ J S' ∧ P x y) →
    ∃ ys S', lcL chk g t e l xs ρ S = some (.ok (.ref l) S') ∧ S'[l]? = some (.lst (acc ++ ys)) ∧ J S' ∧ All2 P xs ys
  | [], acc, S, j, hl, _, _ => ⟨[], S, by rw [lcL, if_pos (hc S j)], by simpa using hl, j, .nil⟩
  | x :: xs, acc, S, j, hl, hn, h => by
    obtain ⟨ρ1, y, S1, h1, h2, h3, h4, h5, h6⟩ := h x (by simp) S acc j hl
    rw [List.length_cons] at hn
    have hlt : acc.length < LINE := by omega
    have hl1 : l < S1.length := (List.getElem?_eq_some_iff.mp h4).1
    obtain ⟨ys, S2, h7, h8, h9, h10⟩ := lcL_rel J P hset hc xs (acc ++ [y]) (S1.set l (.lst (acc ++ [y]))) (hset S1 acc _ h5 h4) (by rw [List.getElem?_set_self hl1]) (by simp; omega) fun z hz => h z (List.mem_cons_of_mem _ hz)
    refine ⟨y :: ys, S2, ?_, by simpa using h8, h9, .cons h6 h10⟩
    rw [lcL, if_pos (hc S j), h1]
    dsimp only
    rw [h2, bq_ok, if_pos rfl, h3, bq_ok, h4]
    dsimp only
    rw [if_pos hlt, h7]
theorem es_of {names : List (List Nat)} : ∀ {ns : List (List Nat)} {ys : List D}, All2 (fun x y => ∃ (s : List Nat) (t : Tm), x = .str s ∧ y = ent (s, t) ∧ t.In names ∧ t.size ≤ 20 ∧ t.depth ≤ 10) (ns.map D.str) ys → (∀ s ∈ ns, s ∈ names) → ∃ es : List (List Nat × Tm), ys = es.map ent ∧ es.map Prod.fst = ns ∧ ∀ e ∈ es, EqOk names e
  | [], ys, h, _ => by cases h; exact ⟨[], rfl, rfl, fun e h => by cases h⟩
  | s :: ns, ys, h, hm => by
    rw [List.map_cons] at h
    cases h with
    | cons h1 h2 =>
      obtain ⟨s', t, e1, rfl, a, b, c⟩ := h1
      cases e1
      obtain ⟨es, rfl, h3, h4⟩ := es_of h2 fun z hz => hm z (List.mem_cons_of_mem _ hz)
      exact ⟨(s, t) :: es, rfl, by simp [h3], fun e he => by
        rcases List.mem_cons.mp he with rfl | he
        · exact ⟨hm _ (by simp), a, b, c⟩
        · exact h4 e he⟩
/-- a book of these names, in their order -/
theorem s_law_book {S : Store} {p c l : Nat} {names : List (List Nat)} (hg : S[l]? = some (.lst (names.map .str))) (np : l ≠ p) (nc : l ≠ c) (few : names.length ≤ 100) (hs : Sp S p c) :
    ∃ es S', R_law_book [.ref p, .ref l] S = some (.ok (bookD es) S') ∧ es.map Prod.fst = names ∧ (∀ e ∈ es, EqOk names e) ∧ Sp S' p c ∧ Fr p c S S' := by
  have hlt := hs.lt
  obtain ⟨ys, S', h1, h2, ⟨hs', hf'⟩, h3⟩ := lcL_rel (chk := fun S => S[l]? = some (.lst (names.map .str))) (g := gName 2) (t := tYes) (e := eTup [eVar 2, eCall R_law_good_term [eVar 0, eVar 1]]) (l := S.length) (ρ := [some (.ref p), some (.ref l), none])
    (fun S' => Sp S' p c ∧ Fr p c S S') (fun x y => ∃ (s : List Nat) (t : Tm), x = .str s ∧ y = ent (s, t) ∧ t.In names ∧ t.size ≤ 20 ∧ t.depth ≤ 10) (fun S' acc acc' j _ => ⟨j.1.set (by omega) (by omega), j.2.set (Nat.le_refl _)⟩)
    (fun S' j => by rw [j.2.old l (List.getElem?_eq_some_iff.mp hg).1 np nc]; exact hg) (names.map .str) [] (S ++ [.lst []]) ⟨hs.app, .app⟩ (by simp) (by rw [LINE_eq]; simp; omega)
    (by
      intro x hx S' acc ⟨j1, j2⟩ hl'
      obtain ⟨s, hsn, rfl⟩ := List.mem_map.mp hx
      have hn : Nm S' p c l names := ⟨by rw [j2.old l (List.getElem?_eq_some_iff.mp hg).1 np nc]; exact hg, np, nc, List.length_pos_of_mem hsn, few⟩
      obtain ⟨t, S2, q1, q2, q3, q4, q5, q6⟩ := s_law_good_term hn j1
      refine ⟨[some (.ref p), some (.ref l), some (.str s)], _, S2, rfl, rfl, ?_, ?_, ⟨q5, j2.trans q6⟩, s, t, rfl, rfl, q2, q3, q4⟩
      · simp [q1, ent]
      · rw [q6.old S.length (List.getElem?_eq_some_iff.mp hl').1 (by omega) (by omega)]; exact hl')
  obtain ⟨es, rfl, h4, h5⟩ := es_of h3 fun s h => h
  refine ⟨es, S', ?_, h4, h5, hs', hf'⟩
  unfold R_law_book
  rw [run_eq (n := 2) _ _ rfl]
  unfold b_law_book
  simp at h2
  simp [hg, wipe, h1, h2]
end Z
namespace Z
/-! ### data that stay -/
/-- every list of S stands in S' -/
def LeL (S S' : Store) : Prop := ∀ (n : Nat) (xs : List D), S[n]? = some (MO.lst xs) → S'[n]? = some (MO.lst xs)
theorem LeL.refl {S : Store} : LeL S S := fun _ _ h => h
theorem LeL.trans {S S' S'' : Store} (a : LeL S S') (b : LeL S' S'') : LeL S S'' := fun n xs h => b n xs (a n xs h)
theorem LeL.app {S G : Store} : LeL S (S ++ G) := fun n xs h => get_app h G
/-- the object behind S may be any -/
theorem LeL.mask {S G : Store} {o : MO} : LeL (S ++ .dct [] :: G) (S ++ o :: G) := fun n xs h => by
  by_cases c : n < S.length
  · rw [List.getElem?_append_left c] at h ⊢; exact h
  · rw [List.getElem?_append_right (by omega)] at h ⊢
    by_cases c2 : n - S.length = 0
    · rw [c2] at h; simp at h
    · obtain ⟨k, hk⟩ := Nat.exists_eq_succ_of_ne_zero c2
      rw [hk] at h ⊢
      simpa using h
mutual
theorem D.pd_mono {g g' : Nat → Option PD} (h : ∀ n x, g n = some x → g' n = some x) : ∀ (d : D) (x : PD), d.pd g = some x → d.pd g' = some x
  | .non, x, e => by simpa [D.pd] using e
  | .bl b, x, e => by simpa [D.pd] using e
  | .int i, x, e => by simpa [D.pd] using e
  | .str s, x, e => by simpa [D.pd] using e
  | .tup xs, x, e => by
    simp only [D.pd, Option.map_eq_some_iff] at e ⊢
    obtain ⟨ys, e1, e2⟩ := e
    exact ⟨ys, pdL_mono h xs ys e1, e2⟩
  | .fl xs, x, e => by
    simp only [D.pd, Option.map_eq_some_iff] at e ⊢
    obtain ⟨ys, e1, e2⟩ := e
    exact ⟨ys, pdL_mono h xs ys e1, e2⟩
  | .ref n, x, e => by
    simp only [D.pd] at e ⊢
    exact h n x e
theorem pdL_mono {g g' : Nat → Option PD} (h : ∀ n x, g n = some x → g' n = some x) : ∀ (ds : List D) (xs : List PD), pdL g ds = some xs → pdL g' ds = some xs
  | [], xs, e => e
  | d :: ds, xs, e => by
    rw [pdL] at e ⊢
    split at e
    · rename_i y ys h1 h2
      rw [D.pd_mono h d y h1, pdL_mono h ds ys h2]
      exact e
    · cases e
end
theorem rdR_mono {S S' : Store} (h : LeL S S') : ∀ (k n : Nat) (x : PD), rdR k S n = some x → rdR k S' n = some x
  | 0, n, x, e => by cases e
  | k + 1, n, x, e => by
    rw [rdR] at e ⊢
    split at e
    · rename_i xs g
      rw [h n xs g]
      dsimp only
      simp only [Option.map_eq_some_iff] at e ⊢
      obtain ⟨ys, e1, e2⟩ := e
      exact ⟨ys, pdL_mono (rdR_mono h k) xs ys e1, e2⟩
    · cases e
theorem dat_mono {S S' : Store} (h : LeL S S') {d : D} {x : PD} (e : dat S d = some x) : dat S' d = some x := D.pd_mono (rdR_mono h 70) d x e
/-- a value of data -/
def Dt (S : Store) (d : D) : Prop := ∃ x, dat S d = some x ∧ x.dep ≤ 60
theorem Dt.mono {S S' : Store} (h : LeL S S') {d : D} : Dt S d → Dt S' d := fun ⟨x, a, b⟩ => ⟨x, dat_mono h a, b⟩
theorem pdL_all {g : Nat → Option PD} : ∀ {ds : List D} {xs : List PD}, pdL g ds = some xs → ∀ d ∈ ds, ∃ x, d.pd g = some x ∧ x.dep ≤ depL xs
  | [], xs, e, d, hd => by cases hd
  | a :: ds, xs, e, d, hd => by
    rw [pdL] at e
    split at e
    · rename_i y ys h1 h2
      cases e
      rcases List.mem_cons.mp hd with rfl | hd
      · exact ⟨y, h1, by simp [depL]; omega⟩
      · obtain ⟨x, a, b⟩ := pdL_all h2 d hd
        exact ⟨x, a, by simp [depL]; omega⟩
    · cases e
theorem pdL_of {g : Nat → Option PD} {k : Nat} : ∀ {ds : List D}, (∀ d ∈ ds, ∃ x, d.pd g = some x ∧ x.dep ≤ k) → ∃ xs, pdL g ds = some xs ∧ depL xs ≤ k
  | [], _ => ⟨[], rfl, by simp [depL]⟩
  | a :: ds, h => by
    obtain ⟨x, h1, h2⟩ := h a (by simp)
    obtain ⟨xs, h3, h4⟩ := pdL_of fun d hd => h d (List.mem_cons_of_mem _ hd)
    exact ⟨x :: xs, by rw [pdL, h1, h3], by simp [depL]; omega⟩
/-- data whose depth is at most k -/
def Dk (k : Nat) (S : Store) (d : D) : Prop := ∃ x, dat S d = some x ∧ x.dep ≤ k
theorem Dk.mono {k : Nat} {S S' : Store} (h : LeL S S') {d : D} : Dk k S d → Dk k S' d := fun ⟨x, a, b⟩ => ⟨x, dat_mono h a, b⟩
theorem Dk.le {k j : Nat} (h : k ≤ j) {S : Store} {d : D} : Dk k S d → Dk j S d := fun ⟨x, a, b⟩ => ⟨x, a, by omega⟩
theorem Dk.tup {k : Nat} {S : Store} {ds : List D} (h : ∀ d ∈ ds, Dk k S d) : Dk (k + 1) S (.tup ds) := by
  obtain ⟨xs, h1, h2⟩ := pdL_of (g := rdR 70 S) (k := k) h
  exact ⟨.tup xs, by unfold dat; rw [D.pd, h1]; rfl, by simp [PD.dep]; omega⟩
theorem Dk.items {k : Nat} {S : Store} {ds : List D} (h : Dk k S (.tup ds)) : ∀ d ∈ ds, Dk (k - 1) S d := by
  obtain ⟨x, h1, h2⟩ := h
  unfold dat at h1
  rw [D.pd] at h1
  obtain ⟨ys, e1, rfl⟩ := Option.map_eq_some_iff.mp h1
  intro d hd
  obtain ⟨y, a, b⟩ := pdL_all e1 d hd
  simp [PD.dep] at h2
  exact ⟨y, a, by omega⟩
theorem Dk.int {k : Nat} {S : Store} (i : Int) : Dk k S (.int i) := ⟨.int i, by simp [dat, D.pd], by simp [PD.dep]⟩
theorem Dk.bl {k : Nat} {S : Store} (i : Bool) : Dk k S (.bl i) := ⟨.bl i, by simp [dat, D.pd], by simp [PD.dep]⟩
theorem Dk.str {k : Nat} {S : Store} (i : List Nat) : Dk k S (.str i) := ⟨.str i, by simp [dat, D.pd], by simp [PD.dep]⟩
theorem Dk.non {k : Nat} {S : Store} : Dk k S .non := ⟨.non, by simp [dat, D.pd], by simp [PD.dep]⟩
theorem Dk.ref {k : Nat} {S : Store} {n : Nat} (h : Dk k S (.ref n)) : ∃ xs, S[n]? = some (.lst xs) := by
  obtain ⟨x, h1, _⟩ := h
  unfold dat at h1
  rw [D.pd, rdR] at h1
  split at h1
  · rename_i xs g; exact ⟨xs, g⟩
  · cases h1
/-- what isinstance says of data -/
def tyB : Ty → D → Bool
  | .int, .bl _ => true
  | .bool, .bl _ => true
  | .int, .int _ => true
  | .str, .str _ => true
  | .tuple, .tup _ => true
  | .list, .fl _ => true
  | .list, .ref _ => true
  | _, _ => false
theorem isi_dat {k : Nat} {S : Store} {d : D} (h : Dk k S d) (t : Ty) : isiD t d S = some (.ok (.bl (tyB t d)) S) := by
  cases d with
  | ref n =>
    obtain ⟨xs, g⟩ := h.ref
    cases t <;> simp [isiD, isiB, g, tyB]
  | _ => cases t <;> rfl
/-- a comprehension whose items make objects of their own -/
theorem lcL_inv {chk : Store → Prop} {g : SG} {t : ST} {e : SE} {S : Store} {ρ : Env} (P : Store → D → Prop) (mono : ∀ S S' y, LeL S S' → P S y → P S' y) : ∀ (xs acc : List D) (G : Store), acc.length + xs.length ≤ LINE →
    (∀ acc G, chk (S ++ .lst acc :: G)) →
    (∀ x ∈ xs, ∀ acc G, ∃ ρ1 y G', g x ρ (S ++ .lst acc :: G) = some (ρ1, S ++ .lst acc :: G) ∧ t ρ1 (S ++ .lst acc :: G) = some (.ok true (S ++ .lst acc :: G)) ∧ e ρ1 (S ++ .lst acc :: G) = some (.ok y (S ++ .lst acc :: (G ++ G'))) ∧ P (S ++ .dct [] :: (G ++ G')) y) →
    ∃ ys G', lcL chk g t e S.length xs ρ (S ++ .lst acc :: G) = some (.ok (.ref S.length) (S ++ .lst (acc ++ ys) :: (G ++ G'))) ∧ ys.length = xs.length ∧ ∀ y ∈ ys, P (S ++ .dct [] :: (G ++ G')) y
  | [], acc, G, _, hc, _ => ⟨[], [], by rw [lcL, if_pos (hc acc G)]; simp, rfl, fun y h => by cases h⟩
  | x :: xs, acc, G, hl, hc, h => by
    obtain ⟨ρ1, y, G1, h1, h2, h3, h4⟩ := h x (by simp) acc G
    rw [List.length_cons] at hl
    have hlt : acc.length < LINE := by omega
    obtain ⟨ys, G2, h5, h6, h7⟩ := lcL_inv P mono xs (acc ++ [y]) (G ++ G1) (by simp; omega) hc fun z hz => h z (List.mem_cons_of_mem _ hz)
    refine ⟨y :: ys, G1 ++ G2, ?_, by simp [h6], fun z hz => ?_⟩
    · rw [lcL, if_pos (hc acc G), h1]
      dsimp only
      rw [h2, bq_ok, if_pos rfl, h3, bq_ok]
      have e1 : (S ++ MO.lst acc :: (G ++ G1))[S.length]? = some (.lst acc) := by simp
      rw [e1]
      dsimp only
      have e2 : (S ++ MO.lst acc :: (G ++ G1)).set S.length (.lst (acc ++ [y])) = S ++ .lst (acc ++ [y]) :: (G ++ G1) := by simp
      rw [if_pos hlt, e2, h5]
      simp
    · rw [List.append_assoc] at h7
      rcases List.mem_cons.mp hz with rfl | hz
      · refine mono _ _ z ?_ h4
        have := LeL.app (S := S ++ .dct [] :: (G ++ G1)) (G := G2)
        simpa using this
      · exact h7 z hz
end Z
namespace Z
/-! ### data, more -/
mutual
theorem D.pd_bnd {g g' : Nat → Option PD} {j : Nat} (h : ∀ n x, g n = some x → x.dep ≤ j → g' n = some x) : ∀ (d : D) (x : PD), d.pd g = some x → x.dep ≤ j → d.pd g' = some x
  | .non, x, e, _ => by simpa [D.pd] using e
  | .bl b, x, e, _ => by simpa [D.pd] using e
  | .int i, x, e, _ => by simpa [D.pd] using e
  | .str s, x, e, _ => by simpa [D.pd] using e
  | .tup xs, x, e, hd => by
    simp only [D.pd, Option.map_eq_some_iff] at e ⊢
    obtain ⟨ys, e1, rfl⟩ := e
    exact ⟨ys, pdL_bnd h xs ys e1 (by simp [PD.dep] at hd; omega), rfl⟩
  | .fl xs, x, e, hd => by
    simp only [D.pd, Option.map_eq_some_iff] at e ⊢
    obtain ⟨ys, e1, rfl⟩ := e
    exact ⟨ys, pdL_bnd h xs ys e1 (by simp [PD.dep] at hd; omega), rfl⟩
  | .ref n, x, e, hd => by
    simp only [D.pd] at e ⊢
    exact h n x e hd
theorem pdL_bnd {g g' : Nat → Option PD} {j : Nat} (h : ∀ n x, g n = some x → x.dep ≤ j → g' n = some x) : ∀ (ds : List D) (xs : List PD), pdL g ds = some xs → depL xs ≤ j → pdL g' ds = some xs
  | [], xs, e, _ => e
  | d :: ds, xs, e, hd => by
    rw [pdL] at e ⊢
    split at e
    · rename_i y ys h1 h2
      cases e
      simp [depL] at hd
      rw [D.pd_bnd h d y h1 (by omega), pdL_bnd h ds ys h2 (by omega)]
    · cases e
end
theorem rdR_fuel {S : Store} : ∀ (k j n : Nat) (x : PD), rdR k S n = some x → x.dep ≤ j → rdR j S n = some x
  | 0, j, n, x, e, _ => by cases e
  | k + 1, j, n, x, e, hd => by
    rw [rdR] at e
    split at e
    · rename_i xs g
      simp only [Option.map_eq_some_iff] at e
      obtain ⟨ys, e1, rfl⟩ := e
      simp [PD.dep] at hd
      obtain ⟨j, rfl⟩ : ∃ i, j = i + 1 := ⟨j - 1, by omega⟩
      rw [rdR, g]
      dsimp only
      rw [pdL_bnd (rdR_fuel k j) xs ys e1 (by omega)]
      rfl
    · cases e
/-- a list of data is data -/
theorem Dk.lst {k : Nat} {S : Store} {n : Nat} {ds : List D} (hk : k ≤ 60) (g : S[n]? = some (.lst ds)) (h : ∀ d ∈ ds, Dk k S d) : Dk (k + 1) S (.ref n) := by
  obtain ⟨xs, h1, h2⟩ := pdL_of (g := rdR 70 S) (k := k) h
  refine ⟨.lst xs, ?_, by simp [PD.dep]; omega⟩
  unfold dat
  rw [D.pd, rdR, g]
  dsimp only
  rw [pdL_bnd (fun n x e hd => rdR_fuel 70 69 n x e (by omega)) ds xs h1 (Nat.le_refl _)]
  rfl
theorem dat_lst {k : Nat} {S : Store} {n : Nat} {ds : List D} (hk : k ≤ 60) (g : S[n]? = some (.lst ds)) (h : ∀ d ∈ ds, Dk k S d) : ∃ xs, dat S (.ref n) = some (.lst xs) ∧ depL xs ≤ k ∧ pdL (rdR 70 S) ds = some xs := by
  obtain ⟨xs, h1, h2⟩ := pdL_of (g := rdR 70 S) (k := k) h
  refine ⟨xs, ?_, h2, h1⟩
  unfold dat
  rw [D.pd, rdR, g]
  dsimp only
  rw [pdL_bnd (fun n x e hd => rdR_fuel 70 69 n x e (by omega)) ds xs h1 (Nat.le_refl _)]
  rfl
theorem pdL_len {g : Nat → Option PD} : ∀ {ds : List D} {xs : List PD}, pdL g ds = some xs → xs.isEmpty = ds.isEmpty
  | [], xs, e => by cases e; rfl
  | d :: ds, xs, e => by
    rw [pdL] at e
    split at e
    · cases e; rfl
    · cases e
theorem eq_nilD {S : Store} {a b k : Nat} {ds : List D} (hk : k ≤ 60) (g : S[a]? = some (.lst ds)) (g' : S[b]? = some (.lst [])) (h : ∀ d ∈ ds, Dk k S d) : eqD (.ref a) (.ref b) S = some (.ok (.bl ds.isEmpty) S) := by
  obtain ⟨xs, h1, h2, h3⟩ := dat_lst hk g h
  obtain ⟨ys, h4, h5, h6⟩ := dat_lst (k := 0) (by decide) g' (fun d h => by cases h)
  cases h6
  unfold eqD
  rw [h1, h4]
  dsimp only
  rw [if_pos ⟨by simp [PD.dep]; omega, by simp [PD.dep]; omega⟩, PD.eqv, eqvL_nilP, pdL_len h3]
theorem ne_nilD {S : Store} {a b k : Nat} {ds : List D} (hk : k ≤ 60) (g : S[a]? = some (.lst ds)) (g' : S[b]? = some (.lst [])) (h : ∀ d ∈ ds, Dk k S d) : neD (.ref a) (.ref b) S = some (.ok (.bl (!ds.isEmpty)) S) := by
  obtain ⟨xs, h1, h2, h3⟩ := dat_lst hk g h
  obtain ⟨ys, h4, h5, h6⟩ := dat_lst (k := 0) (by decide) g' (fun d h => by cases h)
  cases h6
  unfold neD
  rw [h1, h4]
  dsimp only
  rw [if_pos ⟨by simp [PD.dep]; omega, by simp [PD.dep]; omega⟩, PD.eqv, eqvL_nilP, pdL_len h3]
mutual
/-- no text in it is long -/
def Sh : D → Prop
  | .str s => s.length ≤ 1000
  | .tup xs => ShL xs
  | _ => True
def ShL : List D → Prop
  | [] => True
  | x :: xs => Sh x ∧ ShL xs
end
theorem shL_iff : ∀ {xs : List D}, ShL xs ↔ ∀ x ∈ xs, Sh x
  | [] => by simp [ShL]
  | x :: xs => by simp [ShL, shL_iff (xs := xs)]
structure Dn (k : Nat) (S : Store) (d : D) : Prop where
  dk : Dk k S d
  sh : Sh d
theorem Dn.items {k : Nat} {S : Store} {ds : List D} (h : Dn k S (.tup ds)) : ∀ d ∈ ds, Dn (k - 1) S d := fun d hd => ⟨h.dk.items d hd, shL_iff.mp (by have := h.sh; rwa [Sh] at this) d hd⟩
theorem Dn.mono {k : Nat} {S S' : Store} (l : LeL S S') {d : D} (h : Dn k S d) : Dn k S' d := ⟨h.dk.mono l, h.sh⟩
theorem Dn.le {k j : Nat} (l : k ≤ j) {S : Store} {d : D} (h : Dn k S d) : Dn j S d := ⟨h.dk.le l, h.sh⟩
theorem Dn.app {k : Nat} {S G : Store} {d : D} (h : Dn k S d) : Dn k (S ++ G) d := h.mono .app
/-- a text of this kind -/
def isS (s : List Nat) : D → Bool
  | .str z => decide (z = s)
  | _ => false
theorem eq_str {k : Nat} (hk : k ≤ 60) {S : Store} {d : D} (h : Dk k S d) (s : List Nat) : eqD d (.str s) S = some (.ok (.bl (isS s d)) S) := by
  obtain ⟨x, h1, h2⟩ := h
  have e : dat S (.str s) = some (.str s) := by simp [dat, D.pd]
  unfold eqD
  rw [h1, e]
  dsimp only
  rw [if_pos ⟨by omega, by simp [PD.dep]⟩]
  cases d with
  | str z => simp [dat, D.pd] at h1; subst h1; simp [PD.eqv, isS]; exact Bool.eq_iff_iff.mpr (by simp)
  | ref n =>
    unfold dat at h1
    rw [D.pd, rdR] at h1
    split at h1
    · obtain ⟨ys, _, rfl⟩ := Option.map_eq_some_iff.mp h1
      simp [PD.eqv, isS]
    · cases h1
  | tup xs => unfold dat at h1; rw [D.pd] at h1; obtain ⟨ys, _, rfl⟩ := Option.map_eq_some_iff.mp h1; simp [PD.eqv, isS]
  | fl xs => unfold dat at h1; rw [D.pd] at h1; obtain ⟨ys, _, rfl⟩ := Option.map_eq_some_iff.mp h1; simp [PD.eqv, isS]
  | non => simp [dat, D.pd] at h1; subst h1; simp [PD.eqv, isS]
  | bl b => simp [dat, D.pd] at h1; subst h1; simp [PD.eqv, isS]
  | int b => simp [dat, D.pd] at h1; subst h1; simp [PD.eqv, isS]
end Z
namespace Z
/-! ### names and terms among data -/
def AZ : List Nat := az
def azB (s : List Nat) : Bool := s.all fun k => decide (k ∈ AZ)
def nmB (s : List Nat) : Bool := decide (1 ≤ s.length) && decide (s.length ≤ 8) && !decide (s = wZip) && !decide (s = wBeh) && azB s
def nameB : D → Bool
  | .str s => nmB s
  | _ => false
theorem nmB_is {s : List Nat} (h : IsNm s) : nmB s = true := by
  have h1 := h.l1
  have h2 := h.l8
  have h3 := h.nz
  have h4 := h.nb
  have h5 : azB s = true := by simp [azB]; exact fun k hk => h.az k hk
  simp only [wZip, wBeh] at h3 h4
  simp [nmB, h1, h2, h3, h4, h5]
theorem s_is_name {k : Nat} {d : D} {S : Store} (h : Dn k S d) : ∃ G, R_is_name [d] S = some (.ok (.bl (nameB d)) (S ++ G)) := by
  unfold R_is_name
  rw [run_eq (n := 1) _ _ rfl]
  unfold b_is_name
  have none_ : ∀ (A B : M D), A = B → ∃ G : Store, (∀ S', S' = S ++ G → True) := fun _ _ _ => ⟨[], fun _ _ => trivial⟩
  cases d with
  | str s =>
    have hl : s.length ≤ 1000 := by have := h.sh; rwa [Sh] at this
    have hL : s.length ≤ LINE := by rw [LINE_eq]; omega
    by_cases h1 : (1 ≤ s.length ∧ s.length ≤ 8) ∧ ¬ s = [122, 105, 112] ∧ ¬ s = [98, 101, 104, 105, 110, 100]
    · obtain ⟨⟨h1, h2⟩, h3, h4⟩ := h1
      have hlc := lcL_map (chk := fun _ => True) (g := gName 1) (t := tYes) (e := e2 inD (eVar 1) (eC c_LETTERS)) (S := S) (ρ := [some (.str s), none]) (fun d => .bl (match d with | .str [k] => decide (k ∈ AZ) | _ => false)) (s.map fun k => .str [k]) [] (by simpa using hL) (fun _ => trivial) (fun x hx acc => by
        obtain ⟨k, _, rfl⟩ := List.mem_map.mp hx
        exact ⟨_, rfl, rfl, rfl⟩)
      refine ⟨[.lst (s.map fun k => .bl (decide (k ∈ AZ)))], ?_⟩
      have hall := all_ref (n := S.length) (S := S ++ [.lst (s.map fun k => .bl (decide (k ∈ AZ)))]) (xs := s) (q := fun k => decide (k ∈ AZ)) (by simp)
      have h1' : (1 : Int) ≤ s.length := by omega
      have h2' : (s.length : Int) ≤ 8 := by omega
      simp only [List.map_map, List.nil_append] at hlc
      simp [hL, h1, h1', h2, h2', h3, h4, nameB, nmB, wipe, hlc, Function.comp_def, hall, azB]
    · refine ⟨[], ?_⟩
      by_cases a1 : (1 : Int) ≤ s.length <;> by_cases a2 : (s.length : Int) ≤ 8 <;> by_cases a3 : s = [122, 105, 112] <;> by_cases a4 : s = [98, 101, 104, 105, 110, 100] <;> simp [hL, a1, a2, a3, a4, nameB, nmB] <;> (try omega) <;> (try (exfalso; exact h1 ⟨⟨by omega, by omega⟩, a3, a4⟩))
  | ref n => exact ⟨[], by simp [isi_dat h.dk, tyB, nameB]⟩
  | fl n => exact ⟨[], by simp [isi_dat h.dk, tyB, nameB]⟩
  | _ => exact ⟨[], by simp [nameB]⟩
theorem in_two {S : Store} {n : Nat} {s a b : List Nat} (h : S[n]? = some (.lst [.str a, .str b])) : inD (.str s) (.ref n) S = some (.ok (.bl (decide (s = a) || decide (s = b))) S) := by
  have e : dat S (.ref n) = some (.lst [.str a, .str b]) := by
    unfold dat
    rw [D.pd, rdR, h]
    simp [pdL, D.pd]
  have e1 : dat S (.str s) = some (.str s) := by simp [dat, D.pd]
  unfold inD inB
  dsimp only
  rw [e, e1]
  dsimp only
  rw [if_pos ⟨by simp [PD.dep], by simp [PD.dep, depL]⟩]
  have e3 : ∀ x y : List Nat, (x == y) = decide (y = x) := fun x y => by
    by_cases h : x = y
    · subst h; simp
    · have h' : ¬ y = x := fun z => h z.symm
      simp [h, h']
  simp [PD.eqv, e3]
theorem s_law_is_name {k : Nat} {d : D} {S : Store} (h : Dn k S d) : ∃ G, R_law_is_name [d] S = some (.ok (.bl (nameB d)) (S ++ G)) := by
  unfold R_law_is_name
  rw [run_eq (n := 1) _ _ rfl]
  unfold b_law_is_name
  cases d with
  | str s =>
    have hl : s.length ≤ 1000 := by have := h.sh; rwa [Sh] at this
    have hL : s.length ≤ LINE := by rw [LINE_eq]; omega
    let W : MO := .lst [.str [122, 105, 112], .str [98, 101, 104, 105, 110, 100]]
    have h2w := in_two (S := S ++ [W]) (n := S.length) (s := s) (a := [122, 105, 112]) (b := [98, 101, 104, 105, 110, 100]) (by simp [W])
    by_cases a1 : s.length < 1
    · have a1' : (s.length : Int) < 1 := by omega
      have a2 : ¬ 1 ≤ s.length := by omega
      exact ⟨[], by simp [hL, a1', nameB, nmB, a2]⟩
    have a1' : ¬ (s.length : Int) < 1 := by omega
    by_cases a8 : 8 < s.length
    · have a8' : (8 : Int) < s.length := by omega
      have a2 : ¬ s.length ≤ 8 := by omega
      exact ⟨[], by simp [hL, a1', a8', nameB, nmB, a2]⟩
    have a8' : ¬ (8 : Int) < s.length := by omega
    by_cases az' : s = [122, 105, 112] ∨ s = [98, 101, 104, 105, 110, 100]
    · refine ⟨[W], ?_⟩
      simp only [W] at h2w ⊢
      rcases az' with rfl | rfl <;> simp [nameB, nmB, h2w]
    · have b1 : ¬ s = [122, 105, 112] := fun e => az' (.inl e)
      have b2 : ¬ s = [98, 101, 104, 105, 110, 100] := fun e => az' (.inr e)
      have hlc := lcL_filter (chk := fun _ => True) (g := gName 1) (t := tVal (e2 ninD (eVar 1) (eC (.str [97, 98, 99, 100, 101, 102, 103, 104, 105, 106, 107, 108, 109, 110, 111, 112, 113, 114, 115, 116, 117, 118, 119, 120, 121, 122])))) (e := eVar 1) (S := S ++ [W]) (ρ := [some (.str s), none])
        (fun d => match d with | .str [k] => !decide (k ∈ AZ) | _ => false) id (s.map fun k => .str [k]) [] (by simpa using hL) (fun _ => trivial) (fun x hx acc => by
          obtain ⟨k, _, rfl⟩ := List.mem_map.mp hx
          exact ⟨_, rfl, rfl, fun _ => rfl⟩)
      let bad : List D := (s.filter fun k => !decide (k ∈ AZ)).map fun k => .str [k]
      have eb : ((s.map fun k => D.str [k]).filter fun d => match d with | .str [k] => !decide (k ∈ AZ) | _ => false) = bad := by simp [bad, List.filter_map, Function.comp_def]
      have hbad : bad.isEmpty = azB s := by
        simp only [bad, azB]
        rw [Bool.eq_iff_iff]
        simp [List.isEmpty_iff, List.filter_eq_nil_iff]
      rw [eb, List.nil_append, List.map_id] at hlc
      have heq := eq_nilD (S := S ++ [W] ++ [.lst bad] ++ [.lst []]) (a := S.length + 1) (b := S.length + 2) (k := 0) (ds := bad) (by decide) (by simp) (by simp) (fun d hd => by
        obtain ⟨k, _, rfl⟩ := List.mem_map.mp hd
        exact Dk.str _)
      rw [hbad] at heq
      refine ⟨[W, .lst bad, .lst []], ?_⟩
      simp only [W] at h2w hlc heq ⊢
      simp at hlc heq
      have c1 : 1 ≤ s.length := by omega
      have c2 : s.length ≤ 8 := by omega
      simp [hL, a1', a8', h2w, b1, b2, wipe, hlc, heq, nameB, nmB, c1, c2]
  | ref n => exact ⟨[], by simp [isi_dat h.dk, tyB, nameB]⟩
  | fl n => exact ⟨[], by simp [isi_dat h.dk, tyB, nameB]⟩
  | _ => exact ⟨[], by simp [nameB]⟩
def sigB : D → Bool
  | .int i => decide (0 ≤ i) && decide (i ≤ 9)
  | _ => false
theorem s_is_sign {k : Nat} {d : D} {S : Store} (h : Dn k S d) : R_is_sign [d] S = some (.ok (.bl (sigB d)) S) := by
  unfold R_is_sign
  rw [run_eq (n := 1) _ _ rfl]
  unfold b_is_sign
  cases d with
  | int i => by_cases c : 0 ≤ i <;> simp [sigB, tyB, c]
  | ref n => simp [isi_dat h.dk, tyB, sigB]
  | fl xs => simp [isi_dat h.dk, tyB, sigB]
  | _ => simp [tyB, sigB]
/-- the parts of what has a term's form -/
def wi : D → Option (List D)
  | .tup [a, b] => if isS wRow a && nameB b then some [] else if isS wBeh a then some [b] else none
  | .tup [a, b, c] => if isS wSign a && sigB b then some [c] else if isS wZip a then some [b, c] else none
  | _ => none
/-- how many terms, 1000 where it is none; k: how deep it may still be -/
def sz : Nat → D → Nat
  | 0, _ => 1000
  | k + 1, d => match wi d with
    | none => 1000
    | some ps => 1 + (ps.map (sz k)).sum
theorem isS_str {s : List Nat} {a : D} (h : isS s a = true) : a = .str s := by
  cases a <;> simp [isS] at h
  rw [h]
theorem s_within {k : Nat} (hk : k ≤ 60) {d : D} {S : Store} (h : Dn k S d) : (wi d = none ∧ ∃ G, R_within [d] S = some (.ok .non (S ++ G))) ∨ ∃ ps G, wi d = some ps ∧ R_within [d] S = some (.ok (.ref (S ++ G).length) (S ++ G ++ [.lst ps])) := by
  unfold R_within
  rw [run_eq (n := 1) _ _ rfl]
  unfold b_within
  cases d with
  | tup xs =>
    match xs, h with
    | [], _ => exact .inl ⟨rfl, [], by simp⟩
    | [_], _ => exact .inl ⟨rfl, [], by simp⟩
    | [a, b], h =>
      have hi := h.items
      have ha := hi a (by simp)
      have hb := hi b (by simp)
      have t0 : atI [a, b] 0 = some a ∧ atI [a, b] 1 = some b := by simp [atI, ixN]
      have i0 := isi_dat ha.dk .str
      cases a with
      | str s =>
        have q1 := eq_str (by omega) ha.dk [114, 111, 119]
        by_cases c1 : s = [114, 111, 119]
        · subst c1
          obtain ⟨G, hG⟩ := s_is_name hb
          cases hn : nameB b with
          | true =>
            refine .inr ⟨[], G, by simp [wi, isS, hn], ?_⟩
            rw [hn] at hG
            simp [t0, hG]
          | false =>
            refine .inl ⟨by simp [wi, isS, hn], G, ?_⟩
            rw [hn] at hG
            simp [t0, hG]
        · by_cases c2 : s = [98, 101, 104, 105, 110, 100]
          · subst c2
            exact .inr ⟨[b], [], by simp [wi, isS], by simp [t0]⟩
          · exact .inl ⟨by simp [wi, isS, c1, c2], [], by simp [t0, c1, c2]⟩
      | ref n => exact .inl ⟨by simp [wi, isS], [], by simp [t0, i0, tyB]⟩
      | fl n => exact .inl ⟨by simp [wi, isS], [], by simp [t0, i0, tyB]⟩
      | _ => exact .inl ⟨by simp [wi, isS], [], by simp [t0]⟩
    | [a, b, c], h =>
      have hi := h.items
      have ha := hi a (by simp)
      have hb := hi b (by simp)
      have t0 : atI [a, b, c] 0 = some a ∧ atI [a, b, c] 1 = some b ∧ atI [a, b, c] 2 = some c := by simp [atI, ixN]
      have i0 := isi_dat ha.dk .str
      have hs := s_is_sign (S := S) hb
      cases a with
      | str s =>
        by_cases c1 : s = [115, 105, 103, 110]
        · subst c1
          cases hn : sigB b with
          | true => exact .inr ⟨[c], [], by simp [wi, isS, hn], by simp [t0, hs, hn]⟩
          | false => exact .inl ⟨by simp [wi, isS, hn], [], by simp [t0, hs, hn]⟩
        · by_cases c2 : s = [122, 105, 112]
          · subst c2
            exact .inr ⟨[b, c], [], by simp [wi, isS], by simp [t0]⟩
          · exact .inl ⟨by simp [wi, isS, c1, c2], [], by simp [t0, c1, c2]⟩
      | ref n => exact .inl ⟨by simp [wi, isS], [], by simp [t0, i0, tyB]⟩
      | fl n => exact .inl ⟨by simp [wi, isS], [], by simp [t0, i0, tyB]⟩
      | _ => exact .inl ⟨by simp [wi, isS], [], by simp [t0]⟩
    | a :: b :: c :: e :: r, h =>
      have ha := h.items a (by simp)
      have t0 : atI (a :: b :: c :: e :: r) 0 = some a := by simp [at0]
      have i0 := isi_dat ha.dk .str
      have n2 : ¬ ((r.length : Int) + 1 + 1 + 1 + 1 < 2) := by omega
      have e2' : ¬ ((r.length : Int) + 1 + 1 + 1 + 1 = 2) := by omega
      have e3' : ¬ ((r.length : Int) + 1 + 1 + 1 + 1 = 3) := by omega
      refine .inl ⟨rfl, [], ?_⟩
      cases a with
      | str s => by_cases c1 : s = [114, 111, 119] <;> by_cases c2 : s = [115, 105, 103, 110] <;> by_cases c3 : s = [98, 101, 104, 105, 110, 100] <;> by_cases c4 : s = [122, 105, 112] <;> simp [at0, n2, e2', e3', c1, c2, c3, c4]
      | ref n => simp [t0, i0, tyB, n2]
      | fl n => simp [t0, i0, tyB, n2]
      | _ => simp [t0, n2]
  | ref n => exact .inl ⟨rfl, [], by simp [isi_dat h.dk, tyB]⟩
  | fl n => exact .inl ⟨rfl, [], by simp [isi_dat h.dk, tyB]⟩
  | _ => exact .inl ⟨rfl, [], by simp⟩
end Z
namespace Z
theorem wi_parts {k : Nat} {S : Store} {d : D} {ps : List D} (h : Dn k S d) (e : wi d = some ps) : (∀ p ∈ ps, Dn (k - 1) S p) ∧ ps.length ≤ 2 := by
  cases d with
  | tup xs =>
    have hi := h.items
    match xs, e, hi with
    | [a, b], e, hi =>
      unfold wi at e
      dsimp only at e
      by_cases c1 : (isS wRow a && nameB b) = true
      · rw [if_pos c1] at e; cases e; exact ⟨fun p hp => (nomatch hp), Nat.zero_le _⟩
      · rw [if_neg c1] at e
        by_cases c2 : isS wBeh a = true
        · rw [if_pos c2] at e; cases e
          exact ⟨fun p hp => hi p (by simp at hp; simp [hp]), by simp⟩
        · rw [if_neg c2] at e; cases e
    | [a, b, c], e, hi =>
      unfold wi at e
      dsimp only at e
      by_cases c1 : (isS wSign a && sigB b) = true
      · rw [if_pos c1] at e; cases e; exact ⟨fun p hp => hi p (by simp at hp; simp [hp]), by simp⟩
      · rw [if_neg c1] at e
        by_cases c2 : isS wZip a = true
        · rw [if_pos c2] at e; cases e
          exact ⟨fun p hp => hi p (by simp at hp; rcases hp with rfl | rfl <;> simp), by simp⟩
        · rw [if_neg c2] at e; cases e
    | [], e, hi => cases e
    | [_], e, hi => cases e
    | _ :: _ :: _ :: _ :: _, e, hi => cases e
  | _ => cases e
def inTen : D → Bool
  | .int i => decide (0 ≤ i) && decide (i ≤ 9)
  | .bl _ => true
  | _ => false
theorem s_inR {k : Nat} (hk : k ≤ 60) {S : Store} {b : D} (h : Dk k S b) : inRD b (.int 10) S = some (.ok (.bl (inTen b)) S) := by
  obtain ⟨x, h1, h2⟩ := h
  have hc : x.dep ≤ 60 ∧ (0 : Int) ≤ 10 ∧ (10 : Int) ≤ 1000 := ⟨by omega, by decide, by decide⟩
  unfold inRD
  dsimp only
  rw [h1]
  dsimp only
  rw [if_pos hc]
  cases b with
  | int i =>
    simp [dat, D.pd] at h1; subst h1
    have e : ∀ i : Int, decide (i < 10) = decide (i ≤ 9) := fun i => by rw [Bool.eq_iff_iff]; simp; omega
    simp [inRb, e, inTen]
  | bl i => simp [dat, D.pd] at h1; subst h1; simp [inRb, inTen]; cases i <;> simp
  | str z => simp [dat, D.pd] at h1; subst h1; simp [inRb, inTen]
  | non => simp [dat, D.pd] at h1; subst h1; simp [inRb, inTen]
  | tup xs => unfold dat at h1; rw [D.pd] at h1; obtain ⟨ys, _, rfl⟩ := Option.map_eq_some_iff.mp h1; simp [inRb, inTen]
  | fl xs => unfold dat at h1; rw [D.pd] at h1; obtain ⟨ys, _, rfl⟩ := Option.map_eq_some_iff.mp h1; simp [inRb, inTen]
  | ref n =>
    unfold dat at h1
    rw [D.pd, rdR] at h1
    split at h1
    · obtain ⟨ys, _, rfl⟩ := Option.map_eq_some_iff.mp h1; simp [inRb, inTen]
    · cases h1
theorem s_law_size : ∀ (k f deep : Nat) (d : D) (S : Store), k < f → deep + k = 11 → Dn 60 S d → ∃ (v : Nat) (G : Store), R_law_size f [d, .int deep] S = some (.ok (.int v) (S ++ G)) ∧ (v = sz k d ∨ (1000 ≤ v ∧ 1000 ≤ sz k d))
  | k, 0, deep, d, S, h, _, _ => by omega
  | 0, f + 1, deep, d, S, _, hd, h => by
    have e : (10 : Int) < deep := by omega
    refine ⟨1000, [], ?_, .inl rfl⟩
    unfold R_law_size
    rw [run_eq (n := 2) _ _ rfl]
    unfold b_law_size
    cases d with
    | tup xs => simp [e]
    | ref n => simp [isi_dat h.dk, tyB]
    | fl n => simp [isi_dat h.dk, tyB]
    | _ => simp
  | k + 1, f + 1, deep, d, S, hf, hd, h => by
    have e : ¬ (10 : Int) < deep := by omega
    have hd1 : (deep : Int) + 1 = ((deep + 1 : Nat) : Int) := by omega
    have ih := fun (x : D) (S : Store) => s_law_size k f (deep + 1) x S (by omega) (by omega)
    have t2 : ∀ a b : D, atI [a, b] 0 = some a ∧ atI [a, b] 1 = some b := fun a b => by simp [atI, ixN]
    have t3 : ∀ a b c : D, atI [a, b, c] 0 = some a ∧ atI [a, b, c] 1 = some b ∧ atI [a, b, c] 2 = some c := fun a b c => by simp [atI, ixN]
    unfold R_law_size
    rw [run_eq (n := 2) _ _ rfl]
    unfold b_law_size
    cases d with
    | tup xs =>
      match xs, h with
      | [], _ => exact ⟨1000, [], by simp [e], .inl rfl⟩
      | [_], _ => exact ⟨1000, [], by simp [e], .inl rfl⟩
      | [a, b], h =>
        have hi := h.items
        have ha := hi a (by simp)
        have hb := hi b (by simp)
        have q := fun s => eq_str (by decide) ha.dk s
        cases a with
        | str s =>
          by_cases c1 : s = [114, 111, 119]
          · subst c1
            obtain ⟨G, hG⟩ := s_law_is_name hb
            cases hn : nameB b with
            | true =>
              rw [hn] at hG
              exact ⟨1, G, by simp [e, t2, hG], .inl (by simp [sz, wi, isS, hn])⟩
            | false =>
              rw [hn] at hG
              exact ⟨1000, G, by simp [e, t2, hG], .inl (by simp [sz, wi, isS, hn])⟩
          · by_cases c2 : s = [98, 101, 104, 105, 110, 100]
            · subst c2
              obtain ⟨v, G, hv, hs⟩ := ih b S (hb.le (by decide))
              rw [← hd1] at hv
              refine ⟨1 + v, G, by simp [e, t2, hv], ?_⟩
              have : sz (k + 1) (.tup [.str [98, 101, 104, 105, 110, 100], b]) = 1 + sz k b := by simp [sz, wi, isS]
              rw [this]; omega
            · exact ⟨1000, [], by simp [e, t2, c1, c2], .inl (by simp [sz, wi, isS, c1, c2])⟩
        | ref n => exact ⟨1000, [], by simp [e, t2, q, isS], .inl (by simp [sz, wi, isS])⟩
        | fl n => exact ⟨1000, [], by simp [e, t2, q, isS], .inl (by simp [sz, wi, isS])⟩
        | tup n => exact ⟨1000, [], by simp [e, t2, q, isS], .inl (by simp [sz, wi, isS])⟩
        | non => exact ⟨1000, [], by simp [e, t2, q, isS], .inl (by simp [sz, wi, isS])⟩
        | bl n => exact ⟨1000, [], by simp [e, t2, q, isS], .inl (by simp [sz, wi, isS])⟩
        | int n => exact ⟨1000, [], by simp [e, t2, q, isS], .inl (by simp [sz, wi, isS])⟩
      | [a, b, c], h =>
        have hi := h.items
        have ha := hi a (by simp)
        have hb := hi b (by simp)
        have hc := hi c (by simp)
        have q := fun s => eq_str (by decide) ha.dk s
        cases a with
        | str s =>
          by_cases c1 : s = [122, 105, 112]
          · subst c1
            obtain ⟨v, G, hv, hs⟩ := ih b S (hb.le (by decide))
            obtain ⟨v', G', hv', hs'⟩ := ih c (S ++ G) (hc.app.le (by decide))
            rw [← hd1] at hv hv'
            refine ⟨1 + v + v', G ++ G', by simp [e, t3, hv, hv'], ?_⟩
            have : sz (k + 1) (.tup [.str [122, 105, 112], b, c]) = 1 + (sz k b + sz k c) := by simp [sz, wi, isS]
            rw [this]; omega
          · by_cases c2 : s = [115, 105, 103, 110]
            · subst c2
              have hr := s_inR (S := S) (by decide) hb.dk
              obtain ⟨v, G, hv, hs⟩ := ih c S (hc.le (by decide))
              rw [← hd1] at hv
              cases b with
              | int i =>
                by_cases g : 0 ≤ i ∧ i ≤ 9
                · refine ⟨1 + v, G, by simp [e, t3, hr, g, hv, inTen], ?_⟩
                  have : sz (k + 1) (.tup [.str [115, 105, 103, 110], .int i, c]) = 1 + sz k c := by simp [sz, wi, isS, sigB, g]
                  rw [this]; omega
                · have g' : (decide (0 ≤ i) && decide (i ≤ 9)) = false := by simp; omega
                  have g2 : ¬ (0 ≤ i ∧ i ≤ 9) := g
                  refine ⟨1000, [], ?_, .inl ?_⟩
                  · simp only [inTen, g'] at hr
                    simp [e, t3, hr]
                  · simp [sz, wi, isS, sigB, g2]
              | bl i =>
                refine ⟨1 + v + 1000, G, by simp [e, t3, hr, hv, inTen], .inr ⟨by omega, by simp [sz, wi, isS, sigB]⟩⟩
              | ref n => exact ⟨1000, [], by simp [e, t3, hr, inTen], .inl (by simp [sz, wi, isS, sigB])⟩
              | fl n => exact ⟨1000, [], by simp [e, t3, hr, inTen], .inl (by simp [sz, wi, isS, sigB])⟩
              | tup n => exact ⟨1000, [], by simp [e, t3, hr, inTen], .inl (by simp [sz, wi, isS, sigB])⟩
              | non => exact ⟨1000, [], by simp [e, t3, hr, inTen], .inl (by simp [sz, wi, isS, sigB])⟩
              | str n => exact ⟨1000, [], by simp [e, t3, hr, inTen], .inl (by simp [sz, wi, isS, sigB])⟩
            · exact ⟨1000, [], by simp [e, t3, c1, c2], .inl (by simp [sz, wi, isS, c1, c2])⟩
        | ref n => exact ⟨1000, [], by simp [e, t3, q, isS], .inl (by simp [sz, wi, isS])⟩
        | fl n => exact ⟨1000, [], by simp [e, t3, q, isS], .inl (by simp [sz, wi, isS])⟩
        | tup n => exact ⟨1000, [], by simp [e, t3, q, isS], .inl (by simp [sz, wi, isS])⟩
        | non => exact ⟨1000, [], by simp [e, t3, q, isS], .inl (by simp [sz, wi, isS])⟩
        | bl n => exact ⟨1000, [], by simp [e, t3, q, isS], .inl (by simp [sz, wi, isS])⟩
        | int n => exact ⟨1000, [], by simp [e, t3, q, isS], .inl (by simp [sz, wi, isS])⟩
      | a :: b :: c :: x :: r, h =>
        have e2' : ¬ ((r.length : Int) + 1 + 1 + 1 + 1 = 2) := by omega
        have e3' : ¬ ((r.length : Int) + 1 + 1 + 1 + 1 = 3) := by omega
        exact ⟨1000, [], by simp [e, e2', e3'], .inl rfl⟩
    | ref n => exact ⟨1000, [], by simp [isi_dat h.dk, tyB], .inl rfl⟩
    | fl n => exact ⟨1000, [], by simp [isi_dat h.dk, tyB], .inl rfl⟩
    | _ => exact ⟨1000, [], by simp, .inl rfl⟩
/-! ### is_term -/
def tot : List (D × Nat) → Nat
  | [] => 0
  | x :: r => sz (11 - x.2) x.1 + tot r
theorem tot_app : ∀ a b : List (D × Nat), tot (a ++ b) = tot a + tot b
  | [], b => by simp [tot]
  | x :: a, b => by simp [tot, tot_app a b]; omega
theorem tot_parts (k : Nat) : ∀ ps : List D, tot ((ps.map fun p => (p, k)).reverse) = (ps.map (sz (11 - k))).sum
  | [] => rfl
  | p :: ps => by simp [tot_app, tot_parts k ps, tot]; omega
theorem sz_pos (k : Nat) (d : D) : 1 ≤ sz k d := by
  cases k with
  | zero => simp [sz]
  | succ k => rw [sz]; split <;> omega
theorem tot_pos : ∀ st : List (D × Nat), st.length ≤ tot st
  | [] => Nat.le_refl _
  | x :: r => by have := sz_pos (11 - x.2) x.1; have := tot_pos r; simp [tot]; omega
theorem sz_none {d : D} (h : wi d = none) (k : Nat) : sz k d = 1000 := by
  cases k with
  | zero => rfl
  | succ k => rw [sz, h]
theorem Dn.maskApp {k : Nat} {S G T : Store} {o : MO} {d : D} (h : Dn k (S ++ .dct [] :: G) d) : Dn k (S ++ o :: (G ++ T)) d := by
  have := (h.mono (LeL.mask (o := o))).app (G := T)
  simpa using this
@[simp] theorem o_iaddI (i j : Int) (S : Store) : iaddD (.int i) (.int j) S = some (.ok (.int (i + j)) S) := rfl
def stk (x : D × Nat) : D := .tup [x.1, .int x.2]
theorem stk_dk {S : Store} {x : D × Nat} (h : Dn 55 S x.1) : Dk 57 S (stk x) := (Dk.tup (k := 56) fun y hy => by
  simp at hy
  rcases hy with rfl | rfl
  · exact (h.dk.le (by decide))
  · exact Dk.int _)
theorem ext_at {S T : Store} {a b : List D} {j : Nat} (h : T[j]? = some (.lst b)) (hl : a.length + b.length ≤ LINE) : extendF [.ref S.length, .ref (S.length + (j + 1))] (S ++ .lst a :: T) = some (.ok .non (S ++ .lst (a ++ b) :: T)) := by
  have e : (S ++ MO.lst a :: T)[S.length + (j + 1)]? = some (.lst b) := by
    rw [List.getElem?_append_right (by omega), show S.length + (j + 1) - S.length = j + 1 by omega]
    exact h
  simp [extendF, e, hl]
noncomputable abbrev isT : ST := tVal (e2 neD (eVar 1) (eLst []))
theorem term_loop (o0 : Option D) (S : Store) : ∀ (n many : Nat) (st : List (D × Nat)) (G : Store) (o3 o4 o5 o6 : Option D), 21 ≤ many + n → many ≤ 20 → st.length ≤ many + 1 → (∀ x ∈ st, Dn 55 (S ++ .dct [] :: G) x.1) →
    (∃ S', sWh isT (lb_is_term_1 R_within) [o0, some (.ref S.length), some (.int many), o3, o4, o5, o6] (S ++ .lst (st.reverse.map stk) :: G) = some (.rt (.bl false) (S ++ S')) ∧ 20 < many + tot st) ∨
    (∃ S' ρ', sWh isT (lb_is_term_1 R_within) [o0, some (.ref S.length), some (.int many), o3, o4, o5, o6] (S ++ .lst (st.reverse.map stk) :: G) = some (.nx ρ' (S ++ S')) ∧ many + tot st ≤ 20) := by
  intro n
  induction n with
  | zero => intro many st G o3 o4 o5 o6 h h20; omega
  | succ n ih =>
    intro many st G o3 o4 o5 o6 h h20 hl hst
    have hne := ne_nilD (S := S ++ .lst (st.reverse.map stk) :: (G ++ [.lst []])) (a := S.length) (b := S.length + (G.length + 1)) (ds := st.reverse.map stk) (k := 57) (by decide) (by simp) (by simp) (fun d hd => by
      obtain ⟨x, hx, rfl⟩ := List.mem_map.mp hd
      exact stk_dk (hst x (by simpa using hx)).maskApp)
    cases st with
    | nil =>
      right
      refine ⟨.lst [] :: (G ++ [.lst []]), _, sWh_stop (S1 := S ++ .lst [] :: (G ++ [.lst []])) ?_, by simpa [tot] using h20⟩
      simp at hne
      simp [hne]
    | cons x r =>
      obtain ⟨x, deep⟩ := x
      simp at hne
      have hpop := pop_last (S := S ++ .lst (((x, deep) :: r).reverse.map stk) :: (G ++ [.lst []])) (n := S.length) (xs := r.reverse.map stk) (x := stk (x, deep)) (by simp)
      have hset : ∀ y, (S ++ MO.lst (((x, deep) :: r).reverse.map stk) :: (G ++ [.lst []])).set S.length y = S ++ y :: (G ++ [.lst []]) := fun y => by simp
      rw [hset] at hpop
      simp at hpop
      have htest : isT [o0, some (.ref S.length), some (.int many), o3, o4, o5, o6] (S ++ .lst (((x, deep) :: r).reverse.map stk) :: G) = some (.ok true (S ++ .lst (((x, deep) :: r).reverse.map stk) :: (G ++ [.lst []]))) := by
        simp [hne]
      have hx' : Dn 55 (S ++ .lst (r.reverse.map stk) :: (G ++ [.lst []])) x := (hst (x, deep) (by simp)).maskApp
      have hm : (many : Int) + 1 = ((many + 1 : Nat) : Int) := by omega
      simp only [stk] at hpop
      rcases s_within (by decide) hx' with ⟨hw, G1, hG1⟩ | ⟨ps, G1, hw, hG1⟩
      · left
        have := sz_none hw (11 - deep)
        refine ⟨.lst (r.reverse.map stk) :: (G ++ [.lst []] ++ G1), sWh_rt htest ?_, by simp [tot]; omega⟩
        simp at hG1
        simp [lb_is_term_1, stk, hpop, hG1, isD, isNonB]
      by_cases c1 : 10 < deep
      · left
        have e0 : 11 - deep = 0 := by omega
        have c1' : (10 : Int) < deep := by omega
        refine ⟨.lst (r.reverse.map stk) :: (G ++ [.lst []] ++ G1 ++ [.lst ps]), sWh_rt htest ?_, by simp [tot, e0, sz]; omega⟩
        simp at hG1
        simp [lb_is_term_1, stk, hpop, hG1, isD, isNonB, c1', c_MOST_DEEP]
      have c1' : ¬ (10 : Int) < deep := by omega
      by_cases c2 : 20 < many + 1
      · left
        have c2' : (20 : Int) < (many : Int) + 1 := by omega
        have := sz_pos (11 - deep) x
        refine ⟨.lst (r.reverse.map stk) :: (G ++ [.lst []] ++ G1 ++ [.lst ps]), sWh_rt htest ?_, by simp [tot]; omega⟩
        simp at hG1
        simp [lb_is_term_1, stk, hpop, hG1, isD, isNonB, c1', c_MOST_DEEP, c2', c_MOST_TERMS]
      have c2' : ¬ (20 : Int) < (many : Int) + 1 := by omega
      obtain ⟨hp, hp2⟩ := wi_parts hx' hw
      let G2 : Store := G ++ [.lst []] ++ G1 ++ [.lst ps]
      let st' : List (D × Nat) := (ps.map fun p => (p, deep + 1)).reverse ++ r
      have hlc := lcL_map (chk := fun S' => S'[S.length + (G.length + (G1.length + 1) + 1)]? = some (.lst ps)) (g := gName 6) (t := tYes) (e := eTup [eVar 6, e2 addD (eVar 4) (eC (.int 1))]) (S := S ++ .lst (r.reverse.map stk) :: G2) (ρ := [o0, some (.ref S.length), some (.int (many + 1 : Nat)), some x, some (.int deep), some (.ref (S.length + (G.length + (G1.length + 1) + 1))), none])
        (fun d => stk (d, deep + 1)) ps [] (by rw [LINE_eq]; simp; omega) (fun acc => by simp [G2]) (fun y hy acc => ⟨_, rfl, rfl, by simp [stk]⟩)
      have e1 : tot ((x, deep) :: r) + many = tot st' + (many + 1) := by
        have : 11 - deep = (11 - (deep + 1)) + 1 := by omega
        simp only [st', tot_app, tot_parts, tot]
        rw [this, sz, hw]
        dsimp only
        omega
      have step : ∃ o3' o4' o5' o6', sWh isT (lb_is_term_1 R_within) [o0, some (.ref S.length), some (.int many), o3, o4, o5, o6] (S ++ .lst (((x, deep) :: r).reverse.map stk) :: G) = sWh isT (lb_is_term_1 R_within) [o0, some (.ref S.length), some (.int (many + 1 : Nat)), o3', o4', o5', o6'] (S ++ .lst (st'.reverse.map stk) :: (G2 ++ [.lst (ps.map fun d => stk (d, deep + 1))])) := by
        refine ⟨some x, some (.int deep), some (.ref (S.length + (G.length + (G1.length + 1) + 1))), o6, sWh_go htest ?_⟩
        simp at hG1
        simp [G2] at hlc
        have hext := ext_at (S := S) (T := G ++ .lst [] :: (G1 ++ [.lst ps, .lst (ps.map fun d => stk (d, deep + 1))])) (a := (r.map stk).reverse) (b := ps.map fun d => stk (d, deep + 1)) (j := G.length + (G1.length + 1 + 1)) (by simp) (by rw [LINE_eq]; simp at hl ⊢; omega)
        have hst' : (r.map stk).reverse ++ ps.map (fun d => stk (d, deep + 1)) = (st'.map stk).reverse := by simp [st', Function.comp_def]
        rw [hst'] at hext
        have hpop2 : popF [.ref S.length] (S ++ MO.lst ((r.map stk).reverse ++ [stk (x, deep)]) :: (G ++ [MO.lst []])) = some (.ok (.tup [x, .int deep]) (S ++ MO.lst (r.map stk).reverse :: (G ++ [MO.lst []]))) := hpop
        simp [lb_is_term_1, hpop2, hG1, isD, isNonB, c1', c_MOST_DEEP, c2', c_MOST_TERMS, wipe, hlc, hext, G2]
      obtain ⟨o3', o4', o5', o6', step⟩ := step
      have key := ih (many + 1) st' (G2 ++ [.lst (ps.map fun d => stk (d, deep + 1))]) o3' o4' o5' o6' (by omega) (by omega) (by simp [st']; simp at hl; omega) (fun y hy => by
        have : Dn 55 (S ++ .dct [] :: G) y.1 := by
          rcases List.mem_append.mp hy with hy | hy
          · simp at hy
            obtain ⟨p, hp, rfl⟩ := hy
            exact ((wi_parts (hst (x, deep) (by simp)) hw).1 p hp).le (by decide)
          · exact hst y (List.mem_cons_of_mem _ hy)
        have := this.maskApp (o := .dct []) (T := [.lst []] ++ G1 ++ [.lst ps] ++ [.lst (ps.map fun d => stk (d, deep + 1))])
        simpa [G2] using this)
      rw [step]
      have e2' : many + tot ((x, deep) :: r) = many + 1 + tot st' := by omega
      rw [e2']
      exact key
theorem s_is_term {S : Store} {d : D} (h : Dn 55 S d) : ∃ G, R_is_term [d] S = some (.ok (.bl (decide (sz 10 d ≤ 20))) (S ++ G)) := by
  have key := term_loop (some d) S 21 0 [(d, 1)] [] none none none none (by decide) (by decide) (by simp) (fun x hx => by simp at hx; subst hx; exact h.app)
  unfold R_is_term
  rw [run_eq (n := 1) _ _ rfl]
  unfold b_is_term
  rcases key with ⟨S', h1, h2⟩ | ⟨S', ρ', h1, h2⟩
  · have : ¬ sz 10 d ≤ 20 := by simp [tot] at h2; omega
    simp [stk] at h1
    exact ⟨S', by simp [h1, this]⟩
  · have : sz 10 d ≤ 20 := by simp [tot] at h2; omega
    simp [stk] at h1
    exact ⟨S', by simp [h1, this]⟩
end Z
namespace Z
/-! ### odd things -/
def oddObjs (n : Nat) (T : D) (hd : List Nat) (tl : List D) : Store := [.lst [.non, .bl true, .int 0, .str [97], .str [], .tup [], .tup [.str [114, 111, 119]], .tup [.str [114, 111, 119], .str [122, 105, 112]], .tup [.str [114, 111, 119], .str [98, 101, 104, 105, 110, 100]], .tup [.str [114, 111, 119], .str [65]], .tup [.str [114, 111, 119], .str []]],
  .lst [.str [114, 111, 119], .str [97]],
  .lst [.tup [.str [114, 111, 119], .str [97, 98, 99, 100, 101, 102, 103, 104, 105]], .tup [.str [114, 111, 119], .int 5], .tup [.str [114, 111, 119], T], .tup [.str [114, 111, 119], .str [97], .str [98]], .ref (n + 1), .tup [.str [114, 111, 119, 115], .str [97]]],
  .lst [.non, .bl true, .int 0, .str [97], .str [], .tup [], .tup [.str [114, 111, 119]], .tup [.str [114, 111, 119], .str [122, 105, 112]], .tup [.str [114, 111, 119], .str [98, 101, 104, 105, 110, 100]], .tup [.str [114, 111, 119], .str [65]], .tup [.str [114, 111, 119], .str []], .tup [.str [114, 111, 119], .str [97, 98, 99, 100, 101, 102, 103, 104, 105]], .tup [.str [114, 111, 119], .int 5], .tup [.str [114, 111, 119], T], .tup [.str [114, 111, 119], .str [97], .str [98]], .ref (n + 1), .tup [.str [114, 111, 119, 115], .str [97]]],
  .lst [.str [115, 105, 103, 110], .int 1, T],
  .lst [.ref (n + 4), .tup [.str [115, 105, 103, 110], .int (-1), T], .tup [.str [115, 105, 103, 110], .bl true, T], .tup [.str [115, 105, 103, 110], .str [49], T], .tup [.str [115, 105, 103, 110], .int 1]],
  .lst (.non :: .bl true :: .int 0 :: .str [97] :: .str [] :: .tup [] :: .tup [.str [114, 111, 119]] :: .tup [.str [114, 111, 119], .str [122, 105, 112]] :: .tup [.str [114, 111, 119], .str [98, 101, 104, 105, 110, 100]] :: .tup [.str [114, 111, 119], .str [65]] :: .tup [.str [114, 111, 119], .str []] :: .tup [.str [114, 111, 119], .str [97, 98, 99, 100, 101, 102, 103, 104, 105]] :: .tup [.str [114, 111, 119], .int 5] :: .tup [.str [114, 111, 119], T] :: .tup [.str [114, 111, 119], .str [97], .str [98]] :: .ref (n + 1) :: .tup [.str [114, 111, 119, 115], .str [97]] :: .ref (n + 4) :: .tup [.str [115, 105, 103, 110], .int (-1), T] :: .tup [.str [115, 105, 103, 110], .bl true, T] :: .tup [.str [115, 105, 103, 110], .str [49], T] :: .tup [.str [115, 105, 103, 110], .int 1] :: []),
  .lst [.tup [.str [115, 105, 103, 110], T, .int 1], .tup [.str [115, 105, 103, 110], .int 1, T, T], .tup [.str [115, 105, 103, 110], .non, T], .tup [.str [98, 101, 104, 105, 110, 100]]],
  .lst (.non :: .bl true :: .int 0 :: .str [97] :: .str [] :: .tup [] :: .tup [.str [114, 111, 119]] :: .tup [.str [114, 111, 119], .str [122, 105, 112]] :: .tup [.str [114, 111, 119], .str [98, 101, 104, 105, 110, 100]] :: .tup [.str [114, 111, 119], .str [65]] :: .tup [.str [114, 111, 119], .str []] :: .tup [.str [114, 111, 119], .str [97, 98, 99, 100, 101, 102, 103, 104, 105]] :: .tup [.str [114, 111, 119], .int 5] :: .tup [.str [114, 111, 119], T] :: .tup [.str [114, 111, 119], .str [97], .str [98]] :: .ref (n + 1) :: .tup [.str [114, 111, 119, 115], .str [97]] :: .ref (n + 4) :: .tup [.str [115, 105, 103, 110], .int (-1), T] :: .tup [.str [115, 105, 103, 110], .bl true, T] :: .tup [.str [115, 105, 103, 110], .str [49], T] :: .tup [.str [115, 105, 103, 110], .int 1] :: .tup [.str [115, 105, 103, 110], T, .int 1] :: .tup [.str [115, 105, 103, 110], .int 1, T, T] :: .tup [.str [115, 105, 103, 110], .non, T] :: .tup [.str [98, 101, 104, 105, 110, 100]] :: []),
  .lst [T],
  .lst [.tup [.str [98, 101, 104, 105, 110, 100], T, T], .tup [.str [122, 105, 112], T], .tup [.str [122, 105, 112], T, T, T], .tup [.str [122, 105, 112], .ref (n + 9), T]],
  .lst (.non :: .bl true :: .int 0 :: .str [97] :: .str [] :: .tup [] :: .tup [.str [114, 111, 119]] :: .tup [.str [114, 111, 119], .str [122, 105, 112]] :: .tup [.str [114, 111, 119], .str [98, 101, 104, 105, 110, 100]] :: .tup [.str [114, 111, 119], .str [65]] :: .tup [.str [114, 111, 119], .str []] :: .tup [.str [114, 111, 119], .str [97, 98, 99, 100, 101, 102, 103, 104, 105]] :: .tup [.str [114, 111, 119], .int 5] :: .tup [.str [114, 111, 119], T] :: .tup [.str [114, 111, 119], .str [97], .str [98]] :: .ref (n + 1) :: .tup [.str [114, 111, 119, 115], .str [97]] :: .ref (n + 4) :: .tup [.str [115, 105, 103, 110], .int (-1), T] :: .tup [.str [115, 105, 103, 110], .bl true, T] :: .tup [.str [115, 105, 103, 110], .str [49], T] :: .tup [.str [115, 105, 103, 110], .int 1] :: .tup [.str [115, 105, 103, 110], T, .int 1] :: .tup [.str [115, 105, 103, 110], .int 1, T, T] :: .tup [.str [115, 105, 103, 110], .non, T] :: .tup [.str [98, 101, 104, 105, 110, 100]] :: .tup [.str [98, 101, 104, 105, 110, 100], T, T] :: .tup [.str [122, 105, 112], T] :: .tup [.str [122, 105, 112], T, T, T] :: .tup [.str [122, 105, 112], .ref (n + 9), T] :: []),
  .lst [.str [122, 105, 112], T, T],
  .lst [.str hd],
  .lst [.int 1],
  .lst [.str [97]],
  .lst [.ref (n + 12), .tup [.str [122, 105, 112]], .tup (.ref (n + 13) :: tl), .tup [.str [115, 105, 103, 110], .ref (n + 14), T], .tup [.str [114, 111, 119], .ref (n + 15)]],
  .lst (.non :: .bl true :: .int 0 :: .str [97] :: .str [] :: .tup [] :: .tup [.str [114, 111, 119]] :: .tup [.str [114, 111, 119], .str [122, 105, 112]] :: .tup [.str [114, 111, 119], .str [98, 101, 104, 105, 110, 100]] :: .tup [.str [114, 111, 119], .str [65]] :: .tup [.str [114, 111, 119], .str []] :: .tup [.str [114, 111, 119], .str [97, 98, 99, 100, 101, 102, 103, 104, 105]] :: .tup [.str [114, 111, 119], .int 5] :: .tup [.str [114, 111, 119], T] :: .tup [.str [114, 111, 119], .str [97], .str [98]] :: .ref (n + 1) :: .tup [.str [114, 111, 119, 115], .str [97]] :: .ref (n + 4) :: .tup [.str [115, 105, 103, 110], .int (-1), T] :: .tup [.str [115, 105, 103, 110], .bl true, T] :: .tup [.str [115, 105, 103, 110], .str [49], T] :: .tup [.str [115, 105, 103, 110], .int 1] :: .tup [.str [115, 105, 103, 110], T, .int 1] :: .tup [.str [115, 105, 103, 110], .int 1, T, T] :: .tup [.str [115, 105, 103, 110], .non, T] :: .tup [.str [98, 101, 104, 105, 110, 100]] :: .tup [.str [98, 101, 104, 105, 110, 100], T, T] :: .tup [.str [122, 105, 112], T] :: .tup [.str [122, 105, 112], T, T, T] :: .tup [.str [122, 105, 112], .ref (n + 9), T] :: .ref (n + 12) :: .tup [.str [122, 105, 112]] :: .tup (.ref (n + 13) :: tl) :: .tup [.str [115, 105, 103, 110], .ref (n + 14), T] :: .tup [.str [114, 111, 119], .ref (n + 15)] :: []),
  .lst [],
  .lst [],
  .lst [.tup [.str [114, 111, 119], .ref (n + 18)], .tup [.ref (n + 19), T], .tup (.tup [.str hd] :: tl), .tup [.str [115, 105, 103, 110], .tup [.int 1], T], .tup [.str [115, 105, 103, 110], .bl false, T]],
  .lst (.non :: .bl true :: .int 0 :: .str [97] :: .str [] :: .tup [] :: .tup [.str [114, 111, 119]] :: .tup [.str [114, 111, 119], .str [122, 105, 112]] :: .tup [.str [114, 111, 119], .str [98, 101, 104, 105, 110, 100]] :: .tup [.str [114, 111, 119], .str [65]] :: .tup [.str [114, 111, 119], .str []] :: .tup [.str [114, 111, 119], .str [97, 98, 99, 100, 101, 102, 103, 104, 105]] :: .tup [.str [114, 111, 119], .int 5] :: .tup [.str [114, 111, 119], T] :: .tup [.str [114, 111, 119], .str [97], .str [98]] :: .ref (n + 1) :: .tup [.str [114, 111, 119, 115], .str [97]] :: .ref (n + 4) :: .tup [.str [115, 105, 103, 110], .int (-1), T] :: .tup [.str [115, 105, 103, 110], .bl true, T] :: .tup [.str [115, 105, 103, 110], .str [49], T] :: .tup [.str [115, 105, 103, 110], .int 1] :: .tup [.str [115, 105, 103, 110], T, .int 1] :: .tup [.str [115, 105, 103, 110], .int 1, T, T] :: .tup [.str [115, 105, 103, 110], .non, T] :: .tup [.str [98, 101, 104, 105, 110, 100]] :: .tup [.str [98, 101, 104, 105, 110, 100], T, T] :: .tup [.str [122, 105, 112], T] :: .tup [.str [122, 105, 112], T, T, T] :: .tup [.str [122, 105, 112], .ref (n + 9), T] :: .ref (n + 12) :: .tup [.str [122, 105, 112]] :: .tup (.ref (n + 13) :: tl) :: .tup [.str [115, 105, 103, 110], .ref (n + 14), T] :: .tup [.str [114, 111, 119], .ref (n + 15)] :: .tup [.str [114, 111, 119], .ref (n + 18)] :: .tup [.ref (n + 19), T] :: .tup (.tup [.str hd] :: tl) :: .tup [.str [115, 105, 103, 110], .tup [.int 1], T] :: .tup [.str [115, 105, 103, 110], .bl false, T] :: []),
  .lst [.str [98, 101, 104, 105, 110, 100], T],
  .lst [.tup [.str [90, 105, 112], T, T], .tup [T, T], .tup [.int 1, T], .tup [.non, T], .ref (n + 22), .tup [.str [98, 101, 104, 105, 110, 100], .str [97]]],
  .lst (.non :: .bl true :: .int 0 :: .str [97] :: .str [] :: .tup [] :: .tup [.str [114, 111, 119]] :: .tup [.str [114, 111, 119], .str [122, 105, 112]] :: .tup [.str [114, 111, 119], .str [98, 101, 104, 105, 110, 100]] :: .tup [.str [114, 111, 119], .str [65]] :: .tup [.str [114, 111, 119], .str []] :: .tup [.str [114, 111, 119], .str [97, 98, 99, 100, 101, 102, 103, 104, 105]] :: .tup [.str [114, 111, 119], .int 5] :: .tup [.str [114, 111, 119], T] :: .tup [.str [114, 111, 119], .str [97], .str [98]] :: .ref (n + 1) :: .tup [.str [114, 111, 119, 115], .str [97]] :: .ref (n + 4) :: .tup [.str [115, 105, 103, 110], .int (-1), T] :: .tup [.str [115, 105, 103, 110], .bl true, T] :: .tup [.str [115, 105, 103, 110], .str [49], T] :: .tup [.str [115, 105, 103, 110], .int 1] :: .tup [.str [115, 105, 103, 110], T, .int 1] :: .tup [.str [115, 105, 103, 110], .int 1, T, T] :: .tup [.str [115, 105, 103, 110], .non, T] :: .tup [.str [98, 101, 104, 105, 110, 100]] :: .tup [.str [98, 101, 104, 105, 110, 100], T, T] :: .tup [.str [122, 105, 112], T] :: .tup [.str [122, 105, 112], T, T, T] :: .tup [.str [122, 105, 112], .ref (n + 9), T] :: .ref (n + 12) :: .tup [.str [122, 105, 112]] :: .tup (.ref (n + 13) :: tl) :: .tup [.str [115, 105, 103, 110], .ref (n + 14), T] :: .tup [.str [114, 111, 119], .ref (n + 15)] :: .tup [.str [114, 111, 119], .ref (n + 18)] :: .tup [.ref (n + 19), T] :: .tup (.tup [.str hd] :: tl) :: .tup [.str [115, 105, 103, 110], .tup [.int 1], T] :: .tup [.str [115, 105, 103, 110], .bl false, T] :: .tup [.str [90, 105, 112], T, T] :: .tup [T, T] :: .tup [.int 1, T] :: .tup [.non, T] :: .ref (n + 22) :: .tup [.str [98, 101, 104, 105, 110, 100], .str [97]] :: [])]
def oddList (n : Nat) (T : D) (hd : List Nat) (tl : List D) : List D := .non :: .bl true :: .int 0 :: .str [97] :: .str [] :: .tup [] :: .tup [.str [114, 111, 119]] :: .tup [.str [114, 111, 119], .str [122, 105, 112]] :: .tup [.str [114, 111, 119], .str [98, 101, 104, 105, 110, 100]] :: .tup [.str [114, 111, 119], .str [65]] :: .tup [.str [114, 111, 119], .str []] :: .tup [.str [114, 111, 119], .str [97, 98, 99, 100, 101, 102, 103, 104, 105]] :: .tup [.str [114, 111, 119], .int 5] :: .tup [.str [114, 111, 119], T] :: .tup [.str [114, 111, 119], .str [97], .str [98]] :: .ref (n + 1) :: .tup [.str [114, 111, 119, 115], .str [97]] :: .ref (n + 4) :: .tup [.str [115, 105, 103, 110], .int (-1), T] :: .tup [.str [115, 105, 103, 110], .bl true, T] :: .tup [.str [115, 105, 103, 110], .str [49], T] :: .tup [.str [115, 105, 103, 110], .int 1] :: .tup [.str [115, 105, 103, 110], T, .int 1] :: .tup [.str [115, 105, 103, 110], .int 1, T, T] :: .tup [.str [115, 105, 103, 110], .non, T] :: .tup [.str [98, 101, 104, 105, 110, 100]] :: .tup [.str [98, 101, 104, 105, 110, 100], T, T] :: .tup [.str [122, 105, 112], T] :: .tup [.str [122, 105, 112], T, T, T] :: .tup [.str [122, 105, 112], .ref (n + 9), T] :: .ref (n + 12) :: .tup [.str [122, 105, 112]] :: .tup (.ref (n + 13) :: tl) :: .tup [.str [115, 105, 103, 110], .ref (n + 14), T] :: .tup [.str [114, 111, 119], .ref (n + 15)] :: .tup [.str [114, 111, 119], .ref (n + 18)] :: .tup [.ref (n + 19), T] :: .tup (.tup [.str hd] :: tl) :: .tup [.str [115, 105, 103, 110], .tup [.int 1], T] :: .tup [.str [115, 105, 103, 110], .bl false, T] :: .tup [.str [90, 105, 112], T, T] :: .tup [T, T] :: .tup [.int 1, T] :: .tup [.non, T] :: .ref (n + 22) :: .tup [.str [98, 101, 104, 105, 110, 100], .str [97]] :: []
def twObjs (n : Nat) (a b : D) (m : Int) : Store := [.lst [.tup [.str [122, 105, 112], a, b], .tup [.str [122, 105, 112], b, a], .tup [.str [115, 105, 103, 110], .int m, a], .tup [.str [98, 101, 104, 105, 110, 100], a, b], .tup [.str [122, 105, 112], a]],
  .lst [.str [98, 101, 104, 105, 110, 100], a],
  .lst [.tup [.str [115, 105, 103, 110], .bl true, a], .ref (n + 1), .tup [.str [115, 105, 103, 110], a, b], .tup [.str [115, 105, 103, 110], .int 1, a, .int 0]],
  .lst [.tup [.str [122, 105, 112], a, b], .tup [.str [122, 105, 112], b, a], .tup [.str [115, 105, 103, 110], .int m, a], .tup [.str [98, 101, 104, 105, 110, 100], a, b], .tup [.str [122, 105, 112], a], .tup [.str [115, 105, 103, 110], .bl true, a], .ref (n + 1), .tup [.str [115, 105, 103, 110], a, b], .tup [.str [115, 105, 103, 110], .int 1, a, .int 0]],
  .lst [.tup [.str [90, 105, 112], a, b]],
  .lst [.tup [.str [122, 105, 112], a, b], .tup [.str [122, 105, 112], b, a], .tup [.str [115, 105, 103, 110], .int m, a], .tup [.str [98, 101, 104, 105, 110, 100], a, b], .tup [.str [122, 105, 112], a], .tup [.str [115, 105, 103, 110], .bl true, a], .ref (n + 1), .tup [.str [115, 105, 103, 110], a, b], .tup [.str [115, 105, 103, 110], .int 1, a, .int 0], .tup [.str [90, 105, 112], a, b]]]
def twList (n : Nat) (a b : D) (m : Int) : List D := [.tup [.str [122, 105, 112], a, b],
  .tup [.str [122, 105, 112], b, a],
  .tup [.str [115, 105, 103, 110], .int m, a],
  .tup [.str [98, 101, 104, 105, 110, 100], a, b],
  .tup [.str [122, 105, 112], a],
  .tup [.str [115, 105, 103, 110], .bl true, a],
  .ref (n + 1),
  .tup [.str [115, 105, 103, 110], a, b],
  .tup [.str [115, 105, 103, 110], .int 1, a, .int 0],
  .tup [.str [90, 105, 112], a, b]]
/-- the store without the spring -/
def msk (S : Store) (p c : Nat) : Store := (S.set p (.dct [])).set c (.dct [])
theorem msk_len (S : Store) (p c : Nat) : (msk S p c).length = S.length := by simp [msk]
theorem msk_app {S G : Store} {p c : Nat} (hp : p < S.length) (hc : c < S.length) : msk (S ++ G) p c = msk S p c ++ G := by
  unfold msk
  rw [List.set_append_left _ _ hp, List.set_append_left _ _ (by simpa using hc)]
theorem msk_get {S : Store} {p c n : Nat} (hp : n ≠ p) (hc : n ≠ c) : (msk S p c)[n]? = S[n]? := by
  unfold msk
  rw [List.getElem?_set_ne (Ne.symm hc), List.getElem?_set_ne (Ne.symm hp)]
theorem msk_p {S : Store} {p c n : Nat} {xs : List D} (h : (msk S p c)[n]? = some (.lst xs)) : n ≠ p ∧ n ≠ c := by
  unfold msk at h
  constructor
  · rintro rfl
    by_cases hc : c = n
    · subst hc
      rw [List.getElem?_set] at h
      simp at h
    · rw [List.getElem?_set_ne hc, List.getElem?_set] at h
      simp at h
  · rintro rfl
    rw [List.getElem?_set] at h
    simp at h
theorem LeL.unmask {S : Store} {p c : Nat} : LeL (msk S p c) S := fun n xs h => by
  obtain ⟨h1, h2⟩ := msk_p h
  rw [msk_get h1 h2] at h; exact h
theorem LeL.fr {S S' : Store} {p c : Nat} (f : Fr p c S S') : LeL (msk S p c) (msk S' p c) := fun n xs h => by
  obtain ⟨h1, h2⟩ := msk_p h
  rw [msk_get h1 h2] at h ⊢
  rw [f.old n (List.getElem?_eq_some_iff.mp h).1 h1 h2]; exact h
def DnL (k : Nat) (S : Store) (ds : List D) : Prop := ∀ d ∈ ds, Dn k S d
theorem DnL.nil {k : Nat} {S : Store} : DnL k S [] := fun _ h => nomatch h
theorem DnL.cons {k : Nat} {S : Store} {d : D} {ds : List D} (h : Dn k S d) (t : DnL k S ds) : DnL k S (d :: ds) := fun x hx => by
  rcases List.mem_cons.mp hx with rfl | hx
  · exact h
  · exact t x hx
theorem Dn.tup {k : Nat} {S : Store} {ds : List D} (h : DnL k S ds) : Dn (k + 1) S (.tup ds) := ⟨Dk.tup fun d hd => (h d hd).dk, by rw [Sh]; exact shL_iff.mpr fun d hd => (h d hd).sh⟩
theorem Dn.ref {k : Nat} {S : Store} {n : Nat} {ds : List D} (hk : k ≤ 60) (g : S[n]? = some (.lst ds)) (h : DnL k S ds) : Dn (k + 1) S (.ref n) := ⟨Dk.lst hk g fun d hd => (h d hd).dk, by simp [Sh]⟩
theorem Dn.int {k : Nat} {S : Store} (i : Int) : Dn k S (.int i) := ⟨Dk.int i, by simp [Sh]⟩
theorem Dn.bl {k : Nat} {S : Store} (i : Bool) : Dn k S (.bl i) := ⟨Dk.bl i, by simp [Sh]⟩
theorem Dn.non {k : Nat} {S : Store} : Dn k S .non := ⟨Dk.non, by simp [Sh]⟩
theorem Dn.str {k : Nat} {S : Store} {s : List Nat} (h : s.length ≤ 1000) : Dn k S (.str s) := ⟨Dk.str s, by rw [Sh]; exact h⟩
theorem sh_tm {names : List (List Nat)} (hn : ∀ s ∈ names, s.length ≤ 8) : ∀ t : Tm, t.In names → Sh t.d
  | .row s, h => by have := hn s h; rw [Tm.d]; simp [Sh, ShL]; omega
  | .sign i t, h => by have := sh_tm hn t h.2; rw [Tm.d]; simp [Sh, ShL]; exact this
  | .beh t, h => by have := sh_tm hn t h; rw [Tm.d]; simp [Sh, ShL]; exact this
  | .zip a b, h => by have := sh_tm hn a h.1; have := sh_tm hn b h.2; rw [Tm.d]; simp [Sh, ShL]; exact ⟨by assumption, this⟩
theorem tm_dn {names : List (List Nat)} (hn : ∀ s ∈ names, s.length ≤ 8) {t : Tm} (h : t.In names) {k : Nat} (hd : t.depth ≤ k) (S : Store) : Dn k S t.d := ⟨⟨t.pd, by unfold dat; rw [Tm.d_pd], by rw [Tm.pd_dep]; exact hd⟩, sh_tm hn t h⟩
def Tm.hd : Tm → List Nat
  | .row _ => wRow
  | .sign _ _ => wSign
  | .beh _ => wBeh
  | .zip _ _ => wZip
def Tm.tl : Tm → List D
  | .row s => [.str s]
  | .sign i t => [.int i, t.d]
  | .beh t => [t.d]
  | .zip a b => [a.d, b.d]
theorem Tm.d_eq (t : Tm) : t.d = .tup (.str t.hd :: t.tl) := by cases t <;> rfl
theorem odd_all {n : Nat} {T : D} {hd : List Nat} {tl : List D} {M : Store} (hT : ∀ k, 20 ≤ k → Dn k M T) (hl : hd.length ≤ 1000) (htl : ∀ k, 20 ≤ k → DnL k M tl) (hM : M.length = n) : DnL 24 (M ++ oddObjs n T hd tl) (oddList n T hd tl) := by
  have t20 : Dn 20 (M ++ oddObjs n T hd tl) T := (hT 20 (by decide)).app
  have t22 : Dn 22 (M ++ oddObjs n T hd tl) T := (hT 22 (by decide)).app
  have t23 : Dn 23 (M ++ oddObjs n T hd tl) T := (hT 23 (by decide)).app
  have l23 : DnL 23 (M ++ oddObjs n T hd tl) tl := fun d h => ((htl 23 (by decide)) d h).app
  have h22 : Dn 22 (M ++ oddObjs n T hd tl) (.str hd) := Dn.str hl
  have g : ∀ j xs, (oddObjs n T hd tl)[j]? = some (.lst xs) → (M ++ oddObjs n T hd tl)[n + j]? = some (.lst xs) := fun j xs h => by
    rw [List.getElem?_append_right (by omega), show n + j - M.length = j by omega]; exact h
  have r1 : ∀ k, k ≤ 40 → Dn (k + 1) (M ++ oddObjs n T hd tl) (.ref (n + 1)) := fun k hk => Dn.ref (by omega) (g 1 _ rfl) (by repeat' (first | assumption | exact Dn.non | exact Dn.int _ | exact Dn.bl _ | exact Dn.str (by decide) | exact DnL.nil | refine DnL.cons ?_ ?_ | refine Dn.tup ?_))
  have r4 : ∀ k, 20 ≤ k → k ≤ 40 → Dn (k + 1) (M ++ oddObjs n T hd tl) (.ref (n + 4)) := fun k h2 hk => by have := (hT k h2).app (G := oddObjs n T hd tl); exact Dn.ref (by omega) (g 4 _ rfl) (by repeat' (first | assumption | exact Dn.non | exact Dn.int _ | exact Dn.bl _ | exact Dn.str (by decide) | exact DnL.nil | refine DnL.cons ?_ ?_ | refine Dn.tup ?_))
  have r9 : ∀ k, 20 ≤ k → k ≤ 40 → Dn (k + 1) (M ++ oddObjs n T hd tl) (.ref (n + 9)) := fun k h2 hk => by have := (hT k h2).app (G := oddObjs n T hd tl); exact Dn.ref (by omega) (g 9 _ rfl) (by repeat' (first | assumption | exact Dn.non | exact Dn.int _ | exact Dn.bl _ | exact Dn.str (by decide) | exact DnL.nil | refine DnL.cons ?_ ?_ | refine Dn.tup ?_))
  have r12 : ∀ k, 20 ≤ k → k ≤ 40 → Dn (k + 1) (M ++ oddObjs n T hd tl) (.ref (n + 12)) := fun k h2 hk => by have := (hT k h2).app (G := oddObjs n T hd tl); exact Dn.ref (by omega) (g 12 _ rfl) (by repeat' (first | assumption | exact Dn.non | exact Dn.int _ | exact Dn.bl _ | exact Dn.str (by decide) | exact DnL.nil | refine DnL.cons ?_ ?_ | refine Dn.tup ?_))
  have r13 : ∀ k, k ≤ 40 → Dn (k + 1) (M ++ oddObjs n T hd tl) (.ref (n + 13)) := fun k hk => Dn.ref (by omega) (g 13 _ rfl) (DnL.cons (Dn.str hl) DnL.nil)
  have r14 : ∀ k, k ≤ 40 → Dn (k + 1) (M ++ oddObjs n T hd tl) (.ref (n + 14)) := fun k hk => Dn.ref (by omega) (g 14 _ rfl) (by repeat' (first | assumption | exact Dn.non | exact Dn.int _ | exact Dn.bl _ | exact Dn.str (by decide) | exact DnL.nil | refine DnL.cons ?_ ?_ | refine Dn.tup ?_))
  have r15 : ∀ k, k ≤ 40 → Dn (k + 1) (M ++ oddObjs n T hd tl) (.ref (n + 15)) := fun k hk => Dn.ref (by omega) (g 15 _ rfl) (by repeat' (first | assumption | exact Dn.non | exact Dn.int _ | exact Dn.bl _ | exact Dn.str (by decide) | exact DnL.nil | refine DnL.cons ?_ ?_ | refine Dn.tup ?_))
  have r18 : ∀ k, k ≤ 40 → Dn (k + 1) (M ++ oddObjs n T hd tl) (.ref (n + 18)) := fun k hk => Dn.ref (by omega) (g 18 _ rfl) (by repeat' (first | assumption | exact Dn.non | exact Dn.int _ | exact Dn.bl _ | exact Dn.str (by decide) | exact DnL.nil | refine DnL.cons ?_ ?_ | refine Dn.tup ?_))
  have r19 : ∀ k, k ≤ 40 → Dn (k + 1) (M ++ oddObjs n T hd tl) (.ref (n + 19)) := fun k hk => Dn.ref (by omega) (g 19 _ rfl) (by repeat' (first | assumption | exact Dn.non | exact Dn.int _ | exact Dn.bl _ | exact Dn.str (by decide) | exact DnL.nil | refine DnL.cons ?_ ?_ | refine Dn.tup ?_))
  have r22 : ∀ k, 20 ≤ k → k ≤ 40 → Dn (k + 1) (M ++ oddObjs n T hd tl) (.ref (n + 22)) := fun k h2 hk => by have := (hT k h2).app (G := oddObjs n T hd tl); exact Dn.ref (by omega) (g 22 _ rfl) (by repeat' (first | assumption | exact Dn.non | exact Dn.int _ | exact Dn.bl _ | exact Dn.str (by decide) | exact DnL.nil | refine DnL.cons ?_ ?_ | refine Dn.tup ?_))
  have a1 := r1 23 (by decide)
  have a4 := r4 23 (by decide) (by decide)
  have a9 := r9 22 (by decide) (by decide)
  have a12 := r12 23 (by decide) (by decide)
  have a13 := r13 22 (by decide)
  have a14 := r14 22 (by decide)
  have a15 := r15 22 (by decide)
  have a18 := r18 22 (by decide)
  have a19 := r19 22 (by decide)
  have a22 := r22 23 (by decide) (by decide)
  unfold oddList
  repeat' (first | assumption | exact Dn.non | exact Dn.int _ | exact Dn.bl _ | exact Dn.str (by decide) | exact DnL.nil | refine DnL.cons ?_ ?_ | refine Dn.tup ?_)
end Z
namespace Z
/-! ### the names that stand in a term -/
theorem gjx {S T : Store} {j : Nat} : (S ++ T)[S.length + j]? = T[j]? := by rw [List.getElem?_append_right (by omega)]; congr 1; omega
theorem gjx0 {S T : Store} : (S ++ T)[S.length]? = T[0]? := by rw [List.getElem?_append_right (by omega)]; congr 1; omega
def Tm.rows : Tm → List (List Nat)
  | .row s => [s]
  | .sign _ t => t.rows
  | .beh t => t.rows
  | .zip a b => a.rows ++ b.rows
def Tm.swor : Tm → List (List Nat)
  | .row s => [s]
  | .sign _ t => t.swor
  | .beh t => t.swor
  | .zip a b => b.swor ++ a.swor
def Tm.kids : Tm → List Tm
  | .row _ => []
  | .sign _ t => [t]
  | .beh t => [t]
  | .zip a b => [a, b]
theorem mem_swor {z : List Nat} : ∀ t : Tm, z ∈ t.swor ↔ z ∈ t.rows
  | .row s => Iff.rfl
  | .sign _ t => mem_swor t
  | .beh t => mem_swor t
  | .zip a b => by rw [Tm.swor, Tm.rows, List.mem_append, List.mem_append, mem_swor a, mem_swor b]; exact Or.comm
theorem rows_len : ∀ t : Tm, t.rows.length ≤ t.size
  | .row s => Nat.le_refl _
  | .sign _ t => by have := rows_len t; simp [Tm.rows, Tm.size]; omega
  | .beh t => by have := rows_len t; simp [Tm.rows, Tm.size]; omega
  | .zip a b => by have := rows_len a; have := rows_len b; simp [Tm.rows, Tm.size]; omega
theorem swor_len : ∀ t : Tm, t.swor.length ≤ t.size
  | .row s => Nat.le_refl _
  | .sign _ t => by have := swor_len t; simp [Tm.swor, Tm.size]; omega
  | .beh t => by have := swor_len t; simp [Tm.swor, Tm.size]; omega
  | .zip a b => by have := swor_len a; have := swor_len b; simp [Tm.swor, Tm.size]; omega
theorem rows_in {names : List (List Nat)} : ∀ t : Tm, t.In names → ∀ s ∈ t.rows, s ∈ names
  | .row s, h, z, hz => by simp [Tm.rows] at hz; subst hz; exact h
  | .sign _ t, h, z, hz => rows_in t h.2 z hz
  | .beh t, h, z, hz => rows_in t h z hz
  | .zip a b, h, z, hz => by
    rcases List.mem_append.mp hz with hz | hz
    · exact rows_in a h.1 z hz
    · exact rows_in b h.2 z hz
theorem wi_tm {names : List (List Nat)} (hn : ∀ s ∈ names, IsNm s) {t : Tm} (h : t.In names) : wi t.d = some (t.kids.map Tm.d) := by
  cases t with
  | row s =>
    have := nmB_is (hn s h)
    simp [wi, Tm.d, isS, nameB, this, Tm.kids, wRow]
  | sign i t =>
    have : i < 10 := h.1
    simp [wi, Tm.d, isS, Tm.kids, wRow, wBeh, wSign, sigB]
    omega
  | beh t => simp [wi, Tm.d, isS, Tm.kids, wRow, wBeh]
  | zip a b => simp [wi, Tm.d, isS, Tm.kids, wRow, wBeh, wSign, wZip]
def Tm.one : Tm → List (List Nat)
  | .row s => [s]
  | _ => []
/-- the rows of a stack, its top first -/
def allRows : List Tm → List (List Nat)
  | [] => []
  | t :: r => t.swor ++ allRows r
theorem kids_rows (t : Tm) (r : List Tm) : allRows (t :: r) = t.one ++ allRows (t.kids.reverse ++ r) := by
  cases t <;> simp [allRows, Tm.swor, Tm.kids, Tm.one]
theorem kids_size (t : Tm) (r : List Tm) : sizes (t.kids.reverse ++ r) + 1 = sizes (t :: r) := by
  cases t <;> simp [sizes, Tm.size, Tm.kids] <;> omega
noncomputable abbrev namesT : ST := tVal (e2 neD (eVar 2) (eLst []))
theorem names_loop {names : List (List Nat)} (hn : ∀ s ∈ names, IsNm s) (hn8 : ∀ s ∈ names, s.length ≤ 8) (S : Store) (o0 : Option D) : ∀ (n : Nat) (st : List Tm) (ws : List (List Nat)) (G : Store) (o3 : Option D), sizes st ≤ n → sizes st ≤ 60 → ws.length + sizes st ≤ 60 → (∀ t ∈ st, t.depth ≤ 50 ∧ t.In names) →
    ∃ G' o3', sWh namesT (lb_names_in_1 R_within) [o0, some (.ref S.length), some (.ref (S.length + 1)), o3] (S ++ .lst (ws.map .str) :: .lst ((st.reverse).map Tm.d) :: G) =
      some (.nx [o0, some (.ref S.length), some (.ref (S.length + 1)), o3'] (S ++ .lst ((ws ++ allRows st).map .str) :: .lst [] :: G')) := by
  intro n
  have test : ∀ (st : List Tm) (ws : List (List Nat)) (G : Store) (o3 : Option D), (∀ t ∈ st, t.depth ≤ 50 ∧ t.In names) → namesT [o0, some (.ref S.length), some (.ref (S.length + 1)), o3] (S ++ .lst (ws.map .str) :: .lst ((st.reverse).map Tm.d) :: G) = some (.ok (!st.isEmpty) (S ++ .lst (ws.map .str) :: .lst ((st.reverse).map Tm.d) :: (G ++ [.lst []]))) := by
    intro st ws G o3 hst
    have := ne_nil_tm (S := S ++ .lst (ws.map .str) :: .lst ((st.reverse).map Tm.d) :: (G ++ [.lst []])) (a := S.length + 1) (b := S.length + (G.length + 1 + 1)) (ts := st.reverse) (by simp) (by simp) (fun t ht => by have := (hst t (by simpa using ht)).1; omega)
    simp at this
    simp [this]
  induction n with
  | zero =>
    intro st ws G o3 h _ _ hst
    have : st = [] := by
      cases st with
      | nil => rfl
      | cons t r => have := size_pos t; simp [sizes] at h; omega
    subst this
    refine ⟨G ++ [.lst []], o3, ?_⟩
    rw [sWh_stop (by rw [test [] ws G o3 hst]; rfl)]
    simp [allRows]
  | succ n ih =>
    intro st ws G o3 h h1 h2 hst
    cases st with
    | nil =>
      refine ⟨G ++ [.lst []], o3, ?_⟩
      rw [sWh_stop (by rw [test [] ws G o3 hst]; rfl)]
      simp [allRows]
    | cons t r =>
      have ht := test (t :: r) ws G o3 hst
      obtain ⟨hd, hi⟩ := hst t (by simp)
      have hr := fun x hx => hst x (List.mem_cons_of_mem t hx)
      have hks := kids_size t r
      let ws' : List (List Nat) := ws ++ t.one
      have hone : t.one.length ≤ 1 := by cases t <;> simp [Tm.one]
      let G1 : Store := G ++ [.lst []]
      let B : Store := S ++ .lst (ws'.map .str) :: .lst (r.reverse.map Tm.d) :: G1
      obtain ⟨G2, hw⟩ : ∃ G2, R_within [t.d] B = some (.ok (.ref (B ++ G2).length) (B ++ G2 ++ [.lst (t.kids.map Tm.d)])) := by
        have hdn : Dn 50 B t.d := tm_dn hn8 hi hd B
        rcases s_within (by decide) hdn with ⟨hno, _⟩ | ⟨ps, G2, hps, e⟩
        · rw [wi_tm hn hi] at hno; cases hno
        · rw [wi_tm hn hi] at hps; cases hps; exact ⟨G2, e⟩
      have hrl : ∀ l : List Tm, l.length ≤ sizes l := fun l => by
        induction l with
        | nil => exact Nat.le_refl _
        | cons a r ih => have := size_pos a; simp [sizes]; omega
      have hkl : t.kids.length ≤ 2 := by cases t <;> simp [Tm.kids]
      have hsz : sizes (t.kids.reverse ++ r) ≤ 60 := by omega
      have hrL := hrl (t.kids.reverse ++ r)
      have hkid : ∀ x ∈ t.kids.reverse ++ r, x.depth ≤ 50 ∧ x.In names := fun x hx => by
        rcases List.mem_append.mp hx with hx | hx
        · cases t with
          | row s => simp [Tm.kids] at hx
          | sign i t => simp [Tm.kids] at hx; subst hx; exact ⟨by simp [Tm.depth] at hd; omega, hi.2⟩
          | beh t => simp [Tm.kids] at hx; subst hx; exact ⟨by simp [Tm.depth] at hd; omega, hi⟩
          | zip a b =>
            simp [Tm.kids] at hx
            rcases hx with rfl | rfl
            · exact ⟨by simp [Tm.depth] at hd; omega, hi.2⟩
            · exact ⟨by simp [Tm.depth] at hd; omega, hi.1⟩
        · exact hr x hx
      obtain ⟨G', o3', hx⟩ := ih (t.kids.reverse ++ r) ws' (G1 ++ G2 ++ [.lst (t.kids.map Tm.d)]) (some t.d) (by omega) hsz (by
        simp only [ws', List.length_append]
        omega) hkid
      refine ⟨G', o3', ?_⟩
      rw [kids_rows, ← List.append_assoc]
      rw [← hx]
      refine sWh_go (S1 := S ++ .lst (ws.map .str) :: .lst ((t :: r).reverse.map Tm.d) :: G1) ht ?_
      have hpop := pop_last (S := S ++ .lst (ws.map .str) :: .lst ((t :: r).reverse.map Tm.d) :: G1) (n := S.length + 1) (xs := r.reverse.map Tm.d) (x := t.d) (by simp)
      have hset : ∀ x, (S ++ MO.lst (ws.map .str) :: .lst ((t :: r).reverse.map Tm.d) :: G1).set (S.length + 1) x = S ++ .lst (ws.map .str) :: x :: G1 := fun x => by simp
      rw [hset] at hpop
      have hwL : ws.length < LINE := by rw [LINE_eq]; omega
      have hL2 : r.length + t.kids.length ≤ LINE := by rw [LINE_eq]; simp at hrL; omega
      have hget0 : ∀ (X Y : List D) (T : Store), (S ++ (MO.lst X :: MO.lst Y :: T))[S.length]? = some (.lst X) := fun X Y T => by rw [gjx0]; rfl
      have hget1 : ∀ (X Y : List D) (T : Store), (S ++ (MO.lst X :: MO.lst Y :: T))[S.length + 1]? = some (.lst Y) := fun X Y T => by rw [gjx]; rfl
      have hrc0 : ∀ (X Y : List D) (T : Store), rcB (S ++ (MO.lst X :: MO.lst Y :: T)) .list (.ref S.length) = true := fun X Y T => by rw [o_rcr, hget0]
      have hrc1 : ∀ (X Y : List D) (T : Store), rcB (S ++ (MO.lst X :: MO.lst Y :: T)) .list (.ref (S.length + 1)) = true := fun X Y T => by rw [o_rcr, hget1]
      have hext : extendF [.ref (S.length + 1), .ref (B ++ G2).length] (B ++ G2 ++ [.lst (t.kids.map Tm.d)]) = some (.ok .non (S ++ .lst (ws'.map .str) :: .lst ((t.kids.reverse ++ r).reverse.map Tm.d) :: (G1 ++ G2 ++ [.lst (t.kids.map Tm.d)]))) := by
        have a1 : (B ++ G2 ++ [MO.lst (t.kids.map Tm.d)])[S.length + 1]? = some (.lst (r.reverse.map Tm.d)) := get_app (get_app (hget1 _ _ _) _) _
        have a2 : (B ++ G2 ++ [MO.lst (t.kids.map Tm.d)])[(B ++ G2).length]? = some (.lst (t.kids.map Tm.d)) := by rw [gjx0]; rfl
        have a3 : (B ++ G2 ++ [MO.lst (t.kids.map Tm.d)]).set (S.length + 1) (.lst (r.reverse.map Tm.d ++ t.kids.map Tm.d)) = S ++ .lst (ws'.map .str) :: .lst ((t.kids.reverse ++ r).reverse.map Tm.d) :: (G1 ++ G2 ++ [.lst (t.kids.map Tm.d)]) := by simp [B]
        unfold extendF
        dsimp only
        rw [a1, a2]
        dsimp only
        rw [if_pos (by simpa using hL2), a3]
      have hif : sIf (tVal (e2 eqD (e2 ixD (eVar 3) (eC (.int 0))) (eC (.str wRow)))) (sExp (eMt .list appendF (eVar 1) [e2 ixD (eVar 3) (eC (.int 1))])) (sNx) [o0, some (.ref S.length), some (.ref (S.length + 1)), some t.d] (S ++ .lst (ws.map .str) :: .lst (r.reverse.map Tm.d) :: G1) = some (.nx [o0, some (.ref S.length), some (.ref (S.length + 1)), some t.d] B) := by
        have a1 : ∀ a b : D, atI [a, b] 1 = some b := fun a b => by simp [atI, ixN]
        cases t with
        | row s => simp [-o_rcr, hrc0, Tm.d, at0, a1, hget0, hwL, B, ws', Tm.one, -getElem?_pos, List.getElem?_cons_zero, List.getElem?_cons_succ]
        | sign i t => simp [Tm.d, at0, B, ws', Tm.one]
        | beh t => simp [Tm.d, at0, B, ws', Tm.one]
        | zip a b => simp [Tm.d, at0, B, ws', Tm.one]
      have hpop' : popF [.ref (S.length + 1)] (S ++ .lst (ws.map .str) :: .lst ((t :: r).reverse.map Tm.d) :: G1) = some (.ok t.d (S ++ .lst (ws.map .str) :: .lst (r.reverse.map Tm.d) :: G1)) := hpop
      have hrcB : rcB B .list (.ref (S.length + 1)) = true := hrc1 _ _ _
      have step1 : sAsg (eMt .list popF (eVar 2) []) (gName 3) [o0, some (.ref S.length), some (.ref (S.length + 1)), o3] (S ++ .lst (ws.map .str) :: .lst ((t :: r).reverse.map Tm.d) :: G1) = some (.nx [o0, some (.ref S.length), some (.ref (S.length + 1)), some t.d] (S ++ .lst (ws.map .str) :: .lst (r.reverse.map Tm.d) :: G1)) := by
        have := hrc1 (ws.map .str) ((t :: r).reverse.map Tm.d) G1
        simp [-o_rcr] at this hpop' ⊢
        simp [-o_rcr, this, hpop']
      have step3 : sExp (eMt .list extendF (eVar 2) [eCall R_within [eVar 3]]) [o0, some (.ref S.length), some (.ref (S.length + 1)), some t.d] B = some (.nx [o0, some (.ref S.length), some (.ref (S.length + 1)), some t.d] (S ++ .lst (ws'.map .str) :: .lst ((t.kids.reverse ++ r).reverse.map Tm.d) :: (G1 ++ G2 ++ [.lst (t.kids.map Tm.d)]))) := by
        clear_value B
        simp only [x_exp, x_mt, x_var, List.getElem?_cons_zero, List.getElem?_cons_succ, bd_ok, hrcB, if_true, x_cons, x_nil, x_call, hw, hext, bo_ok]
      unfold lb_names_in_1
      rw [x_sq, step1]
      dsimp only
      rw [x_sq, hif]
      dsimp only
      rw [step3]
theorem sortU_ext {a b : List (List Nat)} (h : ∀ x, x ∈ a ↔ x ∈ b) : sortU a = sortU b := strict_eq (sortU_strict a) (sortU_strict b) fun x => by rw [sortU_mem, sortU_mem]; exact h x
theorem s_names_in {names : List (List Nat)} (hn : ∀ s ∈ names, IsNm s) {t : Tm} (hi : t.In names) (hd : t.depth ≤ 50) (hz : t.size ≤ 60) (S : Store) : ∃ (l : Nat) (G : Store), R_names_in [t.d] S = some (.ok (.ref l) (S ++ G)) ∧ (S ++ G)[l]? = some (.lst ((sortU t.rows).map .str)) ∧ S.length ≤ l := by
  obtain ⟨G', o3', h⟩ := names_loop hn (fun s h => (hn s h).l8) S (some t.d) t.size [t] [] [] none (by simp [sizes]) (by simpa [sizes] using hz) (by simpa [sizes] using hz) (fun x hx => by simp at hx; subst hx; exact ⟨hd, hi⟩)
  have har : allRows [t] = t.swor := by simp [allRows]
  rw [har, List.nil_append] at h
  have hsl := swor_len t
  have hg : (S ++ MO.lst (t.swor.map D.str) :: .lst [] :: G')[S.length]? = some (.lst (t.swor.map .str)) := by rw [gjx0]; rfl
  have hs := sset_of hg (by omega)
  rw [sortU_ext fun x => mem_swor t] at hs
  refine ⟨(S ++ MO.lst (t.swor.map D.str) :: .lst [] :: G').length, .lst (t.swor.map .str) :: .lst [] :: (G' ++ [.lst ((sortU t.rows).map .str)]), ?_, ?_, by simp⟩
  · unfold R_names_in
    rw [run_eq (n := 1) _ _ rfl]
    unfold b_names_in
    simp at h hs
    simp [h, hs]
  · have := gjx0 (S := S ++ MO.lst (t.swor.map D.str) :: .lst [] :: G') (T := [MO.lst ((sortU t.rows).map D.str)])
    simpa using this
theorem add_lists {S : Store} {a b : Nat} {xs ys : List (List Nat)} (ha : S[a]? = some (.lst (xs.map .str))) (hb : S[b]? = some (.lst (ys.map .str))) (hl : xs.length + ys.length ≤ 1000) : addD (.ref a) (.ref b) S = some (.ok (.ref S.length) (S ++ [.lst ((xs ++ ys).map .str)])) := by
  rw [o_addr, ha, hb]
  dsimp only
  rw [if_pos (by rw [LINE_eq]; simp; omega)]
  simp
/-- one part of a term -/
theorem met_part {d : Nat} {t : Tm} {S : Store} {f : Nat} {ws : List (List Nat)} {o0 o2 : Option D} (hf : S[f]? = some (.lst (ws.map .str))) (ht : ∃ (l : Nat) (G : Store), R_law_met d [t.d] S = some (.ok (.ref l) (S ++ G)) ∧ (S ++ G)[l]? = some (.lst (t.rows.map .str))) (hl : ws.length + t.size ≤ 900) :
    ∃ (f' : Nat) (G : Store), lb_law_met_1 (R_law_met d) [o0, some (.ref f), some t.d] S = some (.nx [o0, some (.ref f'), some t.d] (S ++ G)) ∧ (S ++ G)[f']? = some (.lst ((ws ++ t.rows).map .str)) := by
  obtain ⟨l, G, e, hg⟩ := ht
  have := rows_len t
  have ha := add_lists (get_app hf G) hg (by omega)
  refine ⟨(S ++ G).length, G ++ [.lst ((ws ++ t.rows).map .str)], ?_, ?_⟩
  · have hi := isi_tm t S
    simp at ha
    simp [lb_law_met_1, hi, e, ha]
  · rw [← List.append_assoc, gjx0]; rfl
theorem s_law_met : ∀ (t : Tm) (d : Nat) (S : Store), t.depth ≤ d → t.size ≤ 60 → ∃ (l : Nat) (G : Store), R_law_met d [t.d] S = some (.ok (.ref l) (S ++ G)) ∧ (S ++ G)[l]? = some (.lst (t.rows.map .str))
  | t, 0, S, h, _ => by cases t <;> simp [Tm.depth] at h
  | .row s, d + 1, S, h, _ => by
    refine ⟨S.length, [.lst [.str s]], ?_, by rw [gjx0]; rfl⟩
    unfold R_law_met
    rw [run_eq (n := 1) _ _ rfl]
    unfold b_law_met
    have a1 : ∀ a b : D, atI [a, b] 1 = some b := fun a b => by simp [atI, ixN]
    simp [Tm.d, at0, a1]
  | .sign i t, d + 1, S, h, hz => by
    simp [Tm.depth] at h
    simp [Tm.size] at hz
    have hf0 : (S ++ [MO.lst []])[S.length]? = some (.lst (([] : List (List Nat)).map .str)) := by rw [gjx0]; rfl
    obtain ⟨f, G, e, hg⟩ := met_part (t := t) (d := d) (o0 := some (Tm.sign i t).d) (o2 := none) hf0 (s_law_met t d _ (by omega) (by omega)) (by simp; omega)
    refine ⟨f, .lst [] :: G, ?_, by simpa [Tm.rows] using hg⟩
    have hfor : forL (fun _ => True) (gName 2) (lb_law_met_1 (R_law_met d)) [.int i, t.d] [some (Tm.sign i t).d, some (.ref S.length), none] (S ++ [.lst []]) = some (.nx [some (Tm.sign i t).d, some (.ref f), some t.d] (S ++ [.lst []] ++ G)) := by
      rw [forL_cons (S1 := S ++ [.lst []]) trivial rfl (ρ1 := [some (Tm.sign i t).d, some (.ref S.length), some (.int i)]) (ρ2 := [some (Tm.sign i t).d, some (.ref S.length), some (.int i)]) (S2 := S ++ [.lst []]) (by simp [lb_law_met_1])]
      rw [forL_cons (S1 := S ++ [.lst []]) trivial rfl e, forL_nil trivial]
    unfold R_law_met
    rw [run_eq (n := 1) _ _ rfl]
    unfold b_law_met
    simp [Tm.d] at hfor
    simp [Tm.d, at0, slD, cut, sIx, hfor]
  | .beh t, d + 1, S, h, hz => by
    simp [Tm.depth] at h
    simp [Tm.size] at hz
    have hf0 : (S ++ [MO.lst []])[S.length]? = some (.lst (([] : List (List Nat)).map .str)) := by rw [gjx0]; rfl
    obtain ⟨f, G, e, hg⟩ := met_part (t := t) (d := d) (o0 := some (Tm.beh t).d) (o2 := none) hf0 (s_law_met t d _ (by omega) (by omega)) (by simp; omega)
    refine ⟨f, .lst [] :: G, ?_, by simpa [Tm.rows] using hg⟩
    have hfor : forL (fun _ => True) (gName 2) (lb_law_met_1 (R_law_met d)) [t.d] [some (Tm.beh t).d, some (.ref S.length), none] (S ++ [.lst []]) = some (.nx [some (Tm.beh t).d, some (.ref f), some t.d] (S ++ [.lst []] ++ G)) := by
      rw [forL_cons (S1 := S ++ [.lst []]) trivial rfl e, forL_nil trivial]
    unfold R_law_met
    rw [run_eq (n := 1) _ _ rfl]
    unfold b_law_met
    simp [Tm.d] at hfor
    simp [Tm.d, at0, slD, cut, sIx, hfor]
  | .zip a b, d + 1, S, h, hz => by
    simp [Tm.depth] at h
    simp [Tm.size] at hz
    have hf0 : (S ++ [MO.lst []])[S.length]? = some (.lst (([] : List (List Nat)).map .str)) := by rw [gjx0]; rfl
    obtain ⟨f, G, e, hg⟩ := met_part (t := a) (d := d) (o0 := some (Tm.zip a b).d) (o2 := none) hf0 (s_law_met a d _ (by omega) (by omega)) (by simp; omega)
    have := rows_len a
    obtain ⟨f2, G2, x, hg2⟩ := met_part (t := b) (d := d) (o0 := some (Tm.zip a b).d) (o2 := none) hg (s_law_met b d _ (by omega) (by omega)) (by simp; omega)
    refine ⟨f2, .lst [] :: (G ++ G2), ?_, by simpa [Tm.rows] using hg2⟩
    have hfor : forL (fun _ => True) (gName 2) (lb_law_met_1 (R_law_met d)) [a.d, b.d] [some (Tm.zip a b).d, some (.ref S.length), none] (S ++ [.lst []]) = some (.nx [some (Tm.zip a b).d, some (.ref f2), some b.d] (S ++ [.lst []] ++ G ++ G2)) := by
      rw [forL_cons (S1 := S ++ [.lst []]) trivial rfl e, forL_cons (S1 := S ++ [.lst []] ++ G) trivial rfl x, forL_nil trivial]
    unfold R_law_met
    rw [run_eq (n := 1) _ _ rfl]
    unfold b_law_met
    simp [Tm.d] at hfor
    simp [Tm.d, at0, slD, cut, sIx, hfor]
/-! ### texts in lists -/
theorem pdL_strs (g : Nat → Option PD) : ∀ xs : List (List Nat), pdL g (xs.map D.str) = some (xs.map PD.str)
  | [] => rfl
  | x :: xs => by rw [List.map_cons, pdL, pdL_strs g xs]; simp [D.pd]
theorem dat_strs {S : Store} {n : Nat} {xs : List (List Nat)} (h : S[n]? = some (.lst (xs.map .str))) : dat S (.ref n) = some (.lst (xs.map PD.str)) := by
  unfold dat
  rw [D.pd, rdR, h]
  dsimp only
  rw [pdL_strs]; rfl
theorem depL_strs : ∀ xs : List (List Nat), depL (xs.map PD.str) ≤ 1
  | [] => by simp [depL]
  | x :: xs => by have := depL_strs xs; simp [depL, PD.dep] at this ⊢; omega
theorem eqvL_strs : ∀ xs : List (List Nat), eqvL (xs.map PD.str) (xs.map PD.str) = true
  | [] => by simp [eqvL]
  | x :: xs => by simp [eqvL, PD.eqv, eqvL_strs xs]
theorem ne_sames {S : Store} {a b : Nat} {xs : List (List Nat)} (h1 : S[a]? = some (.lst (xs.map .str))) (h2 : S[b]? = some (.lst (xs.map .str))) : neD (.ref a) (.ref b) S = some (.ok (.bl false) S) := by
  have d2 : (PD.lst (xs.map PD.str)).dep ≤ 64 := by have := depL_strs xs; rw [PD.dep]; omega
  unfold neD
  rw [dat_strs h1, dat_strs h2]
  dsimp only
  rw [if_pos ⟨d2, d2⟩, PD.eqv, eqvL_strs]
  rfl
theorem ni_strs {S : Store} {n : Nat} {s : List Nat} {xs : List (List Nat)} (h : S[n]? = some (.lst (xs.map .str))) : ninD (.str s) (.ref n) S = some (.ok (.bl (!decide (s ∈ xs))) S) := by
  have e1 : dat S (.str s) = some (.str s) := by simp [dat, D.pd]
  have d2 : (PD.lst (xs.map PD.str)).dep ≤ 64 := by have := depL_strs xs; rw [PD.dep]; omega
  have d1 : (PD.str s).dep ≤ 64 := by simp [PD.dep]
  have e : inB (.str s) (.ref n) S = some (decide (s ∈ xs)) := by
    unfold inB
    dsimp only
    rw [e1, dat_strs h]
    dsimp only
    rw [if_pos ⟨d1, d2⟩, List.any_map]
    congr 1
    rw [Bool.eq_iff_iff]
    simp [PD.eqv, Function.comp_def]
  unfold ninD
  rw [e]
/-- each once, as they come -/
def once (acc : List (List Nat)) : List (List Nat) → List (List Nat)
  | [] => acc
  | s :: r => once (if s ∈ acc then acc else acc ++ [s]) r
theorem once_mem {z : List Nat} : ∀ (r acc : List (List Nat)), z ∈ once acc r ↔ z ∈ acc ∨ z ∈ r
  | [], acc => by simp [once]
  | s :: r, acc => by
    rw [once, once_mem r]
    by_cases h : s ∈ acc
    · rw [if_pos h]
      constructor
      · rintro (x | x)
        · exact .inl x
        · exact .inr (List.mem_cons_of_mem _ x)
      · rintro (x | x)
        · exact .inl x
        · rcases List.mem_cons.mp x with rfl | x
          · exact .inl h
          · exact .inr x
    · rw [if_neg h]
      simp only [List.mem_append, List.mem_cons, List.not_mem_nil, or_false]
      constructor
      · rintro ((x | x) | x)
        · exact .inl x
        · exact .inr (.inl x)
        · exact .inr (.inr x)
      · rintro (x | x | x)
        · exact .inl (.inl x)
        · exact .inl (.inr x)
        · exact .inr x
theorem once_strict : ∀ (r acc : List (List Nat)), Strict acc → Weak r → (∀ a ∈ acc, ∀ s ∈ r, ltN s a = false) → Strict (once acc r)
  | [], acc, h, _, _ => h
  | s :: r, acc, h, hw, hb => by
    obtain ⟨w1, w2⟩ := List.pairwise_cons.mp hw
    rw [once]
    by_cases c : s ∈ acc
    · rw [if_pos c]
      exact once_strict r acc h w2 fun a ha z hz => hb a ha z (List.mem_cons_of_mem _ hz)
    · rw [if_neg c]
      refine once_strict r _ (List.pairwise_append.mpr ⟨h, List.pairwise_singleton _ _, fun a ha z hz => ?_⟩) w2 fun a ha z hz => ?_
      · simp at hz
        subst hz
        have h1 := hb a ha z (by simp)
        rcases ltN_tri a z with d | d | d
        · exact d
        · subst d; exact absurd ha c
        · rw [h1] at d; cases d
      · rcases List.mem_append.mp ha with ha | ha
        · exact hb a ha z (List.mem_cons_of_mem _ hz)
        · simp at ha; subst ha; exact w1 z hz
theorem once_sort (ws : List (List Nat)) : once [] (sortM ws) = sortU ws := strict_eq (once_strict _ _ List.Pairwise.nil (sortM_weak ws) fun a h => by cases h) (sortU_strict ws) fun x => by
  rw [once_mem, sortU_mem, (sortM_perm ws).mem_iff]; simp
end Z
namespace Z
/-! ### cells -/
theorem s_law_cell {ns : List Int} (hl : ns.length ≤ 63) {k : Int} (h0 : 0 ≤ k) (h1 : k < 1000) (S : Store) : ∃ c : Int, R_law_cell [.fl (ns.map .int), .int k] S = some (.ok (.int c) S) ∧ 0 ≤ c ∧ c < 1000000000000000000 := by
  unfold R_law_cell
  rw [run_eq (n := 2) _ _ rfl]
  unfold b_law_cell
  have e18 : (10:Int) ^ (18:Int).toNat = 1000000000000000000 := by decide
  have hk : small k := (small_iff k).mpr (by omega)
  by_cases hc : k < ns.length
  · have hv : k.toNat < ns.length := by omega
    refine ⟨ns[k.toNat] % 1000000000000000000, ?_, Int.emod_nonneg _ (by decide), Int.emod_lt_of_pos _ (by decide)⟩
    simp [hc, atI, ixN, h0, hv, small_iff (10 : Int)]
  · have fin : ∀ near : Int, small (near * 48271 % 2147483647) ∧ 0 ≤ (near * 48271 % 2147483647) ^ 5 % 2147483647 / 3 ∧ (near * 48271 % 2147483647) ^ 5 % 2147483647 / 3 < 1000000000000000000 := fun near => by
      have a := Int.emod_nonneg (near * 48271) (b := 2147483647) (by decide)
      have b := Int.emod_lt_of_pos (near * 48271) (b := 2147483647) (by decide)
      have c := Int.emod_nonneg ((near * 48271 % 2147483647) ^ 5) (b := 2147483647) (by decide)
      have d := Int.emod_lt_of_pos ((near * 48271 % 2147483647) ^ 5) (b := 2147483647) (by decide)
      exact ⟨(small_iff _).mpr (by omega), by omega, by omega⟩
    cases ns with
    | nil =>
      obtain ⟨f1, f2, f3⟩ := fin (19 + 11 * k * k)
      refine ⟨_, ?_, f2, f3⟩
      simp at hc
      have hc' : ¬ k < 0 := by omega
      simp [hc', hk, small_iff (11 : Int), small_iff (48271 : Int), f1]
    | cons x r =>
      have hm0 := Int.emod_nonneg k (b := ((x :: r).length : Int)) (by simp only [List.length_cons]; omega)
      have hm1 := Int.emod_lt_of_pos k (b := ((x :: r).length : Int)) (by simp only [List.length_cons]; omega)
      obtain ⟨y, q1, q2⟩ := atI_mem (xs := (x :: r).map D.int) hm0 (by simpa using hm1)
      obtain ⟨z, q3, rfl⟩ := List.mem_map.mp q2
      obtain ⟨f1, f2, f3⟩ := fin (19 + 11 * k * k + z % 1000003 * (k + 7))
      refine ⟨_, ?_, f2, f3⟩
      simp at hc q1
      have hc' : ¬ k < (r.length : Int) + 1 := by omega
      have hpos : (0 : Int) < (r.length : Int) + 1 := by omega
      have hk7 : small (k + 7) := (small_iff _).mpr (by omega)
      simp [hc', hpos, hk, hk7, small_iff (11 : Int), small_iff (48271 : Int), f1, q1]
end Z
namespace Z
/-! ### drawn books: what their names are -/
def Tm.Rw (names : List (List Nat)) (t : Tm) : Prop := ∀ s ∈ t.rows, s ∈ names
theorem rw_row {names : List (List Nat)} {s : List Nat} (h : s ∈ names) : (Tm.row s).Rw names := fun x hx => by simp [Tm.rows] at hx; subst hx; exact h
theorem rw_zip {names : List (List Nat)} {a b : Tm} (ha : a.Rw names) (hb : b.Rw names) : (Tm.zip a b).Rw names := fun x hx => by
  rcases List.mem_append.mp hx with h | h
  · exact ha x h
  · exact hb x h
theorem s_law_term_w {S : Store} {l : Nat} {names : List (List Nat)} (hS : S[l]? = some (.lst (names.map .str))) (hn : 0 < names.length) {cell : Int} (hc : 0 ≤ cell) {size : Nat} (hs : size ≤ 5) :
    ∃ t G, R_law_term_v2 [.int cell, .ref l, .int size] S = some (.ok (Tm.d t) (S ++ G)) ∧ t.depth ≤ size + 5 ∧ t.Rw names := by
  obtain ⟨s0, m0, p0⟩ := pick_str hn cell
  have hnL : (0 : Int) < names.length := by omega
  have key := forL_range (g := gName 5) (b := lb_law_term_v2_1)
    (n := size) (fun k ρ S' => ∃ (t : Tm) (rest : Int) (G : Store) (o5 o6 o7 : Option D), ρ = [some (.int cell), some (.ref l), some (.int size), some t.d, some (.int rest), o5, o6, o7] ∧ S' = S ++ G ∧ t.depth ≤ k + 5 ∧ t.Rw names)
    (by
      rintro k hk ρ S' ⟨t, rest, G, o5, o6, o7, rfl, rfl, hd, hw⟩
      refine ⟨_, _, rfl, ?_⟩
      have hk' : small (k : Int) := small_nat (by omega)
      have hg : (S ++ G)[l]? = some (.lst (names.map .str)) := get_app hS G
      have hr0 : (0:Int) < 5 := by decide
      by_cases c1 : rest % 5 < 2
      · obtain ⟨i, hi, _⟩ := mod_nat (rest / 5 + 977 * (k : Int)) (m := 3) (by decide)
        obtain ⟨j, hj, _⟩ := mod_nat cell (m := 2) (by decide)
        refine ⟨[some (.int cell), some (.ref l), some (.int size), some (Tm.sign (i + 7 * j) t).d, some (.int (rest / 5 + 977 * (k : Int))), some (.int k), some (.int (rest % 5)), o7], S ++ G, .inl ?_, .sign (i + 7 * j) t, _, G, _, _, _, rfl, rfl, by simp [Tm.depth]; omega, hw⟩
        simp [lb_law_term_v2_1, hk', c1, hi, hj, Tm.d]
      by_cases c2 : rest % 5 = 2
      · refine ⟨[some (.int cell), some (.ref l), some (.int size), some (Tm.beh t).d, some (.int (rest / 5 + 977 * (k : Int))), some (.int k), some (.int (rest % 5)), o7], S ++ G, .inl ?_, .beh t, _, G, _, _, _, rfl, rfl, by simp [Tm.depth]; omega, hw⟩
        simp [lb_law_term_v2_1, hk', c2, Tm.d]
      · let r : Int := rest / 5 + 977 * (k : Int)
        obtain ⟨s1, m1, p1⟩ := pick_str hn (r / 3)
        obtain ⟨s2, m2, p2⟩ := pick_str hn (r / 19)
        obtain ⟨i, hi, _⟩ := mod_nat (r / 13) (m := 3) (by decide)
        -- the other side
        obtain ⟨o, ho, how, hod⟩ : ∃ o : Tm, o.depth ≤ 4 ∧ o.Rw names ∧ o.d = (if k = 0 ∧ r / 17 % 4 = 0 then D.tup [.str wBeh, .tup [.str wZip, (if r / 11 % 2 = 0 then D.tup [.str wSign, .int (r / 13 % 3), .tup [.str wRow, .str s1]] else .tup [.str wRow, .str s1]), .tup [.str wRow, .str s2]]] else (if r / 11 % 2 = 0 then D.tup [.str wSign, .int (r / 13 % 3), .tup [.str wRow, .str s1]] else .tup [.str wRow, .str s1])) := by
          by_cases d1 : r / 11 % 2 = 0 <;> by_cases d2 : k = 0 ∧ r / 17 % 4 = 0
          · exact ⟨.beh (.zip (.sign i (.row s1)) (.row s2)), by simp [Tm.depth], rw_zip (a := .sign i (.row s1)) (rw_row m1) (rw_row m2), by simp [Tm.d, d1, d2, hi]⟩
          · exact ⟨.sign i (.row s1), by simp [Tm.depth], rw_row m1, by simp [Tm.d, d1, d2, hi]⟩
          · exact ⟨.beh (.zip (.row s1) (.row s2)), by simp [Tm.depth], rw_zip (rw_row m1) (rw_row m2), by simp [Tm.d, d1, d2]⟩
          · exact ⟨.row s1, by simp [Tm.depth], rw_row m1, by simp [Tm.d, d1, d2]⟩
        have v0 := Int.emod_nonneg (r / 2) (b := 2) (by decide)
        have v1 := Int.emod_lt_of_pos (r / 2) (b := 2) (by decide)
        have hsel : atI [(Tm.zip t o).d, (Tm.zip o t).d] (r / 2 % 2) = some (if r / 2 % 2 = 0 then Tm.zip t o else .zip o t).d := by
          by_cases e : r / 2 % 2 = 0
          · rw [e]; simp [at0]
          · have e' : r / 2 % 2 = ((1 : Nat) : Int) := by omega
            rw [if_neg e, e']; simp [atI, ixN]
        have hrun : lb_law_term_v2_1 [some (.int cell), some (.ref l), some (.int size), some t.d, some (.int rest), some (.int k), o6, o7] (S ++ G) = some (.nx [some (.int cell), some (.ref l), some (.int size), some (if r / 2 % 2 = 0 then Tm.zip t o else .zip o t).d, some (.int r), some (.int k), some (.int (rest % 5)), some o.d] (S ++ (G ++ [.lst [(Tm.zip t o).d, (Tm.zip o t).d]]))) := by
          have c1' : ¬ rest % 5 < 2 := c1
          have er : rest / 5 + 977 * (k : Int) = r := rfl
          simp only [Tm.d, apply_ite Tm.d] at hsel ⊢
          by_cases d3 : k = 0
          · have er2 : rest / 5 = r := by simp [r, d3]
            by_cases d1 : r / 11 % 2 = 0 <;> by_cases d4 : r / 17 % 4 = 0
            all_goals
              simp only [d1, d3, d4, true_and, and_true, if_true, if_false, and_self, false_and, and_false] at hod
              rw [hod] at hsel ⊢
              simp [lb_law_term_v2_1, c1', c2, hg, hn, er2, p1, p2, d1, d3, d4] at hsel ⊢
              simp [hsel]
          · by_cases d1 : r / 11 % 2 = 0
            all_goals
              simp only [d1, d3, true_and, and_true, if_true, if_false, and_self, false_and, and_false] at hod
              rw [hod] at hsel ⊢
              simp [lb_law_term_v2_1, hk', c1', c2, hg, hn, er, p1, p2, d1, d3] at hsel ⊢
              simp [hsel]
        refine ⟨_, _, .inl hrun, _, _, _, _, _, _, rfl, rfl, ?_, ?_⟩
        · split <;> (simp [Tm.depth]; omega)
        · split
          · exact rw_zip hw how
          · exact rw_zip how hw) [some (.int cell), some (.ref l), some (.int size), some (Tm.row s0).d, some (.int (cell / 7)), none, none, none] S ⟨_, _, [], _, _, _, rfl, by simp, by simp [Tm.depth], rw_row m0⟩
  obtain ⟨ρ', S', h, t, rest, G, o5, o6, o7, rfl, rfl, hd, hw⟩ := key
  refine ⟨t, G, ?_, by omega, hw⟩
  unfold R_law_term_v2
  rw [run_eq (n := 3) _ _ rfl]
  unfold b_law_term_v2
  simp [Tm.d] at h
  simp [hS, hn, hnL, p0, show size ≤ 1000000000 by omega, h]

def poolw : List (List (List Nat)) := [[[97], [98], [99], [100]], [[120, 120], [120], [120, 120, 120], [121]], [[114, 111], [115, 105, 103, 110], [114, 111, 119], [111, 110, 101]]]
theorem poolw_len : ∀ p ∈ poolw, p.length = 4 := by decide
theorem poolw_nd : ∀ p ∈ poolw, p.Nodup := by decide
theorem poolw_8 : ∀ p ∈ poolw, ∀ s ∈ p, s.length ≤ 8 := by decide
theorem s_law_book_w {ns : List Int} (hl : ns.length ≤ 63) (S : Store) : ∃ es G, R_law_book_v2 [.fl (ns.map .int)] S = some (.ok (bookD es) (S ++ G)) ∧ (∀ e ∈ es, e.2.depth ≤ 12 ∧ e.2.Rw (es.map (·.1))) ∧ (es.map (·.1)).Nodup ∧ 0 < es.length ∧ es.length ≤ 4 ∧ ∀ e ∈ es, e.1.length ≤ 8 := by
  let B4 : Store := [.lst [.str [97], .str [98], .str [99], .str [100]], .lst [.str [120, 120], .str [120], .str [120, 120, 120], .str [121]], .lst [.str [114, 111], .str [115, 105, 103, 110], .str [114, 111, 119], .str [111, 110, 101]], .lst [.ref S.length, .ref (S.length + 1), .ref (S.length + 2)]]
  obtain ⟨cell, hcell, c0, c1⟩ := s_law_cell hl (k := 0) (by decide) (by decide) S
  obtain ⟨j, hj, hj3⟩ := mod_nat cell (m := 3) (by decide)
  obtain ⟨v, hv, hv4⟩ := mod_nat (cell / 3) (m := 4) (by decide)
  have hjn : j < 3 := by omega
  obtain ⟨pool, hpool⟩ : ∃ pool, poolw[j]? = some pool := ⟨poolw[j]'(by simpa [poolw] using hjn), by simp⟩
  have hpl : pool.length = 4 := poolw_len pool (List.mem_of_getElem? hpool)
  let names := pool.take (v + 1)
  have hnl : names.length = v + 1 := by simp [names, hpl]; omega
  have hat : atI [D.ref S.length, .ref (S.length + 1), .ref (S.length + 2)] (j : Int) = some (.ref (S.length + j)) := by
    apply atI_nat
    match j, hjn with
    | 0, _ => rfl
    | 1, _ => rfl
    | 2, _ => rfl
  have hgp : ∀ T, (S ++ (B4 ++ T))[S.length + j]? = some (.lst (pool.map .str)) := fun T => by
    match j, hjn, hpool with
    | 0, _, h => cases h; simp [B4, poolw]
    | 1, _, h => cases h; simp [B4, poolw]
    | 2, _, h => cases h; simp [B4, poolw]
  let N0 : List (Option D) := [some (.fl (ns.map .int)), some (.int cell), some (.ref (S.length + j)), some (.ref (S.length + 4)), some (.ref (S.length + 5))]
  let I : Nat → Env → Store → Prop := fun k ρ S' => ∃ (es : List (List Nat × Tm)) (G : Store) (o5 o6 o7 : Option D), ρ = N0 ++ [o5, o6, o7] ∧ S' = S ++ (B4 ++ (.lst (names.map .str) :: .lst (es.map ent) :: G)) ∧ es.map (·.1) = names.take k ∧ ∀ e ∈ es, e.2.depth ≤ 12 ∧ e.2.Rw names
  have key := forL_range (g := gName 5) (b := lb_law_book_v2_1 R_law_cell R_law_term_v2) (n := names.length) I ?step (N0 ++ [none, none, none]) (S ++ (B4 ++ [.lst (names.map .str), .lst []])) ⟨[], [], none, none, none, rfl, rfl, rfl, fun e h => by simp at h⟩
  case step =>
    rintro k hk ρ S' ⟨es, G, o5, o6, o7, rfl, rfl, hes, hd⟩
    refine ⟨_, _, rfl, ?_⟩
    let S2 : Store := S ++ (B4 ++ (.lst (names.map .str) :: .lst (es.map ent) :: G))
    have g1 : ∀ T, (S2 ++ T)[S.length + 4]? = some (.lst (names.map .str)) := fun T => by simp [S2, B4]
    have g2 : ∀ T, (S2 ++ T)[S.length + 5]? = some (.lst (es.map ent)) := fun T => by simp [S2, B4]
    obtain ⟨near, hn, n0, n1⟩ := s_law_cell hl (k := 1 + (k : Int)) (by omega) (by omega) S2
    obtain ⟨z, hz, hz5⟩ := mod_nat near (m := 5) (by decide)
    have hsz : (1 : Int) + z = ((1 + z : Nat) : Int) := by omega
    obtain ⟨t, G2, ht, hd2, hw2⟩ := s_law_term_w (S := S2) (l := S.length + 4) (by simpa using g1 []) (names := names) (by omega) (cell := near / 6) (Int.ediv_nonneg n0 (by decide)) (size := 1 + z) (by omega)
    obtain ⟨i, hi, _⟩ := mod_nat (near / 15) (m := 3) (by decide)
    obtain ⟨s, hsk⟩ : ∃ s, names[k]? = some s := ⟨names[k], List.getElem?_eq_getElem hk⟩
    have hs : atI (names.map D.str) (k : Int) = some (.str s) := atI_nat (by simp [hsk])
    let t' : Tm := if 0 < near / 5 % 3 then .sign i t else t
    have hset : ∀ x, (S2 ++ G2).set (S.length + 5) x = S ++ (B4 ++ (.lst (names.map .str) :: x :: (G ++ G2))) := fun x => by simp [S2, B4]
    refine ⟨N0 ++ [some (.int k), some (.int near), some t'.d], S ++ (B4 ++ (.lst (names.map .str) :: .lst ((es ++ [(s, t')]).map ent) :: (G ++ G2))), .inl ?_, es ++ [(s, t')], _, _, _, _, rfl, rfl, by rw [List.map_append, hes, List.take_add_one, hsk]; rfl, fun e he => ?_⟩
    · have hesl : es.length < LINE := by have := congrArg List.length hes; simp at this; rw [LINE_eq]; omega
      have hL : lb_law_book_v2_1 R_law_cell R_law_term_v2 (N0 ++ [some (.int k), o6, o7]) S2 = some (.nx (N0 ++ [some (.int k), some (.int near), some t'.d]) ((S2 ++ G2).set (S.length + 5) (.lst (es.map ent ++ [.tup [.str s, t'.d]])))) := by
        rw [hsz.symm] at ht
        have g1' := g1 G2
        have g2' := g2 G2
        by_cases c : 0 < near / 5 % 3
        · simp [lb_law_book_v2_1, N0, hn, hz, ht, c, hi, t', g1', g2', hs, hesl, Tm.d]
        · simp [lb_law_book_v2_1, N0, hn, hz, ht, c, hi, t', g1', g2', hs, hesl]
      rw [hset] at hL
      have e1 : (N0 ++ [o5, o6, o7]).set 5 (some (.int (k : Nat))) = N0 ++ [some (.int k), o6, o7] := rfl
      rw [e1]
      simpa [ent] using hL
    · rcases List.mem_append.mp he with h | h
      · exact hd e h
      · simp at h
        subst h
        refine ⟨?_, ?_⟩
        · show Tm.depth t' ≤ 12
          simp only [t']
          split
          · simp [Tm.depth]; omega
          · omega
        · show Tm.Rw names t'
          simp only [t']
          split
          · exact hw2
          · exact hw2
  obtain ⟨ρ', S', h, es, G, o5, o6, o7, rfl, rfl, hes, hd⟩ := key
  rw [List.take_of_length_le (Nat.le_refl _)] at hes
  have hel := congrArg List.length hes
  rw [List.length_map] at hel
  have hmem := List.mem_of_getElem? hpool
  refine ⟨es, B4 ++ (.lst (names.map .str) :: .lst (es.map ent) :: G), ?_, by rw [hes]; exact hd, by rw [hes]; exact (poolw_nd pool hmem).sublist (List.take_sublist _ _), by omega, by omega, fun e he => ?_⟩
  rotate_left
  · have : e.1 ∈ names := by rw [← hes]; exact List.mem_map.mpr ⟨e, he, rfl⟩
    exact poolw_8 pool hmem _ (List.mem_of_mem_take this)
  unfold R_law_book_v2
  rw [run_eq (n := 1) _ _ rfl]
  unfold b_law_book_v2
  have hcut : cut (pool.map D.str) none (some (1 + (v : Int))) = names.map .str := by
    rw [cut_map, show (1 + (v : Int)) = ((v + 1 : Nat) : Int) by omega, cut_take]
  have hgp' := hgp []
  simp [B4] at hgp'
  simp [N0, B4] at h
  simp [hcell, hj, hv, Nat.add_assoc, hat, slD, new1, hgp', hcut, show names.length ≤ 1000000000 by omega, h, B4]

end Z
namespace Z
/-! ### one step of a walk -/
def hop : Tm → Nat → Nat ⊕ (List Nat × Nat)
  | .row s, n => .inr (s, n)
  | .sign i _, 0 => .inl i
  | .sign _ t, n + 1 => hop t n
  | .beh t, n => hop t (n + 1)
  | .zip a b, n => if n % 2 = 0 then hop a (n / 2) else hop b (n / 2)
def zipf : Tm → Nat → Bool
  | .row _, _ => false
  | .sign _ _, 0 => false
  | .sign _ t, n + 1 => zipf t n
  | .beh t, n => zipf t (n + 1)
  | .zip _ _, _ => true
def hopD : Nat ⊕ (List Nat × Nat) → D
  | .inl i => .tup [.str wSign, .int i]
  | .inr (s, k) => .tup [.str wCall, .str s, .int k]
def hopZ (z : Bool) : Nat ⊕ (List Nat × Nat) → D
  | .inl i => .tup [.str wSign, .int i, .bl z]
  | .inr (s, k) => .tup [.str wCall, .str s, .int k, .bl z]
theorem hang_hop : ∀ (t : Tm) (n : Nat), hang t n = hopD (hop t n)
  | .row s, n => rfl
  | .sign i _, 0 => rfl
  | .sign i t, n + 1 => hang_hop t n
  | .beh t, n => hang_hop t (n + 1)
  | .zip a b, n => by
    rw [hang, hop]
    split
    · exact hang_hop a _
    · exact hang_hop b _
theorem followed_loop2 (S : Store) : ∀ (t : Tm) (n : Nat) (z : Bool), fW [some t.d, some (.int n), some (.bl z)] S = some (.rt (.tup [hopD (hop t n), .bl (z || zipf t n)]) S) ∨
    ∃ s k, hop t n = .inr (s, k) ∧ fW [some t.d, some (.int n), some (.bl z)] S = some (.nx [some (Tm.row s).d, some (.int (k : Nat)), some (.bl (z || zipf t n))] S)
  | .row s, n, z => .inr ⟨s, n, rfl, by rw [zipf, Bool.or_false]; exact sWh_stop (by simp [lb_followed_1, Tm.d, atI, ixN])⟩
  | .sign i t, 0, z => .inl (by rw [zipf, Bool.or_false]; exact sWh_rt (S1 := S) (by simp [lb_followed_1, Tm.d, atI, ixN]) (by simp [lb_followed_1, Tm.d, atI, ixN, hop, hopD]))
  | .sign i t, n + 1, z => by
    have e : fW [some (Tm.sign i t).d, some (.int ((n + 1 : Nat) : Int)), some (.bl z)] S = fW [some t.d, some (.int n), some (.bl z)] S :=
      sWh_go (S1 := S) (by simp [lb_followed_1, Tm.d, atI, ixN]) (by
        have h0 : ¬ ((n : Int) + 1 = 0) := by omega
        have h1 : (n : Int) + 1 - 1 = n := by omega
        simp [lb_followed_1, Tm.d, atI, ixN, h0, h1])
    rw [e, hop, zipf]
    exact followed_loop2 S t n z
  | .beh t, n, z => by
    have e : fW [some (Tm.beh t).d, some (.int n), some (.bl z)] S = fW [some t.d, some (.int ((n + 1 : Nat) : Int)), some (.bl z)] S :=
      sWh_go (S1 := S) (by simp [lb_followed_1, Tm.d, atI, ixN]) (by simp [lb_followed_1, Tm.d, atI, ixN])
    rw [e, hop, zipf]
    exact followed_loop2 S t (n + 1) z
  | .zip a b, n, z => by
    have e : fW [some (Tm.zip a b).d, some (.int n), some (.bl z)] S = fW [some (if n % 2 = 0 then a else b).d, some (.int ((n / 2 : Nat) : Int)), some (.bl true)] S :=
      sWh_go (S1 := S) (by simp [lb_followed_1, Tm.d, atI, ixN]) (by
        rcases Nat.mod_two_eq_zero_or_one n with h | h
        · have e1 : (1 + (n : Int) % 2) = ((1 : Nat) : Int) := by omega
          simp [lb_followed_1, Tm.d, h, e1, at0]
          simp [atI, ixN]
        · have e1 : (1 + (n : Int) % 2) = ((2 : Nat) : Int) := by omega
          simp [lb_followed_1, Tm.d, h, e1, at0]
          simp [atI, ixN])
    rw [e, hop, zipf]
    split
    · have := followed_loop2 S a (n / 2) true
      simpa using this
    · have := followed_loop2 S b (n / 2) true
      simpa using this
theorem s_followed2 (t : Tm) (n : Nat) (S : Store) : R_followed [t.d, .int n] S = some (.ok (.tup [hopD (hop t n), .bl (zipf t n)]) S) := by
  unfold R_followed
  rw [run_eq (n := 2) _ _ rfl]
  unfold b_followed
  rcases followed_loop2 S t n false with h | ⟨s, k, h1, h⟩
  · simp at h
    simp [h]
  · simp at h
    simp [h, Tm.d, atI, ixN, h1, hopD]
theorem s_law_followed : ∀ (t : Tm) (d n : Nat) (S : Store), t.depth ≤ d → ∃ G, R_law_followed d [t.d, .int n] S = some (.ok (hopZ (zipf t n) (hop t n)) (S ++ G))
  | t, 0, n, S, h => by cases t <;> simp [Tm.depth] at h
  | .row s, d + 1, n, S, h => by
    refine ⟨[], ?_⟩
    unfold R_law_followed
    rw [run_eq (n := 2) _ _ rfl]
    unfold b_law_followed
    simp [Tm.d, atI, ixN, hop, hopZ, zipf]
  | .sign i t, d + 1, 0, S, h => by
    refine ⟨[], ?_⟩
    unfold R_law_followed
    rw [run_eq (n := 2) _ _ rfl]
    unfold b_law_followed
    simp [Tm.d, atI, ixN, hop, hopZ, zipf]
  | .sign i t, d + 1, n + 1, S, h => by
    obtain ⟨G, ih⟩ := s_law_followed t d n S (by simp [Tm.depth] at h; omega)
    refine ⟨G, ?_⟩
    unfold R_law_followed
    rw [run_eq (n := 2) _ _ rfl]
    unfold b_law_followed
    have h0 : ¬ ((n : Int) + 1 = 0) := by omega
    have h1 : (n : Int) + 1 - 1 = n := by omega
    simp [Tm.d, atI, ixN, hop, zipf, h0, h1, ih]
  | .beh t, d + 1, n, S, h => by
    obtain ⟨G, ih⟩ := s_law_followed t d (n + 1) S (by simp [Tm.depth] at h; omega)
    refine ⟨G, ?_⟩
    unfold R_law_followed
    rw [run_eq (n := 2) _ _ rfl]
    unfold b_law_followed
    simp at ih
    simp [Tm.d, atI, ixN, hop, zipf, ih]
  | .zip a b, d + 1, n, S, h => by
    have fin : ∀ (x : Nat ⊕ (List Nat × Nat)) (z : Bool) (T : Store), bd (slD none (some (-1)) (hopZ z x) T) (fun u T1 => addD u (.tup [.bl true]) T1) = some (.ok (hopZ true x) T) := by
      intro x z T
      have hL : ∀ k : Nat, k ≤ 100 → k ≤ LINE := fun k hk => by rw [LINE_eq]; omega
      rcases x with i | ⟨s, k⟩
      · simp [hopZ, slD, cut, sIx, hL]
      · simp [hopZ, slD, cut, sIx, hL]
    rcases Nat.mod_two_eq_zero_or_one n with hm | hm
    · obtain ⟨G, ih⟩ := s_law_followed a d (n / 2) (S ++ [.lst [a.d, b.d]]) (by simp [Tm.depth] at h; omega)
      refine ⟨.lst [a.d, b.d] :: G, ?_⟩
      unfold R_law_followed
      rw [run_eq (n := 2) _ _ rfl]
      unfold b_law_followed
      have e1 : (n : Int) % 2 = 0 := by omega
      have e2' : ((n / 2 : Nat) : Int) = (n : Int) / 2 := by omega
      rw [e2'] at ih
      have := fin (hop a (n / 2)) (zipf a (n / 2)) (S ++ .lst [a.d, b.d] :: G)
      simp at ih
      simp [-o_add, Tm.d, atI, ixN, hop, zipf, e1, ih, hm]
      rw [this]
      rfl
    · obtain ⟨G, ih⟩ := s_law_followed b d (n / 2) (S ++ [.lst [a.d, b.d]]) (by simp [Tm.depth] at h; omega)
      refine ⟨.lst [a.d, b.d] :: G, ?_⟩
      unfold R_law_followed
      rw [run_eq (n := 2) _ _ rfl]
      unfold b_law_followed
      have e1 : (n : Int) % 2 = 1 := by omega
      have e2' : ((n / 2 : Nat) : Int) = (n : Int) / 2 := by omega
      rw [e2'] at ih
      have := fin (hop b (n / 2)) (zipf b (n / 2)) (S ++ .lst [a.d, b.d] :: G)
      simp at ih
      simp [-o_add, Tm.d, atI, ixN, hop, zipf, e1, ih, hm]
      rw [this]
      rfl
/-! ### where a step leads -/
theorem hop_le : ∀ (t : Tm) (n : Nat) (s : List Nat) (k : Nat), hop t n = .inr (s, k) → s ∈ t.rows ∧ (zipf t n = false → k ≤ n + t.depth) ∧ (zipf t n = true → k ≤ n / 2 + t.depth)
  | .row s', n, s, k, h => by
    simp [hop] at h
    obtain ⟨rfl, rfl⟩ := h
    simp [Tm.rows, zipf]
  | .sign i t, 0, s, k, h => by simp [hop] at h
  | .sign i t, n + 1, s, k, h => by
    obtain ⟨h1, h2, h3⟩ := hop_le t n s k h
    exact ⟨h1, fun z => by have := h2 z; simp [Tm.depth]; omega, fun z => by have := h3 z; simp [Tm.depth]; omega⟩
  | .beh t, n, s, k, h => by
    obtain ⟨h1, h2, h3⟩ := hop_le t (n + 1) s k h
    exact ⟨h1, fun z => by have := h2 z; simp [Tm.depth]; omega, fun z => by have := h3 z; simp [Tm.depth]; omega⟩
  | .zip a b, n, s, k, h => by
    rw [hop] at h
    split at h
    · obtain ⟨h1, h2, h3⟩ := hop_le a (n / 2) s k h
      refine ⟨List.mem_append_left _ h1, fun z => by simp [zipf] at z, fun _ => ?_⟩
      cases c : zipf a (n / 2)
      · have := h2 c; simp [Tm.depth]; omega
      · have := h3 c; simp [Tm.depth]; omega
    · obtain ⟨h1, h2, h3⟩ := hop_le b (n / 2) s k h
      refine ⟨List.mem_append_right _ h1, fun z => by simp [zipf] at z, fun _ => ?_⟩
      cases c : zipf b (n / 2)
      · have := h2 c; simp [Tm.depth]; omega
      · have := h3 c; simp [Tm.depth]; omega
/-! ### the term of a name -/
def termOf (es : List (List Nat × Tm)) (s : List Nat) : Tm := match es.find? fun e => decide (e.1 = s) with
  | some e => e.2
  | none => .row s
theorem termOf_mem {es : List (List Nat × Tm)} (hn : (es.map (·.1)).Nodup) {e : List Nat × Tm} (he : e ∈ es) : termOf es e.1 = e.2 := by
  have : es.find? (fun f => decide (f.1 = e.1)) = some e := by
    induction es with
    | nil => cases he
    | cons f es ih =>
      rw [List.map_cons, List.nodup_cons] at hn
      rcases List.mem_cons.mp he with rfl | he
      · simp
      · have : ¬ f.1 = e.1 := fun c => hn.1 (by rw [c]; exact List.mem_map.mpr ⟨e, he, rfl⟩)
        rw [List.find?_cons]
        simp only [decide_eq_false this]
        exact ih hn.2 he
  unfold termOf
  rw [this]
/-- a drawn book -/
structure Bk (es : List (List Nat × Tm)) : Prop where
  dep : ∀ e ∈ es, e.2.depth ≤ 12
  row : ∀ e ∈ es, e.2.Rw (es.map (·.1))
  nd : (es.map (·.1)).Nodup
  len : es.length ≤ 8
theorem Bk.at {es : List (List Nat × Tm)} (b : Bk es) {s : List Nat} (h : s ∈ es.map (·.1)) : (s, termOf es s) ∈ es := by
  obtain ⟨e, he, rfl⟩ := List.mem_map.mp h
  rw [termOf_mem b.nd he]
  exact he
def kvE (e : List Nat × Tm) : D × D := (.str e.1, e.2.d)
theorem fOf_es : ∀ es : List (List Nat × Tm), fOf (es.map ent) = some (es.map kvE)
  | [] => rfl
  | e :: es => by rw [List.map_cons]; simp [ent, fOf, fOf_es es, kvE]
theorem fput_new {es : List (List Nat × Tm)} {e : List Nat × Tm} (h : e.1 ∉ es.map (·.1)) : fput (es.map kvE) (.str e.1) e.2.d = (es ++ [e]).map kvE := by
  have : ((es.map kvE).any fun p => kEq0 p.1 (.str e.1)) = false := by
    rw [Bool.eq_false_iff]
    intro c
    obtain ⟨p, hp, hq⟩ := List.any_eq_true.mp c
    obtain ⟨f, hf, rfl⟩ := List.mem_map.mp hp
    simp [kvE, kEq0] at hq
    exact h (List.mem_map.mpr ⟨f, hf, hq⟩)
  unfold fput
  rw [this]
  simp [kvE]
theorem fold_es : ∀ (es pre : List (List Nat × Tm)), ((pre ++ es).map (·.1)).Nodup → (es.map kvE).foldl (fun acc p => fput acc p.1 p.2) (pre.map kvE) = (pre ++ es).map kvE
  | [], pre, _ => by simp
  | e :: es, pre, h => by
    have hn : e.1 ∉ pre.map (·.1) := by
      intro c
      rw [List.map_append, List.nodup_append] at h
      exact h.2.2 _ c e.1 (by simp) rfl
    have h2 := fput_new hn
    rw [List.map_cons, List.foldl_cons]
    show (es.map kvE).foldl _ (fput (pre.map kvE) (.str e.1) e.2.d) = _
    rw [h2, fold_es es (pre ++ [e]) (by simpa using h)]
    simp
theorem fget_es {e : List Nat × Tm} : ∀ {es : List (List Nat × Tm)}, (es.map (·.1)).Nodup → e ∈ es → fget (es.map kvE) (.str e.1) = some e.2.d
  | [], _, h => by cases h
  | f :: es, hn, h => by
    rw [List.map_cons, List.nodup_cons] at hn
    rcases List.mem_cons.mp h with rfl | h
    · simp [fget, kvE, kEq0]
    · have hne : ¬ f.1 = e.1 := fun c => hn.1 (by rw [c]; exact List.mem_map.mpr ⟨e, h, rfl⟩)
      have ih := fget_es hn.2 h
      unfold fget at ih ⊢
      rw [List.map_cons, List.find?_cons]
      have : kEq0 (kvE f).1 (.str e.1) = false := by simp [kvE, kEq0, hne]
      rw [this]
      exact ih
theorem s_term_of {es : List (List Nat × Tm)} (b : Bk es) {s : List Nat} (hs : s ∈ es.map (·.1)) (S : Store) : R_term_of [bookD es, .str s] S = some (.ok (termOf es s).d (S ++ [.dk (es.map kvE)])) := by
  unfold R_term_of
  rw [run_eq (n := 2) _ _ rfl]
  unfold b_term_of
  have h1 := fold_es es [] (by simpa using b.nd)
  have h2 := fget_es b.nd (b.at hs)
  have h3 := b.len
  rw [List.map_nil, List.nil_append] at h1
  have h4 : es.length < 1000000 := by omega
  have h5 : es ≠ [] := fun c => by rw [c] at hs; cases hs
  simp at h2
  simp [o_dictTF, fOf_es, h1, h2, h4, h5]
theorem s_law_term_of {es : List (List Nat × Tm)} (b : Bk es) {s : List Nat} (hs : s ∈ es.map (·.1)) (S : Store) : ∃ G, R_law_term_of [bookD es, .str s] S = some (.ok (termOf es s).d (S ++ G)) := by
  have h8 := b.len
  have hlc := lcL_filter (chk := fun _ => True) (g := gTup [gName 2, gName 3]) (t := tVal (e2 eqD (eVar 2) (eVar 1))) (e := eVar 3) (S := S) (ρ := [some (bookD es), some (.str s), none, none]) (fun d => match d with | .tup [.str z, _] => decide (z = s) | _ => false) (fun d => match d with | .tup [_, x] => x | _ => .non) (es.map ent) [] (by rw [LINE_eq]; simp; omega) (fun _ => trivial) (fun x hx acc => by
    obtain ⟨e, _, rfl⟩ := List.mem_map.mp hx
    refine ⟨[some (bookD es), some (.str s), some (.str e.1), some e.2.d], by simp [ent], by simp [ent], fun _ => by simp [ent]⟩)
  have hat : ∃ r, ((es.map ent).filter fun d => match d with | .tup [.str z, _] => decide (z = s) | _ => false).map (fun d => match d with | D.tup [_, x] => x | _ => D.non) = (termOf es s).d :: r := by
    have e1 : ((es.map ent).filter fun d => match d with | .tup [.str z, _] => decide (z = s) | _ => false) = (es.filter fun e => decide (e.1 = s)).map ent := by
      rw [List.filter_map]
      rfl
    have hh : (es.filter fun e => decide (e.1 = s)).head? = es.find? fun e => decide (e.1 = s) := List.head?_filter ..
    have hm := b.at hs
    rw [e1]
    cases c : es.filter fun e => decide (e.1 = s) with
    | nil =>
      have : (s, termOf es s) ∈ es.filter fun e => decide (e.1 = s) := List.mem_filter.mpr ⟨hm, by simp⟩
      rw [c] at this
      cases this
    | cons f r =>
      rw [c] at hh
      have : termOf es s = f.2 := by unfold termOf; rw [← hh]; rfl
      exact ⟨r.map fun e => e.2.d, by rw [this]; simp [ent]⟩
  obtain ⟨r, hr⟩ := hat
  rw [hr, List.nil_append] at hlc
  refine ⟨[.lst ((termOf es s).d :: r)], ?_⟩
  unfold R_law_term_of
  rw [run_eq (n := 2) _ _ rfl]
  unfold b_law_term_of
  simp [wipe, hlc, at0]
end Z
namespace Z
/-! ### the walk, without a program -/
abbrev Call := List Nat × Nat
abbrev Lows := List Nat → Option Nat
def wAgain (C : List Call) (L : Lows) (c : Call) : Bool := decide (c ∈ C) || (match L c.1 with | some v => decide (v ≤ c.2) | none => false)
def wLows (z : Bool) (L : Lows) : Lows := if z = true then fun _ => none else L
def wSet (L : Lows) (c : Call) : Lows := fun t => if t = c.1 then some c.2 else L t
/-- none: free -/
def wk (es : List (List Nat × Tm)) : Nat → Call → List Call → Lows → Option (Option Nat × List Call)
  | 0, _, _, _ => none
  | f + 1, c, C, L => match hop (termOf es c.1) c.2 with
    | .inl i => some (some i, C)
    | .inr c' => if wAgain C (wLows (zipf (termOf es c.1) c.2) L) c' = true then some (none, C ++ [c'])
        else wk es f c' (C ++ [c']) (wSet (wLows (zipf (termOf es c.1) c.2) L) c')
/-- calls that are unlike and within bounds are few -/
theorem few_calls : ∀ (P : List (List Nat)) (B : Nat) (C : List Call), C.Nodup → (∀ c ∈ C, c.1 ∈ P ∧ c.2 < B) → C.length ≤ P.length * B := by
  intro P
  induction P with
  | nil =>
    intro B C hn h
    cases C with
    | nil => simp
    | cons c C => exact absurd (h c (by simp)).1 (by simp)
  | cons p P ih =>
    intro B C hn h
    have h1 : (C.filter fun c => decide (c.1 = p)).length ≤ B := by
      have key : ∀ (B : Nat) (C : List Call), C.Nodup → (∀ c ∈ C, c.1 = p ∧ c.2 < B) → C.length ≤ B := by
        intro B
        induction B with
        | zero => intro C _ h; cases C with | nil => simp | cons c C => exact absurd (h c (by simp)).2 (by simp)
        | succ B ihB =>
          intro C hn h
          by_cases hm : (p, B) ∈ C
          · have := ihB (C.erase (p, B)) (hn.erase _) fun c hc => by
              have hc' := List.mem_of_mem_erase hc
              obtain ⟨a1, a2⟩ := h c hc'
              refine ⟨a1, ?_⟩
              have : c ≠ (p, B) := fun e => by subst e; exact (hn.not_mem_erase) hc
              have : c.2 ≠ B := fun e => this (Prod.ext a1 e)
              omega
            rw [List.length_erase_of_mem hm] at this
            omega
          · have := ihB C hn fun c hc => by
              obtain ⟨a1, a2⟩ := h c hc
              have : c.2 ≠ B := fun e => hm (by rw [← e, ← a1]; exact hc)
              exact ⟨a1, by omega⟩
            omega
      exact key B _ (hn.filter _) fun c hc => by
        have := List.mem_filter.mp hc
        exact ⟨by simpa using this.2, (h c this.1).2⟩
    have h2 : (C.filter fun c => !decide (c.1 = p)).length ≤ P.length * B := ih B _ (hn.filter _) fun c hc => by
      have := List.mem_filter.mp hc
      obtain ⟨a1, a2⟩ := h c this.1
      have h3 := this.2
      simp at h3
      exact ⟨(List.mem_cons.mp a1).resolve_left h3, a2⟩
    have h3 : C.length = (C.filter fun c => decide (c.1 = p)).length + (C.filter fun c => !decide (c.1 = p)).length := by
      clear hn h h1 h2 ih
      induction C with
      | nil => rfl
      | cons c C ih =>
        rw [List.filter_cons, List.filter_cons]
        cases decide (c.1 = p) <;> simp <;> omega
    rw [List.length_cons, Nat.add_mul, Nat.one_mul]
    omega
/-- the lows are bounded: P, the names called since the last zip -/
theorem nd_le' {a b : List (List Nat)} (h : a.Nodup) (s : ∀ x ∈ a, x ∈ b) : a.length ≤ b.length := by
  induction a generalizing b with
  | nil => exact Nat.zero_le _
  | cons x a ih =>
    have hx : x ∈ b := s x (by simp)
    have hn := List.nodup_cons.mp h
    have := ih (b := b.erase x) hn.2 fun y hy => (List.mem_erase_of_ne (fun e => hn.1 (by rw [← e]; exact hy))).mpr (s y (List.mem_cons_of_mem _ hy))
    rw [List.length_erase_of_mem hx] at this
    have := List.length_pos_of_mem hx
    rw [List.length_cons]
    omega
structure Lb (names : List (List Nat)) (P : List (List Nat)) (n0 : Nat) (c : Call) (L : Lows) : Prop where
  sub : ∀ t ∈ P, t ∈ names
  nd : P.Nodup
  iff : ∀ t, t ∈ P ↔ L t ≠ none
  le : ∀ t v, L t = some v → v + 12 ≤ n0 + 12 * P.length
  cur : L c.1 = some c.2
  n0 : n0 ≤ 2000
theorem wk_ends {es : List (List Nat × Tm)} (b : Bk es) (hl : es.length ≤ 4) : ∀ (f : Nat) (c : Call) (C : List Call) (L : Lows) (P : List (List Nat)) (n0 : Nat), Lb (es.map (·.1)) P n0 c L → C.Nodup → (∀ c ∈ C, c.1 ∈ es.map (·.1) ∧ c.2 < 2048) → 8200 ≤ f + C.length → ∃ r C', wk es f c C L = some (r, C') ∧ C'.length ≤ 8193
  | 0, c, C, L, P, n0, _, hn, hC, hf => by
    have := few_calls (es.map (·.1)) 2048 C hn hC
    rw [List.length_map] at this
    have : es.length * 2048 ≤ 4 * 2048 := Nat.mul_le_mul_right _ hl
    omega
  | f + 1, c, C, L, P, n0, h, hn, hC, hf => by
    have hCl := few_calls (es.map (·.1)) 2048 C hn hC
    rw [List.length_map] at hCl
    have hCl2 : es.length * 2048 ≤ 4 * 2048 := Nat.mul_le_mul_right _ hl
    rw [wk]
    cases hh : hop (termOf es c.1) c.2 with
    | inl i => exact ⟨_, _, rfl, by omega⟩
    | inr c' =>
      dsimp only
      have hPl : P.length ≤ 4 := by
        have := nd_le' h.nd h.sub
        rw [List.length_map] at this
        omega
      have hc1 : c.1 ∈ es.map (·.1) := h.sub _ ((h.iff _).mpr (by rw [h.cur]; simp))
      have hm := b.at hc1
      have hd : (termOf es c.1).depth ≤ 12 := b.dep _ hm
      have hn0 := h.n0
      obtain ⟨k1, k2, k3⟩ := hop_le (termOf es c.1) c.2 c'.1 c'.2 hh
      have hs' : c'.1 ∈ es.map (·.1) := b.row _ hm _ k1
      have hcur := h.le _ _ h.cur
      by_cases ha : wAgain C (wLows (zipf (termOf es c.1) c.2) L) c' = true
      · rw [if_pos ha]
        exact ⟨_, _, rfl, by simp; omega⟩
      · rw [if_neg ha]
        have ha' : c' ∉ C ∧ ∀ v, wLows (zipf (termOf es c.1) c.2) L c'.1 = some v → c'.2 < v := by
          unfold wAgain at ha
          simp only [Bool.or_eq_true, decide_eq_true_eq, not_or] at ha
          refine ⟨ha.1, fun v hv => ?_⟩
          have := ha.2
          rw [hv] at this
          simp at this
          exact this
        have step : ∀ P' n0', Lb (es.map (·.1)) P' n0' c' (wSet (wLows (zipf (termOf es c.1) c.2) L) c') → c'.2 < 2048 → ∃ r C', wk es f c' (C ++ [c']) (wSet (wLows (zipf (termOf es c.1) c.2) L) c') = some (r, C') ∧ C'.length ≤ 8193 := fun P' n0' h' hb =>
          wk_ends b hl f c' (C ++ [c']) _ P' n0' h' (List.nodup_append.mpr ⟨hn, by simp, fun a hax x hx => by simp at hx; subst hx; exact fun e => ha'.1 (e ▸ hax)⟩) (fun x hx => by
            rcases List.mem_append.mp hx with hx | hx
            · exact hC x hx
            · simp at hx; subst hx; exact ⟨hs', hb⟩) (by simp; omega)
        cases z : zipf (termOf es c.1) c.2 with
        | true =>
          rw [z] at step ha'
          have := k3 z
          refine step [c'.1] c'.2 ⟨fun t ht => by simp at ht; subst ht; exact hs', by simp, fun t => ?_, fun t v hv => ?_, by simp [wSet], by omega⟩ (by omega)
          · simp [wSet, wLows]
          · simp only [wSet, wLows] at hv
            split at hv
            · cases hv; simp
            · simp at hv
        | false =>
          rw [z] at step ha'
          have hz := k2 z
          have e : wLows false L = L := by simp [wLows]
          rw [e] at step ha'
          by_cases hp : c'.1 ∈ P
          · have hne := (h.iff _).mp hp
            obtain ⟨v, hv⟩ := Option.ne_none_iff_exists'.mp hne
            have hlt := ha'.2 v hv
            have hv2 := h.le _ _ hv
            refine step P n0 ⟨h.sub, h.nd, fun t => ?_, fun t w hw => ?_, by simp [wSet], h.n0⟩ (by have := h.n0; omega)
            · by_cases ht : t = c'.1
              · subst ht; simp [wSet, hp]
              · simp [wSet, ht]; exact h.iff t
            · simp only [wSet] at hw
              split at hw
              · cases hw; omega
              · exact h.le _ _ hw
          · have hl2 : (c'.1 :: P).length ≤ 4 := by
              have := nd_le' (a := c'.1 :: P) (b := es.map (·.1)) (List.nodup_cons.mpr ⟨hp, h.nd⟩) (fun t ht => by
                rcases List.mem_cons.mp ht with rfl | ht
                · exact hs'
                · exact h.sub t ht)
              rw [List.length_map] at this
              omega
            rw [List.length_cons] at hl2
            refine step (c'.1 :: P) n0 ⟨fun t ht => ?_, List.nodup_cons.mpr ⟨hp, h.nd⟩, fun t => ?_, fun t w hw => ?_, by simp [wSet], h.n0⟩ (by have := h.n0; omega)
            · rcases List.mem_cons.mp ht with rfl | ht
              · exact hs'
              · exact h.sub t ht
            · by_cases ht : t = c'.1
              · subst ht; simp [wSet]
              · simp [wSet, ht]; exact h.iff t
            · rw [List.length_cons]
              simp only [wSet] at hw
              split at hw
              · cases hw; omega
              · have := h.le _ _ hw; omega
end Z
namespace Z
/-! ### the program's walk -/
def cD (c : Call) : D := .tup [.str c.1, .int c.2]
def kD (c : Call) : List D × D := ([.str c.1, .int c.2], .bl true)
abbrev wFree : List Nat := [102, 114, 101, 101]
def resD (a : Nat) : Option Nat → D
  | some i => .tup [.str wSign, .int i, .ref a]
  | none => .tup [.str wFree, .ref a]
theorem kEqL_c (s t : List Nat) (k m : Nat) : kEqL [.str s, .int (k : Int)] [.str t, .int (m : Int)] = decide ((s, k) = (t, m)) := by
  simp only [kEqL, kEq0, Bool.and_true]
  rw [Bool.eq_iff_iff]
  simp
  intro _
  omega
theorem sq_nx {a b : SS} {ρ ρ1 : Env} {S S1 : Store} (h : a ρ S = some (.nx ρ1 S1)) : sq a b ρ S = b ρ1 S1 := by unfold sq; rw [h]
theorem sq_rt {a b : SS} {ρ : Env} {S S1 : Store} {d : D} (h : a ρ S = some (.rt d S1)) : sq a b ρ S = some (.rt d S1) := by unfold sq; rw [h]
theorem find_c {α : Type} (f : Call → List D × D) (hf : ∀ c, (f c).1 = [.str c.1, .int (c.2 : Nat)]) (c : Call) : ∀ C : List Call, (tget (C.map f) [.str c.1, .int (c.2 : Nat)]).isSome = decide (c ∈ C)
  | [] => by simp [tget]
  | d :: C => by
    have ih := find_c (α := α) f hf c C
    unfold tget at ih ⊢
    rw [List.map_cons, List.find?_cons, hf d, kEqL_c]
    by_cases h : (d.1, d.2) = (c.1, c.2)
    · have : d = c := h
      subst this
      simp
    · have hd : ¬ d = c := h
      have hd' : ¬ c = d := fun e => hd e.symm
      rw [decide_eq_false h]
      simp only [ih]
      rw [Bool.eq_iff_iff]
      simp [hd']
theorem tput_c (f : Call → List D × D) (hf : ∀ c, (f c).1 = [.str c.1, .int (c.2 : Nat)]) (c : Call) (v : D) (C : List Call) (h : c ∉ C) : tput (C.map f) [.str c.1, .int (c.2 : Nat)] v = C.map f ++ [([.str c.1, .int (c.2 : Nat)], v)] := by
  have : ((C.map f).any fun p => kEqL p.1 [.str c.1, .int (c.2 : Nat)]) = false := by
    rw [Bool.eq_false_iff]
    intro q
    obtain ⟨p, hp, hq⟩ := List.any_eq_true.mp q
    obtain ⟨d, hd, rfl⟩ := List.mem_map.mp hp
    rw [hf d, kEqL_c] at hq
    have : (d.1, d.2) = (c.1, c.2) := of_decide_eq_true hq
    have : d = c := this
    exact h (this ▸ hd)
  unfold tput
  rw [this]
  simp
theorem kEq0_str {x : D} {s : List Nat} (h : kEq0 x (.str s) = true) : x = .str s := by
  cases x <;> simp [kEq0] at h
  rw [h]
theorem fget_fput (kvs : List (D × D)) (s t : List Nat) (v : D) : fget (fput kvs (.str s) v) (.str t) = if t = s then some v else fget kvs (.str t) := by
  unfold fput
  by_cases h : (kvs.any fun p => kEq0 p.1 (.str s)) = true
  · rw [if_pos h]
    induction kvs with
    | nil => simp at h
    | cons p kvs ih =>
      unfold fget at ih ⊢
      rw [List.map_cons, List.find?_cons, List.find?_cons]
      by_cases hp : kEq0 p.1 (.str s) = true
      · have e := kEq0_str hp
        rw [if_pos hp]
        simp only [e]
        by_cases hts : t = s
        · subst hts; simp [kEq0]
        · have : kEq0 (.str s) (.str t) = false := by simp [kEq0]; exact fun e => hts e.symm
          rw [this, if_neg hts]
          simp only
          have hmap : ∀ kvs : List (D × D), ((kvs.map fun p => if kEq0 p.1 (.str s) = true then (p.1, v) else p).find? fun p => kEq0 p.1 (.str t)) = kvs.find? fun p => kEq0 p.1 (.str t) := by
            intro kvs
            induction kvs with
            | nil => rfl
            | cons q kvs ih =>
              rw [List.map_cons, List.find?_cons, List.find?_cons]
              by_cases hq : kEq0 q.1 (.str s) = true
              · rw [if_pos hq]
                simp only [kEq0_str hq, this]
                exact ih
              · rw [if_neg hq, ih]
          rw [hmap]
      · rw [if_neg hp]
        rw [List.any_cons, Bool.or_eq_true] at h
        have ih' := ih (h.resolve_left hp)
        by_cases hq : kEq0 p.1 (.str t) = true
        · have e := kEq0_str hq
          have hts : ¬ t = s := fun c => hp (by rw [e, c]; simp [kEq0])
          rw [hq, if_neg hts]
        · simp only [Bool.not_eq_true] at hq
          rw [hq]
          exact ih'
  · rw [if_neg h]
    unfold fget
    rw [List.find?_append]
    by_cases hts : t = s
    · subst hts
      have : (kvs.find? fun p => kEq0 p.1 (.str t)) = none := List.find?_eq_none.mpr fun p hp c => h (List.any_eq_true.mpr ⟨p, hp, c⟩)
      rw [this]
      simp [kEq0]
    · rw [if_neg hts]
      have : kEq0 (.str s) (.str t) = false := by simp [kEq0]; exact fun e => hts e.symm
      simp [List.find?_cons, this]
theorem fput_len (kvs : List (D × D)) (k v : D) : (fput kvs k v).length ≤ kvs.length + 1 := by
  unfold fput
  split <;> simp
def Keep (S S' : Store) : Prop := S.length ≤ S'.length ∧ ∀ i, i < S.length → S'[i]? = S[i]?
theorem Keep.refl {S : Store} : Keep S S := ⟨Nat.le_refl _, fun _ _ => rfl⟩
theorem Keep.trans {S S' S'' : Store} (a : Keep S S') (b : Keep S' S'') : Keep S S'' := ⟨Nat.le_trans a.1 b.1, fun i h => by rw [b.2 i (Nat.lt_of_lt_of_le h a.1), a.2 i h]⟩
theorem Keep.app {S G : Store} : Keep S (S ++ G) := ⟨by simp, fun i h => List.getElem?_append_left h⟩
theorem Keep.set {S S' : Store} {i : Nat} {o : MO} (h : Keep S S') (hi : S.length ≤ i) : Keep S (S'.set i o) := ⟨by rw [List.length_set]; exact h.1, fun j hj => by rw [List.getElem?_set_ne (by omega)]; exact h.2 j hj⟩
theorem Keep.get {S S' : Store} (k : Keep S S') {n : Nat} {o : MO} (h : S[n]? = some o) : S'[n]? = some o := by rw [k.2 n (List.getElem?_eq_some_iff.mp h).1]; exact h
structure WS (S0 S : Store) (a b c : Nat) (C : List Call) (L : Lows) : Prop where
  keep : Keep S0 S
  ga : S[a]? = some (.lst (C.map cD))
  gb : S[b]? = some (.st (C.map kD))
  gc : ∃ kvs, S[c]? = some (.dk kvs) ∧ kvs.length ≤ C.length ∧ ∀ t, fget kvs (.str t) = (L t).map fun v => .int (v : Nat)
  a0 : S0.length ≤ a
  b0 : S0.length ≤ b
  c0 : S0.length ≤ c
  ab : a ≠ b
  ac : a ≠ c
  bc : b ≠ c
theorem lenC : ∀ k : Nat, k ≤ 1000000 → k ≤ LINE := fun k h => by rw [LINE_eq]; omega
theorem walk_step {es : List (List Nat × Tm)} (b : Bk es) {S0 S : Store} {a i c : Nat} {cc : Call} {C : List Call} {L : Lows} {o6 o7 o8 : Option D} (hs : cc.1 ∈ es.map (·.1)) (w : WS S0 S a i c C L) (hC : C.length ≤ 900000) :
    match hop (termOf es cc.1) cc.2 with
    | .inl k => ∃ S', lb_walk_1 R_followed R_term_of [some (bookD es), some (.str cc.1), some (.int (cc.2 : Nat)), some (.ref a), some (.ref i), some (.ref c), o6, o7, o8] S = some (.rt (resD a (some k)) S') ∧ S'[a]? = some (.lst (C.map cD)) ∧ Keep S0 S'
    | .inr c' => if wAgain C (wLows (zipf (termOf es cc.1) cc.2) L) c' = true
      then ∃ S', lb_walk_1 R_followed R_term_of [some (bookD es), some (.str cc.1), some (.int (cc.2 : Nat)), some (.ref a), some (.ref i), some (.ref c), o6, o7, o8] S = some (.rt (resD a none) S') ∧ S'[a]? = some (.lst ((C ++ [c']).map cD)) ∧ Keep S0 S'
      else ∃ c2 p6 p7 p8 S', lb_walk_1 R_followed R_term_of [some (bookD es), some (.str cc.1), some (.int (cc.2 : Nat)), some (.ref a), some (.ref i), some (.ref c), o6, o7, o8] S = some (.nx [some (bookD es), some (.str c'.1), some (.int (c'.2 : Nat)), some (.ref a), some (.ref i), some (.ref c2), p6, p7, p8] S') ∧ WS S0 S' a i c2 (C ++ [c']) (wSet (wLows (zipf (termOf es cc.1) cc.2) L) c') := by
  have t1 := s_term_of b hs S
  have t2 := s_followed2 (termOf es cc.1) cc.2 (S ++ [.dk (es.map kvE)])
  have k1 : Keep S0 (S ++ [.dk (es.map kvE)]) := w.keep.trans .app
  have ga1 := get_app w.ga [.dk (es.map kvE)]
  have gb1 := get_app w.gb [.dk (es.map kvE)]
  obtain ⟨kvs, gc, hkl, hkv⟩ := w.gc
  have gc1 := get_app gc [.dk (es.map kvE)]
  cases hh : hop (termOf es cc.1) cc.2 with
  | inl k =>
    dsimp only
    rw [hh] at t2
    refine ⟨S ++ [.dk (es.map kvE)], ?_, ga1, k1⟩
    simp [lb_walk_1, t1, t2, hopD, at0, resD]
    simp [atI, ixN]
  | inr c' =>
    dsimp only
    rw [hh] at t2
    generalize hT1 : S ++ [MO.dk (es.map kvE)] = T1 at *
    -- the lows, perhaps anew
    obtain ⟨c2, kv2, T2, hz, k2, ga2, gb2, gc2, hkl2, hkv2, c20, ac2, bc2⟩ : ∃ (c2 : Nat) (kv2 : List (D × D)) (T2 : Store), (∀ ρ', sIf (tVal (eVar 7)) (sAsg (eDctF) (gName 5)) (sNx) [some (bookD es), some (.str c'.1), some (.int (c'.2 : Nat)), some (.ref a), some (.ref i), some (.ref c), some (hopD (.inr c')), some (.bl (zipf (termOf es cc.1) cc.2)), ρ'] T1 = some (.nx [some (bookD es), some (.str c'.1), some (.int (c'.2 : Nat)), some (.ref a), some (.ref i), some (.ref c2), some (hopD (.inr c')), some (.bl (zipf (termOf es cc.1) cc.2)), ρ'] T2)) ∧ Keep S0 T2 ∧ T2[a]? = some (.lst (C.map cD)) ∧ T2[i]? = some (.st (C.map kD)) ∧ T2[c2]? = some (.dk kv2) ∧ kv2.length ≤ C.length ∧ (∀ t, fget kv2 (.str t) = (wLows (zipf (termOf es cc.1) cc.2) L t).map fun v => .int (v : Nat)) ∧ S0.length ≤ c2 ∧ a ≠ c2 ∧ i ≠ c2 := by
      have ha := (List.getElem?_eq_some_iff.mp ga1).1
      have hi := (List.getElem?_eq_some_iff.mp gb1).1
      cases z : zipf (termOf es cc.1) cc.2 with
      | false => exact ⟨c, kvs, T1, fun ρ' => by simp, k1, ga1, gb1, gc1, hkl, fun t => by rw [hkv]; rfl, w.c0, w.ac, w.bc⟩
      | true => exact ⟨T1.length, [], T1 ++ [.dk []], fun ρ' => by simp, k1.trans .app, get_app ga1 _, get_app gb1 _, by simp, Nat.zero_le _, fun t => by simp [wLows, fget], k1.1, by omega, by omega⟩
    generalize hL1 : wLows (zipf (termOf es cc.1) cc.2) L = L1 at *
    generalize hzz : zipf (termOf es cc.1) cc.2 = z at *
    let E0 : List (Option D) := [some (bookD es), some (.str c'.1), some (.int (c'.2 : Nat)), some (.ref a), some (.ref i), some (.ref c2), some (hopD (.inr c')), some (.bl z)]
    have hfind : (tget (C.map kD) [.str c'.1, .int (c'.2 : Nat)]).isSome = decide (c' ∈ C) := find_c (α := Unit) kD (fun _ => rfl) c' C
    have h5 : sAsg (eOr (e2 kIn (eTup [eVar 1, eVar 2]) (eVar 4)) (eAnd (e2 fIn (eVar 1) (eVar 5)) (e2 leD (e2 fGet (eVar 5) (eVar 1)) (eVar 2)))) (gName 8) (E0 ++ [o8]) T2 = some (.nx (E0 ++ [some (.bl (wAgain C L1 c'))]) T2) := by
      have hk := hkv2 c'.1
      unfold wAgain
      by_cases hm : c' ∈ C
      · simp [E0, gb2, hfind, hm, k0]
      · cases hL : L1 c'.1 with
        | none =>
          rw [hL] at hk
          simp at hk
          simp [E0, gb2, gc2, hfind, hm, hk, k0]
        | some v =>
          rw [hL] at hk
          simp at hk
          simp [E0, gb2, gc2, hfind, hm, hk, k0]
    have ha2 := (List.getElem?_eq_some_iff.mp ga2).1
    have hi2 := (List.getElem?_eq_some_iff.mp gb2).1
    have hc2 := (List.getElem?_eq_some_iff.mp gc2).1
    have hCL : C.length < LINE := by rw [LINE_eq]; omega
    have h6 : ∀ r, sExp (eMt .list appendF (eVar 3) [eTup [eVar 1, eVar 2]]) (E0 ++ [r]) T2 = some (.nx (E0 ++ [r]) (T2.set a (.lst ((C ++ [c']).map cD)))) := fun r => by
      simp [E0, ga2, hCL, cD]
    let T3 : Store := T2.set a (.lst ((C ++ [c']).map cD))
    have gb3 : T3[i]? = some (.st (C.map kD)) := by simp only [T3]; rw [List.getElem?_set_ne w.ab]; exact gb2
    have gc3 : T3[c2]? = some (.dk kv2) := by simp only [T3]; rw [List.getElem?_set_ne ac2]; exact gc2
    have ga3 : T3[a]? = some (.lst ((C ++ [c']).map cD)) := by simp only [T3]; rw [List.getElem?_set_self ha2]
    have hCm : C.length < 1000000 := by omega
    have h7 : ∀ r, sKPut (eVar 4) (eTup [eVar 1, eVar 2]) (eC (.bl true)) (E0 ++ [r]) T3 = some (.nx (E0 ++ [r]) (T3.set i (.st (tput (C.map kD) [.str c'.1, .int (c'.2 : Nat)] (.bl true))))) := fun r => by
      simp [E0, gb3, hCm, k0]
    let T4 : Store := T3.set i (.st (tput (C.map kD) [.str c'.1, .int (c'.2 : Nat)] (.bl true)))
    have hi3 : i < T3.length := by simp only [T3, List.length_set]; exact hi2
    have ga4 : T4[a]? = some (.lst ((C ++ [c']).map cD)) := by simp only [T4]; rw [List.getElem?_set_ne (Ne.symm w.ab)]; exact ga3
    have gc4 : T4[c2]? = some (.dk kv2) := by simp only [T4]; rw [List.getElem?_set_ne bc2]; exact gc3
    have gb4 : T4[i]? = some (.st (tput (C.map kD) [.str c'.1, .int (c'.2 : Nat)] (.bl true))) := by simp only [T4]; rw [List.getElem?_set_self hi3]
    have k4 : Keep S0 T4 := (k2.set w.a0).set w.b0
    have h1 : sAsg (eCall R_followed [eCall R_term_of [eVar 0, eVar 1], eVar 2]) (gTup [gName 6, gName 7]) [some (bookD es), some (.str cc.1), some (.int (cc.2 : Nat)), some (.ref a), some (.ref i), some (.ref c), o6, o7, o8] S = some (.nx [some (bookD es), some (.str cc.1), some (.int (cc.2 : Nat)), some (.ref a), some (.ref i), some (.ref c), some (hopD (.inr c')), some (.bl z), o8] T1) := by
      simp [t1, hT1, t2]
    have hpre : ∀ {q : Option Out}, sq (sAsg (eOr (e2 kIn (eTup [eVar 1, eVar 2]) (eVar 4)) (eAnd (e2 fIn (eVar 1) (eVar 5)) (e2 leD (e2 fGet (eVar 5) (eVar 1)) (eVar 2)))) (gName 8)) (sq (sExp (eMt .list appendF (eVar 3) [eTup [eVar 1, eVar 2]])) (sq (sKPut (eVar 4) (eTup [eVar 1, eVar 2]) (eC (.bl true))) (sq (sIf (tVal (eVar 8)) (sRet (eTup [eC (.str [102, 114, 101, 101]), eVar 3])) (sNx)) (sFPut (eVar 5) (eVar 1) (eVar 2))))) (E0 ++ [o8]) T2 = q → lb_walk_1 R_followed R_term_of [some (bookD es), some (.str cc.1), some (.int (cc.2 : Nat)), some (.ref a), some (.ref i), some (.ref c), o6, o7, o8] S = q := by
      intro q hq
      unfold lb_walk_1
      rw [sq_nx h1]
      rw [sq_nx (ρ1 := [some (bookD es), some (.str cc.1), some (.int (cc.2 : Nat)), some (.ref a), some (.ref i), some (.ref c), some (hopD (.inr c')), some (.bl z), o8]) (S1 := T1) (by simp [hopD, at0])]
      rw [sq_nx (ρ1 := [some (bookD es), some (.str c'.1), some (.int (c'.2 : Nat)), some (.ref a), some (.ref i), some (.ref c), some (hopD (.inr c')), some (.bl z), o8]) (S1 := T1) (by simp [hopD, slD, cut, sIx])]
      rw [sq_nx (hz o8)]
      exact hq
    by_cases hag : wAgain C L1 c' = true
    · rw [if_pos hag]
      refine ⟨T4, hpre ?_, ga4, k4⟩
      rw [sq_nx h5, hag, sq_nx (h6 _), sq_nx (h7 _)]
      exact sq_rt (by simp [E0, resD]; rfl)
    · rw [if_neg hag]
      have hag' : wAgain C L1 c' = false := by simpa using hag
      have hnew : c' ∉ C := fun hm => hag (by unfold wAgain; simp [hm])
      have hc4 : c2 < T4.length := (List.getElem?_eq_some_iff.mp gc4).1
      have hkm : kv2.length < 1000000 := by omega
      refine ⟨c2, some (hopD (.inr c')), some (.bl z), some (.bl false), T4.set c2 (.dk (fput kv2 (.str c'.1) (.int (c'.2 : Nat)))), hpre ?_, ?_⟩
      · rw [sq_nx h5, hag', sq_nx (h6 _), sq_nx (h7 _), sq_nx (ρ1 := E0 ++ [some (.bl false)]) (S1 := T4) (by simp [E0]; rfl)]
        simp [E0, gc4, hkm, k0]
      · refine ⟨k4.set c20, ?_, ?_, ⟨_, List.getElem?_set_self hc4, ?_, fun t => ?_⟩, w.a0, w.b0, c20, w.ab, ac2, bc2⟩
        · rw [List.getElem?_set_ne (Ne.symm ac2)]; exact ga4
        · rw [List.getElem?_set_ne (Ne.symm bc2), gb4, tput_c kD (fun _ => rfl) c' _ C hnew]
          simp [kD]
        · have := fput_len kv2 (.str c'.1) (.int (c'.2 : Nat))
          simp
          omega
        · rw [fget_fput, hkv2]
          unfold wSet
          split <;> rfl
end Z
namespace Z
/-! ### walks by the equations told so far -/
abbrev Eqs := List (List Nat × Tm)
def look : Eqs → List Nat → Option Tm
  | [], _ => none
  | e :: r, s => if e.1 = s then some e.2 else look r s
theorem look_mem : ∀ {es : Eqs} {s : List Nat} {t : Tm}, look es s = some t → (s, t) ∈ es
  | [], _, _, h => by cases h
  | e :: r, s, t, h => by
    rw [look] at h
    by_cases c : e.1 = s
    · rw [if_pos c] at h
      cases h
      rw [← c]
      exact List.mem_cons_self
    · rw [if_neg c] at h
      exact List.mem_cons_of_mem _ (look_mem h)
theorem look_some : ∀ {es : Eqs} {s : List Nat}, s ∈ es.map (·.1) → ∃ t, look es s = some t
  | [], _, h => by cases h
  | e :: r, s, h => by
    rw [look]
    by_cases c : e.1 = s
    · rw [if_pos c]; exact ⟨_, rfl⟩
    · rw [if_neg c]
      rw [List.map_cons] at h
      rcases List.mem_cons.mp h with h | h
      · exact absurd h.symm c
      · exact look_some h
theorem look_none {es : Eqs} {s : List Nat} : look es s = none ↔ s ∉ es.map (·.1) := by
  constructor
  · intro h q
    obtain ⟨t, ht⟩ := look_some q
    rw [h] at ht
    cases ht
  · intro h
    cases e : look es s with
    | none => rfl
    | some t => exact absurd (List.mem_map.mpr ⟨_, look_mem e, rfl⟩) h
theorem look_isSome {es : Eqs} {s : List Nat} : (look es s).isSome = decide (s ∈ es.map (·.1)) := by
  cases e : look es s with
  | none => simp only [Option.isSome_none]; exact (decide_eq_false (look_none.mp e)).symm
  | some t => simp only [Option.isSome_some]; exact (decide_eq_true (List.mem_map.mpr ⟨_, look_mem e, rfl⟩)).symm
theorem look_app : ∀ {es fs : Eqs} {s : List Nat}, look (es ++ fs) s = (look es s).or (look fs s)
  | [], fs, s => by simp [look]
  | e :: r, fs, s => by
    rw [List.cons_append, look, look]
    by_cases c : e.1 = s
    · rw [if_pos c, if_pos c]; rfl
    · rw [if_neg c, if_neg c]; exact look_app
inductive Wr where
  | sign (i : Nat) | waits (s : List Nat)
def nx (es : Eqs) (c : Call) : Wr ⊕ Call := match look es c.1 with
  | none => .inl (.waits c.1)
  | some t => match hop t c.2 with
    | .inl i => .inl (.sign i)
    | .inr d => .inr d
def EndIn (es : Eqs) : Nat → Call → Wr → Prop
  | 0, c, r => nx es c = .inl r
  | k + 1, c, r => ∃ d, nx es c = .inr d ∧ EndIn es k d r
def Rch (es : Eqs) : Nat → Call → Call → Prop
  | 0, c, d => c = d
  | k + 1, c, d => ∃ e, nx es c = .inr e ∧ Rch es k e d
/-- without a zip -/
def Zr (es : Eqs) : Nat → Call → Call → Prop
  | 0, c, d => c = d
  | k + 1, c, d => ∃ t e, look es c.1 = some t ∧ zipf t c.2 = false ∧ hop t c.2 = .inr e ∧ Zr es k e d
section
variable {es : Eqs}
theorem EndIn.uniq : ∀ {k m : Nat} {c : Call} {r q : Wr}, EndIn es k c r → EndIn es m c q → k = m ∧ r = q
  | 0, 0, c, r, q, h, g => by
    rw [EndIn] at h g
    rw [h] at g
    cases g
    exact ⟨rfl, rfl⟩
  | 0, m + 1, c, r, q, h, g => by
    have h : nx es c = .inl r := h
    obtain ⟨d, g, _⟩ := g
    rw [h] at g
    cases g
  | k + 1, 0, c, r, q, h, g => by
    have g : nx es c = .inl q := g
    obtain ⟨d, h, _⟩ := h
    rw [h] at g
    cases g
  | k + 1, m + 1, c, r, q, h, g => by
    rw [EndIn] at h g
    obtain ⟨d, h1, h2⟩ := h
    obtain ⟨e, g1, g2⟩ := g
    rw [h1] at g1
    cases g1
    obtain ⟨rfl, rfl⟩ := EndIn.uniq h2 g2
    exact ⟨rfl, rfl⟩
theorem Rch.end : ∀ {k m : Nat} {c d : Call} {r : Wr}, Rch es k c d → EndIn es m c r → ∃ j, m = k + j ∧ EndIn es j d r
  | 0, m, c, d, r, h, g => by
    rw [Rch] at h
    subst h
    exact ⟨m, by omega, g⟩
  | k + 1, 0, c, d, r, h, g => by
    rw [Rch] at h
    rw [EndIn] at g
    obtain ⟨e, h, _⟩ := h
    rw [h] at g
    cases g
  | k + 1, m + 1, c, d, r, h, g => by
    rw [Rch] at h
    rw [EndIn] at g
    obtain ⟨e, h1, h2⟩ := h
    obtain ⟨f, g1, g2⟩ := g
    rw [h1] at g1
    cases g1
    obtain ⟨j, hj, he⟩ := h2.end g2
    exact ⟨j, by omega, he⟩
theorem Rch.snoc : ∀ {k : Nat} {c d e : Call}, Rch es k c d → nx es d = .inr e → Rch es (k + 1) c e
  | 0, c, d, e, h, g => by
    rw [Rch] at h
    subst h
    exact ⟨e, g, rfl⟩
  | k + 1, c, d, e, h, g => by
    rw [Rch] at h
    obtain ⟨f, h1, h2⟩ := h
    exact ⟨f, h1, h2.snoc g⟩
theorem nx_of {c d : Call} {t : Tm} (h : look es c.1 = some t) (g : hop t c.2 = .inr d) : nx es c = .inr d := by
  unfold nx
  rw [h]
  dsimp only
  rw [g]
theorem Zr.snoc : ∀ {k : Nat} {c d e : Call} {t : Tm}, Zr es k c d → look es d.1 = some t → zipf t d.2 = false → hop t d.2 = .inr e → Zr es (k + 1) c e
  | 0, c, d, e, t, h, a, b, g => by
    rw [Zr] at h
    subst h
    exact ⟨t, e, a, b, g, rfl⟩
  | k + 1, c, d, e, t, h, a, b, g => by
    rw [Zr] at h
    obtain ⟨t', f, h1, h2, h3, h4⟩ := h
    exact ⟨t', f, h1, h2, h3, h4.snoc a b g⟩
theorem Zr.rch : ∀ {k : Nat} {c d : Call}, Zr es k c d → Rch es k c d
  | 0, c, d, h => h
  | k + 1, c, d, h => by
    rw [Zr] at h
    obtain ⟨t', f, h1, h2, h3, h4⟩ := h
    exact ⟨f, nx_of h1 h3, h4.rch⟩
theorem hop_shift : ∀ (t : Tm) (n : Nat) (s : List Nat) (m e : Nat), zipf t n = false → hop t n = .inr (s, m) → hop t (n + e) = .inr (s, m + e) ∧ zipf t (n + e) = false
  | .row s', n, s, m, e, h, g => by
    simp [hop] at g
    obtain ⟨rfl, rfl⟩ := g
    simp [hop, zipf]
  | .sign i t, 0, s, m, e, h, g => by simp [hop] at g
  | .sign i t, n + 1, s, m, e, h, g => by
    rw [zipf] at h
    rw [hop] at g
    rw [show n + 1 + e = (n + e) + 1 by omega, hop, zipf]
    exact hop_shift t n s m e h g
  | .beh t, n, s, m, e, h, g => by
    rw [zipf] at h
    rw [hop] at g
    rw [hop, zipf, show n + e + 1 = (n + 1) + e by omega]
    exact hop_shift t (n + 1) s m e h g
  | .zip a b, n, s, m, e, h, g => by simp [zipf] at h
theorem Zr.shift : ∀ {k : Nat} {c d : Call}, Zr es k c d → ∀ e, Zr es k (c.1, c.2 + e) (d.1, d.2 + e)
  | 0, c, d, h, e => by rw [Zr] at h; subst h; rfl
  | k + 1, c, d, h, e => by
    rw [Zr] at h
    obtain ⟨t, f, h1, h2, h3, h4⟩ := h
    obtain ⟨g1, g2⟩ := hop_shift t c.2 f.1 f.2 e h2 h3
    exact ⟨t, (f.1, f.2 + e), h1, g2, g1, h4.shift e⟩
theorem no_cycle {k m d : Nat} {s : List Nat} (h : Zr es (k + 1) (s, m) (s, m + d)) : ∀ (j e : Nat) (r : Wr), ¬ EndIn es j (s, m + e) r := by
  intro j
  induction j using Nat.strongRecOn with
  | ind j ih =>
    intro e r g
    have h1 := (h.shift e).rch
    obtain ⟨i, hi, hg⟩ := h1.end g
    refine ih i (by omega) (d + e) r ?_
    have e1 : m + d + e = m + (d + e) := by omega
    rw [← e1]
    exact hg
theorem no_rep {k : Nat} {c : Call} (h : Rch es (k + 1) c c) {j : Nat} {r : Wr} : ¬ EndIn es j c r := fun g => by
  obtain ⟨i, hi, hg⟩ := h.end g
  obtain ⟨e, _⟩ := EndIn.uniq g hg
  omega
open Classical in
noncomputable def wres (es : Eqs) (c : Call) : Option Wr := if h : ∃ r k, EndIn es k c r then some h.choose else none
theorem wres_some {k : Nat} {c : Call} {r : Wr} (h : EndIn es k c r) : wres es c = some r := by
  have hx : ∃ r k, EndIn es k c r := ⟨r, k, h⟩
  unfold wres
  rw [dif_pos hx]
  obtain ⟨j, hj⟩ := hx.choose_spec
  rw [(EndIn.uniq hj h).2]
theorem wres_none {c : Call} (h : ∀ k r, ¬ EndIn es k c r) : wres es c = none := by
  unfold wres
  rw [dif_neg fun ⟨r, k, g⟩ => h k r g]
theorem wres_inl {c : Call} {r : Wr} (h : nx es c = .inl r) : wres es c = some r := wres_some (k := 0) h
theorem wres_inr {c d : Call} (h : nx es c = .inr d) : wres es c = wres es d := by
  by_cases g : ∃ r k, EndIn es k d r
  · obtain ⟨r, k, g⟩ := g
    rw [wres_some g]
    exact wres_some (k := k + 1) ⟨d, h, g⟩
  · rw [wres_none (c := d) fun k r q => g ⟨r, k, q⟩]
    refine wres_none fun k r q => ?_
    cases k with
    | zero => rw [EndIn, h] at q; cases q
    | succ k =>
      obtain ⟨e, q1, q2⟩ := q
      rw [h] at q1
      cases q1
      exact g ⟨r, k, q2⟩
/-! ### the walk with lows -/
/-- told names unlike, their terms not too deep, few -/
structure Tb (es : Eqs) : Prop where
  nd : (es.map (·.1)).Nodup
  dep : ∀ e ∈ es, e.2.depth ≤ 12
  few : es.length ≤ 8
structure Iv (es : Eqs) (n0 : Nat) (c : Call) (C : List Call) (L : Lows) (P : List (List Nat)) : Prop where
  rch : ∀ d ∈ C, ∃ k, Rch es (k + 1) d c
  low : ∀ s v, L s = some v → ∃ k, Zr es (k + 1) (s, v) c
  cnd : C.Nodup
  cb : ∀ d ∈ C, d.1 ∈ es.map (·.1) ∧ d.2 < n0 + 97
  psub : ∀ t ∈ P, t ∈ es.map (·.1)
  pnd : P.Nodup
  iff : ∀ t, t ∈ P ↔ L t ≠ none
  le : ∀ t v, L t = some v → v + 12 ≤ n0 + 12 * P.length
  cur : c.2 ≤ n0 + 12 * P.length
theorem Iv.p8 {n0 : Nat} {c : Call} {C : List Call} {L : Lows} {P : List (List Nat)} (b : Tb es) (h : Iv es n0 c C L P) : P.length ≤ 8 := by
  have := nd_le' h.pnd h.psub
  rw [List.length_map] at this
  have := b.few
  omega
theorem Iv.beg {n0 : Nat} {c : Call} (h : c.2 ≤ n0) : Iv es n0 c [] (fun _ => none) [] :=
  ⟨fun d hd => (nomatch hd), fun s v h => (nomatch h), List.nodup_nil, fun d hd => (nomatch hd), fun t ht => (nomatch ht), List.nodup_nil, fun t => by simp, fun t v h => (nomatch h), by simpa using h⟩
theorem Iv.again {n0 : Nat} {c : Call} {C : List Call} {L : Lows} {P : List (List Nat)} (h : Iv es n0 c C L P) (ha : wAgain C L c = true) : ∀ k r, ¬ EndIn es k c r := by
  unfold wAgain at ha
  rw [Bool.or_eq_true] at ha
  rcases ha with ha | ha
  · obtain ⟨k, hk⟩ := h.rch c (of_decide_eq_true ha)
    exact fun j r => no_rep hk
  · cases e : L c.1 with
    | none => rw [e] at ha; cases ha
    | some v =>
      rw [e] at ha
      have hv : v ≤ c.2 := of_decide_eq_true ha
      obtain ⟨k, hk⟩ := h.low _ _ e
      have e2 : c = (c.1, v + (c.2 - v)) := by rw [Nat.add_sub_cancel' hv]
      rw [e2] at hk
      intro j r q
      rw [e2] at q
      exact no_cycle hk j _ r q
theorem Iv.cin {n0 : Nat} {c : Call} {C : List Call} {L : Lows} {P : List (List Nat)} (h : Iv es n0 c C L P) (ha : wAgain C L c = false) : c ∉ C ∧ ∀ v, L c.1 = some v → c.2 < v := by
  unfold wAgain at ha
  rw [Bool.or_eq_false_iff] at ha
  refine ⟨of_decide_eq_false ha.1, fun v hv => ?_⟩
  have := ha.2
  rw [hv] at this
  simp at this
  exact this
theorem Iv.step (b : Tb es) {n0 : Nat} (hn0 : 120 ≤ n0) {c : Call} {C : List Call} {L : Lows} {P : List (List Nat)} (h : Iv es n0 c C L P) {t : Tm} (ht : look es c.1 = some t) (ha : wAgain C L c = false) {d : Call} (hd : hop t c.2 = .inr d) :
    ∃ P', Iv es n0 d (C ++ [c]) (wLows (zipf t c.2) (wSet L c)) P' := by
  obtain ⟨hc, hv⟩ := h.cin ha
  have hm := look_mem ht
  have hc1 : c.1 ∈ es.map (·.1) := List.mem_map.mpr ⟨_, hm, rfl⟩
  have hdep : t.depth ≤ 12 := b.dep _ hm
  obtain ⟨k1, k2, k3⟩ := hop_le t c.2 d.1 d.2 hd
  have hp8 := h.p8 b
  have hcur := h.cur
  have hnx := nx_of ht hd
  have r1 : ∀ x ∈ C ++ [c], ∃ k, Rch es (k + 1) x d := fun x hx => by
    rcases List.mem_append.mp hx with hx | hx
    · obtain ⟨k, hk⟩ := h.rch x hx
      exact ⟨k + 1, hk.snoc hnx⟩
    · simp at hx
      subst hx
      exact ⟨0, d, hnx, rfl⟩
  have r2 : (C ++ [c]).Nodup := List.nodup_append.mpr ⟨h.cnd, by simp, fun a hax x hx => by simp at hx; subst hx; exact fun e => hc (e ▸ hax)⟩
  have r3 : ∀ x ∈ C ++ [c], x.1 ∈ es.map (·.1) ∧ x.2 < n0 + 97 := fun x hx => by
    rcases List.mem_append.mp hx with hx | hx
    · exact h.cb x hx
    · simp at hx
      subst hx
      exact ⟨hc1, by omega⟩
  cases hz : zipf t c.2 with
  | true =>
    have := k3 hz
    refine ⟨[], r1, fun s v q => (by simp [wLows] at q), r2, r3, fun t ht => (nomatch ht), List.nodup_nil, fun t => by simp [wLows], fun t v q => (by simp [wLows] at q), ?_⟩
    simp
    omega
  | false =>
    have hk := k2 hz
    have e : wLows false (wSet L c) = wSet L c := by simp [wLows]
    rw [e]
    have low : ∀ s v, wSet L c s = some v → ∃ k, Zr es (k + 1) (s, v) d := fun s v q => by
      unfold wSet at q
      by_cases hs : s = c.1
      · rw [if_pos hs] at q
        cases q
        subst hs
        exact ⟨0, t, d, ht, hz, hd, rfl⟩
      · rw [if_neg hs] at q
        obtain ⟨k, hk⟩ := h.low s v q
        exact ⟨k + 1, hk.snoc ht hz hd⟩
    by_cases hp : c.1 ∈ P
    · obtain ⟨v, hv1⟩ := Option.ne_none_iff_exists'.mp ((h.iff _).mp hp)
      have h1 := hv v hv1
      have h2 := h.le _ _ hv1
      refine ⟨P, r1, low, r2, r3, h.psub, h.pnd, fun s => ?_, fun s w q => ?_, by omega⟩
      · by_cases hs : s = c.1
        · subst hs; simp [wSet, hp]
        · simp [wSet, hs]; exact h.iff s
      · unfold wSet at q
        split at q
        · cases q; omega
        · exact h.le _ _ q
    · refine ⟨c.1 :: P, r1, low, r2, r3, fun s hs => ?_, List.nodup_cons.mpr ⟨hp, h.pnd⟩, fun s => ?_, fun s w q => ?_, ?_⟩
      · rcases List.mem_cons.mp hs with rfl | hs
        · exact hc1
        · exact h.psub s hs
      · by_cases hs : s = c.1
        · subst hs; simp [wSet]
        · simp [wSet, hs]; exact h.iff s
      · rw [List.length_cons]
        unfold wSet at q
        split at q
        · cases q; omega
        · have := h.le _ _ q; omega
      · rw [List.length_cons]; omega
/-- an end that comes is come to within bounds -/
theorem end_within (b : Tb es) {n0 : Nat} (hn0 : 120 ≤ n0) : ∀ (j : Nat) {k : Nat} {c d : Call} {C : List Call} {L : Lows} {P : List (List Nat)} {r : Wr}, Iv es n0 c C L P → EndIn es k c r → Rch es j c d → d.2 < n0 + 97
  | 0, k, c, d, C, L, P, r, h, g, q => by
    rw [Rch] at q
    subst q
    have := h.cur
    have := h.p8 b
    omega
  | j + 1, k, c, d, C, L, P, r, h, g, q => by
    obtain ⟨e, q1, q2⟩ := q
    cases ha : wAgain C L c with
    | true => exact absurd g (h.again ha k r)
    | false =>
      cases hl : look es c.1 with
      | none => unfold nx at q1; rw [hl] at q1; cases q1
      | some t =>
        cases hh : hop t c.2 with
        | inl i => unfold nx at q1; rw [hl] at q1; dsimp only at q1; rw [hh] at q1; cases q1
        | inr e' =>
          rw [nx_of hl hh] at q1
          cases q1
          obtain ⟨P', h'⟩ := h.step b hn0 hl ha hh
          cases k with
          | zero => rw [EndIn, nx_of hl hh] at g; cases g
          | succ k =>
            obtain ⟨f, g1, g2⟩ := g
            rw [nx_of hl hh] at g1
            cases g1
            exact end_within b hn0 j h' g2 q2
theorem Iv.clen {n0 : Nat} {c : Call} {C : List Call} {L : Lows} {P : List (List Nat)} (b : Tb es) (h : Iv es n0 c C L P) : C.length ≤ es.length * (n0 + 97) := by
  have := few_calls (es.map (·.1)) (n0 + 97) C h.cnd h.cb
  rwa [List.length_map] at this
end
end Z
namespace Z
/-! ### a coming book's walk -/
theorem fget_look : ∀ (es : Eqs) (s : List Nat), fget (es.map kvE) (.str s) = (look es s).map Tm.d
  | [], s => rfl
  | e :: r, s => by
    have ih := fget_look r s
    unfold fget at ih ⊢
    rw [List.map_cons, List.find?_cons, look]
    by_cases c : e.1 = s
    · have : kEq0 (kvE e).1 (.str s) = true := by simp [kvE, kEq0, c]
      rw [this, if_pos c]
      rfl
    · have : kEq0 (kvE e).1 (.str s) = false := by simp [kvE, kEq0, c]
      rw [this, if_neg c]
      exact ih
abbrev wWaits : List Nat := [119, 97, 105, 116, 115]
def wrD : Option Wr → D
  | none => .tup [.str wFree]
  | some (.sign i) => .tup [.str wSign, .int (i : Nat)]
  | some (.waits s) => .tup [.str wWaits, .str s]
/-- a coming book -/
structure CB (S : Store) (r d : Nat) (es : Eqs) : Prop where
  gr : S[r]? = some (.ins "Coming" [("terms", .ref d)])
  gd : S[d]? = some (.dk (es.map kvE))
theorem CB.keep {S S' : Store} {r d : Nat} {es : Eqs} (h : CB S r d es) (k : Keep S S') : CB S' r d es := ⟨k.get h.gr, k.get h.gd⟩
theorem CB.ne {S : Store} {r d : Nat} {es : Eqs} (h : CB S r d es) : r ≠ d := fun e => by
  have := h.gr
  rw [e, h.gd] at this
  cases this
theorem CB.lt {S : Store} {r d : Nat} {es : Eqs} (h : CB S r d es) : r < S.length ∧ d < S.length := ⟨(List.getElem?_eq_some_iff.mp h.gr).1, (List.getElem?_eq_some_iff.mp h.gd).1⟩
structure WS2 (S0 S : Store) (i l : Nat) (C : List Call) (L : Lows) : Prop where
  keep : Keep S0 S
  gb : S[i]? = some (.st (C.map kD))
  gc : ∃ kvs, S[l]? = some (.dk kvs) ∧ kvs.length ≤ C.length ∧ ∀ t, fget kvs (.str t) = (L t).map fun v => .int (v : Nat)
  i0 : S0.length ≤ i
  l0 : S0.length ≤ l
  il : i ≠ l
theorem sign_step {es : Eqs} {S0 S : Store} {r d i l : Nat} {c : Call} {C : List Call} {L : Lows} {o5 o6 : Option D} {t : Tm} (cb : CB S0 r d es) (w : WS2 S0 S i l C L) (hC : C.length ≤ 900000) (ht : look es c.1 = some t) :
    (wAgain C L c = true ∧ lb_Coming_sign_1 R_followed [some (.ref r), some (.str c.1), some (.int (c.2 : Nat)), some (.ref i), some (.ref l), o5, o6] S = some (.rt (wrD none) S)) ∨
    (wAgain C L c = false ∧ match hop t c.2 with
      | .inl k => ∃ S', lb_Coming_sign_1 R_followed [some (.ref r), some (.str c.1), some (.int (c.2 : Nat)), some (.ref i), some (.ref l), o5, o6] S = some (.rt (wrD (some (.sign k))) S') ∧ Keep S0 S'
      | .inr e => ∃ l2 p5 p6 S', lb_Coming_sign_1 R_followed [some (.ref r), some (.str c.1), some (.int (c.2 : Nat)), some (.ref i), some (.ref l), o5, o6] S = some (.nx [some (.ref r), some (.str e.1), some (.int (e.2 : Nat)), some (.ref i), some (.ref l2), p5, p6] S') ∧ WS2 S0 S' i l2 (C ++ [c]) (wLows (zipf t c.2) (wSet L c))) := by
  obtain ⟨kvs, gc, hkl, hkv⟩ := w.gc
  have gb := w.gb
  have hfind : (tget (C.map kD) [.str c.1, .int (c.2 : Nat)]).isSome = decide (c ∈ C) := find_c (α := Unit) kD (fun _ => rfl) c C
  have hk := hkv c.1
  have hi := (List.getElem?_eq_some_iff.mp gb).1
  have hl := (List.getElem?_eq_some_iff.mp gc).1
  cases ha : wAgain C L c with
  | true =>
    refine .inl ⟨rfl, ?_⟩
    unfold lb_Coming_sign_1
    refine sq_rt ?_
    unfold wAgain at ha
    by_cases hm : c ∈ C
    · simp [gb, hfind, hm, k0, wrD]
    · cases hL : L c.1 with
      | none => rw [hL] at ha; simp [hm] at ha
      | some v =>
        rw [hL] at ha hk
        simp [hm] at ha
        simp at hk
        simp [gb, gc, hfind, hm, k0, hk, ha, wrD]
  | false =>
    refine .inr ⟨rfl, ?_⟩
    have hm : c ∉ C := fun q => by unfold wAgain at ha; simp [q] at ha
    have hCm : C.length < 1000000 := by omega
    have hkm : kvs.length < 1000000 := by omega
    have st1 : sIf (tOr (tVal (e2 kIn (eTup [eVar 1, eVar 2]) (eVar 3))) (tVal (e2 leD (eFGet2 (eVar 4) (eVar 1) (e2 addD (eVar 2) (eC (.int 1)))) (eVar 2)))) (sRet (eTup [eC (.str [102, 114, 101, 101])])) (sNx) [some (.ref r), some (.str c.1), some (.int (c.2 : Nat)), some (.ref i), some (.ref l), o5, o6] S = some (.nx [some (.ref r), some (.str c.1), some (.int (c.2 : Nat)), some (.ref i), some (.ref l), o5, o6] S) := by
      cases hL : L c.1 with
      | none =>
        rw [hL] at hk
        simp at hk
        have hlt : ¬ ((c.2 : Int) + 1 ≤ c.2) := by omega
        have hlt' : (c.2 : Int) < (c.2 : Int) + 1 := by omega
        simp [gb, gc, hfind, hm, k0, hk, hlt, hlt']
      | some v =>
        have hv : ¬ v ≤ c.2 := fun q => by unfold wAgain at ha; rw [hL] at ha; simp [q] at ha
        rw [hL] at hk
        simp at hk
        have hv' : c.2 < v := by omega
        simp [gb, gc, hfind, hm, k0, hk, hv, hv']
    obtain ⟨S1, hS1⟩ : ∃ S1, S1 = S.set i (.st (tput (C.map kD) [.str c.1, .int (c.2 : Nat)] (.bl true))) := ⟨_, rfl⟩
    have st2 : sKPut (eVar 3) (eTup [eVar 1, eVar 2]) (eC (.bl true)) [some (.ref r), some (.str c.1), some (.int (c.2 : Nat)), some (.ref i), some (.ref l), o5, o6] S = some (.nx [some (.ref r), some (.str c.1), some (.int (c.2 : Nat)), some (.ref i), some (.ref l), o5, o6] S1) := by
      simp [gb, hCm, k0, hS1]
    have gb1 : S1[i]? = some (.st ((C ++ [c]).map kD)) := by
      rw [hS1, List.getElem?_set_self hi, tput_c kD (fun _ => rfl) c _ C hm]
      simp [kD]
    have gc1 : S1[l]? = some (.dk kvs) := by rw [hS1, List.getElem?_set_ne w.il]; exact gc
    have k1 : Keep S0 S1 := by rw [hS1]; exact w.keep.set w.i0
    have hl1 := (List.getElem?_eq_some_iff.mp gc1).1
    obtain ⟨S2, hS2⟩ : ∃ S2, S2 = S1.set l (.dk (fput kvs (.str c.1) (.int (c.2 : Nat)))) := ⟨_, rfl⟩
    have st3 : sFPut (eVar 4) (eVar 1) (eVar 2) [some (.ref r), some (.str c.1), some (.int (c.2 : Nat)), some (.ref i), some (.ref l), o5, o6] S1 = some (.nx [some (.ref r), some (.str c.1), some (.int (c.2 : Nat)), some (.ref i), some (.ref l), o5, o6] S2) := by
      simp [gc1, hkm, k0, hS2]
    have gb2 : S2[i]? = some (.st ((C ++ [c]).map kD)) := by rw [hS2, List.getElem?_set_ne (Ne.symm w.il)]; exact gb1
    have gc2 : S2[l]? = some (.dk (fput kvs (.str c.1) (.int (c.2 : Nat)))) := by rw [hS2, List.getElem?_set_self hl1]
    have k2 : Keep S0 S2 := by rw [hS2]; exact k1.set w.l0
    have cb2 := cb.keep k2
    have g1 := cb2.gr
    have g2 := cb2.gd
    have hget := fget_look es c.1
    rw [ht] at hget
    simp at hget
    have t2 := s_followed2 t c.2 S2
    obtain ⟨z, hz⟩ : ∃ z, z = zipf t c.2 := ⟨_, rfl⟩
    obtain ⟨q, hq⟩ : ∃ q, q = hop t c.2 := ⟨_, rfl⟩
    rw [← hz, ← hq] at t2
    have st4 : sAsg (eCall R_followed [e2 fGet (eFld "Coming" "terms" (eVar 0)) (eVar 1), eVar 2]) (gTup [gName 5, gName 6]) [some (.ref r), some (.str c.1), some (.int (c.2 : Nat)), some (.ref i), some (.ref l), o5, o6] S2 = some (.nx [some (.ref r), some (.str c.1), some (.int (c.2 : Nat)), some (.ref i), some (.ref l), some (hopD q), some (.bl z)] S2) := by
      simp [g1, g2, hget, k0, t2]
    unfold lb_Coming_sign_1
    rw [sq_nx st1, sq_nx st2, sq_nx st3, sq_nx st4, ← hq, ← hz]
    cases q with
    | inl k =>
      refine ⟨S2, sq_rt ?_, k2⟩
      simp [hopD, at0, wrD]
    | inr e =>
      dsimp only
      rw [sq_nx (ρ1 := [some (.ref r), some (.str c.1), some (.int (c.2 : Nat)), some (.ref i), some (.ref l), some (hopD (.inr e)), some (.bl z)]) (S1 := S2) (by simp [hopD, at0])]
      have hlast : ∀ (l2 : Nat) (T : Store), sAsg (eSl (eVar 5) (some (eC (.int 1))) none) (gTup [gName 1, gName 2]) [some (.ref r), some (.str c.1), some (.int (c.2 : Nat)), some (.ref i), some (.ref l2), some (hopD (.inr e)), some (.bl z)] T = some (.nx [some (.ref r), some (.str e.1), some (.int (e.2 : Nat)), some (.ref i), some (.ref l2), some (hopD (.inr e)), some (.bl z)] T) := fun l2 T => by
        simp [hopD, slD, cut, sIx]
      have hfl := fput_len kvs (.str c.1) (.int (c.2 : Nat))
      cases hz2 : z with
      | false =>
        rw [hz2] at hlast hz
        rw [sq_nx (ρ1 := [some (.ref r), some (.str c.1), some (.int (c.2 : Nat)), some (.ref i), some (.ref l), some (hopD (.inr e)), some (.bl false)]) (S1 := S2) (by simp)]
        refine ⟨l, _, _, S2, hlast l S2, k2, gb2, ⟨_, gc2, by simp; omega, fun s => ?_⟩, w.i0, w.l0, w.il⟩
        have hwl : wLows false (wSet L c) = wSet L c := by simp [wLows]
        rw [fget_fput, hkv, hwl]
        unfold wSet
        split <;> rfl
      | true =>
        rw [hz2] at hlast hz
        rw [sq_nx (ρ1 := [some (.ref r), some (.str c.1), some (.int (c.2 : Nat)), some (.ref i), some (.ref S2.length), some (hopD (.inr e)), some (.bl true)]) (S1 := S2 ++ [.dk []]) (by simp)]
        have hi2 := (List.getElem?_eq_some_iff.mp gb2).1
        refine ⟨S2.length, _, _, S2 ++ [.dk []], hlast _ _, k2.trans .app, get_app gb2 _, ⟨[], by simp, Nat.zero_le _, fun s => by simp [wLows, fget]⟩, w.i0, k2.1, by omega⟩
theorem sign_loop {es : Eqs} (b : Tb es) {S0 : Store} {r d : Nat} (cb : CB S0 r d es) {n0 : Nat} (hn0 : 120 ≤ n0) (hn1 : n0 ≤ 100000) {i : Nat} : ∀ (f : Nat) (S : Store) (l : Nat) (c : Call) (C : List Call) (L : Lows) (P : List (List Nat)) (o5 o6 : Option D),
    WS2 S0 S i l C L → Iv es n0 c C L P → es.length * (n0 + 97) < f + C.length →
    (∃ S', sWh (tVal (e2 fIn (eVar 1) (eFld "Coming" "terms" (eVar 0)))) (lb_Coming_sign_1 R_followed) [some (.ref r), some (.str c.1), some (.int (c.2 : Nat)), some (.ref i), some (.ref l), o5, o6] S = some (.rt (wrD (wres es c)) S') ∧ Keep S0 S') ∨
    (∃ s n l2 p5 p6 S', wres es c = some (.waits s) ∧ sWh (tVal (e2 fIn (eVar 1) (eFld "Coming" "terms" (eVar 0)))) (lb_Coming_sign_1 R_followed) [some (.ref r), some (.str c.1), some (.int (c.2 : Nat)), some (.ref i), some (.ref l), o5, o6] S = some (.nx [some (.ref r), some (.str s), some (.int (n : Nat)), some (.ref i), some (.ref l2), p5, p6] S') ∧ Keep S0 S')
  | 0, S, l, c, C, L, P, o5, o6, w, v, hf => by
    have := v.clen b
    omega
  | f + 1, S, l, c, C, L, P, o5, o6, w, v, hf => by
    have hcl := v.clen b
    have h8 := b.few
    have hcl2 : C.length ≤ 900000 := by
      have : es.length * (n0 + 97) ≤ 8 * (100000 + 97) := Nat.mul_le_mul h8 (by omega)
      omega
    have cb2 := cb.keep w.keep
    have g1 := cb2.gr
    have g2 := cb2.gd
    have hget := fget_look es c.1
    cases ht : look es c.1 with
    | none =>
      rw [ht] at hget
      simp at hget
      refine .inr ⟨c.1, c.2, l, o5, o6, S, wres_inl (by unfold nx; rw [ht]), sWh_stop ?_, w.keep⟩
      simp [g1, g2, hget, k0]
    | some t =>
      rw [ht] at hget
      simp at hget
      have hts : tVal (e2 fIn (eVar 1) (eFld "Coming" "terms" (eVar 0))) [some (.ref r), some (.str c.1), some (.int (c.2 : Nat)), some (.ref i), some (.ref l), o5, o6] S = some (.ok true S) := by
        simp [g1, g2, hget, k0]
      rcases sign_step (o5 := o5) (o6 := o6) cb w hcl2 ht with ⟨ha, hb⟩ | ⟨ha, hb⟩
      · refine .inl ⟨S, sWh_rt hts ?_, w.keep⟩
        rw [wres_none (v.again ha)]
        exact hb
      · cases hh : hop t c.2 with
        | inl k =>
          rw [hh] at hb
          obtain ⟨S', hb, hk⟩ := hb
          refine .inl ⟨S', sWh_rt hts ?_, hk⟩
          rw [wres_inl (r := .sign k) (by unfold nx; rw [ht]; dsimp only; rw [hh])]
          exact hb
        | inr e =>
          rw [hh] at hb
          obtain ⟨l2, p5, p6, S', hb, hw⟩ := hb
          obtain ⟨P', hv⟩ := v.step b hn0 ht ha hh
          rw [wres_inr (nx_of ht hh)]
          rw [sWh_go hts hb]
          exact sign_loop b cb hn0 hn1 f S' l2 e (C ++ [c]) _ P' p5 p6 hw hv (by simp; omega)
theorem s_known {es : Eqs} {S : Store} {r d : Nat} (cb : CB S r d es) (s : List Nat) : R_Coming_known [.ref r, .str s] S = match look es s with | some t => some (.ok t.d S) | none => some (.ex "NoName" S) := by
  have g1 := cb.gr
  have g2 := cb.gd
  have hget := fget_look es s
  unfold R_Coming_known
  rw [run_eq (n := 2) _ _ rfl]
  unfold b_Coming_known
  cases ht : look es s with
  | none =>
    rw [ht] at hget
    simp at hget
    simp [g1, g2, hget, k0]
  | some t =>
    rw [ht] at hget
    simp at hget
    simp [g1, g2, hget, k0]
theorem s_sign {es : Eqs} (b : Tb es) {S : Store} {r d : Nat} (cb : CB S r d es) {s : List Nat} {n : Nat} (hn : n ≤ 5000) (hs : s ∈ es.map (·.1)) : ∃ S', R_Coming_sign [.ref r, .str s, .int (n : Nat)] S = some (.ok (wrD (wres es (s, n))) S') ∧ Keep S S' := by
  obtain ⟨t, ht⟩ := look_some hs
  have hkn := s_known cb s
  rw [ht] at hkn
  have w0 : WS2 S (S ++ [.st [], .dk []]) S.length (S.length + 1) [] (fun _ => none) := ⟨.app, by simp, ⟨[], by simp, Nat.le_refl _, fun t => rfl⟩, Nat.le_refl _, by omega, by omega⟩
  have h := sign_loop b cb (n0 := n + 120) (by omega) (by omega) (i := S.length) (es.length * (n + 120 + 97) + 1) (S ++ [.st [], .dk []]) (S.length + 1) (s, n) [] (fun _ => none) [] none none w0 (.beg (by simp)) (by simp)
  have g1 := cb.gr
  unfold R_Coming_sign
  rw [run_eq (n := 3) _ _ rfl]
  unfold b_Coming_sign
  rcases h with ⟨S', h, hk⟩ | ⟨s', n', l2, p5, p6, S', hw, h, hk⟩
  · refine ⟨S', ?_, hk⟩
    simp at h hkn
    simp [g1, hkn, h]
  · refine ⟨S', ?_, hk⟩
    simp at h hkn
    simp [g1, hkn, h, hw, wrD]
end Z
namespace Z
/-! ### the law's own walk -/
def hgD : Nat ⊕ (List Nat × Nat) → D
  | .inl i => .tup [.int i, .non]
  | .inr (s, k) => .tup [.str s, .int k]
noncomputable abbrev hW : SS := sWh (tVal (e2 neD (e2 ixD (eVar 0) (eC (.int 0))) (eC (.str [114, 111, 119])))) (lb_law_hangs_1)
theorem hangs_loop (S : Store) : ∀ (t : Tm) (n : Nat), hW [some t.d, some (.int n)] S = some (.rt (hgD (hop t n)) S) ∨
    ∃ s k, hop t n = .inr (s, k) ∧ hW [some t.d, some (.int n)] S = some (.nx [some (Tm.row s).d, some (.int (k : Nat))] S)
  | .row s, n => .inr ⟨s, n, rfl, sWh_stop (by simp [Tm.d, atI, ixN])⟩
  | .sign i t, 0 => .inl (sWh_rt (S1 := S) (by simp [Tm.d, atI, ixN]) (by simp [lb_law_hangs_1, Tm.d, atI, ixN, hop, hgD]))
  | .sign i t, n + 1 => by
    have e : hW [some (Tm.sign i t).d, some (.int ((n + 1 : Nat) : Int))] S = hW [some t.d, some (.int n)] S :=
      sWh_go (S1 := S) (by simp [Tm.d, atI, ixN]) (by
        have h0 : ¬ ((n : Int) + 1 = 0) := by omega
        have h1 : (n : Int) + 1 - 1 = n := by omega
        simp [lb_law_hangs_1, Tm.d, atI, ixN, h0, h1])
    rw [e, hop]
    exact hangs_loop S t n
  | .beh t, n => by
    have e : hW [some (Tm.beh t).d, some (.int n)] S = hW [some t.d, some (.int ((n + 1 : Nat) : Int))] S :=
      sWh_go (S1 := S) (by simp [Tm.d, atI, ixN]) (by simp [lb_law_hangs_1, Tm.d, atI, ixN])
    rw [e, hop]
    exact hangs_loop S t (n + 1)
  | .zip a b, n => by
    have e : hW [some (Tm.zip a b).d, some (.int n)] S = hW [some (if n % 2 = 0 then a else b).d, some (.int ((n / 2 : Nat) : Int))] S :=
      sWh_go (S1 := S) (by simp [Tm.d, atI, ixN]) (by
        rcases Nat.mod_two_eq_zero_or_one n with h | h
        · have e1 : (1 + (n : Int) % 2) = ((1 : Nat) : Int) := by omega
          simp [lb_law_hangs_1, Tm.d, h, e1, at0]
          simp [atI, ixN]
        · have e1 : (1 + (n : Int) % 2) = ((2 : Nat) : Int) := by omega
          simp [lb_law_hangs_1, Tm.d, h, e1, at0]
          simp [atI, ixN])
    rw [e, hop]
    split
    · exact hangs_loop S a (n / 2)
    · exact hangs_loop S b (n / 2)
theorem s_law_hangs (t : Tm) (n : Nat) (S : Store) : R_law_hangs [t.d, .int n] S = some (.ok (hgD (hop t n)) S) := by
  unfold R_law_hangs
  rw [run_eq (n := 2) _ _ rfl]
  unfold b_law_hangs
  rcases hangs_loop S t n with h | ⟨s, k, h1, h⟩
  · unfold hW at h
    simp [h]
  · unfold hW at h
    simp [h, Tm.d, atI, ixN, h1, hgD]
def kD1 (c : Call) : List D × D := ([.str c.1, .int c.2], .int 1)
theorem Rch.endIn {es : Eqs} : ∀ {j k : Nat} {c d : Call} {r : Wr}, Rch es j c d → EndIn es k d r → EndIn es (j + k) c r
  | 0, k, c, d, r, h, g => by
    rw [Rch] at h
    subst h
    rw [Nat.zero_add]
    exact g
  | j + 1, k, c, d, r, h, g => by
    obtain ⟨e, h1, h2⟩ := h
    rw [Nat.add_right_comm]
    exact ⟨e, h1, h2.endIn g⟩
structure Lv (es : Eqs) (c0 c : Call) (C : List Call) : Prop where
  beg : ∃ j, Rch es j c0 c
  rch : ∀ d ∈ C, ∃ k, Rch es (k + 1) d c
  cnd : C.Nodup
  cb : ∀ d ∈ C, d.1 ∈ es.map (·.1) ∧ d.2 < c0.2 + 301
theorem Lv.clen {es : Eqs} {c0 c : Call} {C : List Call} (h : Lv es c0 c C) : C.length ≤ es.length * (c0.2 + 301) := by
  have := few_calls (es.map (·.1)) (c0.2 + 301) C h.cnd h.cb
  rwa [List.length_map] at this
theorem Lv.far {es : Eqs} (b : Tb es) {c0 c : Call} {C : List Call} (h : Lv es c0 c C) (hc : c0.2 + 300 < c.2) : ∀ k r, ¬ EndIn es k c r := fun k r g => by
  obtain ⟨j, hj⟩ := h.beg
  have := end_within b (n0 := c0.2 + 120) (by omega) j (.beg (by omega)) (hj.endIn g) hj
  omega
theorem Lv.step {es : Eqs} {c0 c d : Call} {C : List Call} (h : Lv es c0 c C) (hn : c ∉ C) (hc : c.2 ≤ c0.2 + 300) {t : Tm} (ht : look es c.1 = some t) (hd : hop t c.2 = .inr d) : Lv es c0 d (C ++ [c]) := by
  have hnx := nx_of ht hd
  refine ⟨?_, fun x hx => ?_, List.nodup_append.mpr ⟨h.cnd, by simp, fun a hax x hx => by simp at hx; subst hx; exact fun e => hn (e ▸ hax)⟩, fun x hx => ?_⟩
  · obtain ⟨j, hj⟩ := h.beg
    exact ⟨j + 1, hj.snoc hnx⟩
  · rcases List.mem_append.mp hx with hx | hx
    · obtain ⟨k, hk⟩ := h.rch x hx
      exact ⟨k + 1, hk.snoc hnx⟩
    · simp at hx
      subst hx
      exact ⟨0, d, hnx, rfl⟩
  · rcases List.mem_append.mp hx with hx | hx
    · exact h.cb x hx
    · simp at hx
      subst hx
      exact ⟨List.mem_map.mpr ⟨_, look_mem ht, rfl⟩, by omega⟩
/-- a dict of told terms, locked or not -/
def TD (S : Store) (d : Nat) (es : Eqs) : Prop := S[d]? = some (.dk (es.map kvE)) ∨ S[d]? = some (.dkl (es.map kvE))
theorem TD.keep {S S' : Store} {d : Nat} {es : Eqs} (h : TD S d es) (k : Keep S S') : TD S' d es := h.imp (fun h => k.get h) (fun h => k.get h)
theorem TD.at {S : Store} {d : Nat} {es : Eqs} (h : TD S d es) : dkAt S (.ref d) = some (es.map kvE) := by
  rcases h with h | h <;> simp [h]
theorem walked_loop {es : Eqs} (b : Tb es) {S0 : Store} {d : Nat} (td : TD S0 d es) {c0 : Call} (hm : es.length * (c0.2 + 301) ≤ 20000) {i : Nat} (hi0 : S0.length ≤ i) : ∀ (f : Nat) (S : Store) (c : Call) (C : List Call) (o5 : Option D),
    Keep S0 S → S[i]? = some (.st (C.map kD1)) → Lv es c0 c C → es.length * (c0.2 + 301) < f + C.length →
    (∃ S', sWh (tVal (e2 fIn (eVar 1) (eVar 0))) (lb_law_walked_1 R_law_hangs) [some (.ref d), some (.str c.1), some (.int (c.2 : Nat)), some (.ref i), some (.int ((c0.2 : Int) + 300)), o5] S = some (.rt (wrD (wres es c)) S') ∧ Keep S0 S') ∨
    (∃ s p2 p5 S', wres es c = some (.waits s) ∧ sWh (tVal (e2 fIn (eVar 1) (eVar 0))) (lb_law_walked_1 R_law_hangs) [some (.ref d), some (.str c.1), some (.int (c.2 : Nat)), some (.ref i), some (.int ((c0.2 : Int) + 300)), o5] S = some (.nx [some (.ref d), some (.str s), p2, some (.ref i), some (.int ((c0.2 : Int) + 300)), p5] S') ∧ Keep S0 S')
  | 0, S, c, C, o5, k, g, v, hf => by
    have := v.clen
    omega
  | f + 1, S, c, C, o5, k, g, v, hf => by
    have hcl := v.clen
    have hdk := (td.keep k).at
    have hget := fget_look es c.1
    cases ht : look es c.1 with
    | none =>
      rw [ht] at hget
      simp at hget
      refine .inr ⟨c.1, _, o5, S, wres_inl (by unfold nx; rw [ht]), sWh_stop ?_, k⟩
      simp [-o_dkAt, hdk, hget, k0]
    | some t =>
      rw [ht] at hget
      simp at hget
      have hts : tVal (e2 fIn (eVar 1) (eVar 0)) [some (.ref d), some (.str c.1), some (.int (c.2 : Nat)), some (.ref i), some (.int ((c0.2 : Int) + 300)), o5] S = some (.ok true S) := by
        simp [-o_dkAt, hdk, hget, k0]
      have hfind : (tget (C.map kD1) [.str c.1, .int (c.2 : Nat)]).isSome = decide (c ∈ C) := find_c (α := Unit) kD1 (fun _ => rfl) c C
      by_cases hc : c ∈ C
      · refine .inl ⟨S, sWh_rt hts ?_, k⟩
        obtain ⟨j, hj⟩ := v.rch c hc
        rw [wres_none fun m r => no_rep hj]
        unfold lb_law_walked_1
        refine sq_rt ?_
        simp [g, hfind, hc, k0, wrD]
      · by_cases hfar : c0.2 + 300 < c.2
        · refine .inl ⟨S, sWh_rt hts ?_, k⟩
          rw [wres_none (v.far b hfar)]
          unfold lb_law_walked_1
          refine sq_rt ?_
          have hfar' : (c0.2 : Int) + 300 < c.2 := by omega
          simp [g, hfind, hc, k0, wrD, hfar']
        · have hfar' : ¬ (c0.2 : Int) + 300 < c.2 := by omega
          have hCm : C.length < 1000000 := by omega
          have hC2 : ¬ (20000 : Int) < C.length := by omega
          have hi := (List.getElem?_eq_some_iff.mp g).1
          obtain ⟨S1, hS1⟩ : ∃ S1, S1 = S.set i (.st (tput (C.map kD1) [.str c.1, .int (c.2 : Nat)] (.int 1))) := ⟨_, rfl⟩
          have g1 : S1[i]? = some (.st ((C ++ [c]).map kD1)) := by
            rw [hS1, List.getElem?_set_self hi, tput_c kD1 (fun _ => rfl) c _ C hc]
            simp [kD1]
          have k1 : Keep S0 S1 := by rw [hS1]; exact k.set hi0
          have hdk1 := (td.keep k1).at
          have t2 := s_law_hangs t c.2 S1
          have st1 : sIf (tOr (tVal (e2 kIn (eTup [eVar 1, eVar 2]) (eVar 3))) (tVal (e2 gtD (eVar 2) (eVar 4)))) (sRet (eTup [eC (.str [102, 114, 101, 101])])) (sNx) [some (.ref d), some (.str c.1), some (.int (c.2 : Nat)), some (.ref i), some (.int ((c0.2 : Int) + 300)), o5] S = some (.nx [some (.ref d), some (.str c.1), some (.int (c.2 : Nat)), some (.ref i), some (.int ((c0.2 : Int) + 300)), o5] S) := by
            simp [g, hfind, hc, k0, hfar']
          have st2 : sIf (tVal (e2 gtD (eCall dlenF [eVar 3]) (eC (.int 20000)))) (sRet (eTup [eC (.str [108, 111, 110, 103])])) (sNx) [some (.ref d), some (.str c.1), some (.int (c.2 : Nat)), some (.ref i), some (.int ((c0.2 : Int) + 300)), o5] S = some (.nx [some (.ref d), some (.str c.1), some (.int (c.2 : Nat)), some (.ref i), some (.int ((c0.2 : Int) + 300)), o5] S) := by
            simp [g, hCm, hC2]
          have st3 : sKPut (eVar 3) (eTup [eVar 1, eVar 2]) (eC (.int 1)) [some (.ref d), some (.str c.1), some (.int (c.2 : Nat)), some (.ref i), some (.int ((c0.2 : Int) + 300)), o5] S = some (.nx [some (.ref d), some (.str c.1), some (.int (c.2 : Nat)), some (.ref i), some (.int ((c0.2 : Int) + 300)), o5] S1) := by
            simp [g, hCm, k0, hS1]
          cases hh : hop t c.2 with
          | inl q =>
            rw [hh] at t2
            refine .inl ⟨S1, sWh_rt hts ?_, k1⟩
            rw [wres_inl (r := .sign q) (by unfold nx; rw [ht]; dsimp only; rw [hh])]
            unfold lb_law_walked_1
            rw [sq_nx st1, sq_nx st2, sq_nx st3]
            rw [sq_nx (ρ1 := [some (.ref d), some (.str c.1), some .non, some (.ref i), some (.int ((c0.2 : Int) + 300)), some (.int (q : Nat))]) (S1 := S1) (by simp [-o_dkAt, hdk1, hget, k0, t2, hgD])]
            refine sq_rt ?_
            simp [isD, isNonB, wrD]
          | inr e =>
            rw [hh] at t2
            rw [wres_inr (nx_of ht hh)]
            have hgo : lb_law_walked_1 R_law_hangs [some (.ref d), some (.str c.1), some (.int (c.2 : Nat)), some (.ref i), some (.int ((c0.2 : Int) + 300)), o5] S = some (.nx [some (.ref d), some (.str e.1), some (.int (e.2 : Nat)), some (.ref i), some (.int ((c0.2 : Int) + 300)), some (.str e.1)] S1) := by
              unfold lb_law_walked_1
              rw [sq_nx st1, sq_nx st2, sq_nx st3]
              rw [sq_nx (ρ1 := [some (.ref d), some (.str c.1), some (.int (e.2 : Nat)), some (.ref i), some (.int ((c0.2 : Int) + 300)), some (.str e.1)]) (S1 := S1) (by simp [-o_dkAt, hdk1, hget, k0, t2, hgD])]
              simp [isD, isNonB]
            rw [sWh_go hts hgo]
            exact walked_loop b td hm hi0 f S1 e (C ++ [c]) _ k1 g1 (v.step hc (by omega) ht hh) (by simp; omega)
theorem s_law_walked {es : Eqs} (b : Tb es) {S : Store} {d : Nat} (td : TD S d es) (s : List Nat) {n : Nat} (hm : es.length * (n + 301) ≤ 20000) : ∃ S', R_law_walked [.ref d, .str s, .int (n : Nat)] S = some (.ok (wrD (wres es (s, n))) S') ∧ Keep S S' := by
  have h := walked_loop b td (c0 := (s, n)) hm (i := S.length) (Nat.le_refl _) (es.length * (n + 301) + 1) (S ++ [.st []]) (s, n) [] none .app (by simp) ⟨⟨0, rfl⟩, fun d hd => (nomatch hd), List.nodup_nil, fun d hd => (nomatch hd)⟩ (by simp)
  unfold R_law_walked
  rw [run_eq (n := 3) _ _ rfl]
  unfold b_law_walked
  rcases h with ⟨S', h, hk⟩ | ⟨s', p2, p5, S', hw, h, hk⟩
  · refine ⟨S', ?_, hk⟩
    simp at h
    simp [h]
  · refine ⟨S', ?_, hk⟩
    simp at h
    simp [h, hw, wrD]
end Z
namespace Z
/-! ### the other drawing of names -/
theorem letters_loop2 {A : SS} {p c : Nat} {tl : List (Option D)} (hA : ∀ (S : Store) (w : List Nat) (x : D), Sp S p c → w.length ≤ 100 → ∃ (k : Nat) (S' : Store), A (some (.ref p) :: some (.str w) :: some x :: tl) S = some (.nx (some (.ref p) :: some (.str (w ++ [k])) :: some x :: tl) S') ∧ k ∈ az ∧ Sp S' p c ∧ S'.length = S.length ∧ Fr p c S S')
    {S : Store} {w : List Nat} (hw : Ltr 1 w) (hs : Sp S p c) : ∃ (w' : List Nat) (o2 : Option D) (S' : Store), forL (fun _ => True) (gName 2) A ((List.range 7).map fun (k : Nat) => .int k) (some (.ref p) :: some (.str w) :: none :: tl) S = some (.nx (some (.ref p) :: some (.str w') :: o2 :: tl) S') ∧ Ltr 8 w' ∧ Sp S' p c ∧ S'.length = S.length ∧ Fr p c S S' := by
  obtain ⟨ρ', S', h, w', o2, rfl, h1, h2, h3, h4⟩ := forL_range (g := gName 2) (b := A) (n := 7) (fun k ρ S' => ∃ (w' : List Nat) (o2 : Option D), ρ = some (.ref p) :: some (.str w') :: o2 :: tl ∧ Ltr (1 + k) w' ∧ Sp S' p c ∧ S'.length = S.length ∧ Fr p c S S') (by
    rintro k hk ρ S' ⟨w', o2, rfl, hw', h1, h2, h3⟩
    obtain ⟨a, S2, e, ha, g1, g2, g3⟩ := hA S' w' (.int k) h1 (by rw [hw'.len]; omega)
    refine ⟨_, _, rfl, _, _, .inl e, w' ++ [a], _, rfl, ⟨by simp [hw'.len]; omega, fun x hx => ?_, ?_⟩, g1, by rw [g2, h2], h3.trans g3⟩
    · rcases List.mem_append.mp hx with h | h
      · exact hw'.az x h
      · simp at h; subst h; exact ha
    · obtain ⟨b, r, rfl, hb⟩ := hw'.hd
      exact ⟨b, r ++ [a], rfl, hb⟩) (some (.ref p) :: some (.str w) :: none :: tl) S ⟨w, none, rfl, hw, hs, rfl, .refl⟩
  exact ⟨w', o2, S', h, h1, h2, h3, h4⟩
theorem s_law_names_v2 {S : Store} {p c : Nat} (hs : Sp S p c) : ∃ (l : Nat) (names : List (List Nat)) (S' : Store), R_law_names_v2 [.ref p] S = some (.ok (.ref l) S') ∧ Drawn S' p c l names ∧ Sp S' p c ∧ Fr p c S S' := by
  obtain ⟨v, a, S1, e1, at1, ha, hs1, hl1, f1⟩ := draw_of (xs := az0) hs (by decide) (by decide)
  obtain ⟨w, o2, S2, hfor, hw, hs2, hl2, f2⟩ := letters_loop2 (A := lb_law_names_v2_1 R_law_drop) (p := p) (c := c) (tl := [none, none]) (fun S w x hs hw => by
    obtain ⟨v, k, S', e, hat, hk, g1, g2, g3⟩ := draw_of (xs := az) hs (by decide) (by decide)
    refine ⟨k, S', ?_, hk, g1, g2, g3⟩
    have hL : w.length + 1 ≤ LINE := by rw [LINE_eq]; omega
    simp at e
    simp [lb_law_names_v2_1, e, hat, hL]) (S := S1) (w := [a]) ⟨rfl, fun k hk => by simp at hk; subst hk; exact az0_az _ ha, a, [], rfl, ha⟩ hs1
  have hwL : w.length ≤ LINE := by rw [LINE_eq, hw.len]; decide
  have hlc := lcL_map (chk := fun _ => True) (g := gName 2) (t := tYes) (e := eSl (eVar 1) none (some (e2 addD (eVar 2) (eC (.int 1))))) (S := S2) (ρ := [some (.ref p), some (.str w), none, none, none]) (fun x => match x with | .int k => .str (w.take (k.toNat + 1)) | _ => .non) ((List.range 8).map fun (k : Nat) => .int k) [] (by rw [LINE_eq]; decide) (fun _ => trivial) (fun x hx acc => by
    obtain ⟨k, hk, rfl⟩ := List.mem_map.mp hx
    refine ⟨_, rfl, rfl, ?_⟩
    have : cut w none (some ((k : Int) + 1)) = w.take (k + 1) := by rw [show (k : Int) + 1 = ((k + 1 : Nat) : Int) by omega, cut_take]
    simp [slD, hwL, this])
  have en : ((List.range 8).map fun (k : Nat) => D.int k).map (fun x => match x with | D.int k => D.str (w.take (k.toNat + 1)) | _ => D.non) = ((List.range 8).map fun k => w.take (k + 1)).map .str := by simp
  rw [List.nil_append, en] at hlc
  obtain ⟨y, S3, e3, hy, hs3, hl3, f3⟩ := drop_nat (S := S2 ++ [.lst (((List.range 8).map fun k => w.take (k + 1)).map .str)]) hs2.app 4 (by decide) (by decide)
  have hlt := hs.lt
  have f23 : Fr p c S S3 := ((f1.trans f2).trans .app).trans f3
  have hS3 : S2.length < S3.length := by rw [hl3]; simp
  have hrN : S3[S2.length]? = some (.lst (((List.range 8).map fun k => w.take (k + 1)).map .str)) := by
    rw [f3.old S2.length (by simp) (by omega) (by omega)]; simp
  have at1' : atI ([97, 99, 100, 101, 102, 103, 104, 105, 106, 107, 108, 109, 110, 111, 112, 113, 114, 115, 116, 117, 118, 119, 120, 121] : List Nat) (v : Int) = some a := at1
  simp at e1 e3 hlc
  by_cases y3 : y = 3
  · let cn : List (List Nat) := [[114, 111, 119], [115, 105, 103, 110], [122, 105], [122, 105, 112, 112], [98, 101, 104, 105, 110], [114, 101, 97, 100, 121], [111, 110, 101], [98]]
    have hcn : ∀ s ∈ cn, IsNm s := by
      intro s hs
      simp only [cn, List.mem_cons, List.not_mem_nil, or_false] at hs
      rcases hs with rfl | rfl | rfl | rfl | rfl | rfl | rfl | rfl <;> exact ⟨by decide, by decide, by decide, by decide, by decide⟩
    obtain ⟨t, l, names, T1, S', q1, q2, q3, q4, q5, q6, q7, q8⟩ := names_tail (S := S3 ++ [.lst (cn.map .str)]) (r := S3.length) (ns := cn) (by simp) (by omega) (by omega) rfl hcn (by decide) hs3.app
    refine ⟨l, names, S', ?_, q6, q7, (f23.trans .app).trans q8⟩
    subst y3
    simp [cn] at q1
    unfold R_law_names_v2
    rw [run_eq (n := 1) _ _ rfl]
    unfold b_law_names_v2
    simp at e3
    simp [e1, at1', hfor, wipe, hlc, e3, q1, q3, q4, q5]
  · have y3' : ¬ (y : Int) = 3 := by omega
    obtain ⟨t, l, names, T1, S', q1, q2, q3, q4, q5, q6, q7, q8⟩ := names_tail (S := S3) (r := S2.length) (ns := (List.range 8).map fun k => w.take (k + 1)) hrN (by omega) (by omega) (by simp) (fun s hs' => by
      obtain ⟨k, hk, rfl⟩ := List.mem_map.mp hs'
      exact pre_name hw (List.mem_range.mp hk)) (nd_take hw.len) hs3
    refine ⟨l, names, S', ?_, q6, q7, f23.trans q8⟩
    simp [-o_addr] at q3 q4 q5
    unfold R_law_names_v2
    rw [run_eq (n := 1) _ _ rfl]
    unfold b_law_names_v2
    simp [-o_addr, e1, at1', hfor, wipe, hlc, e3, y3, y3', q1, q3, q4, q5]
end Z
namespace Z
/-! ### equations and books among data -/
theorem nd_le : ∀ {a b : List (List Nat)}, a.Nodup → (∀ x ∈ a, x ∈ b) → a.length ≤ b.length
  | [], _, _, _ => Nat.zero_le _
  | x :: a, b, h, s => by
    have hx : x ∈ b := s x (by simp)
    have hn := List.nodup_cons.mp h
    have := nd_le (b := b.erase x) hn.2 fun y hy => (List.mem_erase_of_ne (fun e => hn.1 (by rw [← e]; exact hy))).mpr (s y (List.mem_cons_of_mem _ hy))
    rw [List.length_erase_of_mem hx] at this
    have := List.length_pos_of_mem hx
    rw [List.length_cons]
    omega
theorem not_nd : ∀ {ws : List (List Nat)}, ¬ ws.Nodup → ∃ ws' : List (List Nat), ws'.length + 1 = ws.length ∧ ∀ x ∈ ws, x ∈ ws'
  | [], h => absurd List.nodup_nil h
  | x :: r, h => by
    by_cases hx : x ∈ r
    · exact ⟨r, rfl, fun y hy => by rcases List.mem_cons.mp hy with rfl | hy <;> assumption⟩
    · obtain ⟨r', h1, h2⟩ := not_nd (ws := r) fun e => h (List.nodup_cons.mpr ⟨hx, e⟩)
      exact ⟨x :: r', by simp [h1], fun y hy => by
        rcases List.mem_cons.mp hy with rfl | hy
        · simp
        · exact List.mem_cons_of_mem _ (h2 y hy)⟩
theorem strict_nd {ws : List (List Nat)} (h : Strict ws) : ws.Nodup := List.Pairwise.imp (fun {a b} hab e => by subst e; revert hab; exact fun hab => by rw [ltN_irr] at hab; cases hab) h
theorem sortU_nd (ws : List (List Nat)) : (sortU ws).length < ws.length ↔ ¬ ws.Nodup := by
  have hs := strict_nd (sortU_strict ws)
  constructor
  · intro h hn
    have := nd_le (b := sortU ws) hn fun x hx => (sortU_mem ..).mpr hx
    omega
  · intro h
    obtain ⟨ws', h1, h2⟩ := not_nd h
    have := nd_le (b := ws') hs fun x hx => h2 x ((sortU_mem ..).mp hx)
    omega
theorem is_nmB {s : List Nat} (h : nmB s = true) : IsNm s := by
  simp [nmB, azB] at h
  exact ⟨h.1.1.1.1, h.1.1.1.2, fun k hk => h.2 k hk, h.1.1.2, h.1.2⟩
theorem is_name {d : D} (h : nameB d = true) : ∃ s, d = .str s ∧ IsNm s := by
  cases d with
  | str s => exact ⟨s, rfl, is_nmB h⟩
  | _ => cases h
theorem Tm.In.mono {a b : List (List Nat)} (h : ∀ s ∈ a, s ∈ b) : ∀ {t : Tm}, t.In a → t.In b
  | .row s, i => h s i
  | .sign _ t, i => ⟨i.1, Tm.In.mono h i.2⟩
  | .beh t, i => Tm.In.mono (t := t) h i
  | .zip a b, i => ⟨Tm.In.mono h i.1, Tm.In.mono h i.2⟩
/-- a term's own look -/
structure TmOk (t : Tm) : Prop where
  inn : t.In t.rows
  ok : ∀ s ∈ t.rows, IsNm s
theorem tmOk_row {s : List Nat} (h : IsNm s) : TmOk (.row s) := ⟨by simp [Tm.In, Tm.rows], fun x hx => by simp [Tm.rows] at hx; subst hx; exact h⟩
theorem tmOk_zip {a b : Tm} (ha : TmOk a) (hb : TmOk b) : TmOk (.zip a b) := ⟨⟨ha.inn.mono fun s h => by simp [Tm.rows, h], hb.inn.mono fun s h => by simp [Tm.rows, h]⟩, fun s hs => by
  rcases List.mem_append.mp hs with h | h
  · exact ha.ok s h
  · exact hb.ok s h⟩
theorem tmOk_in {names : List (List Nat)} (hn : ∀ s ∈ names, IsNm s) : ∀ {t : Tm}, t.In names → TmOk t
  | .row s, i => tmOk_row (hn s i)
  | .sign _ t, i => ⟨⟨i.1, (tmOk_in hn i.2).inn⟩, (tmOk_in hn i.2).ok⟩
  | .beh t, i => ⟨(tmOk_in (t := t) hn i).inn, (tmOk_in (t := t) hn i).ok⟩
  | .zip a b, i => tmOk_zip (tmOk_in hn i.1) (tmOk_in hn i.2)
theorem sz_tm : ∀ (k : Nat) (t : Tm), TmOk t → t.depth ≤ k → sz k t.d = t.size
  | 0, t, _, h => by cases t <;> simp [Tm.depth] at h
  | k + 1, t, o, h => by
    rw [sz, wi_tm o.ok o.inn]
    cases t with
    | row s => simp [Tm.kids, Tm.size]
    | sign i t =>
      simp [Tm.depth] at h
      simp [Tm.kids, Tm.size, sz_tm k t (tmOk_in o.ok o.inn.2) h]
    | beh t =>
      simp [Tm.depth] at h
      simp [Tm.kids, Tm.size, sz_tm k t (tmOk_in o.ok (t := t) o.inn) h]
    | zip a b =>
      simp [Tm.depth] at h
      simp [Tm.kids, Tm.size, sz_tm k a (tmOk_in o.ok o.inn.1) (by omega), sz_tm k b (tmOk_in o.ok o.inn.2) (by omega)]
theorem sz_is : ∀ (k : Nat) (d : D), sz k d < 1000 → ∃ t : Tm, d = t.d ∧ TmOk t ∧ t.size = sz k d ∧ t.depth ≤ k
  | 0, d, h => by simp [sz] at h
  | k + 1, d, h => by
    cases e : wi d with
    | none => rw [sz_none e] at h; omega
    | some ps =>
      have hs : sz (k + 1) d = 1 + (ps.map (sz k)).sum := by rw [sz, e]
      rw [hs] at h ⊢
      unfold wi at e
      split at e
      · rename_i a b
        split at e
        · rename_i c
          cases e
          simp only [Bool.and_eq_true] at c
          obtain ⟨s, rfl, hn⟩ := is_name c.2
          rw [isS_str c.1]
          exact ⟨.row s, rfl, tmOk_row hn, by simp [Tm.size], by simp [Tm.depth]⟩
        · split at e
          · rename_i c
            cases e
            simp at h
            obtain ⟨t, rfl, o, h1, h2⟩ := sz_is k b (by omega)
            rw [isS_str c]
            exact ⟨.beh t, rfl, ⟨o.inn, o.ok⟩, by simp [Tm.size, h1], by simp [Tm.depth, h2]⟩
          · cases e
      · rename_i a b c
        split at e
        · rename_i g
          cases e
          simp at h
          simp only [Bool.and_eq_true] at g
          obtain ⟨t, rfl, o, h1, h2⟩ := sz_is k c (by omega)
          rw [isS_str g.1]
          cases b with
          | int i =>
            have gi := g.2
            simp [sigB] at gi
            refine ⟨.sign i.toNat t, ?_, ⟨⟨by omega, o.inn⟩, o.ok⟩, by simp [Tm.size, h1], by simp [Tm.depth, h2]⟩
            have : ((i.toNat : Nat) : Int) = i := by omega
            simp [Tm.d, this]
          | _ => cases g.2
        · split at e
          · rename_i g
            cases e
            simp at h
            obtain ⟨t, rfl, o, h1, h2⟩ := sz_is k b (by omega)
            obtain ⟨u, rfl, o', h1', h2'⟩ := sz_is k c (by omega)
            rw [isS_str g]
            exact ⟨.zip t u, rfl, tmOk_zip o o', by simp [Tm.size, h1, h1'], by simp [Tm.depth]; omega⟩
          · cases e
      · cases e
structure Eqn (e : List Nat × Tm) : Prop where
  nm : IsNm e.1
  tm : TmOk e.2
  size : e.2.size ≤ 20
  depth : e.2.depth ≤ 10
def eqnB : D → Bool
  | .tup [a, b] => nameB a && decide (sz 10 b ≤ 20)
  | _ => false
theorem eqnB_ent {e : List Nat × Tm} (h : Eqn e) : eqnB (ent e) = true := by
  have := sz_tm 10 e.2 h.tm h.depth
  have := h.size
  simp [eqnB, ent, nameB, nmB_is h.nm]
  omega
theorem eqn_of {d : D} (h : eqnB d = true) : ∃ e, d = ent e ∧ Eqn e := by
  unfold eqnB at h
  split at h
  · rename_i a b
    simp only [Bool.and_eq_true, decide_eq_true_eq] at h
    obtain ⟨s, rfl, hs⟩ := is_name h.1
    obtain ⟨t, rfl, o, h1, h2⟩ := sz_is 10 b (by omega)
    exact ⟨(s, t), rfl, hs, o, by show t.size ≤ 20; omega, h2⟩
  · cases h
theorem eqns_of : ∀ {ds : List D}, ds.all eqnB = true → ∃ es : List (List Nat × Tm), ds = es.map ent ∧ ∀ e ∈ es, Eqn e
  | [], _ => ⟨[], rfl, fun e h => by cases h⟩
  | d :: ds, h => by
    rw [List.all_cons, Bool.and_eq_true] at h
    obtain ⟨e, rfl, he⟩ := eqn_of h.1
    obtain ⟨es, rfl, hes⟩ := eqns_of h.2
    exact ⟨e :: es, rfl, fun x hx => by
      rcases List.mem_cons.mp hx with rfl | hx
      · exact he
      · exact hes x hx⟩
theorem s_is_equation {S : Store} {d : D} (h : Dn 56 S d) : ∃ G, R_is_equation [d] S = some (.ok (.bl (eqnB d)) (S ++ G)) := by
  unfold R_is_equation
  rw [run_eq (n := 1) _ _ rfl]
  unfold b_is_equation
  by_cases ht : ∃ ds, d = .tup ds
  · obtain ⟨ds, rfl⟩ := ht
    by_cases h2 : ds.length = 2
    · obtain ⟨a, b, rfl⟩ : ∃ a b, ds = [a, b] := by
        match ds, h2 with
        | [a, b], _ => exact ⟨a, b, rfl⟩
      have it := h.items
      obtain ⟨G, e1⟩ := s_is_name (it a (by simp))
      obtain ⟨G2, e2⟩ := s_is_term (S := S ++ G) ((it b (by simp)).app)
      have a1 : atI [a, b] 1 = some b := by simp [atI, ixN]
      cases c : nameB a
      · exact ⟨G, by simp [at0, e1, c, eqnB]⟩
      · exact ⟨G ++ G2, by simp [at0, a1, e1, c, e2, eqnB]⟩
    · have h2' : ¬ (ds.length : Int) = 2 := by omega
      refine ⟨[], ?_⟩
      have : eqnB (.tup ds) = false := by
        unfold eqnB
        split
        · rename_i hh; cases hh; simp at h2
        · rfl
      simp [this, h2']
  · refine ⟨[], ?_⟩
    cases d with
    | tup ds => exact absurd ⟨ds, rfl⟩ ht
    | ref n => simp [isi_dat h.dk, tyB, eqnB]
    | fl xs => simp [isi_dat h.dk, tyB, eqnB]
    | _ => simp [tyB, eqnB]
end Z
namespace Z
/-! ### books -/
theorem in_strs {S : Store} {n : Nat} {s : List Nat} {xs : List (List Nat)} (h : S[n]? = some (.lst (xs.map .str))) : inD (.str s) (.ref n) S = some (.ok (.bl (decide (s ∈ xs))) S) := by
  have e := ni_strs (s := s) h
  unfold ninD at e
  unfold inD
  cases c : inB (.str s) (.ref n) S with
  | none => rw [c] at e; cases e
  | some b =>
    rw [c] at e
    simp at e
    simp [e]
structure IsBook (es : List (List Nat × Tm)) : Prop where
  len : es.length ≤ 8
  eqn : ∀ e ∈ es, Eqn e
  nd : (es.map (·.1)).Nodup
  met : ∀ e ∈ es, ∀ s ∈ e.2.rows, s ∈ es.map (·.1)
open Classical in
noncomputable def bookB (d : D) : Bool := decide (∃ es, d = bookD es ∧ IsBook es)
open Classical in
theorem bookB_no {d : D} (h : ¬ ∃ es, d = bookD es ∧ IsBook es) : bookB d = false := by unfold bookB; exact decide_eq_false h
open Classical in
theorem bookB_iff {d : D} : bookB d = true ↔ ∃ es, d = bookD es ∧ IsBook es := by unfold bookB; exact decide_eq_true_iff
theorem book_step {S : Store} {n : Nat} {ns : List (List Nat)} {d0 : D} {o4 o5 : Option D} {e : List Nat × Tm} (hS : S[n]? = some (.lst (ns.map .str))) (he : Eqn e) : ∃ G, lb_is_book_1 R_names_in [some d0, some (.ref n), some (.str e.1), some e.2.d, o4, o5] S = if ∀ s ∈ e.2.rows, s ∈ ns then some (.nx [some d0, some (.ref n), some (.str e.1), some e.2.d, o4, o5] (S ++ G)) else some (.rt (.bl false) (S ++ G)) := by
  have h1 := he.size
  have h2 := he.depth
  obtain ⟨l, G, e1, hl, hle⟩ := s_names_in he.tm.ok he.tm.inn (by omega) (by omega) S
  have hsz := rows_len e.2
  have hlen : (sortU e.2.rows).length ≤ e.2.rows.length := nd_le (strict_nd (sortU_strict _)) fun x hx => (sortU_mem ..).mp hx
  have hlc := lcL_map (chk := fun T => T[l]? = some (.lst ((sortU e.2.rows).map .str))) (g := gName 5) (t := tYes) (e := e2 inD (eVar 5) (eVar 1)) (S := S ++ G) (ρ := [some d0, some (.ref n), some (.str e.1), some e.2.d, o4, none]) (fun d => .bl (match d with | .str s => decide (s ∈ ns) | _ => false)) ((sortU e.2.rows).map .str) [] (by rw [LINE_eq]; simp; omega) (fun acc => get_app hl _) (fun x hx acc => by
    obtain ⟨s, _, rfl⟩ := List.mem_map.mp hx
    have hS' : (S ++ G ++ [.lst acc])[n]? = some (.lst (ns.map .str)) := get_app (get_app hS _) _
    refine ⟨_, rfl, rfl, ?_⟩
    simp only [List.append_assoc] at hS'
    simp [in_strs hS'])
  have hall := all_ref (n := (S ++ G).length) (S := S ++ G ++ [.lst ((sortU e.2.rows).map fun s => .bl (decide (s ∈ ns)))]) (xs := sortU e.2.rows) (q := fun s => decide (s ∈ ns)) (by simp)
  have hq : (sortU e.2.rows).all (fun s => decide (s ∈ ns)) = decide (∀ s ∈ e.2.rows, s ∈ ns) := by
    rw [Bool.eq_iff_iff]
    simp only [List.all_eq_true, decide_eq_true_eq]
    exact ⟨fun h s hs => h s ((sortU_mem ..).mpr hs), fun h s hs => h s ((sortU_mem ..).mp hs)⟩
  rw [hq] at hall
  refine ⟨G ++ [.lst ((sortU e.2.rows).map fun s => .bl (decide (s ∈ ns)))], ?_⟩
  simp only [List.map_map, List.nil_append] at hlc
  simp [Function.comp_def] at hlc hall
  by_cases c : ∀ s ∈ e.2.rows, s ∈ ns
  · have c' : decide (∀ s ∈ e.2.rows, s ∈ ns) = true := decide_eq_true c
    rw [c'] at hall
    rw [if_pos c]
    simp [lb_is_book_1, e1, hl, hlc, wipe, hall, Function.comp_def]
  · have c' : decide (∀ s ∈ e.2.rows, s ∈ ns) = false := decide_eq_false c
    rw [c'] at hall
    rw [if_neg c]
    simp [lb_is_book_1, e1, hl, hlc, wipe, hall, Function.comp_def]
theorem book_loop {n : Nat} {ns : List (List Nat)} {d0 : D} (o4 : Option D) : ∀ (es : List (List Nat × Tm)) (o2 o3 o5 : Option D) (S : Store), S[n]? = some (.lst (ns.map .str)) → (∀ e ∈ es, Eqn e) → ∃ G o2' o3' o5', forL (fun _ => True) (gTup [gName 2, gName 3]) (lb_is_book_1 R_names_in) (es.map ent) [some d0, some (.ref n), o2, o3, o4, o5] S = if ∀ e ∈ es, ∀ s ∈ e.2.rows, s ∈ ns then some (.nx [some d0, some (.ref n), o2', o3', o4, o5'] (S ++ G)) else some (.rt (.bl false) (S ++ G))
  | [], o2, o3, o5, S, hS, _ => ⟨[], o2, o3, o5, by rw [if_pos (fun e h => by cases h), List.map_nil, forL_nil trivial]; simp⟩
  | e :: es, o2, o3, o5, S, hS, he => by
    obtain ⟨G, h1⟩ := book_step (d0 := d0) (o4 := o4) (o5 := o5) hS (he e (by simp))
    by_cases c : ∀ s ∈ e.2.rows, s ∈ ns
    · rw [if_pos c] at h1
      obtain ⟨G2, p2, p3, p5, h2⟩ := book_loop (d0 := d0) o4 es (some (.str e.1)) (some e.2.d) o5 (S ++ G) (get_app hS _) fun x hx => he x (List.mem_cons_of_mem _ hx)
      refine ⟨G ++ G2, p2, p3, p5, ?_⟩
      rw [List.map_cons, forL_cons trivial (by simp [ent]) h1, h2]
      have : (∀ e' ∈ e :: es, ∀ s ∈ e'.2.rows, s ∈ ns) ↔ ∀ e' ∈ es, ∀ s ∈ e'.2.rows, s ∈ ns := by simp; intro _; exact c
      simp only [this, List.append_assoc]
    · rw [if_neg c] at h1
      refine ⟨G, none, none, none, ?_⟩
      rw [if_neg fun h => c (h e (by simp)), List.map_cons, forL_rt trivial (by simp [ent]) h1]
theorem Tm.d_inj : ∀ {t u : Tm}, t.d = u.d → t = u
  | .row s, u, h => by cases u <;> simp [Tm.d] at h; rw [h]
  | .sign i t, u, h => by
    cases u with
    | sign j u =>
      simp [Tm.d] at h
      have e : i = j := by omega
      rw [e, Tm.d_inj h.2]
    | _ => simp [Tm.d] at h
  | .beh t, u, h => by
    cases u <;> simp [Tm.d] at h
    rw [Tm.d_inj h]
  | .zip a b, u, h => by
    cases u <;> simp [Tm.d] at h
    rw [Tm.d_inj h.1, Tm.d_inj h.2]
theorem ent_inj {e f : List Nat × Tm} (h : ent e = ent f) : e = f := by
  simp [ent] at h
  exact Prod.ext h.1 (Tm.d_inj h.2)
theorem bookD_inj {es fs : List (List Nat × Tm)} (h : bookD es = bookD fs) : es = fs := by
  injection h with h
  exact List.map_inj_right (fun _ _ => ent_inj) |>.mp h
theorem bookB_of {es : List (List Nat × Tm)} : bookB (bookD es) = true ↔ IsBook es := by
  rw [bookB_iff]
  exact ⟨fun ⟨fs, h1, h2⟩ => by rw [bookD_inj h1]; exact h2, fun h => ⟨es, rfl, h⟩⟩
theorem s_is_book {S : Store} {d : D} (h : Dn 57 S d) (hL : ∀ ds, d = .tup ds → ds.length ≤ LINE) : ∃ G, R_is_book [d] S = some (.ok (.bl (bookB d)) (S ++ G)) := by
  unfold R_is_book
  rw [run_eq (n := 1) _ _ rfl]
  unfold b_is_book
  by_cases ht : ∃ ds, d = .tup ds
  rotate_left
  · have hb : bookB d = false := bookB_no fun ⟨es, h1, _⟩ => ht ⟨_, h1⟩
    rw [hb]
    refine ⟨[], ?_⟩
    cases d with
    | tup ds => exact absurd ⟨ds, rfl⟩ ht
    | ref n => simp [isi_dat h.dk, tyB]
    | fl xs => simp [isi_dat h.dk, tyB]
    | _ => simp [tyB]
  obtain ⟨ds, rfl⟩ := ht
  by_cases h8 : ds.length ≤ 8
  rotate_left
  · have hb : bookB (.tup ds) = false := bookB_no fun ⟨es, h1, h2⟩ => by
      injection h1 with h1
      have := h2.len
      rw [h1, List.length_map] at h8
      omega
    rw [hb]
    have h8' : (8 : Int) < ds.length := by omega
    exact ⟨[], by simp [c_MOST_EQUATIONS, h8, h8']⟩
  have h8' : ¬ (8 : Int) < ds.length := by omega
  obtain ⟨G1, hlc⟩ := lcL_app (chk := fun _ => True) (g := gName 4) (t := tYes) (e := eCall R_is_equation [eVar 4]) (S := S) (ρ := [some (.tup ds), none, none, none, none, none]) (fun d => .bl (eqnB d)) ds [] [] (by rw [LINE_eq]; simp; omega) (fun _ _ => trivial) (fun x hx acc G => by
    obtain ⟨G', e⟩ := s_is_equation (S := S ++ .lst acc :: G) ((h.items x hx).app)
    refine ⟨_, G', rfl, rfl, ?_⟩
    simp [e])
  have hall := all_ref (n := S.length) (S := S ++ .lst (ds.map fun d => .bl (eqnB d)) :: G1) (xs := ds) (q := eqnB) (by simp)
  by_cases ha : ds.all eqnB = true
  rotate_left
  · have hb : bookB (.tup ds) = false := bookB_no fun ⟨es, h1, h2⟩ => by
      injection h1 with h1
      refine ha (List.all_eq_true.mpr fun x hx => ?_)
      rw [h1] at hx
      obtain ⟨e, he, rfl⟩ := List.mem_map.mp hx
      exact eqnB_ent (h2.eqn e he)
    rw [hb]
    have ha' : ds.all eqnB = false := by simpa using ha
    rw [ha'] at hall
    refine ⟨.lst (ds.map fun d => .bl (eqnB d)) :: G1, ?_⟩
    simp only [List.nil_append] at hlc
    simp [c_MOST_EQUATIONS, h8, h8', wipe, hlc, hall]
  rw [ha] at hall
  obtain ⟨es, rfl, hes⟩ := eqns_of ha
  simp only [List.nil_append] at hlc
  let T : Store := S ++ .lst ((es.map ent).map fun d => .bl (eqnB d)) :: G1
  have hlc2 := lcL_map (chk := fun _ => True) (g := gTup [gName 2, gName 3]) (t := tYes) (e := eVar 2) (S := T) (ρ := [some (bookD es), none, none, none, none, none]) (fun d => match d with | .tup [a, _] => a | _ => .non) (es.map ent) [] (by rw [LINE_eq]; simp at h8 ⊢; omega) (fun _ => trivial) (fun x hx acc => by
    obtain ⟨e, _, rfl⟩ := List.mem_map.mp hx
    exact ⟨_, by simp [ent]; rfl, rfl, by simp [ent]⟩)
  have hn : (es.map ent).map (fun d => match d with | D.tup [a, _] => a | _ => D.non) = (es.map (·.1)).map .str := by simp [ent, Function.comp_def]
  rw [hn, List.nil_append] at hlc2
  have hT : (T ++ [.lst ((es.map (·.1)).map .str)])[T.length]? = some (.lst ((es.map (·.1)).map .str)) := by simp
  have h8l : es.length ≤ 8 := by simpa using h8
  have hset := lset_of hT (by simp; omega)
  obtain ⟨G3, p2, p3, p5, hfor⟩ := book_loop (d0 := bookD es) none es none none none _ hT hes
  by_cases hnd : (es.map (·.1)).Nodup
  rotate_left
  · have hb : bookB (bookD es) = false := by
      cases c : bookB (bookD es) with
      | false => rfl
      | true => exact absurd (bookB_of.mp c).nd hnd
    have hlt := (sortU_nd (es.map (·.1))).mpr hnd
    rw [hb]
    refine ⟨.lst ((es.map ent).map fun d => .bl (eqnB d)) :: (G1 ++ [.lst ((es.map (·.1)).map .str)]), ?_⟩
    simp only [T] at hlc2 hset
    simp [-o_addr] at hlc2 hset hlt hlc hall
    simp [c_MOST_EQUATIONS, h8l, show ¬ (8 : Int) < es.length by omega, wipe, hlc, hall, hlc2, hset, hlt]
  have hlt : ¬ (sortU (es.map (·.1))).length < es.length := fun h => (sortU_nd _).mp (by simpa using h) hnd
  by_cases hm : ∀ e ∈ es, ∀ s ∈ e.2.rows, s ∈ es.map (·.1)
  · have hb : bookB (bookD es) = true := bookB_of.mpr ⟨h8l, hes, hnd, hm⟩
    rw [if_pos hm] at hfor
    rw [hb]
    refine ⟨.lst ((es.map ent).map fun d => .bl (eqnB d)) :: (G1 ++ .lst ((es.map (·.1)).map .str) :: G3), ?_⟩
    simp only [T] at hlc2 hset hfor
    simp [-o_addr] at hlc2 hset hlc hall hfor
    simp [c_MOST_EQUATIONS, h8l, show ¬ (8 : Int) < es.length by omega, wipe, hlc, hall, hlc2, hset, hlt, hfor]
  · have hb : bookB (bookD es) = false := by
      cases c : bookB (bookD es) with
      | false => rfl
      | true => exact absurd (bookB_of.mp c).met hm
    rw [if_neg hm] at hfor
    rw [hb]
    refine ⟨.lst ((es.map ent).map fun d => .bl (eqnB d)) :: (G1 ++ .lst ((es.map (·.1)).map .str) :: G3), ?_⟩
    simp only [T] at hlc2 hset hfor
    simp [-o_addr] at hlc2 hset hlc hall hfor
    simp [c_MOST_EQUATIONS, h8l, show ¬ (8 : Int) < es.length by omega, wipe, hlc, hall, hlc2, hset, hlt, hfor]
end Z
namespace Z
/-! ### drawn names: none begins with zy -/
theorem strs_inj9 : ∀ {a b : List (List Nat)}, a.map D.str = b.map D.str → a = b
  | [], [], _ => rfl
  | [], _ :: _, h => by cases h
  | _ :: _, [], h => by cases h
  | x :: a, y :: b, h => by
    rw [List.map_cons, List.map_cons] at h
    injection h with h1 h2
    injection h1 with h1
    rw [h1, strs_inj9 h2]
theorem tail_mem {S1 S' : Store} {l t : Nat} {names ns : List (List Nat)} (q5 : addD (.ref S1.length) (.ref (S1.length + 1)) (S1 ++ [.lst ((ns.map .str).drop t), .lst ((ns.map .str).take t)]) = some (.ok (.ref l) S')) (g : S'[l]? = some (.lst (names.map .str))) (h8 : ns.length = 8) : ∀ s ∈ names, s ∈ ns := by
  have a1 : (S1 ++ [MO.lst ((ns.map D.str).drop t), .lst ((ns.map .str).take t)])[S1.length]? = some (.lst ((ns.drop t).map .str)) := by simp [List.map_drop]
  have a2 : (S1 ++ [MO.lst ((ns.map D.str).drop t), .lst ((ns.map .str).take t)])[S1.length + 1]? = some (.lst ((ns.take t).map .str)) := by simp [List.map_take]
  have := add_lists a1 a2 (by simp; omega)
  rw [this] at q5
  cases q5
  have g2 : (some (MO.lst ((ns.drop t ++ ns.take t).map .str))) = some (.lst (names.map .str)) := by rw [← g]; simp
  injection g2 with g2
  injection g2 with g2
  have g3 : ns.drop t ++ ns.take t = names := strs_inj9 g2
  intro s hs
  rw [← g3] at hs
  rcases List.mem_append.mp hs with h | h
  · exact List.mem_of_mem_drop h
  · exact List.mem_of_mem_take h
abbrev cnW : List (List Nat) := [[114, 111, 119], [115, 105, 103, 110], [122, 105], [122, 105, 112, 112], [98, 101, 104, 105, 110], [114, 101, 97, 100, 121], [111, 110, 101], [98]]
theorem s_law_names_v2z {S : Store} {p c : Nat} (hs : Sp S p c) : ∃ (l : Nat) (names : List (List Nat)) (S' : Store), R_law_names_v2 [.ref p] S = some (.ok (.ref l) S') ∧ Drawn S' p c l names ∧ Sp S' p c ∧ Fr p c S S' ∧ ∀ s ∈ names, s.head? ≠ some 122 ∨ s ∈ cnW := by
  obtain ⟨v, a, S1, e1, at1, ha, hs1, hl1, f1⟩ := draw_of (xs := az0) hs (by decide) (by decide)
  obtain ⟨w, o2, S2, hfor, hw, hs2, hl2, f2⟩ := letters_loop2 (A := lb_law_names_v2_1 R_law_drop) (p := p) (c := c) (tl := [none, none]) (fun S w x hs hw => by
    obtain ⟨v, k, S', e, hat, hk, g1, g2, g3⟩ := draw_of (xs := az) hs (by decide) (by decide)
    refine ⟨k, S', ?_, hk, g1, g2, g3⟩
    have hL : w.length + 1 ≤ LINE := by rw [LINE_eq]; omega
    simp at e
    simp [lb_law_names_v2_1, e, hat, hL]) (S := S1) (w := [a]) ⟨rfl, fun k hk => by simp at hk; subst hk; exact az0_az _ ha, a, [], rfl, ha⟩ hs1
  have hwL : w.length ≤ LINE := by rw [LINE_eq, hw.len]; decide
  have hlc := lcL_map (chk := fun _ => True) (g := gName 2) (t := tYes) (e := eSl (eVar 1) none (some (e2 addD (eVar 2) (eC (.int 1))))) (S := S2) (ρ := [some (.ref p), some (.str w), none, none, none]) (fun x => match x with | .int k => .str (w.take (k.toNat + 1)) | _ => .non) ((List.range 8).map fun (k : Nat) => .int k) [] (by rw [LINE_eq]; decide) (fun _ => trivial) (fun x hx acc => by
    obtain ⟨k, hk, rfl⟩ := List.mem_map.mp hx
    refine ⟨_, rfl, rfl, ?_⟩
    have : cut w none (some ((k : Int) + 1)) = w.take (k + 1) := by rw [show (k : Int) + 1 = ((k + 1 : Nat) : Int) by omega, cut_take]
    simp [slD, hwL, this])
  have en : ((List.range 8).map fun (k : Nat) => D.int k).map (fun x => match x with | D.int k => D.str (w.take (k.toNat + 1)) | _ => D.non) = ((List.range 8).map fun k => w.take (k + 1)).map .str := by simp
  rw [List.nil_append, en] at hlc
  obtain ⟨y, S3, e3, hy, hs3, hl3, f3⟩ := drop_nat (S := S2 ++ [.lst (((List.range 8).map fun k => w.take (k + 1)).map .str)]) hs2.app 4 (by decide) (by decide)
  have hlt := hs.lt
  have f23 : Fr p c S S3 := ((f1.trans f2).trans .app).trans f3
  have hS3 : S2.length < S3.length := by rw [hl3]; simp
  have hrN : S3[S2.length]? = some (.lst (((List.range 8).map fun k => w.take (k + 1)).map .str)) := by
    rw [f3.old S2.length (by simp) (by omega) (by omega)]; simp
  have at1' : atI ([97, 99, 100, 101, 102, 103, 104, 105, 106, 107, 108, 109, 110, 111, 112, 113, 114, 115, 116, 117, 118, 119, 120, 121] : List Nat) (v : Int) = some a := at1
  simp at e1 e3 hlc
  by_cases y3 : y = 3
  · let cn : List (List Nat) := [[114, 111, 119], [115, 105, 103, 110], [122, 105], [122, 105, 112, 112], [98, 101, 104, 105, 110], [114, 101, 97, 100, 121], [111, 110, 101], [98]]
    have hcn : ∀ s ∈ cn, IsNm s := by
      intro s hs
      simp only [cn, List.mem_cons, List.not_mem_nil, or_false] at hs
      rcases hs with rfl | rfl | rfl | rfl | rfl | rfl | rfl | rfl <;> exact ⟨by decide, by decide, by decide, by decide, by decide⟩
    obtain ⟨t, l, names, T1, S', q1, q2, q3, q4, q5, q6, q7, q8⟩ := names_tail (S := S3 ++ [.lst (cn.map .str)]) (r := S3.length) (ns := cn) (by simp) (by omega) (by omega) rfl hcn (by decide) hs3.app
    have hmem := tail_mem q5 q6.nm.at' rfl
    refine ⟨l, names, S', ?_, q6, q7, (f23.trans .app).trans q8, fun s hs => .inr (hmem s hs)⟩
    subst y3
    simp [cn] at q1
    unfold R_law_names_v2
    rw [run_eq (n := 1) _ _ rfl]
    unfold b_law_names_v2
    simp at e3
    simp [e1, at1', hfor, wipe, hlc, e3, q1, q3, q4, q5]
  · have y3' : ¬ (y : Int) = 3 := by omega
    obtain ⟨t, l, names, T1, S', q1, q2, q3, q4, q5, q6, q7, q8⟩ := names_tail (S := S3) (r := S2.length) (ns := (List.range 8).map fun k => w.take (k + 1)) hrN (by omega) (by omega) (by simp) (fun s hs' => by
      obtain ⟨k, hk, rfl⟩ := List.mem_map.mp hs'
      exact pre_name hw (List.mem_range.mp hk)) (nd_take hw.len) hs3
    have hmem := tail_mem q5 q6.nm.at' (by simp)
    refine ⟨l, names, S', ?_, q6, q7, f23.trans q8, fun s hs => .inl ?_⟩
    · simp [-o_addr] at q3 q4 q5
      unfold R_law_names_v2
      rw [run_eq (n := 1) _ _ rfl]
      unfold b_law_names_v2
      simp [-o_addr, e1, at1', hfor, wipe, hlc, e3, y3, y3', q1, q3, q4, q5]
    · obtain ⟨k, hk, rfl⟩ := List.mem_map.mp (hmem s hs)
      obtain ⟨b, r, rfl, hb⟩ := hw.hd
      rw [List.take_succ_cons, List.head?_cons]
      intro e
      injection e with e
      subst e
      revert hb
      decide
/-! ### telling -/
theorem s_make (S : Store) : eMake0 "Coming" R_Coming___init__ = eMake0 "Coming" R_Coming___init__ := rfl
theorem s_init (S : Store) : R_Coming___init__ [.ref S.length] (S ++ [.ins "Coming" []]) = some (.ok .non (S ++ [.ins "Coming" [("terms", .ref (S.length + 1))], .dk []])) := by
  unfold R_Coming___init__
  rw [run_eq (n := 1) _ _ rfl]
  unfold b_Coming___init__
  simp [putA]
theorem s_tell {es : Eqs} {S : Store} {r d : Nat} (cb : CB S r d es) (hl : es.length ≤ 8) (s : List Nat) (t : Tm) : R_Coming_tell [.ref r, .str s, t.d] S =
    if s ∈ es.map (·.1) then some (.ex "Told" S) else if es.length = 8 then some (.ex "TooBig" S) else some (.ok .non (S.set d (.dk ((es ++ [(s, t)]).map kvE)))) := by
  have g1 := cb.gr
  have g2 := cb.gd
  have hget := fget_look es s
  unfold R_Coming_tell
  rw [run_eq (n := 3) _ _ rfl]
  unfold b_Coming_tell
  by_cases hm : s ∈ es.map (·.1)
  · rw [if_pos hm]
    obtain ⟨u, hu⟩ := look_some hm
    rw [hu] at hget
    simp at hget
    simp [g1, g2, hget, k0]
  · rw [if_neg hm]
    rw [look_none.mpr hm] at hget
    simp at hget
    by_cases h8 : es.length = 8
    · rw [if_pos h8]
      simp [g1, g2, hget, k0, h8, c_MOST_EQUATIONS]
    · rw [if_neg h8]
      have h8' : ¬ (8 : Int) ≤ es.length := by omega
      have h8'' : ¬ 8 ≤ es.length := by omega
      have hlm : es.length < 1000000 := by omega
      have hp := fput_new (es := es) (e := (s, t)) hm
      simp at hp
      simp [g1, g2, hget, k0, h8', h8'', c_MOST_EQUATIONS, hp, hlm]
def flg (a b c e : Bool) : MO := .lst [.bl a, .bl b, .bl c, .bl e]
theorem s_law_telling {es : Eqs} {S : Store} {r d : Nat} (cb : CB S r d es) (hl : es.length ≤ 8) (s : List Nat) (t : Tm) :
    R_law_telling [.ref r, .str s, t.d] S = if s ∈ es.map (·.1) then some (.ok (.tup [.int 0, .ref (S.length + 2)]) (S ++ [.lst [.bl false], flg false false false false, flg true false true false]))
      else if es.length = 8 then some (.ok (.tup [.int 0, .ref (S.length + 2)]) (S ++ [.lst [.bl false], flg false false false false, flg false true true false]))
      else some (.ok (.tup [.non, .ref (S.length + 1)]) ((S ++ [.lst [.bl false], flg false false false false]).set d (.dk ((es ++ [(s, t)]).map kvE)))) := by
  have ht := s_tell (cb.keep (S' := S ++ [.lst [.bl false], flg false false false false]) .app) hl s t
  have g1 := (cb.keep (S' := S ++ [.lst [.bl false], flg false false false false]) .app).gr
  unfold R_law_telling
  rw [run_eq (n := 3) _ _ rfl]
  unfold b_law_telling
  have pre : ∀ {m : SS}, sq (sAsg (eC (.int 0)) (gName 3)) (sq (sAsg (e2 mulD (eLst [eC (.bl false)]) (eC (.int 4))) (gName 4)) m) [some (.ref r), some (.str s), some t.d, none, none, none, none] S = m [some (.ref r), some (.str s), some t.d, some (.int 0), some (.ref (S.length + 1)), none, none] (S ++ [.lst [.bl false], flg false false false false]) := fun {m} => by
    rw [sq_nx (ρ1 := [some (.ref r), some (.str s), some t.d, some (.int 0), none, none, none]) (S1 := S) (by simp)]
    exact sq_nx (by simp [flg])
  simp only [List.map_cons, List.map_nil, show (3 : Nat) + 4 = 7 from rfl, List.cons_append, List.nil_append]
  rw [show (List.replicate (7 - 3) none : Env) = [none, none, none, none] from rfl]
  rw [pre]
  simp only [flg] at ht g1 ⊢
  by_cases hm : s ∈ es.map (·.1)
  · rw [if_pos hm] at ht ⊢
    simp [g1, ht, pickH, unI]
  · rw [if_neg hm] at ht ⊢
    by_cases h8 : es.length = 8
    · rw [if_pos h8] at ht ⊢
      simp [g1, ht, pickH, unI]
    · rw [if_neg h8] at ht ⊢
      simp [g1, ht, pickH, unI]
end Z
namespace Z
/-! ### the law -/
theorem dat_flg {S : Store} {n : Nat} {a b c e : Bool} (g : S[n]? = some (flg a b c e)) : dat S (.ref n) = some (.lst [.bl a, .bl b, .bl c, .bl e]) := by
  unfold dat
  rw [D.pd, rdR, g]
  rfl
theorem ne_flg {S : Store} {n m : Nat} {a b c e : Bool} (g : S[n]? = some (flg a b c e)) (g' : S[m]? = some (flg a b c e)) : neD (.ref n) (.ref m) S = some (.ok (.bl false) S) := by
  have h : neD (.ref n) (.ref m) S = some (.ok (.bl (!(PD.lst [.bl a, .bl b, .bl c, .bl e]).eqv (.lst [.bl a, .bl b, .bl c, .bl e]))) S) := by
    unfold neD
    rw [dat_flg g, dat_flg g']
    dsimp only
    rw [if_pos ⟨by simp [PD.dep, depL], by simp [PD.dep, depL]⟩]
  rw [PD.eqv_refl] at h
  exact h
def wrP : Option Wr → PD
  | none => .tup [.str wFree]
  | some (.sign i) => .tup [.str wSign, .int (i : Nat)]
  | some (.waits s) => .tup [.str wWaits, .str s]
theorem dat_wr (o : Option Wr) (S : Store) : dat S (wrD o) = some (wrP o) := by
  unfold dat
  match o with
  | none => rfl
  | some (.sign i) => rfl
  | some (.waits s) => rfl
theorem eq_wr (o : Option Wr) (S : Store) : eqD (wrD o) (wrD o) S = some (.ok (.bl true) S) := by
  unfold eqD
  rw [dat_wr]
  dsimp only
  rw [if_pos (by
    match o with
    | none => simp [wrP, PD.dep, depL]
    | some (.sign i) => simp [wrP, PD.dep, depL]
    | some (.waits s) => simp [wrP, PD.dep, depL]), PD.eqv_refl]
theorem s_law_same2 (o : Option Wr) (S : Store) : R_law_same_v2 [wrD o, wrD o] S = some (.ok (.bl true) S) := by
  have h := eq_wr o S
  unfold R_law_same_v2
  rw [run_eq (n := 2) _ _ rfl]
  unfold b_law_same_v2
  match o with
  | none => simp [wrD] at h; simp [wrD, atI, ixN, h]
  | some (.sign i) => simp [wrD] at h; simp [wrD, atI, ixN, h]
  | some (.waits s) => simp [wrD] at h; simp [wrD, atI, ixN, h]
structure LI (S : Store) (p c l r d dt : Nat) (names : List (List Nat)) (es : Eqs) : Prop where
  sp : Sp S p c
  nm : Nm S p c l names
  cb : CB S r d es
  gt : S[dt]? = some (.dk (es.map kvE))
  ne : d ≠ dt
theorem sp_lst {S : Store} {p c : Nat} (h : Sp S p c) : (∃ xs, S[p]? = some (.lst xs)) ∧ ∃ xs, S[c]? = some (.lst xs) := by
  obtain ⟨s, h⟩ := h
  exact ⟨⟨_, h.hp⟩, ⟨_, h.hc⟩⟩
theorem LI.fr {S S' : Store} {p c l r d dt : Nat} {names : List (List Nat)} {es : Eqs} (h : LI S p c l r d dt names es) (f : Fr p c S S') (s : Sp S' p c) : LI S' p c l r d dt names es := by
  obtain ⟨⟨xs, hp⟩, ⟨ys, hc⟩⟩ := sp_lst h.sp
  have nl : ∀ {i : Nat} {o : MO}, S[i]? = some o → (∀ zs, o ≠ .lst zs) → S'[i]? = some o := fun {i o} g hn => by
    rw [f.old i (List.getElem?_eq_some_iff.mp g).1 (fun e => by subst e; rw [hp] at g; cases g; exact hn _ rfl) (fun e => by subst e; rw [hc] at g; cases g; exact hn _ rfl)]
    exact g
  exact ⟨s, h.nm.fr f, ⟨nl h.cb.gr (fun _ e => by cases e), nl h.cb.gd (fun _ e => by cases e)⟩, nl h.gt (fun _ e => by cases e), h.ne⟩
theorem keep_fr {p c : Nat} {S S' : Store} (k : Keep S S') : Fr p c S S' := ⟨k.1, fun i h _ _ => k.2 i h⟩
theorem keep_sp2 {S S' : Store} {p c : Nat} (hs : Sp S p c) (k : Keep S S') : Sp S' p c := by
  obtain ⟨x, h1⟩ := hs
  have h2 := h1.lt
  exact ⟨x, ⟨h1.ne, by rw [k.2 p h2.1]; exact h1.hp, by rw [k.2 c h2.2]; exact h1.hc, h1.ok⟩⟩
theorem LI.keep {S S' : Store} {p c l r d dt : Nat} {names : List (List Nat)} {es : Eqs} (h : LI S p c l r d dt names es) (k : Keep S S') : LI S' p c l r d dt names es := h.fr (keep_fr k) (keep_sp2 h.sp k)
/-- terms in both dicts -/
theorem LI.tell {S : Store} {p c l r d dt : Nat} {names : List (List Nat)} {es fs : Eqs} (h : LI S p c l r d dt names es) : LI ((S.set d (.dk (fs.map kvE))).set dt (.dk (fs.map kvE))) p c l r d dt names fs := by
  have hd := (List.getElem?_eq_some_iff.mp h.cb.gd).1
  have ht := (List.getElem?_eq_some_iff.mp h.gt).1
  obtain ⟨⟨xs, hp⟩, ⟨ys, hc⟩⟩ := sp_lst h.sp
  have nd : ∀ {i : Nat} {o : MO}, S[i]? = some o → (∀ zs, o ≠ .dk zs) → ((S.set d (.dk (fs.map kvE))).set dt (.dk (fs.map kvE)))[i]? = some o := fun {i o} g hn => by
    rw [List.getElem?_set_ne (fun e => by subst e; rw [h.gt] at g; cases g; exact hn _ rfl), List.getElem?_set_ne (fun e => by subst e; rw [h.cb.gd] at g; cases g; exact hn _ rfl)]
    exact g
  refine ⟨?_, ⟨nd h.nm.at' (fun _ e => by cases e), h.nm.np, h.nm.nc, h.nm.pos, h.nm.few⟩, ⟨nd h.cb.gr (fun _ e => by cases e), ?_⟩, ?_, h.ne⟩
  · obtain ⟨x, h1⟩ := h.sp
    exact ⟨x, ⟨h1.ne, nd h1.hp (fun _ e => by cases e), nd h1.hc (fun _ e => by cases e), h1.ok⟩⟩
  · rw [List.getElem?_set_ne (Ne.symm h.ne), List.getElem?_set_self hd]
  · rw [List.getElem?_set_self (by simpa using ht)]
structure Nok (names : List (List Nat)) : Prop where
  nm : ∀ s ∈ names, IsNm s
  len : names.length = 11
  many : ∀ es : Eqs, (es.map (·.1)).Nodup → es.length ≤ 8 → ∃ s ∈ names, s ∉ es.map (·.1)
structure Tk (names : List (List Nat)) (es : Eqs) : Prop where
  tb : Tb es
  nm : ∀ e ∈ es, e.1 ∈ names
abbrev eL (p l r dt : Nat) (o0 o5 o6 o7 o8 o9 o10 : Option D) : Env := [o0, some (.ref p), some (.ref l), some (.ref r), some (.ref dt), o5, o6, o7, o8, o9, o10]
section
variable {S : Store} {p c l r d dt : Nat} {names : List (List Nat)} {es : Eqs} {o0 o5 o6 o7 o8 o9 o10 : Option D}
theorem left_lc {S : Store} {dt l : Nat} {names : List (List Nat)} {es : Eqs} {ρ : Env} (gt : S[dt]? = some (.dk (es.map kvE))) (gl : S[l]? = some (.lst (names.map .str))) (h7 : 7 < ρ.length) (h4 : ρ[4]? = some (some (.ref dt))) (hn : names.length ≤ 100) :
    lcL (fun S => S[l]? = some (.lst (names.map .str))) (gName 7) (tVal (e2 fNi (eVar 7) (eVar 4))) (eVar 7) S.length (names.map .str) ρ (S ++ [.lst []]) = some (.ok (.ref S.length) (S ++ [.lst ((names.filter fun s => !(look es s).isSome).map .str)])) := by
  have hlc := lcL_filter (chk := fun S => S[l]? = some (.lst (names.map .str))) (g := gName 7) (t := tVal (e2 fNi (eVar 7) (eVar 4))) (e := eVar 7) (S := S) (ρ := ρ) (fun d => match d with | .str s => !(look es s).isSome | _ => false) id (names.map .str) [] (by rw [LINE_eq]; simp; omega) (fun acc => get_app gl _) (fun x hx acc => by
    obtain ⟨s, _, rfl⟩ := List.mem_map.mp hx
    have e7 : (ρ.set 7 (some (D.str s)))[7]? = some (some (.str s)) := List.getElem?_set_self h7
    have e4 : (ρ.set 7 (some (D.str s)))[4]? = some (some (.ref dt)) := by rw [List.getElem?_set_ne (by decide)]; exact h4
    have g1 : (S ++ [MO.lst acc])[dt]? = some (.dk (es.map kvE)) := get_app gt _
    refine ⟨ρ.set 7 (some (.str s)), by simp [gName, h7], ?_, fun _ => by simp [e7]⟩
    have hget := fget_look es s
    simp [e7, e4, g1, hget, k0])
  have e1 : ((names.map D.str).filter (fun d => match d with | .str s => !(look es s).isSome | _ => false)).map id = (names.filter fun s => !(look es s).isSome).map .str := by
    rw [List.map_id, List.filter_map]
    rfl
  rw [e1, List.nil_append] at hlc
  exact hlc
theorem step70 (hN : Nok names) (h : LI S p c l r d dt names es) (hT : Tk names es) : ∃ o6' o7' o8' o9' o10' es' S', lb_law_v43_1 R_law_drop (R_law_term 24) R_law_telling (eL p l r dt o0 o5 o6 o7 o8 o9 o10) S = some (.nx (eL p l r dt o0 o5 o6' o7' o8' o9' o10') S') ∧ LI S' p c l r d dt names es' ∧ Tk names es' := by
  have hlc := left_lc (ρ := eL p l r dt o0 o5 o6 none o8 o9 o10) h.gt h.nm.at' (by simp) rfl h.nm.few
  obtain ⟨S1, hS1⟩ : ∃ S1, S1 = S ++ [MO.lst ((names.filter fun s => !(look es s).isSome).map .str)] := ⟨_, rfl⟩
  rw [← hS1] at hlc
  have g1 : S1[S.length]? = some (.lst ((names.filter fun s => !(look es s).isSome).map .str)) := by rw [hS1]; simp
  have h1 : LI S1 p c l r d dt names es := by rw [hS1]; exact h.keep .app
  have hgl := h.nm.at'
  have hlt := h.sp.lt
  have st1 : sAsg (eLc (iAny (eVar 2)) (gName 7) (tVal (e2 fNi (eVar 7) (eVar 4))) (eVar 7) [7]) (gName 6) (eL p l r dt o0 o5 o6 o7 o8 o9 o10) S = some (.nx (eL p l r dt o0 o5 (some (.ref S.length)) o7 o8 o9 o10) S1) := by
    simp [hgl, wipe, hlc]
  -- the name
  obtain ⟨v, S2, q2, hv, s2, l2, f2⟩ := drop_nat h1.sp 11 (by decide) (by decide)
  have h2 := h1.fr f2 s2
  have g2 : S2[S.length]? = some (.lst ((names.filter fun s => !(look es s).isSome).map .str)) := by
    rw [f2.old _ (List.getElem?_eq_some_iff.mp g1).1 (by omega) (by omega)]; exact g1
  obtain ⟨nm0, hnm0⟩ : ∃ x, names[v]? = some x := ⟨_, List.getElem?_eq_getElem (by rw [hN.len]; exact hv)⟩
  have hat0 : atI (names.map D.str) (v : Int) = some (.str nm0) := atI_nat (by rw [List.getElem?_map, hnm0]; rfl)
  have hgl2 := h2.nm.at'
  have st2 : sAsg (e2 ixD (eVar 2) (eCall R_law_drop [eVar 1, eC (.int 11)])) (gName 7) (eL p l r dt o0 o5 (some (.ref S.length)) o7 o8 o9 o10) S1 = some (.nx (eL p l r dt o0 o5 (some (.ref S.length)) (some (.str nm0)) o8 o9 o10) S2) := by
    simp at q2
    simp [q2, hgl2, hat0]
  obtain ⟨w, S3, q3, hw, s3, l3, f3⟩ := drop_nat s2 5 (by decide) (by decide)
  have h3 := h2.fr f3 s3
  have g3 : S3[S.length]? = some (.lst ((names.filter fun s => !(look es s).isSome).map .str)) := by
    rw [f3.old _ (List.getElem?_eq_some_iff.mp g2).1 (by omega) (by omega)]; exact g2
  obtain ⟨s, S4, st3, hs, h4⟩ : ∃ s S4, sIf (tVal (e2 gtD (eCall R_law_drop [eVar 1, eC (.int 5)]) (eC (.int 0)))) (sAsg (e2 ixD (eVar 6) (eCall R_law_drop [eVar 1, eCall lenF [eVar 6]])) (gName 7)) (sNx) (eL p l r dt o0 o5 (some (.ref S.length)) (some (.str nm0)) o8 o9 o10) S2 = some (.nx (eL p l r dt o0 o5 (some (.ref S.length)) (some (.str s)) o8 o9 o10) S4) ∧ s ∈ names ∧ LI S4 p c l r d dt names es := by
    simp at q3
    by_cases hw0 : w = 0
    · subst hw0
      exact ⟨nm0, S3, by simp [q3], List.mem_of_getElem? hnm0, h3⟩
    · have hw1 : (0 : Int) < w := by omega
      have hw2 : 0 < w := by omega
      obtain ⟨s0, hs0, hs1⟩ := hN.many es hT.tb.nd hT.tb.few
      have hmem : s0 ∈ names.filter fun s => !(look es s).isSome := List.mem_filter.mpr ⟨hs0, by rw [look_none.mpr hs1]; rfl⟩
      have hpos := List.length_pos_of_mem hmem
      have hle : (names.filter fun s => !(look es s).isSome).length ≤ 11 := by rw [← hN.len]; exact List.length_filter_le _ _
      generalize hfl : names.filter (fun s => !(look es s).isSome) = left at *
      obtain ⟨u, S4, q4, hu, s4, l4, f4⟩ := drop_nat s3 left.length hpos (by omega)
      have g4 : S4[S.length]? = some (.lst (left.map .str)) := by
        rw [f4.old _ (List.getElem?_eq_some_iff.mp g3).1 (by omega) (by omega)]; exact g3
      obtain ⟨s, hs⟩ : ∃ x, left[u]? = some x := ⟨_, List.getElem?_eq_getElem hu⟩
      have hat : atI (left.map D.str) (u : Int) = some (.str s) := atI_nat (by rw [List.getElem?_map, hs]; rfl)
      have hsn : s ∈ names := by
        have := List.mem_of_getElem? hs
        rw [← hfl] at this
        exact (List.mem_filter.mp this).1
      exact ⟨s, S4, by simp [q3, hw1, hw2, g3, q4, g4, hat], hsn, h3.fr f4 s4⟩
  -- the term
  obtain ⟨x, S5, q5, hx, s5, l5, f5⟩ := drop_nat h4.sp 4 (by decide) (by decide)
  have h5 := h4.fr f5 s5
  obtain ⟨t, S6, q6, ht1, ht2, s6, f6⟩ := s_law_term 23 (1 + x) S5 (by omega) h5.nm s5
  have h6 := h5.fr f6 s6
  have st4 : sAsg (eCall (R_law_term 24) [eVar 1, eVar 2, e2 addD (eC (.int 1)) (eCall R_law_drop [eVar 1, eC (.int 4)])]) (gName 8) (eL p l r dt o0 o5 (some (.ref S.length)) (some (.str s)) o8 o9 o10) S4 = some (.nx (eL p l r dt o0 o5 (some (.ref S.length)) (some (.str s)) (some t.d) o9 o10) S6) := by
    simp at q5 q6
    simp [q5, q6]
  have htell := s_law_telling h6.cb hT.tb.few s t
  have hfew := hT.tb.few
  unfold lb_law_v43_1
  rw [sq_nx st1, sq_nx st2, sq_nx st3, sq_nx st4]
  have hgt6 := h6.gt
  have hget := fget_look es s
  have last : ∀ (S7 : Store) (a b : Bool) (k : Nat), Keep S6 S7 → S7[k]? = some (flg a b true false) → ∃ S8, LI S8 p c l r d dt names es ∧ S8 = S7 ++ [flg a b true false] ∧ neD (.ref k) (.ref S7.length) S8 = some (.ok (.bl false) S8) := fun S7 a b k k7 g => by
    refine ⟨S7 ++ [flg a b true false], (h6.keep k7).keep .app, rfl, ne_flg (get_app g _) (by simp)⟩
  by_cases hm : s ∈ es.map (·.1)
  · rw [if_pos hm] at htell
    obtain ⟨u, hu⟩ := look_some hm
    rw [hu] at hget
    simp at hget
    obtain ⟨S8, i8, e8, n8⟩ := last (S6 ++ [.lst [.bl false], flg false false false false, flg true false true false]) true false (S6.length + 2) .app (by simp)
    refine ⟨some (.ref S.length), some (.str s), some t.d, some (.int 0), some (.ref (S6.length + 2)), es, S8, ?_, i8, hT⟩
    obtain ⟨S7, hS7⟩ : ∃ S7, S7 = S6 ++ [MO.lst [.bl false], flg false false false false, flg true false true false] := ⟨_, rfl⟩
    have hgt7 : S7[dt]? = some (.dk (es.map kvE)) := by rw [hS7]; exact get_app hgt6 _
    rw [← hS7] at htell e8 n8
    rw [sq_nx (ρ1 := eL p l r dt o0 o5 (some (.ref S.length)) (some (.str s)) (some t.d) (some (.int 0)) (some (.ref (S6.length + 2)))) (S1 := S7) (by simp [htell])]
    simp only [flg] at e8
    simp [hgt7, hget, k0, ← e8, n8]
  · rw [if_neg hm] at htell
    rw [look_none.mpr hm] at hget
    simp at hget
    by_cases h8 : es.length = 8
    · rw [if_pos h8] at htell
      obtain ⟨S8, i8, e8, n8⟩ := last (S6 ++ [.lst [.bl false], flg false false false false, flg false true true false]) false true (S6.length + 2) .app (by simp)
      refine ⟨some (.ref S.length), some (.str s), some t.d, some (.int 0), some (.ref (S6.length + 2)), es, S8, ?_, i8, hT⟩
      obtain ⟨S7, hS7⟩ : ∃ S7, S7 = S6 ++ [MO.lst [.bl false], flg false false false false, flg false true true false] := ⟨_, rfl⟩
      have hgt7 : S7[dt]? = some (.dk (es.map kvE)) := by rw [hS7]; exact get_app hgt6 _
      rw [← hS7] at htell e8 n8
      rw [sq_nx (ρ1 := eL p l r dt o0 o5 (some (.ref S.length)) (some (.str s)) (some t.d) (some (.int 0)) (some (.ref (S6.length + 2)))) (S1 := S7) (by simp [htell])]
      simp only [flg] at e8
      simp [hgt7, hget, k0, h8, ← e8, n8]
    · rw [if_neg h8] at htell
      obtain ⟨T, hT0⟩ : ∃ T, T = S6 ++ [MO.lst [.bl false], flg false false false false] := ⟨_, rfl⟩
      have iT : LI T p c l r d dt names es := by rw [hT0]; exact h6.keep .app
      have hTl : T.length = S6.length + 2 := by rw [hT0]; simp
      have gT : T[S6.length + 1]? = some (flg false false false false) := by rw [hT0]; simp
      rw [← hT0] at htell
      have hd := (List.getElem?_eq_some_iff.mp iT.cb.gd).1
      obtain ⟨S7, hS7⟩ : ∃ S7, S7 = T.set d (.dk ((es ++ [(s, t)]).map kvE)) := ⟨_, rfl⟩
      rw [← hS7] at htell
      have hgt7 : S7[dt]? = some (.dk (es.map kvE)) := by rw [hS7, List.getElem?_set_ne iT.ne]; exact iT.gt
      have g7 : S7[S6.length + 1]? = some (flg false false false false) := by
        rw [hS7, List.getElem?_set_ne (fun e => by have := iT.cb.gd; rw [e, gT] at this; cases this)]; exact gT
      have hp := fput_new (es := es) (e := (s, t)) hm
      have n8 := ne_flg (S := S7 ++ [.lst [.bl false], flg false false false false]) (n := S6.length + 1) (m := S7.length + 1) (get_app g7 _) (by simp)
      have iT2 : LI (T ++ [.lst [.bl false], flg false false false false]) p c l r d dt names es := iT.keep .app
      have hS7a : S7 ++ [.lst [.bl false], flg false false false false] = (T ++ [.lst [.bl false], flg false false false false]).set d (.dk ((es ++ [(s, t)]).map kvE)) := by
        rw [hS7, List.set_append_left _ _ hd]
      have htb : Tb (es ++ [(s, t)]) := ⟨by
        rw [List.map_append, List.nodup_append]
        refine ⟨hT.tb.nd, by simp, fun a ha b hb => ?_⟩
        simp at hb
        subst hb
        exact fun e => hm (e ▸ ha), fun e he => by
        rcases List.mem_append.mp he with he | he
        · exact hT.tb.dep e he
        · simp at he
          subst he
          dsimp only
          omega, by simp; omega⟩
      refine ⟨some (.ref S.length), some (.str s), some t.d, some .non, some (.ref (S6.length + 1)), es ++ [(s, t)], (S7 ++ [.lst [.bl false], flg false false false false]).set dt (.dk ((es ++ [(s, t)]).map kvE)), ?_, by rw [hS7a]; exact iT2.tell, htb, fun e he => ?_⟩
      rotate_left
      · rcases List.mem_append.mp he with he | he
        · exact hT.nm e he
        · simp at he
          subst he
          exact hs
      have hgt8 : (S7 ++ [MO.lst [.bl false], flg false false false false])[dt]? = some (.dk (es.map kvE)) := get_app hgt7 _
      have hlm : es.length < 1000000 := by omega
      have h8' : ¬ (es.length : Int) = 8 := by omega
      rw [sq_nx (ρ1 := eL p l r dt o0 o5 (some (.ref S.length)) (some (.str s)) (some t.d) (some .non) (some (.ref (S6.length + 1)))) (S1 := S7) (by simp [htell])]
      simp only [flg] at n8 hgt8 hgt7 ⊢
      generalize hS8 : S7 ++ [MO.lst [D.bl false], MO.lst [D.bl false, D.bl false, D.bl false, D.bl false]] = S8 at *
      simp only [List.map_append] at hp
      simp [hgt7, hget, k0, h8, h8', hlm, n8, hgt8, hp, isntD, isD, isNonB, hS8]
end
section
variable {p c l r d dt : Nat} {names : List (List Nat)} {es : Eqs} {o0 o5 o6 o8 o9 o10 : Option D}
theorem az_lt : ∀ k ∈ az, k < 128 := by decide
theorem kOk_es (hN : Nok names) (hT : Tk names es) : ((es.map kvE).all fun p => kOk p.1) = true := by
  refine List.all_eq_true.mpr fun q hq => ?_
  obtain ⟨e, he, rfl⟩ := List.mem_map.mp hq
  refine List.all_eq_true.mpr fun k hk => decide_eq_true ?_
  exact az_lt k ((hN.nm _ (hT.nm e he)).az k hk)
theorem look_loop (hT : Tk names es) {S : Store} (cb : CB S r d es) (gt : S[dt]? = some (.dkl (es.map kvE))) (o7 : Option D) :
    ∃ o7' S', forL (fun S => S[dt]? = some (.dkl (es.map kvE))) (gName 7) (lb_law_v43_2 R_law_same_v2 R_Coming_sign R_law_walked) ((es.map kvE).map (·.1)) (eL p l r dt o0 o5 o6 o7 o8 o9 o10) S = some (.nx (eL p l r dt o0 o5 o6 o7' o8 o9 o10) S') ∧ Keep S S' := by
  obtain ⟨ρ', S', h, ⟨o7', rfl⟩, k⟩ := forL_idx (chk := fun S => S[dt]? = some (.dkl (es.map kvE))) (g := gName 7) (b := lb_law_v43_2 R_law_same_v2 R_Coming_sign R_law_walked) (fun _ ρ T => (∃ o7', ρ = eL p l r dt o0 o5 o6 o7' o8 o9 o10) ∧ Keep S T) (fun i ρ T j => j.2.get gt) ((es.map kvE).map (·.1)) 0 (fun i x hx ρ T ⟨⟨o7', hρ⟩, k⟩ => by
    subst hρ
    rw [List.map_map, List.getElem?_map] at hx
    obtain ⟨e, he, rfl⟩ := Option.map_eq_some_iff.mp hx
    have hm := List.mem_of_getElem? he
    have hs : e.1 ∈ es.map (·.1) := List.mem_map.mpr ⟨e, hm, rfl⟩
    obtain ⟨T1, e1', k1⟩ := s_sign hT.tb (cb.keep k) (n := 0) (by decide) hs
    have hfew := hT.tb.few
    obtain ⟨T2, e2', k2⟩ := s_law_walked hT.tb (S := T1) (d := dt) (.inr ((k.trans k1).get gt)) e.1 (n := 0) (by omega)
    have gr := (cb.keep k).gr
    have hsame := s_law_same2 (wres es (e.1, 0)) T2
    refine ⟨eL p l r dt o0 o5 o6 (some (.str e.1)) o8 o9 o10, T, rfl, eL p l r dt o0 o5 o6 (some (.str e.1)) o8 o9 o10, T2, .inl ?_, ⟨_, rfl⟩, (k.trans k1).trans k2⟩
    simp at e1' e2'
    simp [lb_law_v43_2, gr, e1', e2', hsame]) (eL p l r dt o0 o5 o6 o7 o8 o9 o10) S ⟨⟨o7, rfl⟩, .refl⟩
  exact ⟨o7', S', h, k⟩
theorem nok_of {l0 : Nat} {S : Store} {p c : Nat} {names0 : List (List Nat)} (hd : Drawn S p c l0 names0) (hz : ∀ s ∈ names0, s.head? ≠ some 122 ∨ s ∈ cnW) : Nok (names0 ++ [[122, 121], [122, 120], [122, 119, 122, 119, 122, 119, 122, 119]]) := by
  have hzy : ([122, 121] : List Nat) ∉ names0 := fun h => by
    rcases hz _ h with q | q
    · exact q rfl
    · revert q; decide
  refine ⟨fun s hs => ?_, by simp [hd.l8], fun es hn hl => ?_⟩
  · rcases List.mem_append.mp hs with hs | hs
    · exact hd.ok s hs
    · simp only [List.mem_cons, List.not_mem_nil, or_false] at hs
      rcases hs with rfl | rfl | rfl <;> exact ⟨by decide, by decide, by decide, by decide, by decide⟩
  · apply Classical.byContradiction
    intro hc
    have hall : ∀ s ∈ [122, 121] :: names0, s ∈ es.map (·.1) := fun s hs => by
      apply Classical.byContradiction
      intro q
      refine hc ⟨s, ?_, q⟩
      rcases List.mem_cons.mp hs with rfl | hs
      · simp
      · exact List.mem_append_left _ hs
    have := nd_le' (List.nodup_cons.mpr ⟨hzy, hd.nd⟩) hall
    rw [List.length_cons, hd.l8, List.length_map] at this
    omega
theorem s_law_v43 (ns : List Int) (hl : ns.length ≤ 63) : ∃ S', R_law_v43 [.fl (ns.map .int)] [] = some (.ok (.bl true) S') := by
  obtain ⟨S1, q1, h1, hl1, f1⟩ := s_law_spring ns []
  have hs1 : Sp S1 1 0 := ⟨_, h1⟩
  obtain ⟨l0, names0, S2, q2, hd, hs2, f2, hz⟩ := s_law_names_v2z hs1
  have hN := nok_of hd hz
  obtain ⟨names, hnames⟩ : ∃ names, names = names0 ++ [[122, 121], [122, 120], [122, 119, 122, 119, 122, 119, 122, 119]] := ⟨_, rfl⟩
  rw [← hnames] at hN
  obtain ⟨S3, hS3⟩ : ∃ S3, S3 = S2 ++ [MO.lst ([[122, 121], [122, 120], [122, 119, 122, 119, 122, 119, 122, 119]].map .str)] := ⟨_, rfl⟩
  have g3 : S3[S2.length]? = some (.lst ([[122, 121], [122, 120], [122, 119, 122, 119, 122, 119, 122, 119]].map .str)) := by rw [hS3]; simp
  have g30 : S3[l0]? = some (.lst (names0.map .str)) := by rw [hS3]; exact get_app hd.nm.at' _
  have had := add_lists g30 g3 (by rw [hd.l8]; decide)
  rw [← hnames] at had
  obtain ⟨S4, hS4⟩ : ∃ S4, S4 = S3 ++ [MO.lst (names.map .str)] := ⟨_, rfl⟩
  rw [← hS4] at had
  have g4 : S4[S3.length]? = some (.lst (names.map .str)) := by rw [hS4]; simp
  have hs4 : Sp S4 1 0 := by rw [hS4, hS3]; exact hs2.app.app
  have hlt := hs2.lt
  have h23 : S2.length ≤ S3.length := by rw [hS3]; simp
  have hn4 : Nm S4 1 0 S3.length names := ⟨g4, by omega, by omega, by rw [hN.len]; decide, by rw [hN.len]; decide⟩
  have hmk := s_init S4
  obtain ⟨S6, hS6⟩ : ∃ S6, S6 = S4 ++ [MO.ins "Coming" [("terms", .ref (S4.length + 1))], .dk [], .dk []] := ⟨_, rfl⟩
  have k6 : Keep S4 S6 := by rw [hS6]; exact .app
  have li : LI S6 1 0 S3.length S4.length (S4.length + 1) (S4.length + 2) names [] := ⟨keep_sp2 hs4 k6, hn4.fr (keep_fr k6), ⟨by rw [hS6]; simp, by rw [hS6]; simp⟩, by rw [hS6]; simp, by omega⟩
  obtain ⟨v, S7, q7, hv, hs7, l7, f7⟩ := drop_nat li.sp 5 (by decide) (by decide)
  have li7 := li.fr f7 hs7
  obtain ⟨ρ', S8, h8, ⟨o5, o6, o7, o8, o9, o10, es, rfl, li8, hT⟩⟩ := forL_range (g := gName 5) (b := lb_law_v43_1 R_law_drop (R_law_term 24) R_law_telling) (n := 12 + v) (fun k ρ T => ∃ o5 o6 o7 o8 o9 o10 es, ρ = eL 1 S3.length S4.length (S4.length + 2) (some (.fl (ns.map .int))) o5 o6 o7 o8 o9 o10 ∧ LI T 1 0 S3.length S4.length (S4.length + 1) (S4.length + 2) names es ∧ Tk names es) (by
    rintro k hk ρ T ⟨o5, o6, o7, o8, o9, o10, es, rfl, hI, hT⟩
    refine ⟨eL 1 S3.length S4.length (S4.length + 2) (some (.fl (ns.map .int))) (some (.int (k : Nat))) o6 o7 o8 o9 o10, T, rfl, ?_⟩
    obtain ⟨o6', o7', o8', o9', o10', es', T', e, i', t'⟩ := step70 hN hI hT (o0 := some (.fl (ns.map .int))) (o5 := some (.int (k : Nat))) (o6 := o6) (o7 := o7) (o8 := o8) (o9 := o9) (o10 := o10)
    exact ⟨_, T', .inl e, _, _, _, _, _, _, _, rfl, i', t'⟩) (eL 1 S3.length S4.length (S4.length + 2) (some (.fl (ns.map .int))) none none none none none none) S7 ⟨_, _, _, _, _, _, [], rfl, li7, ⟨⟨List.nodup_nil, fun e he => (nomatch he), by decide⟩, fun e he => (nomatch he)⟩⟩
  have hdt := (List.getElem?_eq_some_iff.mp li8.gt).1
  have cb9 : CB (S8.set (S4.length + 2) (.dkl (es.map kvE))) S4.length (S4.length + 1) es := ⟨by rw [List.getElem?_set_ne (by omega)]; exact li8.cb.gr, by rw [List.getElem?_set_ne (by omega)]; exact li8.cb.gd⟩
  have g9 : (S8.set (S4.length + 2) (.dkl (es.map kvE)))[S4.length + 2]? = some (.dkl (es.map kvE)) := List.getElem?_set_self hdt
  obtain ⟨o7', S9, h9, k9⟩ := look_loop (p := 1) (l := S3.length) (o0 := some (.fl (ns.map .int))) (o5 := o5) (o6 := o6) (o8 := o8) (o9 := o9) (o10 := o10) hT cb9 g9 o7
  have hk9 := k9.get g9
  rw [List.map_map] at h9
  have hko := kOk_es hN hT
  have gt8 := li8.gt
  refine ⟨S9.set (S4.length + 2) (.dk (es.map kvE)), ?_⟩
  unfold R_law_v43
  rw [run_eq (n := 1) _ _ rfl]
  unfold b_law_v43
  simp at q1
  rw [show (List.map some [D.fl (ns.map .int)] ++ List.replicate (11 - 1) none : Env) = [some (.fl (ns.map .int)), none, none, none, none, none, none, none, none, none, none] from rfl]
  rw [sq_nx (ρ1 := [some (.fl (ns.map .int)), some (.ref 1), none, none, none, none, none, none, none, none, none]) (S1 := S1) (by simp [q1])]
  rw [sq_nx (ρ1 := [some (.fl (ns.map .int)), some (.ref 1), some (.ref S3.length), none, none, none, none, none, none, none, none]) (S1 := S4) (by
    have r3 := hS3.symm
    simp at r3
    simp [-o_addr, q2, r3, had])]
  rw [sq_nx (ρ1 := [some (.fl (ns.map .int)), some (.ref 1), some (.ref S3.length), some (.ref S4.length), none, none, none, none, none, none, none]) (S1 := S4 ++ [.ins "Coming" [("terms", .ref (S4.length + 1))], .dk []]) (by simp [hmk])]
  rw [sq_nx (ρ1 := eL 1 S3.length S4.length (S4.length + 2) (some (.fl (ns.map .int))) none none none none none none) (S1 := S6) (by simp [hS6])]
  rw [sq_nx (ρ1 := eL 1 S3.length S4.length (S4.length + 2) (some (.fl (ns.map .int))) o5 o6 o7 o8 o9 o10) (S1 := S8) (by
    simp at q7
    have hv2 : (12 + (v : Int)).toNat = 12 + v := by omega
    have hv3 : r62 (12 + (v : Int)) := r62_of (by omega) (by omega)
    simp [q7, hv2, hv3, h8])]
  rw [sq_nx (ρ1 := eL 1 S3.length S4.length (S4.length + 2) (some (.fl (ns.map .int))) o5 o6 o7' o8 o9 o10) (S1 := S9.set (S4.length + 2) (.dk (es.map kvE))) (by
    simp [sLockF, lkVar, gt8, iKeyF, g9, hko, h9, hk9])]
  simp
end
end Z
namespace Z
/-! ### equations drawn -/
theorem sl_take9 {rows : List (List Nat)} {T : Store} {l a : Nat} (g : T[l]? = some (.lst (rows.map .str))) : slD none (some (a : Int)) (.ref l) T = some (.ok (.ref T.length) (T ++ [.lst ((rows.take a).map .str)])) := by
  have : cut (rows.map D.str) none (some (a : Int)) = (rows.take a).map .str := by rw [cut_take, List.map_take]
  simp [slD, g, this, new1]
theorem sp_set {p c : Nat} {T : Store} {e : Nat} {o : MO} (h : Sp T p c) (h1 : e ≠ p) (h2 : e ≠ c) : Sp (T.set e o) p c := by
  obtain ⟨x, h⟩ := h
  exact ⟨x, ⟨h.ne, by rw [List.getElem?_set_ne h1]; exact h.hp, by rw [List.getElem?_set_ne h2]; exact h.hc, h.ok⟩⟩
theorem eq_step {T : Store} {p c l e many : Nat} {names : List (List Nat)} {es : Eqs} (hs : Sp T p c) (hn : Nm T p c l names) (ge : T[e]? = some (.lst (es.map ent))) (hp : e ≠ p) (hc : e ≠ c) (hm : 1 ≤ many) (hm2 : many ≤ 8) (hes : es.length ≤ 100) (s : List Nat) :
    ∃ t T', lb_law_equations_1 (R_law_term 24) R_law_drop [some (.ref p), some (.ref l), some (.int (many : Nat)), some (.ref e), some (.str s)] T = some (.nx [some (.ref p), some (.ref l), some (.int (many : Nat)), some (.ref e), some (.str s)] T') ∧
      T'[e]? = some (.lst ((es ++ [(s, t)]).map ent)) ∧ Sp T' p c ∧ t.In names ∧ t.depth ≤ 4 ∧ T.length ≤ T'.length ∧ ∀ i, i < T.length → i ≠ p → i ≠ c → i ≠ e → T'[i]? = T[i]? := by
  obtain ⟨u, T1, q1, hu, s1, l1, f1⟩ := drop_nat hs 3 (by decide) (by decide)
  have hn1 := hn.fr f1
  have hlt := s1.lt
  have hsl := sl_take9 (a := many + u) hn1.at'
  obtain ⟨T2, hT2⟩ : ∃ T2, T2 = T1 ++ [MO.lst ((names.take (many + u)).map .str)] := ⟨_, rfl⟩
  rw [← hT2] at hsl
  have s2 : Sp T2 p c := by rw [hT2]; exact s1.app
  have f2 : Fr p c T1 T2 := by rw [hT2]; exact .app
  have hpos := hn.pos
  have hfew := hn.few
  have hn2 : Nm T2 p c T1.length (names.take (many + u)) := ⟨by rw [hT2]; simp, by omega, by omega, by simp; omega, by simp; omega⟩
  obtain ⟨v, T3, q3, hv, s3, l3, f3⟩ := drop_nat s2 4 (by decide) (by decide)
  obtain ⟨t, T4, q4, ht1, ht2, s4, f4⟩ := s_law_term 23 (1 + v) T3 (by omega) (hn2.fr f3) s3
  have f14 := ((f1.trans f2).trans f3).trans f4
  have hel := (List.getElem?_eq_some_iff.mp ge).1
  have g4 : T4[e]? = some (.lst (es.map ent)) := by rw [f14.old e hel hp hc]; exact ge
  have hel4 := (List.getElem?_eq_some_iff.mp g4).1
  have hL : es.length < LINE := by rw [LINE_eq]; omega
  refine ⟨t, T4.set e (.lst ((es ++ [(s, t)]).map ent)), ?_, List.getElem?_set_self hel4, sp_set s4 hp hc, ht1.mono (fun x hx => List.mem_of_mem_take hx), by omega, by rw [List.length_set]; exact f14.le, fun i hi h1 h2 h3 => by rw [List.getElem?_set_ne (Ne.symm h3)]; exact f14.old i hi h1 h2⟩
  simp at q1 hsl q3 q4
  simp [lb_law_equations_1, ge, q1, hsl, q3, q4, g4, hL, ent]
theorem s_law_equations {S : Store} {p c l many : Nat} {names : List (List Nat)} (hn : Nm S p c l names) (hs : Sp S p c) (hm : 1 ≤ many) (hm2 : many ≤ 8) :
    ∃ (es : Eqs) (e : Nat) (S' : Store), R_law_equations [.ref p, .ref l, .int (many : Nat)] S = some (.ok (.ref e) S') ∧ S'[e]? = some (.lst (es.map ent)) ∧ es.map (·.1) = names.take many ∧ (∀ x ∈ es, x.2.In names ∧ x.2.depth ≤ 4) ∧ Sp S' p c ∧ Fr p c S S' ∧ S.length ≤ e := by
  have hlt := hs.lt
  have hfew := hn.few
  obtain ⟨S1, hS1⟩ : ∃ S1, S1 = S ++ [MO.lst []] := ⟨_, rfl⟩
  have hn1 : Nm S1 p c l names := by rw [hS1]; exact hn.fr .app
  have hsl := sl_take9 (a := many) hn1.at'
  obtain ⟨S2, hS2⟩ : ∃ S2, S2 = S1 ++ [MO.lst ((names.take many).map .str)] := ⟨_, rfl⟩
  rw [← hS2] at hsl
  have g2 : S2[S1.length]? = some (.lst ((names.take many).map .str)) := by rw [hS2]; simp
  have l1 : S1.length = S.length + 1 := by rw [hS1]; simp
  have ge2 : S2[S.length]? = some (.lst []) := by rw [hS2, hS1]; simp
  have s2 : Sp S2 p c := by rw [hS2, hS1]; exact hs.app.app
  have f2 : Fr p c S S2 := by rw [hS2, hS1]; exact (Fr.app (G := [.lst []])).trans .app
  obtain ⟨ρ', S', h, ⟨o4, es, rfl, h1, h2, h3, h4, h5, h6⟩⟩ := forL_idx (chk := fun S => S[S1.length]? = some (.lst ((names.take many).map .str))) (g := gName 4) (b := lb_law_equations_1 (R_law_term 24) R_law_drop)
    (fun i ρ T => ∃ (o4 : Option D) (es : Eqs), ρ = [some (.ref p), some (.ref l), some (.int (many : Nat)), some (.ref S.length), o4] ∧ T[S.length]? = some (.lst (es.map ent)) ∧ es.map (·.1) = (names.take many).take i ∧ (∀ x ∈ es, x.2.In names ∧ x.2.depth ≤ 4) ∧ Sp T p c ∧ Fr p c S T ∧ T[S1.length]? = some (.lst ((names.take many).map .str)))
    (fun i ρ T ⟨o4, es, _, _, _, _, _, _, g⟩ => g) ((names.take many).map .str) 0 (fun i x hx ρ T ⟨o4, es, hρ, h1, h2, h3, h4, h5, h6⟩ => by
      subst hρ
      rw [List.getElem?_map] at hx
      obtain ⟨s, hs', rfl⟩ := Option.map_eq_some_iff.mp hx
      have hlen := congrArg List.length h2
      simp at hlen
      obtain ⟨t, T', e, k1, k2, k3, k4, k5, k6⟩ := eq_step h4 (hn.fr h5) h1 (by omega) (by omega) hm hm2 (by omega) s
      refine ⟨[some (.ref p), some (.ref l), some (.int (many : Nat)), some (.ref S.length), some (.str s)], T, rfl, _, T', .inl e, some (.str s), es ++ [(s, t)], rfl, k1, ?_, fun x hx => ?_, k2, ⟨by have := h5.le; omega, fun j hj a b => by
          have := h5.le
          rw [k6 j (by omega) a b (by omega)]; exact h5.old j hj a b⟩, ?_⟩
      · rw [List.map_append, h2, Nat.zero_add]
        simp only [List.map_cons, List.map_nil]
        rw [List.take_add_one, hs']
        rfl
      · rcases List.mem_append.mp hx with hx | hx
        · exact h3 x hx
        · simp at hx; subst hx; exact ⟨k3, k4⟩
      · rw [k6 _ (List.getElem?_eq_some_iff.mp h6).1 (by omega) (by omega) (by omega)]; exact h6) [some (.ref p), some (.ref l), some (.int (many : Nat)), some (.ref S.length), none] S2 ⟨none, [], rfl, ge2, by simp, fun x hx => (nomatch hx), s2, f2, g2⟩
  refine ⟨es, S.length, S', ?_, h1, by rw [h2, Nat.zero_add, List.length_map, List.take_length], h3, h4, h5, Nat.le_refl _⟩
  have g1 := hn1.at'
  have r1 := hS1.symm
  unfold R_law_equations
  rw [run_eq (n := 3) _ _ rfl]
  unfold b_law_equations
  simp at hsl h
  simp [r1, hsl, g2, h]
/-! ### equations told, one by one -/
theorem tell_loop {A : SS} {g : SG} {r d q : Nat} {es : Eqs} (hb : Tb es) {S : Store} (cb : CB S r d []) (gq : S[q]? = some (.lst (es.map ent))) (E : Option (List Nat × Tm) → Env) (hg : ∀ x e T, g (ent e) (E x) T = some (E (some e), T))
    (hA : ∀ e T T', R_Coming_tell [.ref r, .str e.1, e.2.d] T = some (.ok .non T') → (∃ dd, T[r]? = some (.ins "Coming" [("terms", .ref dd)])) → A (E (some e)) T = some (.nx (E (some e)) T')) :
    ∃ x S', forL (fun S => S[q]? = some (.lst (es.map ent))) g A (es.map ent) (E none) S = some (.nx (E x) S') ∧ S'.length = S.length ∧ CB S' r d es ∧ ∀ j, j ≠ d → S'[j]? = S[j]? := by
  have hdl := cb.lt.2
  obtain ⟨ρ', S', h, ⟨x, rfl, h1, h2, h3⟩⟩ := forL_idx (chk := fun S => S[q]? = some (.lst (es.map ent))) (g := g) (b := A)
    (fun i ρ T => ∃ x, ρ = E x ∧ T.length = S.length ∧ CB T r d (es.take i) ∧ ∀ j, j ≠ d → T[j]? = S[j]?)
    (fun i ρ T ⟨x, _, _, _, k⟩ => by rw [k q (fun e => by have := cb.gd; rw [← e, gq] at this; cases this)]; exact gq) (es.map ent) 0 (fun i y hy ρ T ⟨x, hρ, k1, k2, k3⟩ => by
      subst hρ
      rw [List.getElem?_map] at hy
      obtain ⟨e, he, rfl⟩ := Option.map_eq_some_iff.mp hy
      have hil := (List.getElem?_eq_some_iff.mp he).1
      have hfew := hb.few
      rw [Nat.zero_add] at k2
      have ht := s_tell k2 (by simp; omega) e.1 e.2
      have htk : es.take (i + 1) = es.take i ++ [e] := by rw [List.take_add_one, he]; rfl
      have hni : e.1 ∉ (es.take i).map (·.1) := fun hm => by
        have hnd := hb.nd
        rw [← List.take_append_drop (i + 1) es, htk, List.map_append, List.map_append, List.append_assoc, List.nodup_append] at hnd
        exact hnd.2.2 _ hm e.1 (by simp) rfl
      rw [if_neg hni, if_neg (by simp; omega)] at ht
      refine ⟨E (some e), T, hg x e T, E (some e), T.set d (.dk ((es.take i ++ [(e.1, e.2)]).map kvE)), .inl (hA e T _ ht ⟨d, k2.gr⟩), some e, rfl, by simpa using k1, ⟨by rw [List.getElem?_set_ne (Ne.symm k2.ne)]; exact k2.gr, ?_⟩, fun j hj => by rw [List.getElem?_set_ne (Ne.symm hj)]; exact k3 j hj⟩
      rw [List.getElem?_set_self (by rw [k1]; exact hdl), Nat.zero_add, htk]) (E none) S ⟨none, rfl, rfl, by simpa using cb, fun j _ => rfl⟩
  rw [Nat.zero_add, List.length_map, List.take_length] at h2
  exact ⟨x, S', h, h1, h2, h3⟩
theorem dict_es {es : Eqs} (hn : (es.map (·.1)).Nodup) (hl : es.length ≤ 100) {S : Store} {q : Nat} (g : S[q]? = some (.lst (es.map ent))) : dictLF [.ref q] S = some (.ok (.ref S.length) (S ++ [.dk (es.map kvE)])) := by
  rw [o_dictLF, g]
  dsimp only
  rw [fOf_es]
  dsimp only
  rw [if_pos (by simp; omega)]
  have := fold_es es [] (by simpa using hn)
  rw [List.map_nil, List.nil_append] at this
  rw [this]
end Z
namespace Z
/-! ### the law -/
abbrev eM (p l q r dt : Nat) (o0 o5 o6 o8 o9 o10 : Option D) : Env := [o0, some (.ref p), some (.ref l), some (.ref q), some (.ref r), o5, o6, some (.ref dt), o8, o9, o10]
structure FI (S : Store) (p c r d dt q : Nat) (es : Eqs) : Prop where
  sp : Sp S p c
  cb : CB S r d es
  td : S[dt]? = some (.dkl (es.map kvE))
  gq : S[q]? = some (.lst (es.map ent))
  qp : q ≠ p
  qc : q ≠ c
theorem FI.fr {S S' : Store} {p c r d dt q : Nat} {es : Eqs} (h : FI S p c r d dt q es) (f : Fr p c S S') (s : Sp S' p c) : FI S' p c r d dt q es := by
  obtain ⟨⟨xs, hp⟩, ⟨ys, hc⟩⟩ := sp_lst h.sp
  have nl : ∀ {i : Nat} {o : MO}, S[i]? = some o → (∀ zs, o ≠ .lst zs) → S'[i]? = some o := fun {i o} g hn => by
    rw [f.old i (List.getElem?_eq_some_iff.mp g).1 (fun e => by subst e; rw [hp] at g; cases g; exact hn _ rfl) (fun e => by subst e; rw [hc] at g; cases g; exact hn _ rfl)]
    exact g
  exact ⟨s, ⟨nl h.cb.gr (fun _ e => by cases e), nl h.cb.gd (fun _ e => by cases e)⟩, nl h.td (fun _ e => by cases e), by rw [f.old q (List.getElem?_eq_some_iff.mp h.gq).1 h.qp h.qc]; exact h.gq, h.qp, h.qc⟩
theorem FI.keep {S S' : Store} {p c r d dt q : Nat} {es : Eqs} (h : FI S p c r d dt q es) (k : Keep S S') : FI S' p c r d dt q es := h.fr (keep_fr k) (keep_sp2 h.sp k)
section
variable {S : Store} {p c l r d dt q : Nat} {es : Eqs} {o0 o6 o8 o9 o10 : Option D}
theorem place_loop (hT : Tb es) (h5 : es.length ≤ 5) (h : FI S p c r d dt q es) {s : List Nat} (hs : s ∈ es.map (·.1)) {k : Nat} {ps : List Nat} (gk : S[k]? = some (.lst (ps.map fun (n : Nat) => D.int n))) (hps : ∀ n ∈ ps, n ≤ 2000) :
    ∃ o9' o10' S', forL (fun S => S[k]? = some (.lst (ps.map fun (n : Nat) => D.int n))) (gName 9) (lb_law_v44_2 R_law_walked R_law_same_v2 R_Coming_sign) (ps.map fun (n : Nat) => D.int n) (eM p l q r dt o0 (some (.str s)) o6 (some (.ref k)) o9 o10) S = some (.nx (eM p l q r dt o0 (some (.str s)) o6 (some (.ref k)) o9' o10') S') ∧ Keep S S' := by
  obtain ⟨ρ', S', hf, ⟨o9', o10', rfl⟩, hk⟩ := forL_idx (chk := fun S => S[k]? = some (.lst (ps.map fun (n : Nat) => D.int n))) (g := gName 9) (b := lb_law_v44_2 R_law_walked R_law_same_v2 R_Coming_sign)
    (fun _ ρ T => (∃ o9' o10', ρ = eM p l q r dt o0 (some (.str s)) o6 (some (.ref k)) o9' o10') ∧ Keep S T) (fun i ρ T j => j.2.get gk) (ps.map fun (n : Nat) => D.int n) 0 (fun i x hx ρ T ⟨⟨o9', o10', hρ⟩, hk⟩ => by
      subst hρ
      rw [List.getElem?_map] at hx
      obtain ⟨n, hn, rfl⟩ := Option.map_eq_some_iff.mp hx
      have hn2 := hps n (List.mem_of_getElem? hn)
      have hT2 := h.keep hk
      have hmul : es.length * (n + 301) ≤ 5 * 2301 := Nat.mul_le_mul h5 (by omega)
      obtain ⟨T1, e1', k1⟩ := s_law_walked hT (.inr hT2.td) s (n := n) (by omega)
      obtain ⟨T2, e2', k2⟩ := s_sign hT (hT2.keep k1).cb (n := n) (by omega) hs
      obtain ⟨T3, e3', k3⟩ := s_sign hT ((hT2.keep k1).keep k2).cb (n := n) (by omega) hs
      have gr1 := (hT2.keep k1).cb.gr
      have gr2 := ((hT2.keep k1).keep k2).cb.gr
      have hsame1 := s_law_same2 (wres es (s, n)) T2
      have hsame2 := s_law_same2 (wres es (s, n)) T3
      refine ⟨eM p l q r dt o0 (some (.str s)) o6 (some (.ref k)) (some (.int (n : Nat))) o10', T, rfl, eM p l q r dt o0 (some (.str s)) o6 (some (.ref k)) (some (.int (n : Nat))) (some (wrD (wres es (s, n)))), T3, .inl ?_, ⟨_, _, rfl⟩, ((hk.trans k1).trans k2).trans k3⟩
      simp [lb_law_v44_2, gr1, gr2, e1', e2', e3', hsame1, hsame2]) (eM p l q r dt o0 (some (.str s)) o6 (some (.ref k)) o9 o10) S ⟨⟨o9, o10, rfl⟩, .refl⟩
  exact ⟨o9', o10', S', hf, hk⟩
theorem name_step (hT : Tb es) (h5 : es.length ≤ 5) (h : FI S p c r d dt q es) {s : List Nat} (hs : s ∈ es.map (·.1)) :
    ∃ o8' o9' o10' S', lb_law_v44_3 R_law_drop R_law_walked R_law_same_v2 R_Coming_sign (eM p l q r dt o0 (some (.str s)) o6 o8 o9 o10) S = some (.nx (eM p l q r dt o0 (some (.str s)) o6 o8' o9' o10') S') ∧ FI S' p c r d dt q es ∧ Fr p c S S' := by
  obtain ⟨u, S1, q1, hu, s1, l1, f1⟩ := drop_nat h.sp 61 (by decide) (by decide)
  have h1 := h.fr f1 s1
  have hlt := s1.lt
  obtain ⟨S2, hS2⟩ : ∃ S2, S2 = S1 ++ [MO.lst ([0, 1, 2, 3, 4, 5, u].map fun (n : Nat) => D.int n)] := ⟨_, rfl⟩
  have g2 : S2[S1.length]? = some (.lst ([0, 1, 2, 3, 4, 5, u].map fun (n : Nat) => D.int n)) := by rw [hS2]; simp
  have k2 : Keep S1 S2 := by rw [hS2]; exact .app
  have h2 := h1.keep k2
  have st1 : sAsg (eLst [eC (.int 0), eC (.int 1), eC (.int 2), eC (.int 3), eC (.int 4), eC (.int 5), eCall R_law_drop [eVar 1, eC (.int 61)]]) (gName 8) (eM p l q r dt o0 (some (.str s)) o6 o8 o9 o10) S = some (.nx (eM p l q r dt o0 (some (.str s)) o6 (some (.ref S1.length)) o9 o10) S2) := by
    have r2 := hS2.symm
    simp at q1 r2
    simp [q1, r2]
  obtain ⟨e0, es', rfl⟩ : ∃ e0 es', es = e0 :: es' := by
    cases es with
    | nil => simp at hs
    | cons a b => exact ⟨a, b, rfl⟩
  have hgq := h2.gq
  rw [List.map_cons] at hgq
  obtain ⟨ps, S3, st2, g3, hps, h3, f3⟩ : ∃ (ps : List Nat) (S3 : Store), sIf (tVal (e2 eqD (eVar 5) (e2 ixD (e2 ixD (eVar 3) (eC (.int 0))) (eC (.int 0))))) (sExp (eMt .list appendF (eVar 8) [e2 ixD (eLst [eCall R_law_drop [eVar 1, eC (.int 2001)], eC (.int 2000)]) (eCall R_law_drop [eVar 1, eC (.int 2)])])) (sNx) (eM p l q r dt o0 (some (.str s)) o6 (some (.ref S1.length)) o9 o10) S2 = some (.nx (eM p l q r dt o0 (some (.str s)) o6 (some (.ref S1.length)) o9 o10) S3) ∧ S3[S1.length]? = some (.lst (ps.map fun (n : Nat) => D.int n)) ∧ (∀ n ∈ ps, n ≤ 2000) ∧ FI S3 p c r d dt q (e0 :: es') ∧ Fr p c S S3 := by
    have hbase : ∀ n ∈ [0, 1, 2, 3, 4, 5, u], n ≤ 2000 := fun n hn => by
      simp at hn
      omega
    by_cases hse : s = e0.1
    · obtain ⟨v, T1, p1, hv, t1, m1, n1⟩ := drop_nat h2.sp 2001 (by decide) (by decide)
      have i1 := h2.fr n1 t1
      obtain ⟨T2, hT2⟩ : ∃ T2, T2 = T1 ++ [MO.lst ([v, 2000].map fun (n : Nat) => D.int n)] := ⟨_, rfl⟩
      have kT : Keep T1 T2 := by rw [hT2]; exact .app
      have i2 := i1.keep kT
      have gT2 : T2[T1.length]? = some (.lst ([v, 2000].map fun (n : Nat) => D.int n)) := by rw [hT2]; simp
      obtain ⟨w, T3, p3, hw, t3, m3, n3⟩ := drop_nat i2.sp 2 (by decide) (by decide)
      have i3 := i2.fr n3 t3
      have hll : S2.length ≤ T1.length := n1.le
      have hlen2 : S2.length = S1.length + 1 := by rw [hS2]; simp
      have gT3 : T3[T1.length]? = some (.lst ([v, 2000].map fun (n : Nat) => D.int n)) := by
        rw [n3.old _ (List.getElem?_eq_some_iff.mp gT2).1 (by omega) (by omega)]; exact gT2
      obtain ⟨x, hx⟩ : ∃ x, ([v, 2000] : List Nat)[w]? = some x := ⟨_, List.getElem?_eq_getElem hw⟩
      have hx2 : x ≤ 2000 := by
        have := List.mem_of_getElem? hx
        simp at this
        omega
      have hat : atI ([v, 2000].map fun (n : Nat) => D.int n) (w : Int) = some (.int (x : Nat)) := atI_nat (by rw [List.getElem?_map, hx]; rfl)
      have g2T : T3[S1.length]? = some (.lst ([0, 1, 2, 3, 4, 5, u].map fun (n : Nat) => D.int n)) := by
        rw [n3.old _ (by rw [hT2, List.length_append]; omega) (by omega) (by omega), hT2, List.getElem?_append_left (by omega), n1.old _ (by omega) (by omega) (by omega)]; exact g2
      have hlT := (List.getElem?_eq_some_iff.mp g2T).1
      have fT : Fr p c S T3 := (((f1.trans (keep_fr k2)).trans n1).trans (keep_fr kT)).trans n3
      have fT2 : Fr p c S (T3.set S1.length (.lst (([0, 1, 2, 3, 4, 5, u] ++ [x]).map fun (n : Nat) => D.int n))) := Fr.set fT (by have := f1.le; omega)
      have sT2 : Sp (T3.set S1.length (.lst (([0, 1, 2, 3, 4, 5, u] ++ [x]).map fun (n : Nat) => D.int n))) p c := sp_set t3 (by omega) (by omega)
      refine ⟨[0, 1, 2, 3, 4, 5, u] ++ [x], T3.set S1.length (.lst (([0, 1, 2, 3, 4, 5, u] ++ [x]).map fun (n : Nat) => D.int n)), ?_, List.getElem?_set_self hlT, fun n hn => ?_, h.fr fT2 sT2, fT2⟩
      · have r2 := hT2.symm
        have hL : (7 : Nat) < LINE := by rw [LINE_eq]; decide
        have hL2 : (8 : Nat) ≤ LINE := by rw [LINE_eq]; decide
        simp at p1 p3 r2 gT3 hat g2T g2
        simp [hgq, ent, at0, hse, g2, p1, r2, p3, gT3, hat, g2T, hL, hL2]
      · rcases List.mem_append.mp hn with hn | hn
        · exact hbase n hn
        · simp at hn; omega
    · refine ⟨[0, 1, 2, 3, 4, 5, u], S2, ?_, g2, hbase, h2, f1.trans (keep_fr k2)⟩
      simp [hgq, ent, at0, hse]
  obtain ⟨o9', o10', S4, h4, k4⟩ := place_loop (l := l) (o0 := o0) (o6 := o6) (o9 := o9) (o10 := o10) hT h5 h3 hs g3 hps
  refine ⟨some (.ref S1.length), o9', o10', S4, ?_, h3.keep k4, f3.trans (keep_fr k4)⟩
  unfold lb_law_v44_3
  rw [sq_nx st1, sq_nx st2]
  simp [g3, h4]
theorem s_law_v44 (ns : List Int) (hl : ns.length ≤ 63) : ∃ S', R_law_v44 [.fl (ns.map .int)] [] = some (.ok (.bl true) S') := by
  obtain ⟨S1, q1, h1, hl1, f1⟩ := s_law_spring ns []
  have hs1 : Sp S1 1 0 := ⟨_, h1⟩
  obtain ⟨l0, names, S2, q2, hd, hs2, f2⟩ := s_law_names_v2 hs1
  obtain ⟨v, S3, q3, hv, hs3, l3, f3⟩ := drop_nat hs2 5 (by decide) (by decide)
  obtain ⟨es, q, S4, q4, gq, hnm, hes, hs4, f4, hq⟩ := s_law_equations (many := 1 + v) (hd.nm.fr f3) hs3 (by omega) (by omega)
  have hlt := hs3.lt
  have hlen : es.length = 1 + v := by
    have := congrArg List.length hnm
    simp [hd.l8] at this
    omega
  have hT : Tb es := ⟨by rw [hnm]; exact hd.nd.sublist (List.take_sublist _ _), fun e he => by have := (hes e he).2; omega, by omega⟩
  have hmk := s_init S4
  obtain ⟨S5, hS5⟩ : ∃ S5, S5 = S4 ++ [MO.ins "Coming" [("terms", .ref (S4.length + 1))], .dk []] := ⟨_, rfl⟩
  rw [← hS5] at hmk
  have k5 : Keep S4 S5 := by rw [hS5]; exact .app
  have cb5 : CB S5 S4.length (S4.length + 1) [] := ⟨by rw [hS5]; simp, by rw [hS5]; simp⟩
  have gq5 := k5.get gq
  obtain ⟨x, S6, h6, l6, cb6, k6⟩ := tell_loop (A := lb_law_v44_1 R_Coming_tell) (g := gTup [gName 5, gName 6]) hT cb5 gq5 (fun x => [some (.fl (ns.map .int)), some (.ref 1), some (.ref l0), some (.ref q), some (.ref S4.length), x.map fun e => D.str e.1, x.map fun e => e.2.d, none, none, none, none]) (fun x e T => rfl) (fun e T T' ht ⟨dd, hr⟩ => by
    simp [lb_law_v44_1, hr, ht])
  have hdl := cb5.lt.2
  have nd6 : ∀ {i : Nat} {o : MO}, S5[i]? = some o → (∀ zs, o ≠ .dk zs) → S6[i]? = some o := fun {i o} g hn => by
    rw [k6 i (fun e => by subst e; have := cb5.gd; rw [g] at this; cases this; exact hn _ rfl)]; exact g
  have gq6 := nd6 gq5 (fun _ e => by cases e)
  have hs6 : Sp S6 1 0 := by
    obtain ⟨y, hy⟩ := keep_sp2 hs4 k5
    exact ⟨y, ⟨hy.ne, nd6 hy.hp (fun _ e => by cases e), nd6 hy.hc (fun _ e => by cases e), hy.ok⟩⟩
  have hdict := dict_es hT.nd (by omega) gq6
  obtain ⟨S7, hS7⟩ : ∃ S7, S7 = S6 ++ [MO.dk (es.map kvE)] := ⟨_, rfl⟩
  rw [← hS7] at hdict
  have k7 : Keep S6 S7 := by rw [hS7]; exact .app
  have gt7 : S7[S6.length]? = some (.dk (es.map kvE)) := by rw [hS7]; simp
  have hdt := (List.getElem?_eq_some_iff.mp gt7).1
  have fi : FI (S7.set S6.length (.dkl (es.map kvE))) 1 0 S4.length (S4.length + 1) S6.length q es := by
    have cb7 := cb6.keep k7
    have hc6 := cb6.lt
    have hq6 := (List.getElem?_eq_some_iff.mp gq6).1
    have hsl := hs6.lt
    refine ⟨sp_set (keep_sp2 hs6 k7) (by omega) (by omega), ⟨by rw [List.getElem?_set_ne (by omega)]; exact cb7.gr, by rw [List.getElem?_set_ne (by omega)]; exact cb7.gd⟩, List.getElem?_set_self hdt, by rw [List.getElem?_set_ne (by omega)]; exact k7.get gq6, by omega, by omega⟩
  have hko : ((es.map kvE).all fun p => kOk p.1) = true := List.all_eq_true.mpr fun y hy => by
    obtain ⟨e, he, rfl⟩ := List.mem_map.mp hy
    refine List.all_eq_true.mpr fun k hk => decide_eq_true ?_
    have hm : e.1 ∈ names := List.mem_of_mem_take (by rw [← hnm]; exact List.mem_map.mpr ⟨e, he, rfl⟩)
    exact az_lt k ((hd.ok _ hm).az k hk)
  obtain ⟨ρ', S8, h8, ⟨o5', o8', o9', o10', rfl⟩, fi8⟩ := forL_idx (chk := fun S => S[S6.length]? = some (.dkl (es.map kvE))) (g := gName 5) (b := lb_law_v44_3 R_law_drop R_law_walked R_law_same_v2 R_Coming_sign)
    (fun _ ρ T => (∃ o5' o8' o9' o10', ρ = eM 1 l0 q S4.length S6.length (some (.fl (ns.map .int))) o5' (x.map fun e => e.2.d) o8' o9' o10') ∧ FI T 1 0 S4.length (S4.length + 1) S6.length q es) (fun i ρ T j => j.2.td) ((es.map kvE).map (·.1)) 0 (fun i y hy ρ T ⟨⟨o5', o8', o9', o10', hρ⟩, fT⟩ => by
      subst hρ
      rw [List.map_map, List.getElem?_map] at hy
      obtain ⟨e, he, rfl⟩ := Option.map_eq_some_iff.mp hy
      obtain ⟨o8'', o9'', o10'', T', e', fT', _⟩ := name_step (l := l0) (o0 := some (.fl (ns.map .int))) (o6 := x.map fun e => e.2.d) (o8 := o8') (o9 := o9') (o10 := o10') hT (by omega) fT (List.mem_map.mpr ⟨e, List.mem_of_getElem? he, rfl⟩)
      exact ⟨eM 1 l0 q S4.length S6.length (some (.fl (ns.map .int))) (some (.str e.1)) (x.map fun e => e.2.d) o8' o9' o10', T, rfl, _, T', .inl e', ⟨_, _, _, _, rfl⟩, fT'⟩) (eM 1 l0 q S4.length S6.length (some (.fl (ns.map .int))) (x.map fun e => D.str e.1) (x.map fun e => e.2.d) none none none) (S7.set S6.length (.dkl (es.map kvE))) ⟨⟨_, _, _, _, rfl⟩, fi⟩
  have g8 := fi8.td
  have g9 := fi.td
  rw [List.map_map] at h8
  refine ⟨S8.set S6.length (.dk (es.map kvE)), ?_⟩
  unfold R_law_v44
  rw [run_eq (n := 1) _ _ rfl]
  unfold b_law_v44
  simp at q1
  rw [show (List.map some [D.fl (ns.map .int)] ++ List.replicate (11 - 1) none : Env) = [some (.fl (ns.map .int)), none, none, none, none, none, none, none, none, none, none] from rfl]
  rw [sq_nx (ρ1 := [some (.fl (ns.map .int)), some (.ref 1), none, none, none, none, none, none, none, none, none]) (S1 := S1) (by simp [q1])]
  rw [sq_nx (ρ1 := [some (.fl (ns.map .int)), some (.ref 1), some (.ref l0), none, none, none, none, none, none, none, none]) (S1 := S2) (by simp [q2])]
  rw [sq_nx (ρ1 := [some (.fl (ns.map .int)), some (.ref 1), some (.ref l0), some (.ref q), none, none, none, none, none, none, none]) (S1 := S4) (by
    simp at q3 q4
    simp [q3, q4])]
  rw [sq_nx (ρ1 := [some (.fl (ns.map .int)), some (.ref 1), some (.ref l0), some (.ref q), some (.ref S4.length), none, none, none, none, none, none]) (S1 := S5) (by simp [hmk])]
  rw [sq_nx (ρ1 := [some (.fl (ns.map .int)), some (.ref 1), some (.ref l0), some (.ref q), some (.ref S4.length), x.map fun e => D.str e.1, x.map fun e => e.2.d, none, none, none, none]) (S1 := S6) (by
    simp at h6
    simp [gq5, h6])]
  rw [sq_nx (ρ1 := eM 1 l0 q S4.length S6.length (some (.fl (ns.map .int))) (x.map fun e => D.str e.1) (x.map fun e => e.2.d) none none none) (S1 := S7) (by simp [hdict])]
  rw [sq_nx (ρ1 := eM 1 l0 q S4.length S6.length (some (.fl (ns.map .int))) o5' (x.map fun e => e.2.d) o8' o9' o10') (S1 := S8.set S6.length (.dk (es.map kvE))) (by
    simp [sLockF, lkVar, gt7, iKeyF, g9, hko, h8, g8])]
  simp
end
end Z
namespace Z
/-! ### the whole of the program's walk -/
theorem wk_len (es : List (List Nat × Tm)) : ∀ (f : Nat) (c : Call) (C : List Call) (L : Lows) (r : Option Nat) (C' : List Call), wk es f c C L = some (r, C') → C.length ≤ C'.length
  | 0, c, C, L, r, C', h => by cases h
  | f + 1, c, C, L, r, C', h => by
    rw [wk] at h
    split at h
    · cases h; exact Nat.le_refl _
    · split at h
      · cases h; simp
      · have := wk_len es f _ _ _ _ _ h
        simp at this
        omega
theorem walk_loop {es : List (List Nat × Tm)} (b : Bk es) {S0 : Store} {a i : Nat} : ∀ (f : Nat) (cc : Call) (C : List Call) (L : Lows) (c : Nat) (o6 o7 o8 : Option D) (S : Store) (r : Option Nat) (C' : List Call), wk es f cc C L = some (r, C') → C'.length ≤ 900000 → C.length ≤ C'.length → cc.1 ∈ es.map (·.1) → WS S0 S a i c C L →
    ∃ S', sWh (tVal (eC (.bl true))) (lb_walk_1 R_followed R_term_of) [some (bookD es), some (.str cc.1), some (.int (cc.2 : Nat)), some (.ref a), some (.ref i), some (.ref c), o6, o7, o8] S = some (.rt (resD a r) S') ∧ S'[a]? = some (.lst (C'.map cD)) ∧ Keep S0 S'
  | 0, cc, C, L, c, o6, o7, o8, S, r, C', h, _, _, _, _ => by cases h
  | f + 1, cc, C, L, c, o6, o7, o8, S, r, C', h, h9, hlen, hs, w => by
    have st := walk_step b (o6 := o6) (o7 := o7) (o8 := o8) hs w (by omega)
    rw [wk] at h
    cases hh : hop (termOf es cc.1) cc.2 with
    | inl k =>
      rw [hh] at st h
      cases h
      obtain ⟨S', e1, e2, e3⟩ := st
      exact ⟨S', sWh_rt rfl e1, e2, e3⟩
    | inr c' =>
      rw [hh] at st h
      dsimp only at st h
      by_cases ha : wAgain C (wLows (zipf (termOf es cc.1) cc.2) L) c' = true
      · rw [if_pos ha] at st h
        cases h
        obtain ⟨S', e1, e2, e3⟩ := st
        exact ⟨S', sWh_rt rfl e1, e2, e3⟩
      · rw [if_neg ha] at st h
        obtain ⟨c2, p6, p7, p8, S2, e1, w2⟩ := st
        have hm := b.at hs
        obtain ⟨k1, _⟩ := hop_le (termOf es cc.1) cc.2 c'.1 c'.2 hh
        have hlen2 : (C ++ [c']).length ≤ C'.length := wk_len es f _ _ _ _ _ h
        obtain ⟨S', e2, e3⟩ := walk_loop b f c' (C ++ [c']) _ c2 p6 p7 p8 S2 r C' h h9 hlen2 (b.row _ hm _ k1) w2
        exact ⟨S', by rw [sWh_go rfl e1]; exact e2, e3⟩
def L0 (c : Call) : Lows := wSet (fun _ => none) c
theorem s_walk {es : List (List Nat × Tm)} (b : Bk es) {f : Nat} {cc : Call} {r : Option Nat} {C' : List Call} (h : wk es f cc [cc] (L0 cc) = some (r, C')) (h9 : C'.length ≤ 900000) (hs : cc.1 ∈ es.map (·.1)) (S : Store) :
    ∃ a S', R_walk [bookD es, .str cc.1, .int (cc.2 : Nat)] S = some (.ok (resD a r) S') ∧ S'[a]? = some (.lst (C'.map cD)) ∧ Keep S S' ∧ S.length ≤ a := by
  have w : WS S (S ++ [.lst [cD cc], .st [kD cc], .dk [(.str cc.1, .int (cc.2 : Nat))]]) S.length (S.length + 1) (S.length + 2) [cc] (L0 cc) := by
    refine ⟨.app, by simp, by simp, ⟨[(.str cc.1, .int (cc.2 : Nat))], by simp, by simp, fun t => ?_⟩, by omega, by omega, by omega, by omega, by omega, by omega⟩
    by_cases ht : t = cc.1
    · subst ht; simp [L0, wSet, fget, kEq0]
    · have : ¬ cc.1 = t := fun e => ht e.symm
      simp [L0, wSet, fget, kEq0, ht, this]
  obtain ⟨S', e1, e2, e3⟩ := walk_loop b f cc [cc] (L0 cc) (S.length + 2) none none none _ r C' h h9 (wk_len es f _ _ _ _ _ h) hs w
  refine ⟨S.length, S', ?_, e2, e3, Nat.le_refl _⟩
  unfold R_walk
  rw [run_eq (n := 3) _ _ rfl]
  unfold b_walk
  simp [cD, kD] at e1
  simp [k0, e1]
end Z
namespace Z
/-! ### the law's walk -/
abbrev cK (c : Call) : List D := [.str c.1, .int (c.2 : Nat)]
theorem tget_k (c : Call) : ∀ (C : List Call) (M : List (List D × D)), M.map (·.1) = C.map cK → (tget M (cK c)).isSome = decide (c ∈ C)
  | [], M, h => by
    have : M = [] := by simpa using h
    subst this
    simp [tget]
  | d :: C, M, h => by
    cases M with
    | nil => simp at h
    | cons m M =>
      rw [List.map_cons, List.map_cons] at h
      obtain ⟨h1, h2⟩ := List.cons.inj h
      have ih := tget_k c C M h2
      unfold tget at ih ⊢
      rw [List.find?_cons, h1, kEqL_c]
      by_cases h : (d.1, d.2) = (c.1, c.2)
      · have : d = c := h
        subst this
        simp
      · have hd : ¬ d = c := h
        have hd' : ¬ c = d := fun e => hd e.symm
        rw [decide_eq_false h]
        simp only [ih]
        rw [Bool.eq_iff_iff]
        simp [hd']
theorem tput_len (M : List (List D × D)) (k : List D) (v : D) : (tput M k v).length ≤ M.length + 1 := by
  unfold tput
  split <;> simp
theorem tput_k (c : Call) (v : D) (C : List Call) (M : List (List D × D)) (h : M.map (·.1) = C.map cK) (hn : c ∉ C) : (tput M (cK c) v).map (·.1) = (C ++ [c]).map cK := by
  have : (M.any fun p => kEqL p.1 (cK c)) = false := by
    rw [Bool.eq_false_iff]
    intro q
    obtain ⟨p, hp, hq⟩ := List.any_eq_true.mp q
    have hk : p.1 ∈ M.map (·.1) := List.mem_map.mpr ⟨p, hp, rfl⟩
    rw [h] at hk
    obtain ⟨d, hd, e⟩ := List.mem_map.mp hk
    rw [← e, kEqL_c] at hq
    have : (d.1, d.2) = (c.1, c.2) := of_decide_eq_true hq
    have : d = c := this
    exact hn (this ▸ hd)
  unfold tput
  rw [this]
  simp [h]
/-- the law's lows: with how many zips are behind -/
abbrev LwZ := List Nat → Option (Nat × Nat)
def vz : Nat × Nat → D := fun p => .tup [.int (p.1 : Nat), .int (p.2 : Nat)]
structure WL (S0 S : Store) (a i c : Nat) (C : List Call) (L : Lows) (Z : LwZ) (z0 : Nat) : Prop where
  keep : Keep S0 S
  ga : S[a]? = some (.lst (C.map cD))
  gb : ∃ M, S[i]? = some (.st M) ∧ M.map (·.1) = C.map cK
  gc : ∃ kvs, S[c]? = some (.dk kvs) ∧ kvs.length ≤ C.length ∧ ∀ t, fget kvs (.str t) = (Z t).map vz
  lz : ∀ t, L t = match Z t with | some p => (if p.2 = z0 then some p.1 else none) | none => none
  zl : ∀ t p, Z t = some p → p.2 ≤ z0
  a0 : S0.length ≤ a
  b0 : S0.length ≤ i
  c0 : S0.length ≤ c
  ab : a ≠ i
  ac : a ≠ c
  bc : i ≠ c
theorem at_last {α : Type} (xs : List α) (x : α) : atI (xs ++ [x]) (-1) = some x := by
  unfold atI ixN
  have e : ((-1 : Int) + ((xs ++ [x]).length : Nat)).toNat = xs.length := by simp; omega
  rw [if_neg (by decide), if_pos (by simp; omega), e]
  simp
theorem lwalk_step {es : List (List Nat × Tm)} (b : Bk es) {S0 S : Store} {a i c z0 : Nat} {cc : Call} {C0 : List Call} {L : Lows} {Z : LwZ} {o1 o2 : D} {o7 o8 o9 o10 : Option D} (hs : cc.1 ∈ es.map (·.1)) (w : WL S0 S a i c (C0 ++ [cc]) L Z z0) (hC : (C0 ++ [cc]).length ≤ 900000) :
    match hop (termOf es cc.1) cc.2 with
    | .inl k => ∃ S', lb_law_walk_1 (R_law_followed 24) R_law_term_of [some (bookD es), some o1, some o2, some (.ref a), some (.int (z0 : Nat)), some (.ref i), some (.ref c), o7, o8, o9, o10] S = some (.rt (resD a (some k)) S') ∧ S'[a]? = some (.lst ((C0 ++ [cc]).map cD)) ∧ Keep S0 S'
    | .inr c' => if wAgain (C0 ++ [cc]) (wLows (zipf (termOf es cc.1) cc.2) L) c' = true
      then ∃ S', lb_law_walk_1 (R_law_followed 24) R_law_term_of [some (bookD es), some o1, some o2, some (.ref a), some (.int (z0 : Nat)), some (.ref i), some (.ref c), o7, o8, o9, o10] S = some (.rt (resD a none) S') ∧ S'[a]? = some (.lst ((C0 ++ [cc] ++ [c']).map cD)) ∧ Keep S0 S'
      else ∃ z1 Z1 p7 p8 p9 p10 S', lb_law_walk_1 (R_law_followed 24) R_law_term_of [some (bookD es), some o1, some o2, some (.ref a), some (.int (z0 : Nat)), some (.ref i), some (.ref c), o7, o8, o9, o10] S = some (.nx [some (bookD es), some o1, some o2, some (.ref a), some (.int (z1 : Nat)), some (.ref i), some (.ref c), p7, p8, p9, p10] S') ∧ WL S0 S' a i c (C0 ++ [cc] ++ [c']) (wSet (wLows (zipf (termOf es cc.1) cc.2) L) c') Z1 z1 := by
  obtain ⟨G1, t1⟩ := s_law_term_of b hs S
  have hm := b.at hs
  have hd : (termOf es cc.1).depth ≤ 12 := b.dep _ hm
  obtain ⟨G2, t2⟩ := s_law_followed (termOf es cc.1) 24 cc.2 (S ++ G1) (by omega)
  have hlast : atI ((C0 ++ [cc]).map cD) (-1) = some (cD cc) := by rw [List.map_append]; exact at_last _ _
  generalize hCC : C0 ++ [cc] = C at *
  have k1 : Keep S0 (S ++ G1 ++ G2) := (w.keep.trans .app).trans .app
  have ga1 := get_app (get_app w.ga G1) G2
  obtain ⟨M, gb, hM⟩ := w.gb
  have gb1 := get_app (get_app gb G1) G2
  obtain ⟨kvs, gc, hkl, hkv⟩ := w.gc
  have gc1 := get_app (get_app gc G1) G2
  have gaS := w.ga
  generalize hT1 : S ++ G1 ++ G2 = T1 at *
  have h1 : sAsg (eCall (R_law_followed 24) [eCall R_law_term_of [eVar 0, e2 ixD (e2 ixD (eVar 3) (e1 negD (eC (.int 1)))) (eC (.int 0))], e2 ixD (e2 ixD (eVar 3) (e1 negD (eC (.int 1)))) (eC (.int 1))]) (gName 7) [some (bookD es), some o1, some o2, some (.ref a), some (.int (z0 : Nat)), some (.ref i), some (.ref c), o7, o8, o9, o10] S = some (.nx [some (bookD es), some o1, some o2, some (.ref a), some (.int (z0 : Nat)), some (.ref i), some (.ref c), some (hopZ (zipf (termOf es cc.1) cc.2) (hop (termOf es cc.1) cc.2)), o8, o9, o10] T1) := by
    have ga2 := get_app w.ga G1
    have a1 : ∀ x y : D, atI [x, y] 1 = some y := fun x y => by simp [atI, ixN]
    simp [gaS, hlast, cD, at0, t1, ga2, a1, t2]
  cases hh : hop (termOf es cc.1) cc.2 with
  | inl k =>
    dsimp only
    rw [hh] at h1
    refine ⟨T1, ?_, ga1, k1⟩
    unfold lb_law_walk_1
    rw [sq_nx h1]
    refine sq_rt ?_
    simp [hopZ, at0, resD]
    simp [atI, ixN]
  | inr c' =>
    dsimp only
    rw [hh] at h1
    generalize hzz : zipf (termOf es cc.1) cc.2 = z at *
    let z1 : Nat := z0 + if z = true then 1 else 0
    let E1 : List (Option D) := [some (bookD es), some o1, some o2, some (.ref a), some (.int (z1 : Nat)), some (.ref i), some (.ref c), some (hopZ z (.inr c')), some (cD c')]
    let bf : D := ((Z c'.1).map vz).getD (.tup [.int 0, .int (-1)])
    have hz1 : (z0 : Int) + (if z = true then 1 else 0) = ((z1 : Nat) : Int) := by simp only [z1]; cases z <;> simp
    have a3 : ∀ x y u v : D, atI [x, y, u, v] 3 = some v := fun x y u v => by simp [atI, ixN]
    have a1 : ∀ x y : D, atI [x, y] 1 = some y := fun x y => by simp [atI, ixN]
    have h3 : sAsg (e2 addD (eVar 4) (eCall intF [e2 ixD (eVar 7) (eC (.int 3))])) (gName 4) [some (bookD es), some o1, some o2, some (.ref a), some (.int (z0 : Nat)), some (.ref i), some (.ref c), some (hopZ z (.inr c')), o8, o9, o10] T1 = some (.nx [some (bookD es), some o1, some o2, some (.ref a), some (.int (z1 : Nat)), some (.ref i), some (.ref c), some (hopZ z (.inr c')), o8, o9, o10] T1) := by
      simp [hopZ, a3, hz1]
    have h4 : sAsg (eSl (eVar 7) (some (eC (.int 1))) (some (eC (.int 3)))) (gName 8) [some (bookD es), some o1, some o2, some (.ref a), some (.int (z1 : Nat)), some (.ref i), some (.ref c), some (hopZ z (.inr c')), o8, o9, o10] T1 = some (.nx (E1 ++ [o9, o10]) T1) := by
      simp [hopZ, slD, cut, sIx, E1, cD]
    have hkc := hkv c'.1
    have h5 : sAsg (eFGet2 (eVar 6) (e2 ixD (eVar 8) (eC (.int 0))) (eTup [eC (.int 0), e1 negD (eC (.int 1))])) (gName 9) (E1 ++ [o9, o10]) T1 = some (.nx (E1 ++ [some bf, o10]) T1) := by
      simp [E1, gc1, cD, at0, k0, hkc, bf]
    have hfind := tget_k c' C M hM
    have h6 : sAsg (eOr (e2 kIn (eVar 8) (eVar 5)) (eAnd (e2 eqD (e2 ixD (eVar 9) (eC (.int 1))) (eVar 4)) (e2 leD (e2 ixD (eVar 9) (eC (.int 0))) (e2 ixD (eVar 8) (eC (.int 1)))))) (gName 10) (E1 ++ [some bf, o10]) T1 = some (.nx (E1 ++ [some bf, some (.bl (wAgain C (wLows z L) c'))]) T1) := by
      unfold wAgain
      by_cases hm : c' ∈ C
      · rw [decide_eq_true hm] at hfind
        simp [E1, gb1, cD, hfind, hm, k0]
      · rw [decide_eq_false hm] at hfind
        have hlz := w.lz c'.1
        cases hZ : Z c'.1 with
        | none =>
          rw [hZ] at hlz
          have hl : wLows z L c'.1 = none := by unfold wLows; split <;> simp [hlz]
          have hne : ¬ (-1 : Int) = (z1 : Int) := by omega
          simp [E1, gb1, cD, hfind, hm, k0, bf, hZ, a1, hl, hne]
        | some p =>
          rw [hZ] at hlz
          have hp := w.zl _ _ hZ
          dsimp only at hlz
          by_cases hpz : p.2 = z1
          · have hz : z = false := by
              cases z
              · rfl
              · simp [z1] at hpz; omega
            have hz0 : p.2 = z0 := by rw [hpz]; simp [z1, hz]
            rw [if_pos hz0] at hlz
            have hl : wLows z L c'.1 = some p.1 := by simp [wLows, hz, hlz]
            simp [E1, gb1, cD, hfind, hm, k0, bf, hZ, vz, a1, at0, hl, hpz]
          · have hl : wLows z L c'.1 = none := by
              unfold wLows
              cases hz : z
              · have : ¬ p.2 = z0 := fun e => hpz (by rw [e]; simp [z1, hz])
                rw [if_neg this] at hlz
                simp [hlz]
              · rfl
            have hne : ¬ (p.2 : Int) = (z1 : Int) := by omega
            simp [E1, gb1, cD, hfind, hm, k0, bf, hZ, vz, a1, at0, hl, hne]
    have ha2 := (List.getElem?_eq_some_iff.mp ga1).1
    have hi2 := (List.getElem?_eq_some_iff.mp gb1).1
    have hc2 := (List.getElem?_eq_some_iff.mp gc1).1
    have hMl : M.length = C.length := by have := congrArg List.length hM; simpa using this
    have hCL : C.length < LINE := by rw [LINE_eq]; omega
    have h7 : ∀ r, sExp (eMt .list appendF (eVar 3) [eVar 8]) (E1 ++ [some bf, r]) T1 = some (.nx (E1 ++ [some bf, r]) (T1.set a (.lst ((C ++ [c']).map cD)))) := fun r => by
      simp [E1, ga1, hCL]
    let T3 : Store := T1.set a (.lst ((C ++ [c']).map cD))
    have gb3 : T3[i]? = some (.st M) := by simp only [T3]; rw [List.getElem?_set_ne w.ab]; exact gb1
    have gc3 : T3[c]? = some (.dk kvs) := by simp only [T3]; rw [List.getElem?_set_ne w.ac]; exact gc1
    have ga3 : T3[a]? = some (.lst ((C ++ [c']).map cD)) := by simp only [T3]; rw [List.getElem?_set_self ha2]
    have hMm : M.length < 1000000 := by omega
    let M' : List (List D × D) := tput M (cK c') (.int (M.length : Nat))
    have h8 : ∀ r, sKPut (eVar 5) (eVar 8) (eCall dlenF [eVar 5]) (E1 ++ [some bf, r]) T3 = some (.nx (E1 ++ [some bf, r]) (T3.set i (.st M'))) := fun r => by
      simp [E1, gb3, hMm, k0, cD, M']
    let T4 : Store := T3.set i (.st M')
    have hi3 : i < T3.length := by simp only [T3, List.length_set]; exact hi2
    have ga4 : T4[a]? = some (.lst ((C ++ [c']).map cD)) := by simp only [T4]; rw [List.getElem?_set_ne (Ne.symm w.ab)]; exact ga3
    have gc4 : T4[c]? = some (.dk kvs) := by simp only [T4]; rw [List.getElem?_set_ne w.bc]; exact gc3
    have gb4 : T4[i]? = some (.st M') := by simp only [T4]; rw [List.getElem?_set_self hi3]
    have hkm : kvs.length < 1000000 := by omega
    let kv' : List (D × D) := fput kvs (.str c'.1) (.tup [.int (c'.2 : Nat), .int (z1 : Nat)])
    have h9 : ∀ r, sFPut (eVar 6) (e2 ixD (eVar 8) (eC (.int 0))) (eTup [e2 ixD (eVar 8) (eC (.int 1)), eVar 4]) (E1 ++ [some bf, r]) T4 = some (.nx (E1 ++ [some bf, r]) (T4.set c (.dk kv'))) := fun r => by
      simp [E1, gc4, hkm, k0, cD, at0, a1, kv']
    let T5 : Store := T4.set c (.dk kv')
    have hc4 : c < T4.length := (List.getElem?_eq_some_iff.mp gc4).1
    have ga5 : T5[a]? = some (.lst ((C ++ [c']).map cD)) := by simp only [T5]; rw [List.getElem?_set_ne (Ne.symm w.ac)]; exact ga4
    have gb5 : T5[i]? = some (.st M') := by simp only [T5]; rw [List.getElem?_set_ne (Ne.symm w.bc)]; exact gb4
    have gc5 : T5[c]? = some (.dk kv') := by simp only [T5]; rw [List.getElem?_set_self hc4]
    have k5 : Keep S0 T5 := ((k1.set w.a0).set w.b0).set w.c0
    have hpre : ∀ {q : Option Out}, sIf (tVal (eVar 10)) (sRet (eTup [eC (.str [102, 114, 101, 101]), eVar 3])) (sNx) (E1 ++ [some bf, some (.bl (wAgain C (wLows z L) c'))]) T5 = q → lb_law_walk_1 (R_law_followed 24) R_law_term_of [some (bookD es), some o1, some o2, some (.ref a), some (.int (z0 : Nat)), some (.ref i), some (.ref c), o7, o8, o9, o10] S = q := by
      intro q hq
      unfold lb_law_walk_1
      rw [sq_nx h1, sq_nx (ρ1 := [some (bookD es), some o1, some o2, some (.ref a), some (.int (z0 : Nat)), some (.ref i), some (.ref c), some (hopZ z (.inr c')), o8, o9, o10]) (S1 := T1) (by simp [hopZ, at0]), sq_nx h3, sq_nx h4, sq_nx h5, sq_nx h6, sq_nx (h7 _), sq_nx (h8 _), sq_nx (h9 _)]
      exact hq
    by_cases hag : wAgain C (wLows z L) c' = true
    · rw [if_pos hag]
      refine ⟨T5, hpre ?_, ga5, k5⟩
      rw [hag]
      simp [E1, resD]
    · rw [if_neg hag]
      have hag' : wAgain C (wLows z L) c' = false := by simpa using hag
      have hnew : c' ∉ C := fun hm => hag (by unfold wAgain; simp [hm])
      let Z1 : LwZ := fun t => if t = c'.1 then some (c'.2, z1) else Z t
      refine ⟨z1, Z1, some (hopZ z (.inr c')), some (cD c'), some bf, some (.bl false), T5, hpre ?_, ?_⟩
      · rw [hag']
        simp [E1]
      · refine ⟨k5, ga5, ⟨M', gb5, tput_k c' _ C M hM hnew⟩, ⟨kv', gc5, ?_, fun t => ?_⟩, fun t => ?_, fun t p hp => ?_, w.a0, w.b0, w.c0, w.ab, w.ac, w.bc⟩
        · have := fput_len kvs (.str c'.1) (.tup [.int (c'.2 : Nat), .int (z1 : Nat)])
          simp [kv']
          omega
        · simp only [kv']
          rw [fget_fput, hkv]
          simp only [Z1]
          split <;> rfl
        · simp only [Z1, wSet]
          by_cases ht : t = c'.1
          · simp [ht]
          · rw [if_neg ht, if_neg ht]
            have hlz := w.lz t
            cases hZ : Z t with
            | none =>
              rw [hZ] at hlz
              unfold wLows
              split <;> simp [hlz]
            | some p =>
              rw [hZ] at hlz
              have hp := w.zl _ _ hZ
              dsimp only at hlz ⊢
              cases hz : z
              · have e : z1 = z0 := by simp [z1, hz]
                rw [e]
                simpa [wLows] using hlz
              · have e : ¬ p.2 = z1 := by simp only [z1, hz]; simp; omega
                rw [if_neg e]
                simp [wLows]
        · simp only [Z1] at hp
          split at hp
          · cases hp; exact Nat.le_refl _
          · have := w.zl _ _ hp
            simp only [z1]
            omega
end Z
namespace Z
theorem lwalk_loop {es : List (List Nat × Tm)} (b : Bk es) {S0 : Store} {a i c : Nat} {o1 o2 : D} : ∀ (f : Nat) (cc : Call) (C0 : List Call) (L : Lows) (Z : LwZ) (z0 : Nat) (o7 o8 o9 o10 : Option D) (S : Store) (r : Option Nat) (C' : List Call), wk es f cc (C0 ++ [cc]) L = some (r, C') → C'.length ≤ 900000 → cc.1 ∈ es.map (·.1) → WL S0 S a i c (C0 ++ [cc]) L Z z0 →
    ∃ S', sWh (tVal (eC (.bl true))) (lb_law_walk_1 (R_law_followed 24) R_law_term_of) [some (bookD es), some o1, some o2, some (.ref a), some (.int (z0 : Nat)), some (.ref i), some (.ref c), o7, o8, o9, o10] S = some (.rt (resD a r) S') ∧ S'[a]? = some (.lst (C'.map cD)) ∧ Keep S0 S'
  | 0, cc, C0, L, Z, z0, o7, o8, o9, o10, S, r, C', h, _, _, _ => by cases h
  | f + 1, cc, C0, L, Z, z0, o7, o8, o9, o10, S, r, C', h, h9, hs, w => by
    have hlen := wk_len es (f + 1) _ _ _ _ _ h
    have st := lwalk_step b (o1 := o1) (o2 := o2) (o7 := o7) (o8 := o8) (o9 := o9) (o10 := o10) hs w (by omega)
    rw [wk] at h
    cases hh : hop (termOf es cc.1) cc.2 with
    | inl k =>
      rw [hh] at st h
      cases h
      obtain ⟨S', e1, e2, e3⟩ := st
      exact ⟨S', sWh_rt rfl e1, e2, e3⟩
    | inr c' =>
      rw [hh] at st h
      dsimp only at st h
      by_cases ha : wAgain (C0 ++ [cc]) (wLows (zipf (termOf es cc.1) cc.2) L) c' = true
      · rw [if_pos ha] at st h
        cases h
        obtain ⟨S', e1, e2, e3⟩ := st
        exact ⟨S', sWh_rt rfl e1, e2, e3⟩
      · rw [if_neg ha] at st h
        obtain ⟨z1, Z1, p7, p8, p9, p10, S2, e1, w2⟩ := st
        have hm := b.at hs
        obtain ⟨k1, _⟩ := hop_le (termOf es cc.1) cc.2 c'.1 c'.2 hh
        obtain ⟨S', e2, e3⟩ := lwalk_loop b f c' (C0 ++ [cc]) _ Z1 z1 p7 p8 p9 p10 S2 r C' h h9 (b.row _ hm _ k1) w2
        exact ⟨S', by rw [sWh_go rfl e1]; exact e2, e3⟩
theorem s_law_walk {es : List (List Nat × Tm)} (b : Bk es) {f : Nat} {cc : Call} {r : Option Nat} {C' : List Call} (h : wk es f cc [cc] (L0 cc) = some (r, C')) (h9 : C'.length ≤ 900000) (hs : cc.1 ∈ es.map (·.1)) (S : Store) :
    ∃ a S', R_law_walk [bookD es, .str cc.1, .int (cc.2 : Nat)] S = some (.ok (resD a r) S') ∧ S'[a]? = some (.lst (C'.map cD)) ∧ Keep S S' ∧ S.length ≤ a := by
  have w : WL S (S ++ [.lst [cD cc], .st [(cK cc, .int 0)], .dk [(.str cc.1, .tup [.int (cc.2 : Nat), .int 0])]]) S.length (S.length + 1) (S.length + 2) ([] ++ [cc]) (L0 cc) (fun t => if t = cc.1 then some (cc.2, 0) else none) 0 := by
    refine ⟨.app, by simp, ⟨_, by simp; rfl, by simp⟩, ⟨[(.str cc.1, .tup [.int (cc.2 : Nat), .int 0])], by simp, by simp, fun t => ?_⟩, fun t => ?_, fun t p hp => ?_, by omega, by omega, by omega, by omega, by omega, by omega⟩
    · by_cases ht : t = cc.1
      · subst ht; simp [fget, kEq0, vz]
      · have : ¬ cc.1 = t := fun e => ht e.symm
        simp [fget, kEq0, ht, this]
    · simp only [L0, wSet]
      by_cases ht : t = cc.1 <;> simp [ht]
    · have hp' : (if t = cc.1 then some (cc.2, 0) else none) = some p := hp
      split at hp'
      · cases hp'; exact Nat.le_refl _
      · cases hp'
  obtain ⟨S', e1, e2, e3⟩ := lwalk_loop b (o1 := .str cc.1) (o2 := .int (cc.2 : Nat)) f cc [] (L0 cc) _ 0 none none none none _ r C' h h9 hs w
  refine ⟨S.length, S', ?_, e2, e3, Nat.le_refl _⟩
  unfold R_law_walk
  rw [run_eq (n := 3) _ _ rfl]
  unfold b_law_walk
  simp [cD] at e1
  simp [k0, e1]
theorem pdL_calls (g : Nat → Option PD) : ∀ C : List Call, pdL g (C.map cD) = some (C.map fun c => PD.tup [.str c.1, .int (c.2 : Nat)])
  | [] => rfl
  | c :: C => by rw [List.map_cons, pdL, pdL_calls g C]; simp [cD, D.pd, pdL]
theorem depL_calls : ∀ C : List Call, depL (C.map fun c => PD.tup [.str c.1, .int (c.2 : Nat)]) ≤ 2
  | [] => by simp [depL]
  | c :: C => by have := depL_calls C; simp [depL, PD.dep]; omega
theorem dat_calls {S : Store} {a : Nat} {C : List Call} (h : S[a]? = some (.lst (C.map cD))) : dat S (.ref a) = some (.lst (C.map fun c => PD.tup [.str c.1, .int (c.2 : Nat)])) := by
  unfold dat
  rw [D.pd, rdR, h]
  dsimp only
  rw [pdL_calls]
  rfl
theorem ne_dat {d e : D} {S : Store} {x : PD} (h : dat S d = some x) (g : dat S e = some x) (hd : x.dep ≤ 64) : neD d e S = some (.ok (.bl false) S) := by
  unfold neD
  rw [h, g]
  dsimp only
  rw [if_pos ⟨hd, hd⟩, PD.eqv_refl]
  rfl
theorem ne_walks {S : Store} {a a' : Nat} {r : Option Nat} {C : List Call} (h : S[a]? = some (.lst (C.map cD))) (g : S[a']? = some (.lst (C.map cD))) : neD (resD a r) (resD a' r) S = some (.ok (.bl false) S) := by
  have h1 := dat_calls h
  have g1 := dat_calls g
  have hd := depL_calls C
  unfold dat at h1 g1
  rw [D.pd] at h1 g1
  cases r with
  | some i => exact ne_dat (x := .tup [.str wSign, .int i, .lst (C.map fun c => PD.tup [.str c.1, .int (c.2 : Nat)])]) (by simp [resD, dat, D.pd, pdL, h1]) (by simp [resD, dat, D.pd, pdL, g1]) (by simp [PD.dep, depL]; omega)
  | none => exact ne_dat (x := .tup [.str wFree, .lst (C.map fun c => PD.tup [.str c.1, .int (c.2 : Nat)])]) (by simp [resD, dat, D.pd, pdL, h1]) (by simp [resD, dat, D.pd, pdL, g1]) (by simp [PD.dep, depL]; omega)
theorem wk_from {es : List (List Nat × Tm)} (b : Bk es) (hl : es.length ≤ 4) {s : List Nat} (hs : s ∈ es.map (·.1)) {n : Nat} (hn : n ≤ 2000) : ∃ r C', wk es 8300 (s, n) [(s, n)] (L0 (s, n)) = some (r, C') ∧ C'.length ≤ 8193 :=
  wk_ends b hl 8300 (s, n) [(s, n)] (L0 (s, n)) [s] n ⟨fun t ht => by simp at ht; subst ht; exact hs, by simp, (fun t => by
      by_cases ht : t = s <;> simp [L0, wSet, ht]), (fun t v hv => by
      simp only [L0, wSet] at hv
      split at hv
      · cases hv; simp
      · cases hv), by simp [L0, wSet], hn⟩ (by simp) (fun c hc => by simp at hc; subst hc; exact ⟨hs, by show n < 2048; omega⟩) (by simp)
theorem s_law_v13 (ns : List Int) (hl : ns.length ≤ 63) : ∃ S', R_law_v13 [.fl (ns.map .int)] [] = some (.ok (.bl true) S') := by
  obtain ⟨es, G, hb, hw, hnd, h0, h4, h8⟩ := s_law_book_w hl []
  have b : Bk es := ⟨fun e he => (hw e he).1, fun e he => (hw e he).2, hnd, by omega⟩
  obtain ⟨e0, er, rfl⟩ : ∃ e0 er, es = e0 :: er := by
    cases es with
    | nil => simp at h0
    | cons e0 er => exact ⟨e0, er, rfl⟩
  generalize hes : e0 :: er = es at *
  have hat : atI (es.map ent) 0 = some (ent e0) := by rw [← hes]; simp [at0]
  have inner : ∀ (e : List Nat × Tm), e ∈ es → ∀ (o4 o5 o6 o7 o8 : Option D) (S : Store), ∃ (o4' o5' o6' o7' o8' : Option D) (S' : Store), lb_law_v13_2 R_law_cell R_law_walk R_walk [some (.fl (ns.map .int)), some (bookD es), some (.str e.1), some e.2.d, o4, o5, o6, o7, o8] S = some (.nx [some (.fl (ns.map .int)), some (bookD es), some (.str e.1), some e.2.d, o4', o5', o6', o7', o8'] S') := by
    intro e he o4 o5 o6 o7 o8 S
    have hs : e.1 ∈ es.map (·.1) := List.mem_map.mpr ⟨e, he, rfl⟩
    have key := forL_range (g := gName 4) (b := lb_law_v13_1 R_law_cell R_law_walk R_walk) (n := 4) (fun k ρ S' => ∃ o4 o5 o6 o7 o8, ρ = [some (.fl (ns.map .int)), some (bookD es), some (.str e.1), some e.2.d, o4, o5, o6, o7, o8]) (by
      rintro k hk ρ S' ⟨o4, o5, o6, o7, o8, rfl⟩
      refine ⟨_, _, rfl, ?_⟩
      obtain ⟨c, hc, c0, c1⟩ := s_law_cell hl (k := 20 + (k : Int)) (by omega) (by omega) S'
      obtain ⟨m, hm, hm1⟩ : ∃ m : Nat, (∃ q : Nat, atI [D.int 4, .int 20, .int 60, .int 150] (k : Int) = some (.int q) ∧ 0 < q ∧ c % (q : Int) = (m : Int)) ∧ m ≤ 2000 := by
        have go : ∀ q : Nat, 0 < q → q ≤ 150 → atI [D.int 4, .int 20, .int 60, .int 150] (k : Int) = some (.int q) → ∃ m : Nat, (∃ q : Nat, atI [D.int 4, .int 20, .int 60, .int 150] (k : Int) = some (.int q) ∧ 0 < q ∧ c % (q : Int) = (m : Int)) ∧ m ≤ 2000 := fun q h1 h2 h3 => by
          have a0 := Int.emod_nonneg c (b := (q : Int)) (by omega)
          have a1 := Int.emod_lt_of_pos c (b := (q : Int)) (by omega)
          exact ⟨(c % q).toNat, ⟨q, h3, h1, by omega⟩, by omega⟩
        match k, hk with
        | 0, _ => exact go 4 (by decide) (by decide) (atI_nat rfl)
        | 1, _ => exact go 20 (by decide) (by decide) (atI_nat rfl)
        | 2, _ => exact go 60 (by decide) (by decide) (atI_nat rfl)
        | 3, _ => exact go 150 (by decide) (by decide) (atI_nat rfl)
      obtain ⟨q, hq, hq0, hqm⟩ := hm
      let S1 : Store := S' ++ [.lst [D.int 4, .int 20, .int 60, .int 150]]
      let E0 : List (Option D) := [some (.fl (ns.map .int)), some (bookD es), some (.str e.1), some e.2.d, some (.int (k : Nat)), some (.int c)]
      obtain ⟨n, hn, hn2⟩ : ∃ n : Nat, sIf (tAnd (tVal (e2 eqD (eVar 4) (eC (.int 3)))) (tAnd (tVal (e2 eqD (e2 modD (e2 fdivD (eVar 5) (eC (.int 150))) (eC (.int 4))) (eC (.int 0)))) (tVal (e2 eqD (eVar 2) (e2 ixD (e2 ixD (eVar 1) (eC (.int 0))) (eC (.int 0))))))) (sAsg (e2 subD (eC (.int 2000)) (e2 modD (e2 fdivD (eVar 5) (eC (.int 600))) (eC (.int 3)))) (gName 6)) (sNx) (E0 ++ [some (.int (m : Nat)), o7, o8]) S1 = some (.nx (E0 ++ [some (.int (n : Nat)), o7, o8]) S1) ∧ n ≤ 2000 := by
        have hat' := hat
        by_cases k3 : k = 3
        · by_cases d1 : c / 150 % 4 = 0
          · by_cases d2 : e.1 = e0.1
            · have a0 := Int.emod_nonneg (c / 600) (b := 3) (by decide)
              have a1 := Int.emod_lt_of_pos (c / 600) (b := 3) (by decide)
              refine ⟨(2000 - c / 600 % 3).toNat, ?_, by omega⟩
              have : (2000 : Int) - c / 600 % 3 = (((2000 - c / 600 % 3).toNat : Nat) : Int) := by omega
              subst k3
              simp [E0, d1, hat', ent, at0, d2]
              omega
            · refine ⟨m, ?_, hm1⟩
              subst k3
              simp [E0, d1, hat', ent, at0, d2]
          · refine ⟨m, ?_, hm1⟩
            subst k3
            simp [E0, d1]
        · have : ¬ (k : Int) = 3 := by omega
          exact ⟨m, by simp [E0, this], hm1⟩
      obtain ⟨r, C', hwk, hC⟩ := wk_from b h4 hs hn2
      obtain ⟨a1, S2, w1, g1, k1, l1⟩ := s_law_walk b hwk (by omega) hs S1
      obtain ⟨a2, S3, w2, g2, k2, l2⟩ := s_walk b hwk (by omega) hs S2
      have ha1 := (List.getElem?_eq_some_iff.mp g1).1
      have ha2 := (List.getElem?_eq_some_iff.mp g2).1
      have g13 := k2.get g1
      have ne1 := ne_walks (r := r) g2 g13
      have hCL : C'.length < LINE := by rw [LINE_eq]; omega
      let S4 : Store := S3.set a2 (.lst (C'.map cD ++ [.tup [.str [97], .int 0]]))
      obtain ⟨a3, S5, w3, g3, k3, l3⟩ := s_walk b hwk (by omega) hs S4
      have g15 := k3.get (show S4[a1]? = some (.lst (C'.map cD)) by simp only [S4]; rw [List.getElem?_set_ne (by omega)]; exact g13)
      have ne2 := ne_walks (r := r) g3 g15
      dsimp only at w1 w2 w3
      refine ⟨E0 ++ [some (.int (n : Nat)), some (resD a1 r), some (resD a2 r)], S5, .inl ?_, _, _, _, _, _, rfl⟩
      have hr : isiD .tuple (resD a2 r) S3 = some (.ok (.bl true) S3) := by cases r <;> rfl
      have hr2 : ixD (resD a2 r) (.int (-1)) S3 = some (.ok (.ref a2) S3) := by cases r <;> simp [resD, atI, ixN]
      have hr3 : isiD .list (.ref a2) S3 = some (.ok (.bl true) S3) := by simp [isiD, isiB, g2]
      have hS1 : lb_law_v13_1 R_law_cell R_law_walk R_walk (E0.set 5 o5 ++ [o6, o7, o8]) S' = some (.nx (E0 ++ [some (.int (n : Nat)), some (resD a1 r), some (resD a2 r)]) S5) := by
        unfold lb_law_v13_1
        rw [sq_nx (ρ1 := E0 ++ [o6, o7, o8]) (S1 := S') (by simp [E0, hc])]
        rw [sq_nx (ρ1 := E0 ++ [some (.int (m : Nat)), o7, o8]) (S1 := S1) (by simp [E0, S1, hq, hqm, hq0])]
        rw [sq_nx hn]
        rw [sq_nx (ρ1 := E0 ++ [some (.int (n : Nat)), some (resD a1 r), o8]) (S1 := S2) (by simp [E0, w1])]
        rw [sq_nx (ρ1 := E0 ++ [some (.int (n : Nat)), some (resD a1 r), some (resD a2 r)]) (S1 := S3) (by simp [E0, w2])]
        rw [sq_nx (ρ1 := E0 ++ [some (.int (n : Nat)), some (resD a1 r), some (resD a2 r)]) (S1 := S3) (by simp [E0, hr, ne1, hr2, hr3])]
        rw [sq_nx (ρ1 := E0 ++ [some (.int (n : Nat)), some (resD a1 r), some (resD a2 r)]) (S1 := S4) (by simp [E0, hr2, g2, hCL, S4])]
        simp [E0, w3, ne2]
      exact hS1) [some (.fl (ns.map .int)), some (bookD es), some (.str e.1), some e.2.d, o4, o5, o6, o7, o8] S ⟨_, _, _, _, _, rfl⟩
    obtain ⟨ρ', S', h, o4', o5', o6', o7', o8', rfl⟩ := key
    refine ⟨o4', o5', o6', o7', o8', S', ?_⟩
    unfold lb_law_v13_2
    simp [h]
  have key := forL_inv (chk := fun _ => True) (g := gTup [gName 2, gName 3]) (b := lb_law_v13_2 R_law_cell R_law_walk R_walk) (fun ρ S => ∃ o2 o3 o4 o5 o6 o7 o8, ρ = [some (.fl (ns.map .int)), some (bookD es), o2, o3, o4, o5, o6, o7, o8]) (fun _ _ _ => trivial) (es.map ent) (by
    rintro x hx ρ S ⟨o2, o3, o4, o5, o6, o7, o8, rfl⟩
    obtain ⟨e, he, rfl⟩ := List.mem_map.mp hx
    obtain ⟨o4', o5', o6', o7', o8', S', h⟩ := inner e he o4 o5 o6 o7 o8 S
    exact ⟨_, _, rfl, _, _, h, _, _, _, _, _, _, _, rfl⟩) [some (.fl (ns.map .int)), some (bookD es), none, none, none, none, none, none, none] G ⟨_, _, _, _, _, _, _, rfl⟩
  obtain ⟨ρ', S', h, _⟩ := key
  refine ⟨S', ?_⟩
  unfold R_law_v13
  rw [run_eq (n := 1) _ _ rfl]
  unfold b_law_v13
  simp at hb
  simp [hb, h]
end Z
namespace Z
/-! ### walks of eight names; a walk without zips told by the lows alone -/
structure Lb8 (names : List (List Nat)) (P : List (List Nat)) (n0 : Nat) (c : Call) (L : Lows) : Prop where
  sub : ∀ t ∈ P, t ∈ names
  nd : P.Nodup
  iff : ∀ t, t ∈ P ↔ L t ≠ none
  le : ∀ t v, L t = some v → v + 12 ≤ n0 + 12 * P.length
  cur : L c.1 = some c.2
  n0 : n0 ≤ 2000
theorem wk_ends8 {es : List (List Nat × Tm)} (b : Bk es) (hl : es.length ≤ 8) : ∀ (f : Nat) (c : Call) (C : List Call) (L : Lows) (P : List (List Nat)) (n0 : Nat), Lb8 (es.map (·.1)) P n0 c L → C.Nodup → (∀ c ∈ C, c.1 ∈ es.map (·.1) ∧ c.2 < 2200) → 17700 ≤ f + C.length → ∃ r C', wk es f c C L = some (r, C') ∧ C'.length ≤ 17601 ∧ ∀ x ∈ C', x.1 ∈ es.map (·.1) ∧ x.2 < 2300
  | 0, c, C, L, P, n0, _, hn, hC, hf => by
    have := few_calls (es.map (·.1)) 2200 C hn hC
    rw [List.length_map] at this
    have : es.length * 2200 ≤ 8 * 2200 := Nat.mul_le_mul_right _ hl
    omega
  | f + 1, c, C, L, P, n0, h, hn, hC, hf => by
    have hCl := few_calls (es.map (·.1)) 2200 C hn hC
    rw [List.length_map] at hCl
    have hCl2 : es.length * 2200 ≤ 8 * 2200 := Nat.mul_le_mul_right _ hl
    rw [wk]
    cases hh : hop (termOf es c.1) c.2 with
    | inl i => exact ⟨_, _, rfl, by omega, fun x hx => ⟨(hC x hx).1, by have := (hC x hx).2; omega⟩⟩
    | inr c' =>
      dsimp only
      have hPl : P.length ≤ 8 := by
        have := nd_le' h.nd h.sub
        rw [List.length_map] at this
        omega
      have hc1 : c.1 ∈ es.map (·.1) := h.sub _ ((h.iff _).mpr (by rw [h.cur]; simp))
      have hm := b.at hc1
      have hd : (termOf es c.1).depth ≤ 12 := b.dep _ hm
      have hn0 := h.n0
      obtain ⟨k1, k2, k3⟩ := hop_le (termOf es c.1) c.2 c'.1 c'.2 hh
      have hs' : c'.1 ∈ es.map (·.1) := b.row _ hm _ k1
      have hcur := h.le _ _ h.cur
      by_cases ha : wAgain C (wLows (zipf (termOf es c.1) c.2) L) c' = true
      · rw [if_pos ha]
        refine ⟨_, _, rfl, by simp; omega, fun x hx => ?_⟩
        rcases List.mem_append.mp hx with hx | hx
        · exact ⟨(hC x hx).1, by have := (hC x hx).2; omega⟩
        · simp at hx
          subst hx
          refine ⟨hs', ?_⟩
          cases z : zipf (termOf es c.1) c.2 with
          | true => have := k3 z; omega
          | false => have := k2 z; omega
      · rw [if_neg ha]
        have ha' : c' ∉ C ∧ ∀ v, wLows (zipf (termOf es c.1) c.2) L c'.1 = some v → c'.2 < v := by
          unfold wAgain at ha
          simp only [Bool.or_eq_true, decide_eq_true_eq, not_or] at ha
          refine ⟨ha.1, fun v hv => ?_⟩
          have := ha.2
          rw [hv] at this
          simp at this
          exact this
        have step : ∀ P' n0', Lb8 (es.map (·.1)) P' n0' c' (wSet (wLows (zipf (termOf es c.1) c.2) L) c') → c'.2 < 2200 → ∃ r C', wk es f c' (C ++ [c']) (wSet (wLows (zipf (termOf es c.1) c.2) L) c') = some (r, C') ∧ C'.length ≤ 17601 ∧ ∀ x ∈ C', x.1 ∈ es.map (·.1) ∧ x.2 < 2300 := fun P' n0' h' hb =>
          wk_ends8 b hl f c' (C ++ [c']) _ P' n0' h' (List.nodup_append.mpr ⟨hn, by simp, fun a hax x hx => by simp at hx; subst hx; exact fun e => ha'.1 (e ▸ hax)⟩) (fun x hx => by
            rcases List.mem_append.mp hx with hx | hx
            · exact hC x hx
            · simp at hx; subst hx; exact ⟨hs', hb⟩) (by simp; omega)
        cases z : zipf (termOf es c.1) c.2 with
        | true =>
          rw [z] at step ha'
          have := k3 z
          refine step [c'.1] c'.2 ⟨fun t ht => by simp at ht; subst ht; exact hs', by simp, fun t => ?_, fun t v hv => ?_, by simp [wSet], by omega⟩ (by omega)
          · simp [wSet, wLows]
          · simp only [wSet, wLows] at hv
            split at hv
            · cases hv; simp
            · simp at hv
        | false =>
          rw [z] at step ha'
          have hz := k2 z
          have e : wLows false L = L := by simp [wLows]
          rw [e] at step ha'
          by_cases hp : c'.1 ∈ P
          · have hne := (h.iff _).mp hp
            obtain ⟨v, hv⟩ := Option.ne_none_iff_exists'.mp hne
            have hlt := ha'.2 v hv
            have hv2 := h.le _ _ hv
            refine step P n0 ⟨h.sub, h.nd, fun t => ?_, fun t w hw => ?_, by simp [wSet], h.n0⟩ (by have := h.n0; omega)
            · by_cases ht : t = c'.1
              · subst ht; simp [wSet, hp]
              · simp [wSet, ht]; exact h.iff t
            · simp only [wSet] at hw
              split at hw
              · cases hw; omega
              · exact h.le _ _ hw
          · have hl2 : (c'.1 :: P).length ≤ 8 := by
              have := nd_le' (a := c'.1 :: P) (b := es.map (·.1)) (List.nodup_cons.mpr ⟨hp, h.nd⟩) (fun t ht => by
                rcases List.mem_cons.mp ht with rfl | ht
                · exact hs'
                · exact h.sub t ht)
              rw [List.length_map] at this
              omega
            rw [List.length_cons] at hl2
            refine step (c'.1 :: P) n0 ⟨fun t ht => ?_, List.nodup_cons.mpr ⟨hp, h.nd⟩, fun t => ?_, fun t w hw => ?_, by simp [wSet], h.n0⟩ (by have := h.n0; omega)
            · rcases List.mem_cons.mp ht with rfl | ht
              · exact hs'
              · exact h.sub t ht
            · by_cases ht : t = c'.1
              · subst ht; simp [wSet]
              · simp [wSet, ht]; exact h.iff t
            · rw [List.length_cons]
              simp only [wSet] at hw
              split at hw
              · cases hw; omega
              · have := h.le _ _ hw; omega
theorem wk_pre (es : List (List Nat × Tm)) : ∀ (f : Nat) (c : Call) (C : List Call) (L : Lows) (r : Option Nat) (C' : List Call), wk es f c C L = some (r, C') → ∃ D, C' = C ++ D
  | 0, c, C, L, r, C', h => by cases h
  | f + 1, c, C, L, r, C', h => by
    rw [wk] at h
    cases hh : hop (termOf es c.1) c.2 with
    | inl i => rw [hh] at h; cases h; exact ⟨[], by simp⟩
    | inr c' =>
      rw [hh] at h
      dsimp only at h
      split at h
      · cases h; exact ⟨[c'], rfl⟩
      · obtain ⟨D, hD⟩ := wk_pre es f c' _ _ r C' h
        exact ⟨c' :: D, by rw [hD]; simp⟩
def Tm.noz : Tm → Bool
  | .row _ => true
  | .sign _ t => t.noz
  | .beh t => t.noz
  | .zip _ _ => false
theorem noz_zipf : ∀ (t : Tm) (n : Nat), t.noz = true → zipf t n = false
  | .row _, _, _ => rfl
  | .sign _ _, 0, _ => rfl
  | .sign _ t, n + 1, h => noz_zipf t n h
  | .beh t, n, h => noz_zipf t (n + 1) h
  | .zip _ _, _, h => by cases h
/-- the lows tell of each call made -/
def Told (C : List Call) (L : Lows) : Prop := ∀ x ∈ C, ∃ v, L x.1 = some v ∧ v ≤ x.2
def lowB (L : Lows) (c : Call) : Bool := match L c.1 with | some v => decide (v ≤ c.2) | none => false
theorem Told.again {C : List Call} {L : Lows} (h : Told C L) (c : Call) : wAgain C L c = lowB L c := by
  unfold wAgain lowB
  by_cases hm : c ∈ C
  · obtain ⟨v, h1, h2⟩ := h c hm
    rw [h1]
    simp [hm, h2]
  · cases hL : L c.1 <;> simp [hm]
theorem Told.set {C : List Call} {L : Lows} (h : Told C L) {c : Call} (hl : lowB L c = false) : Told (C ++ [c]) (wSet L c) := by
  intro x hx
  unfold wSet
  by_cases e : x.1 = c.1
  · rw [if_pos e]
    refine ⟨c.2, rfl, ?_⟩
    rcases List.mem_append.mp hx with hx | hx
    · obtain ⟨v, h1, h2⟩ := h x hx
      unfold lowB at hl
      rw [← e, h1] at hl
      simp at hl
      omega
    · simp at hx; subst hx; exact Nat.le_refl _
  · rw [if_neg e]
    rcases List.mem_append.mp hx with hx | hx
    · exact h x hx
    · simp at hx; subst hx; exact absurd rfl e
def pend (es : List (List Nat × Tm)) (f : Nat) (c : Call) (C : List Call) (L : Lows) : Option (Option Nat × List Call) :=
  if lowB L c = true then some (none, C ++ [c]) else wk es f c (C ++ [c]) (wSet L c)
theorem wk_pend {es : List (List Nat × Tm)} (hz : ∀ e ∈ es, e.2.noz = true) (b : Bk es) {f : Nat} {c : Call} (hc : c.1 ∈ es.map (·.1)) {C : List Call} {L : Lows} (h : Told C L) :
    wk es (f + 1) c C L = match hop (termOf es c.1) c.2 with
      | .inl i => some (some i, C)
      | .inr c' => pend es f c' C L := by
  rw [wk, noz_zipf _ _ (hz _ (b.at hc))]
  have e : wLows false L = L := by simp [wLows]
  rw [e]
  cases hop (termOf es c.1) c.2 with
  | inl i => rfl
  | inr c' => dsimp only; rw [h.again]; rfl
theorem cD_eq (c : Call) (S : Store) : eqD (cD c) (cD c) S = some (.ok (.bl true) S) := eq_same (x := .tup [.str c.1, .int (c.2 : Nat)]) (by simp [dat, cD, D.pd, pdL]) (by simp [PD.dep, depL])
theorem last_cD (C : List Call) (c : Call) : atI (C.map cD ++ [cD c]) (-1) = some (cD c) := by
  have h : (-1 : Int) + (C.length + 1) = (C.length : Nat) := by omega
  have h1 : (1 : Int) ≤ C.length + 1 := by omega
  simp [atI, ixN, h, h1]
abbrev farT : ST := tVal (e2 eqD (e2 ixD (eVar 7) (eC (.int 0))) (eC (.str [99, 97, 108, 108])))
theorem far_again {es : List (List Nat × Tm)} {a i j : Nat} {o1 o2 : Option D} {c : Call} {C : List Call} {v : Nat} {kvs : List (D × D)} {z : Bool} {S : Store} (ga : S[a]? = some (.lst ((C ++ [c]).map cD))) (gj : S[j]? = some (.dk kvs)) (hk : fget kvs (.str c.1) = some (.int (v : Nat))) (hv : v ≤ c.2) (hl : C.length ≤ 900000) :
    lb_law_far_right_1 (R_law_followed 24) [some (bookD es), o1, o2, some (.ref i), some (resD a none), some (.ref j), some (.int (C.length : Nat)), some (hopZ z (.inr c))] S = some (.rt (.bl true) S) := by
  have a1 : ∀ x y w v : D, atI [x, y, w, v] 1 = some y := fun x y w v => by simp [atI, ixN]
  have a2 : ∀ x y w v : D, atI [x, y, w, v] 2 = some w := fun x y w v => by simp [atI, ixN]
  have a3 : ∀ x y : D, atI [x, y] 1 = some y := fun x y => by simp [atI, ixN]
  have hlast := last_cD C c
  have heq := cD_eq c S
  have hsl : slD (some 1) (some 3) (.tup [.str wCall, .str c.1, .int (c.2 : Nat), .bl z]) S = some (.ok (cD c) S) := by
    have hL : ∀ k : Nat, k ≤ 100 → k ≤ LINE := fun k hk => by rw [LINE_eq]; omega
    simp [slD, cut, sIx, hL, cD]
  unfold lb_law_far_right_1
  rw [sq_nx (ρ1 := [some (bookD es), o1, o2, some (.ref i), some (resD a none), some (.ref j), some (.int ((C.length : Nat) + 1)), some (hopZ z (.inr c))]) (S1 := S) (by simp)]
  refine sq_rt ?_
  have hv' : ¬ (c.2 : Int) < v := by omega
  simp at ga
  simp [gj, a1, a2, a3, hk, k0, hopZ, hv, hv', ga, resD, at0, hlast, heq, hsl]
theorem far_go {es : List (List Nat × Tm)} (b : Bk es) {i j : Nat} {o1 o2 o4 : Option D} {c : Call} (hc : c.1 ∈ es.map (·.1)) {m : Nat} {L : Lows} {kvs : List (D × D)} {z : Bool} {S : Store} (gi : S[i]? = some (.dk (es.map kvE))) (gj : S[j]? = some (.dk kvs)) (hji : j ≠ i) (hk : fget kvs (.str c.1) = (L c.1).map fun v => .int (v : Nat)) (hlow : lowB L c = false) (hkl : kvs.length ≤ 900000) :
    ∃ G, lb_law_far_right_1 (R_law_followed 24) [some (bookD es), o1, o2, some (.ref i), o4, some (.ref j), some (.int (m : Nat)), some (hopZ z (.inr c))] S = some (.nx [some (bookD es), o1, o2, some (.ref i), o4, some (.ref j), some (.int ((m + 1 : Nat) : Int)), some (hopZ (zipf (termOf es c.1) c.2) (hop (termOf es c.1) c.2))] (S.set j (.dk (fput kvs (.str c.1) (.int (c.2 : Nat)))) ++ G)) := by
  have hm := b.at hc
  have hd : (termOf es c.1).depth ≤ 12 := b.dep _ hm
  have hget := fget_es b.nd hm
  obtain ⟨G, e⟩ := s_law_followed (termOf es c.1) 24 c.2 (S.set j (.dk (fput kvs (.str c.1) (.int (c.2 : Nat))))) (by omega)
  refine ⟨G, ?_⟩
  have a1 : ∀ x y w v : D, atI [x, y, w, v] 1 = some y := fun x y w v => by simp [atI, ixN]
  have a2 : ∀ x y w v : D, atI [x, y, w, v] 2 = some w := fun x y w v => by simp [atI, ixN]
  have gi2 : (S.set j (.dk (fput kvs (.str c.1) (.int (c.2 : Nat)))))[i]? = some (.dk (es.map kvE)) := by rw [List.getElem?_set_ne hji]; exact gi
  have hkm : kvs.length < 1000000 := by omega
  have hz1 : hopZ z (.inr c) = .tup [.str wCall, .str c.1, .int (c.2 : Nat), .bl z] := rfl
  rw [hz1]
  unfold lb_law_far_right_1
  rw [sq_nx (ρ1 := [some (bookD es), o1, o2, some (.ref i), o4, some (.ref j), some (.int ((m + 1 : Nat) : Int)), some (.tup [.str wCall, .str c.1, .int (c.2 : Nat), .bl z])]) (S1 := S) (by simp)]
  rw [sq_nx (ρ1 := [some (bookD es), o1, o2, some (.ref i), o4, some (.ref j), some (.int ((m + 1 : Nat) : Int)), some (.tup [.str wCall, .str c.1, .int (c.2 : Nat), .bl z])]) (S1 := S) (by
    cases hL : L c.1 with
    | none =>
      rw [hL] at hk
      simp at hk
      have : ¬ (c.2 : Int) + 1 ≤ c.2 := by omega
      simp [gj, a1, a2, hk, k0, this]
    | some v =>
      rw [hL] at hk
      simp at hk
      unfold lowB at hlow
      rw [hL] at hlow
      simp at hlow
      have : ¬ (v : Int) ≤ c.2 := by omega
      simp [gj, a1, a2, hk, k0, this])]
  rw [sq_nx (ρ1 := [some (bookD es), o1, o2, some (.ref i), o4, some (.ref j), some (.int ((m + 1 : Nat) : Int)), some (.tup [.str wCall, .str c.1, .int (c.2 : Nat), .bl z])]) (S1 := S.set j (.dk (fput kvs (.str c.1) (.int (c.2 : Nat))))) (by simp [gj, hkm, k0, a1, a2])]
  simp [a1, a2, gi2, hget, k0, e]
theorem far_loop {es : List (List Nat × Tm)} (b : Bk es) (hz : ∀ e ∈ es, e.2.noz = true) {S0 : Store} {i a j : Nat} {o1 o2 : Option D} (hj0 : S0.length ≤ j) (hji : j ≠ i) (hja : j ≠ a) {r : Option Nat} {C' : List Call} (h9 : C'.length ≤ 900000) : ∀ (f : Nat) (c : Call) (C : List Call) (L : Lows) (kvs : List (D × D)) (z : Bool) (S : Store), Keep S0 S → Told C L → c.1 ∈ es.map (·.1) → pend es f c C L = some (r, C') → S[i]? = some (.dk (es.map kvE)) → S[a]? = some (.lst (C'.map cD)) → S[j]? = some (.dk kvs) → kvs.length ≤ C.length → (∀ t, fget kvs (.str t) = (L t).map fun v => .int (v : Nat)) →
    ∃ S', Keep S0 S' ∧ match r with
      | none => sWh farT (lb_law_far_right_1 (R_law_followed 24)) [some (bookD es), o1, o2, some (.ref i), some (resD a r), some (.ref j), some (.int (C.length : Nat)), some (hopZ z (.inr c))] S = some (.rt (.bl true) S')
      | some k => ∃ z', S'[a]? = some (.lst (C'.map cD)) ∧ sWh farT (lb_law_far_right_1 (R_law_followed 24)) [some (bookD es), o1, o2, some (.ref i), some (resD a r), some (.ref j), some (.int (C.length : Nat)), some (hopZ z (.inr c))] S = some (.nx [some (bookD es), o1, o2, some (.ref i), some (resD a r), some (.ref j), some (.int (C'.length : Nat)), some (hopZ z' (.inl k))] S') := by
  intro f
  induction f with
  | zero =>
    intro c C L kvs z S kS ht hc h gi ga gj hkl hkv
    unfold pend at h
    split at h
    · cases h
      rename_i hlow
      have hk := hkv c.1
      unfold lowB at hlow
      cases hL : L c.1 with
      | none => rw [hL] at hlow; cases hlow
      | some v =>
        rw [hL] at hlow hk
        exact ⟨S, kS, sWh_rt (by simp [hopZ, at0]) (far_again ga gj hk (of_decide_eq_true hlow) (by simp at h9; omega))⟩
    · cases h
  | succ f ih =>
    intro c C L kvs z S kS ht hc h gi ga gj hkl hkv
    unfold pend at h
    split at h
    · cases h
      rename_i hlow
      have hk := hkv c.1
      unfold lowB at hlow
      cases hL : L c.1 with
      | none => rw [hL] at hlow; cases hlow
      | some v =>
        rw [hL] at hlow hk
        exact ⟨S, kS, sWh_rt (by simp [hopZ, at0]) (far_again ga gj hk (of_decide_eq_true hlow) (by simp at h9; omega))⟩
    · rename_i hlow
      have hlow' : lowB L c = false := by simpa using hlow
      have ht2 := ht.set hlow'
      have hlen := wk_len es _ _ _ _ _ _ h
      rw [List.length_append, List.length_singleton] at hlen
      rw [wk_pend hz b hc ht2] at h
      obtain ⟨G, e⟩ := far_go b (o1 := o1) (o2 := o2) (o4 := some (resD a r)) (m := C.length) (z := z) hc gi gj hji (hkv c.1) hlow' (by omega)
      have hjl := (List.getElem?_eq_some_iff.mp gj).1
      have gi2 : (S.set j (.dk (fput kvs (.str c.1) (.int (c.2 : Nat)))) ++ G)[i]? = some (.dk (es.map kvE)) := get_app (by rw [List.getElem?_set_ne hji]; exact gi) G
      have ga2 : (S.set j (.dk (fput kvs (.str c.1) (.int (c.2 : Nat)))) ++ G)[a]? = some (.lst (C'.map cD)) := get_app (by rw [List.getElem?_set_ne hja]; exact ga) G
      have gj2 : (S.set j (.dk (fput kvs (.str c.1) (.int (c.2 : Nat)))) ++ G)[j]? = some (.dk (fput kvs (.str c.1) (.int (c.2 : Nat)))) := get_app (List.getElem?_set_self hjl) G
      have hgo := sWh_go (t := farT) (S := S) (S1 := S) (by simp [hopZ, at0]) e
      have hCl : (C ++ [c]).length = C.length + 1 := by simp
      cases hh : hop (termOf es c.1) c.2 with
      | inl k =>
        rw [hh] at h hgo
        cases h
        refine ⟨_, (kS.set hj0).trans .app, zipf (termOf es c.1) c.2, ga2, ?_⟩
        rw [hgo, hCl]
        exact sWh_stop (by simp [hopZ, at0])
      | inr c' =>
        rw [hh] at h hgo
        dsimp only at h
        have hm := b.at hc
        obtain ⟨k1, _⟩ := hop_le (termOf es c.1) c.2 c'.1 c'.2 hh
        have := fput_len kvs (.str c.1) (.int (c.2 : Nat))
        obtain ⟨S', hk', hr⟩ := ih c' (C ++ [c]) _ _ (zipf (termOf es c.1) c.2) _ ((kS.set hj0).trans .app) ht2 (b.row _ hm _ k1) h gi2 ga2 gj2 (by omega) (fun t => by
          rw [fget_fput, hkv]
          unfold wSet
          split <;> rfl)
        refine ⟨S', hk', ?_⟩
        rw [hgo]
        rw [hCl] at hr
        exact hr
end Z
namespace Z
theorem In.rw {names : List (List Nat)} : ∀ {t : Tm}, t.In names → t.Rw names
  | .row s, h => rw_row h
  | .sign i t, h => fun x hx => In.rw (t := t) h.2 x hx
  | .beh t, h => fun x hx => In.rw (t := t) h x hx
  | .zip a b, h => rw_zip (In.rw h.1) (In.rw h.2)
theorem hop_sign {names : List (List Nat)} {i : Nat} : ∀ {t : Tm} {n : Nat}, t.In names → hop t n = .inl i → i < 10
  | .row s, n, _, h => by simp [hop] at h
  | .sign j t, 0, hi, h => by simp [hop] at h; subst h; exact hi.1
  | .sign j t, n + 1, hi, h => hop_sign (t := t) (n := n) hi.2 h
  | .beh t, n, hi, h => hop_sign (t := t) (n := n + 1) hi h
  | .zip a b, n, hi, h => by
    rw [hop] at h
    split at h
    · exact hop_sign hi.1 h
    · exact hop_sign hi.2 h
/-- a book of a chain of names -/
structure Chn (names : List (List Nat)) (e : List Nat × Tm) : Prop where
  dep : e.2.depth ≤ 12
  inn : e.2.In names
  noz : e.2.noz = true
theorem chain_term {p c l r : Nat} {o2 o3 : Option D} {names : List (List Nat)} {xs : List D} {S : Store} (hs : Sp S p c) (hr : S[r]? = some (.lst xs)) (rp : r ≠ p) (rc : r ≠ c) {t : Tm} (h : t.In names) (hz : t.noz = true) (hd : t.depth ≤ 1) (v : Nat) (hv : v < 3) (o5 : Option D) :
    ∃ (t' : Tm) (o5' : Option D) (S' : Store), forL (fun _ => True) (gName 5) (lb_law_chain_1 R_law_drop) ((List.range v).map fun (k : Nat) => D.int k) [some (.ref p), some (.ref l), o2, o3, some t.d, o5] S = some (.nx [some (.ref p), some (.ref l), o2, o3, some t'.d, o5'] S') ∧ t'.In names ∧ t'.noz = true ∧ t'.depth ≤ 4 ∧ Sp S' p c ∧ Fr p c S S' := by
  obtain ⟨ρ', S', h1, t', o5', rfl, h2, h3, h4, h5, h6⟩ := forL_range (g := gName 5) (b := lb_law_chain_1 R_law_drop) (n := v) (fun k ρ S' => ∃ (t' : Tm) (o5' : Option D), ρ = [some (.ref p), some (.ref l), o2, o3, some t'.d, o5'] ∧ t'.In names ∧ t'.noz = true ∧ t'.depth ≤ 1 + k ∧ Sp S' p c ∧ Fr p c S S') (by
    rintro k hk ρ S1 ⟨t1, o5', rfl, g1, g2, g3, g4, g5⟩
    refine ⟨_, _, rfl, ?_⟩
    obtain ⟨w, S2, e1, hw, s2, l2, f2⟩ := drop_nat g4 10 (by decide) (by decide)
    obtain ⟨q, S3, e3, hq, s3, l3, f3⟩ := drop_nat (S := S2 ++ [.lst [(Tm.beh t1).d, (Tm.sign w t1).d]]) s2.app 2 (by decide) (by decide)
    have hg : S3[S2.length]? = some (.lst [(Tm.beh t1).d, (Tm.sign w t1).d]) := by
      have hlt := s2.lt
      rw [f3.old S2.length (by simp) (by omega) (by omega)]; simp
    have a1 : ∀ x y : D, atI [x, y] 1 = some y := fun x y => by simp [atI, ixN]
    simp at e1 e3
    rw [Tm.d, Tm.d] at e3 hg
    rcases (show q = 0 ∨ q = 1 by omega) with rfl | rfl
    · refine ⟨[some (.ref p), some (.ref l), o2, o3, some (Tm.beh t1).d, some (.int (k : Nat))], S3, .inl ?_, Tm.beh t1, _, rfl, g1, g2, by simp [Tm.depth]; omega, s3, ((g5.trans f2).trans .app).trans f3⟩
      simp at e3
      simp [lb_law_chain_1, e1, e3, hg, at0, Tm.d]
    · refine ⟨[some (.ref p), some (.ref l), o2, o3, some (Tm.sign w t1).d, some (.int (k : Nat))], S3, .inl ?_, Tm.sign w t1, _, rfl, ⟨hw, g1⟩, g2, by simp [Tm.depth]; omega, s3, ((g5.trans f2).trans .app).trans f3⟩
      simp at e3
      simp [lb_law_chain_1, e1, e3, hg, a1, Tm.d]) [some (.ref p), some (.ref l), o2, o3, some t.d, o5] S ⟨t, o5, rfl, h, hz, by omega, hs, .refl⟩
  exact ⟨t', o5', S', h1, h2, h3, by omega, h5, h6⟩
theorem s_law_chain {S : Store} {p c l : Nat} {names : List (List Nat)} (hd : Drawn S p c l names) (hs : Sp S p c) :
    ∃ es S', R_law_chain [.ref p, .ref l] S = some (.ok (bookD es) S') ∧ es.map (·.1) = names ∧ (∀ e ∈ es, Chn names e) ∧ Sp S' p c ∧ Fr p c S S' := by
  have hlt := hs.lt
  have h8 := hd.l8
  obtain ⟨ρ', S', h1, es, o3, o4, o5, rfl, g1, g2, g3, g4, g5⟩ := forL_range (g := gName 3) (b := lb_law_chain_2 R_law_drop) (n := 8) (fun k ρ S' => ∃ (es : List (List Nat × Tm)) (o3 o4 o5 : Option D), ρ = [some (.ref p), some (.ref l), some (.ref S.length), o3, o4, o5] ∧ S'[S.length]? = some (.lst (es.map ent)) ∧ es.map (·.1) = names.take k ∧ (∀ e ∈ es, Chn names e) ∧ Sp S' p c ∧ Fr p c S S') (by
    rintro k hk ρ S1 ⟨es, o3, o4, o5, rfl, g1, g2, g3, g4, g5⟩
    refine ⟨_, _, rfl, ?_⟩
    have hn := hd.nm.fr g5
    obtain ⟨s', hs'⟩ : ∃ s', names[(k + 1) % 8]? = some s' := ⟨_, List.getElem?_eq_getElem (by omega)⟩
    obtain ⟨s, hs1⟩ : ∃ s, names[k]? = some s := ⟨_, List.getElem?_eq_getElem (by omega)⟩
    have hat : atI (names.map D.str) (((k : Nat) + 1 : Int) % 8) = some (.str s') := by
      have := atI_nat (xs := names.map D.str) (k := (k + 1) % 8) (x := .str s') (by simp [hs'])
      have e : (((k + 1) % 8 : Nat) : Int) = ((k : Int) + 1) % 8 := by omega
      rw [e] at this
      exact this
    have hat2 : atI (names.map D.str) (k : Int) = some (.str s) := atI_nat (by simp [hs1])
    obtain ⟨v, S2, e1, hv, s2, l2, f2⟩ := drop_nat g4 3 (by decide) (by decide)
    have hl1 := (List.getElem?_eq_some_iff.mp g1).1
    have g12 : S2[S.length]? = some (.lst (es.map ent)) := by rw [f2.old _ hl1 (by omega) (by omega)]; exact g1
    obtain ⟨t, o5', S3, hfor, h2, h3, h4, s3, f3⟩ := chain_term (l := l) (o2 := some (.ref S.length)) (o3 := some (.int (k : Nat))) s2 g12 (by omega) (by omega) (t := .row s') (names := names) (List.mem_of_getElem? hs') rfl (by simp [Tm.depth]) v hv o5
    have hl2 := (List.getElem?_eq_some_iff.mp g12).1
    have g13 : S3[S.length]? = some (.lst (es.map ent)) := by rw [f3.old _ hl2 (by omega) (by omega)]; exact g12
    -- the last one
    obtain ⟨t', S4, hif, k2, k3, k4, s4, f4⟩ : ∃ (t' : Tm) (S4 : Store), sIf (tVal (e2 eqD (eVar 3) (eC (.int 7)))) (sAsg (eTup [eC (.str [115, 105, 103, 110]), eCall R_law_drop [eVar 0, eC (.int 10)], eVar 4]) (gName 4)) (sNx) [some (.ref p), some (.ref l), some (.ref S.length), some (.int (k : Nat)), some t.d, o5'] S3 = some (.nx [some (.ref p), some (.ref l), some (.ref S.length), some (.int (k : Nat)), some t'.d, o5'] S4) ∧ t'.In names ∧ t'.noz = true ∧ t'.depth ≤ 5 ∧ Sp S4 p c ∧ Fr p c S3 S4 := by
      by_cases k7 : k = 7
      · obtain ⟨w, S4, e4, hw, s4, l4, f4⟩ := drop_nat s3 10 (by decide) (by decide)
        refine ⟨.sign w t, S4, ?_, ⟨hw, h2⟩, h3, by simp [Tm.depth]; omega, s4, f4⟩
        subst k7
        simp at e4
        simp [e4, Tm.d]
      · have : ¬ (k : Int) = 7 := by omega
        exact ⟨t, S3, by simp [this], h2, h3, by omega, s3, .refl⟩
    have hl3 := (List.getElem?_eq_some_iff.mp g13).1
    have g14 : S4[S.length]? = some (.lst (es.map ent)) := by rw [f4.old _ hl3 (by omega) (by omega)]; exact g13
    have hn4 : S4[l]? = some (.lst (names.map .str)) := (hn.fr ((f2.trans f3).trans f4)).at'
    have hel : es.length ≤ 8 := by have := congrArg List.length g2; simp at this; omega
    have hL : es.length < LINE := by rw [LINE_eq]; omega
    refine ⟨[some (.ref p), some (.ref l), some (.ref S.length), some (.int (k : Nat)), some t'.d, o5'], S4.set S.length (.lst ((es ++ [(s, t')]).map ent)), .inl ?_, es ++ [(s, t')], _, _, _, rfl, ?_, ?_, ?_, s4.set (by omega) (by omega), ((((g5.trans f2).trans f3).trans f4)).set (Nat.le_refl _)⟩
    · unfold lb_law_chain_2
      have hn1 := hn.at'
      have hr : r62 (v : Int) := r62_of (by omega) (by omega)
      simp at e1 hfor
      rw [sq_nx (ρ1 := [some (.ref p), some (.ref l), some (.ref S.length), some (.int (k : Nat)), some (Tm.row s').d, o5]) (S1 := S1) (by simp [hn1, hat, Tm.d])]
      rw [sq_nx (ρ1 := [some (.ref p), some (.ref l), some (.ref S.length), some (.int (k : Nat)), some t.d, o5']) (S1 := S3) (by simp [e1, hr, hfor])]
      rw [sq_nx hif]
      simp [g14, hn4, hat2, hL, ent]
    · rw [List.getElem?_set_self (List.getElem?_eq_some_iff.mp g14).1]
    · have : names.take (k + 1) = names.take k ++ [s] := by rw [List.take_add_one, hs1]; rfl
      rw [this, List.map_append, g2]
      rfl
    · intro e he
      rcases List.mem_append.mp he with he | he
      · exact g3 e he
      · simp at he
        subst he
        exact ⟨by show t'.depth ≤ 12; omega, k2, k3⟩) [some (.ref p), some (.ref l), some (.ref S.length), none, none, none] (S ++ [.lst []]) ⟨[], none, none, none, rfl, by simp, by simp, (fun e h => by cases h), hs.app, .app⟩
  refine ⟨es, S', ?_, by rw [g2, List.take_of_length_le (by omega)], g3, g4, g5⟩
  unfold R_law_chain
  rw [run_eq (n := 2) _ _ rfl]
  unfold b_law_chain
  have hL : es.length ≤ LINE := by
    have := congrArg List.length g2
    simp at this
    rw [LINE_eq]; omega
  simp [h1, g1, hL]
theorem wk_from8 {es : List (List Nat × Tm)} (b : Bk es) {s : List Nat} (hs : s ∈ es.map (·.1)) {n : Nat} (hn : n ≤ 2000) : ∃ r C', wk es 17800 (s, n) [(s, n)] (L0 (s, n)) = some (r, C') ∧ C'.length ≤ 17601 ∧ ∀ x ∈ C', x.1 ∈ es.map (·.1) ∧ x.2 < 2300 :=
  wk_ends8 b b.len 17800 (s, n) [(s, n)] (L0 (s, n)) [s] n ⟨fun t ht => by simp at ht; subst ht; exact hs, by simp, (fun t => by
      by_cases ht : t = s <;> simp [L0, wSet, ht]), (fun t v hv => by
      simp only [L0, wSet] at hv
      split at hv
      · cases hv; simp
      · cases hv), by simp [L0, wSet], hn⟩ (by simp) (fun c hc => by simp at hc; subst hc; exact ⟨hs, by show n < 2200; omega⟩) (by simp)
theorem wk_sign {es : List (List Nat × Tm)} (hin : ∀ e ∈ es, ∃ names, e.2.In names) (b : Bk es) : ∀ (f : Nat) (c : Call) (C : List Call) (L : Lows) (k : Nat) (C' : List Call), c.1 ∈ es.map (·.1) → wk es f c C L = some (some k, C') → k < 10
  | 0, c, C, L, k, C', _, h => by cases h
  | f + 1, c, C, L, k, C', hc, h => by
    rw [wk] at h
    have hm := b.at hc
    cases hh : hop (termOf es c.1) c.2 with
    | inl i =>
      rw [hh] at h
      cases h
      obtain ⟨names, hi⟩ := hin _ hm
      exact hop_sign hi hh
    | inr c' =>
      rw [hh] at h
      dsimp only at h
      split at h
      · cases h
      · obtain ⟨k1, _⟩ := hop_le (termOf es c.1) c.2 c'.1 c'.2 hh
        exact wk_sign hin b f c' _ _ k C' (b.row _ hm _ k1) h
theorem repr_flat2 {s : List Nat} {k : Nat} (hs : s.length ≤ 100) (hk : k < 10) (S : Store) : ∃ x, reprD [.tup [.str s, .int (k : Nat)]] S = some (.ok (.str x) S) := by
  have hl : k.log2 < 20 := by
    by_cases z : k = 0
    · subst z; decide
    · exact (Nat.log2_lt z).mpr (by omega)
  have hl2 : ((k : Nat) : Int).natAbs = k := by omega
  refine ⟨_, o_reprD (x := .tup [.str s, .int (k : Nat)]) (by simp [dat, D.pd, pdL]) (by simp [PD.dep, depL]) (.inl ⟨by simp [PD.sml, smlL, hl], ?_⟩)⟩
  simp only [PD.wgt, wgtL, hl2]
  omega
theorem s_law_far_right {es : List (List Nat × Tm)} (b : Bk es) {names : List (List Nat)} (hch : ∀ e ∈ es, Chn names e) {s : List Nat} (hs : s ∈ es.map (·.1)) {n : Nat} (hn : n ≤ 2000) (S : Store) :
    ∃ S', R_law_far_right [bookD es, .str s, .int (n : Nat)] S = some (.ok (.bl true) S') ∧ Keep S S' := by
  obtain ⟨r, C', hwk, hC, _⟩ := wk_from8 b hs hn
  obtain ⟨Dr, hD⟩ := wk_pre es _ _ _ _ _ _ hwk
  let S1 : Store := S ++ [.dk (es.map kvE)]
  obtain ⟨a, S2, w1, g1, k1, l1⟩ := s_walk b hwk (by omega) hs S1
  dsimp only at w1
  let S3 : Store := S2 ++ [.dk []]
  have gi : S1[S.length]? = some (.dk (es.map kvE)) := by simp [S1]
  have hS1 : S1.length = S.length + 1 := by simp [S1]
  have gi3 : S3[S.length]? = some (.dk (es.map kvE)) := get_app (k1.get gi) _
  have ga3 : S3[a]? = some (.lst (C'.map cD)) := get_app g1 _
  have gj3 : S3[S2.length]? = some (.dk []) := by simp [S3]
  have hl := k1.1
  have ha := (List.getElem?_eq_some_iff.mp g1).1
  have hpend : pend es 17800 (s, n) [] (fun _ => none) = some (r, C') := by
    unfold pend
    rw [if_neg (by simp [lowB])]
    exact hwk
  obtain ⟨S4, kS4, hloop⟩ := far_loop b (fun e he => (hch e he).noz) (S0 := S) (by omega) (i := S.length) (a := a) (j := S2.length) (o1 := some (.str s)) (o2 := some (.int (n : Nat))) (by omega) (by omega) (by omega) 17800 (s, n) [] (fun _ => none) [] false S3 (((Keep.app (S := S)).trans k1).trans .app) (fun x h => by cases h) hs hpend gi3 ga3 gj3 (by simp) (fun t => rfl)
  have hL : ∀ k : Nat, k ≤ 100 → k ≤ LINE := fun k hk => by rw [LINE_eq]; omega
  have h1 := fold_es es [] (by simpa using b.nd)
  rw [List.map_nil, List.nil_append] at h1
  have h4 : es.length < 1000000 := by have := b.len; omega
  have h5 : es ≠ [] := fun c => by rw [c] at hs; cases hs
  have h0 : atI (C'.map cD) 0 = some (cD (s, n)) := by rw [hD]; simp [at0]
  have hne : neD (cD (s, n)) (cD (s, n)) S2 = some (.ok (.bl false) S2) := ne_same (x := .tup [.str s, .int (n : Nat)]) (by simp [dat, cD, D.pd, pdL]) (by simp [PD.dep, depL])
  have hr : isiD .tuple (resD a r) S2 = some (.ok (.bl true) S2) := by cases r <;> rfl
  have hr2 : ixD (resD a r) (.int (-1)) S2 = some (.ok (.ref a) S2) := by cases r <;> simp [resD, atI, ixN]
  have htold : some (hopZ false (.inr (s, n))) = some (D.tup [.str wCall, .str s, .int (n : Nat), .bl false]) := rfl
  have pre : ∀ {q : Option Out}, sq (sWh farT (lb_law_far_right_1 (R_law_followed 24))) (sRet (eAnd (e2 eqD (eCall reprD [eSl (eVar 4) none (some (eC (.int 2)))]) (eCall reprD [eSl (eVar 7) none (some (eC (.int 2)))])) (eAnd (e2 eqD (eCall lenF [eVar 4]) (eC (.int 3))) (e2 eqD (eCall lenF [e2 ixD (eVar 4) (eC (.int 2))]) (eVar 6))))) [some (bookD es), some (.str s), some (.int (n : Nat)), some (.ref S.length), some (resD a r), some (.ref S2.length), some (.int (([] : List Call).length : Nat)), some (hopZ false (.inr (s, n)))] S3 = q → b_law_far_right R_walk (R_law_followed 24) [some (bookD es), some (.str s), some (.int (n : Nat)), none, none, none, none, none] S = q := by
    intro q hq
    unfold b_law_far_right
    rw [sq_nx (ρ1 := [some (bookD es), some (.str s), some (.int (n : Nat)), some (.ref S.length), none, none, none, none]) (S1 := S1) (by simp [o_dictTF, fOf_es, h1, h4, h5, S1])]
    rw [sq_nx (ρ1 := [some (bookD es), some (.str s), some (.int (n : Nat)), some (.ref S.length), some (resD a r), none, none, none]) (S1 := S2) (by simp [w1])]
    rw [sq_nx (ρ1 := [some (bookD es), some (.str s), some (.int (n : Nat)), some (.ref S.length), some (resD a r), none, none, none]) (S1 := S2) (by
      have e : D.tup [.str s, .int (n : Nat)] = cD (s, n) := rfl
      simp [hr, hr2, g1, h0, e, hne])]
    rw [sq_nx (ρ1 := [some (bookD es), some (.str s), some (.int (n : Nat)), some (.ref S.length), some (resD a r), some (.ref S2.length), none, none]) (S1 := S3) (by simp [S3])]
    rw [sq_nx (ρ1 := [some (bookD es), some (.str s), some (.int (n : Nat)), some (.ref S.length), some (resD a r), some (.ref S2.length), some (.int 0), none]) (S1 := S3) (by simp)]
    rw [sq_nx (ρ1 := [some (bookD es), some (.str s), some (.int (n : Nat)), some (.ref S.length), some (resD a r), some (.ref S2.length), some (.int 0), some (hopZ false (.inr (s, n)))]) (S1 := S3) (by simp [hopZ])]
    exact hq
  refine ⟨S4, ?_, kS4⟩
  unfold R_law_far_right
  rw [run_eq (n := 3) _ _ rfl]
  have hfin : b_law_far_right R_walk (R_law_followed 24) [some (bookD es), some (.str s), some (.int (n : Nat)), none, none, none, none, none] S = some (.rt (.bl true) S4) := by
    cases r with
    | none => exact pre (sq_rt hloop)
    | some k =>
      obtain ⟨z', ga4, hw⟩ := hloop
      refine pre ?_
      rw [sq_nx hw]
      have hk := wk_sign (fun e he => ⟨_, (hch e he).inn⟩) b _ _ _ _ _ _ hs hwk
      obtain ⟨x, hx⟩ := repr_flat2 (s := wSign) (by decide) hk S4
      have hs1 : slD none (some 2) (resD a (some k)) S4 = some (.ok (.tup [.str wSign, .int (k : Nat)]) S4) := by simp [resD, slD, cut, sIx, hL]
      have hs2 : slD none (some 2) (hopZ z' (.inl k)) S4 = some (.ok (.tup [.str wSign, .int (k : Nat)]) S4) := by simp [hopZ, slD, cut, sIx, hL]
      have a2 : ∀ x y w : D, atI [x, y, w] 2 = some w := fun x y w => by simp [atI, ixN]
      simp [hs1, hs2, hx]
      simp [resD, a2, ga4]
  simp [hfin]
end Z
namespace Z
/-! ### signs told stay -/
theorem wres_spec {es : Eqs} {c : Call} {r : Wr} (h : wres es c = some r) : ∃ k, EndIn es k c r := by
  unfold wres at h
  by_cases hx : ∃ r k, EndIn es k c r
  · rw [dif_pos hx] at h
    injection h with h
    rw [← h]
    exact hx.choose_spec
  · rw [dif_neg hx] at h
    cases h
theorem look_mono {es fs : Eqs} {s : List Nat} {t : Tm} (h : look es s = some t) : look (es ++ fs) s = some t := by rw [look_app, h]; rfl
theorem EndIn.mono {es fs : Eqs} {i : Nat} : ∀ {k : Nat} {c : Call}, EndIn es k c (.sign i) → EndIn (es ++ fs) k c (.sign i)
  | 0, c, h => by
    have h : nx es c = .inl (.sign i) := h
    show nx (es ++ fs) c = .inl (.sign i)
    unfold nx at h ⊢
    cases e : look es c.1 with
    | none => rw [e] at h; cases h
    | some t => rw [e] at h; rw [look_mono e]; exact h
  | k + 1, c, h => by
    obtain ⟨d, h1, h2⟩ := h
    refine ⟨d, ?_, h2.mono⟩
    unfold nx at h1 ⊢
    cases e : look es c.1 with
    | none => rw [e] at h1; cases h1
    | some t => rw [e] at h1; rw [look_mono e]; exact h1
theorem free_mono {es fs : Eqs} : ∀ (k : Nat) (c : Call) (r : Wr), wres es c = none → ¬ EndIn (es ++ fs) k c r := by
  intro k
  induction k with
  | zero =>
    intro c r h g
    cases e : nx es c with
    | inl q => rw [wres_inl e] at h; cases h
    | inr d =>
      have g : nx (es ++ fs) c = .inl r := g
      unfold nx at e g
      cases l : look es c.1 with
      | none => rw [l] at e; cases e
      | some t =>
        rw [l] at e
        rw [look_mono l] at g
        dsimp only at e g
        cases hh : hop t c.2 with
        | inl i => rw [hh] at e; cases e
        | inr f => rw [hh] at g; cases g
  | succ k ih =>
    intro c r h g
    obtain ⟨d, g1, g2⟩ := g
    cases e : nx es c with
    | inl q => rw [wres_inl e] at h; cases h
    | inr f =>
      have hf : wres es f = none := by rw [← wres_inr e]; exact h
      refine ih f r hf ?_
      have : nx (es ++ fs) c = .inr f := by
        unfold nx at e ⊢
        cases l : look es c.1 with
        | none => rw [l] at e; cases e
        | some t => rw [l] at e; rw [look_mono l]; exact e
      rw [this] at g1
      cases g1
      exact g2
theorem wres_mono (es fs : Eqs) (c : Call) : (∃ s, wres es c = some (.waits s)) ∨ wres (es ++ fs) c = wres es c := by
  cases h : wres es c with
  | none => exact .inr (wres_none fun k r => free_mono k c r h)
  | some r =>
    cases r with
    | waits s => exact .inl ⟨s, rfl⟩
    | sign i =>
      obtain ⟨k, hk⟩ := wres_spec h
      exact .inr (wres_some hk.mono)
theorem EndIn.waits {es : Eqs} {s : List Nat} : ∀ {k : Nat} {c : Call}, EndIn es k c (.waits s) → s ∉ es.map (·.1)
  | 0, c, h => by
    have h : nx es c = .inl (.waits s) := h
    unfold nx at h
    cases e : look es c.1 with
    | none =>
      rw [e] at h
      cases h
      exact look_none.mp e
    | some t =>
      rw [e] at h
      dsimp only at h
      cases hh : hop t c.2 with
      | inl i => rw [hh] at h; cases h
      | inr d => rw [hh] at h; cases h
  | k + 1, c, h => by
    obtain ⟨d, _, h2⟩ := h
    exact h2.waits
theorem wres_waits {es : Eqs} {c : Call} {s : List Nat} (h : wres es c = some (.waits s)) : s ∉ es.map (·.1) := by
  obtain ⟨k, hk⟩ := wres_spec h
  exact hk.waits
/-! ### the program's other walk tells the same -/
theorem look_term {es : Eqs} (b : Bk es) {s : List Nat} (h : s ∈ es.map (·.1)) : look es s = some (termOf es s) := by
  obtain ⟨t, ht⟩ := look_some h
  have h1 := look_mem ht
  have := termOf_mem b.nd h1
  rw [this]
  exact ht
theorem wk_ok {es : Eqs} (b : Bk es) (tb : Tb es) {n0 : Nat} (hn0 : 120 ≤ n0) : ∀ (f : Nat) (c : Call) (Cx : List Call) (Lx : Lows) (P : List (List Nat)), Iv es n0 c Cx Lx P → wAgain Cx Lx c = false → c.1 ∈ es.map (·.1) → es.length * (n0 + 97) < f + Cx.length →
    ∃ r C', wk es f c (Cx ++ [c]) (wSet Lx c) = some (r, C') ∧ C'.length ≤ es.length * (n0 + 97) + 1 ∧ wres es c = r.map Wr.sign
  | 0, c, Cx, Lx, P, v, ha, hc, hf => by
    have := v.clen tb
    omega
  | f + 1, c, Cx, Lx, P, v, ha, hc, hf => by
    have ht := look_term b hc
    have hcl := v.clen tb
    rw [wk]
    cases hh : hop (termOf es c.1) c.2 with
    | inl i =>
      refine ⟨some i, _, rfl, by simp; omega, ?_⟩
      rw [wres_inl (r := .sign i) (by unfold nx; rw [ht]; dsimp only; rw [hh])]
      rfl
    | inr d =>
      obtain ⟨P', v'⟩ := v.step tb hn0 ht ha hh
      have hcl' := v'.clen tb
      dsimp only
      rw [wres_inr (nx_of ht hh)]
      by_cases ha' : wAgain (Cx ++ [c]) (wLows (zipf (termOf es c.1) c.2) (wSet Lx c)) d = true
      · rw [if_pos ha']
        refine ⟨none, _, rfl, by simp at hcl' ⊢; omega, ?_⟩
        rw [wres_none (v'.again ha')]
        rfl
      · rw [if_neg ha']
        have hd : d.1 ∈ es.map (·.1) := b.row _ (b.at hc) _ (hop_le _ _ d.1 d.2 hh).1
        exact wk_ok b tb hn0 f d (Cx ++ [c]) _ P' v' (by simpa using ha') hd (by simp; omega)
theorem s_walk_wres {es : Eqs} (b : Bk es) (tb : Tb es) {s : List Nat} {n : Nat} (hs : s ∈ es.map (·.1)) (hn : n ≤ 5000) (S : Store) :
    ∃ a r S', R_walk [bookD es, .str s, .int (n : Nat)] S = some (.ok (resD a r) S') ∧ Keep S S' ∧ wres es (s, n) = r.map Wr.sign := by
  obtain ⟨r, C', h1, h2, h3⟩ := wk_ok b tb (n0 := n + 120) (by omega) (es.length * (n + 120 + 97) + 1) (s, n) [] (fun _ => none) [] (.beg (by simp)) (by simp [wAgain]) hs (by simp)
  have hl := b.len
  have : es.length * (n + 120 + 97) ≤ 8 * (5000 + 120 + 97) := Nat.mul_le_mul hl (by omega)
  obtain ⟨a, S', q1, q2, q3, q4⟩ := s_walk b (cc := (s, n)) h1 (by omega) hs S
  exact ⟨a, r, S', q1, q3, h3⟩
/-! ### what the law says of answers -/
theorem s_law_good2 {es : Eqs} {c : Call} {S : Store} {dt : Nat} (g : S[dt]? = some (.dk (es.map kvE))) : ∃ S', R_law_good_v2 [wrD (wres es c), .ref dt] S = some (.ok (.bl true) S') ∧ Keep S S' := by
  refine ⟨S ++ [.lst ([wSign, wFree].map .str)], ?_, .app⟩
  have hin : ∀ w : List Nat, inD (.str w) (.ref S.length) (S ++ [.lst ([wSign, wFree].map .str)]) = some (.ok (.bl (decide (w ∈ [wSign, wFree]))) (S ++ [.lst ([wSign, wFree].map .str)])) := fun w => in_strs (by simp)
  have g2 : (S ++ [MO.lst ([wSign, wFree].map .str)])[dt]? = some (.dk (es.map kvE)) := get_app g _
  unfold R_law_good_v2
  rw [run_eq (n := 2) _ _ rfl]
  unfold b_law_good_v2
  cases h : wres es c with
  | none =>
    have h1 := hin wFree
    simp at h1
    simp [wrD, at0, h1]
  | some r =>
    cases r with
    | sign i =>
      have h1 := hin wSign
      simp at h1
      simp [wrD, at0, h1]
    | waits s =>
      have h1 := hin wWaits
      have hget := fget_look es s
      rw [look_none.mpr (wres_waits h)] at hget
      have a1 : atI [D.str wWaits, .str s] 1 = some (.str s) := atI_nat (k := 1) rfl
      simp at h1 hget g2
      simp [wrD, at0, h1, a1, g2, hget, k0]
theorem s_law_kept_non (o : Option Wr) (S : Store) : R_law_kept_v2 [.non, wrD o] S = some (.ok (.bl true) S) := by
  unfold R_law_kept_v2
  rw [run_eq (n := 2) _ _ rfl]
  unfold b_law_kept_v2
  simp [isD, isNonB]
theorem isnon_wr (o : Option Wr) (S : Store) : isD (wrD o) .non S = some (.ok (.bl false) S) := by
  match o with
  | none => rfl
  | some (.sign i) => rfl
  | some (.waits s) => rfl
theorem s_law_kept_wr {o o' : Option Wr} (h : (∃ s, o = some (.waits s)) ∨ o' = o) (S : Store) : R_law_kept_v2 [wrD o, wrD o'] S = some (.ok (.bl true) S) := by
  have h1 := isnon_wr o S
  unfold R_law_kept_v2
  rw [run_eq (n := 2) _ _ rfl]
  unfold b_law_kept_v2
  rcases h with ⟨s, rfl⟩ | rfl
  · simp [wrD] at h1
    simp [wrD, h1, at0]
  · have h2 := eq_wr o' S
    match o', h1, h2 with
    | none, h1, h2 =>
      simp [wrD] at h1 h2
      simp [wrD, h1, h2, at0]
    | some (.sign i), h1, h2 =>
      simp [wrD] at h1 h2
      simp [wrD, h1, h2, at0]
    | some (.waits s), h1, h2 =>
      simp [wrD] at h1 h2
      simp [wrD, h1, at0]
end Z
namespace Z
/-! ### the law -/
def askD (q : Call) : D := .tup [.str q.1, .int (q.2 : Nat)]
noncomputable def ansD (es : Eqs) (q : Call) : D := if q.1 ∈ es.map (·.1) then wrD (wres es q) else .non
abbrev eN (p l q a r dt an : Nat) (o0 o8 o9 o10 o11 : Option D) : Env := [o0, some (.ref p), some (.ref l), some (.ref q), some (.ref a), some (.ref r), some (.ref dt), some (.ref an), o8, o9, o10, o11]
structure AI (S : Store) (q a r d dt an : Nat) (es ts : Eqs) (asked : List Call) : Prop where
  cb : CB S r d ts
  gt : S[dt]? = some (.dk (ts.map kvE))
  gq : S[q]? = some (.lst (es.map ent))
  ga : S[a]? = some (.lst (asked.map askD))
  ddt : d ≠ dt
  aq : an ≠ q
  aa : an ≠ a
theorem AI.keep {S S' : Store} {q a r d dt an : Nat} {es ts : Eqs} {asked : List Call} (h : AI S q a r d dt an es ts asked) (k : Keep S S') : AI S' q a r d dt an es ts asked := ⟨h.cb.keep k, k.get h.gt, k.get h.gq, k.get h.ga, h.ddt, h.aq, h.aa⟩
theorem AI.setA {S : Store} {q a r d dt an : Nat} {es ts : Eqs} {asked : List Call} (h : AI S q a r d dt an es ts asked) {A : List D} (g : S[an]? = some (.lst A)) (A' : List D) : AI (S.set an (.lst A')) q a r d dt an es ts asked := by
  have nl : ∀ {i : Nat} {o : MO}, S[i]? = some o → (∀ zs, o ≠ .lst zs) → (S.set an (.lst A'))[i]? = some o := fun {i o} g' hn => by
    rw [List.getElem?_set_ne (fun e => by subst e; rw [g] at g'; cases g'; exact hn _ rfl)]
    exact g'
  exact ⟨⟨nl h.cb.gr (fun _ e => by cases e), nl h.cb.gd (fun _ e => by cases e)⟩, nl h.gt (fun _ e => by cases e), by rw [List.getElem?_set_ne h.aq]; exact h.gq, by rw [List.getElem?_set_ne h.aa]; exact h.ga, h.ddt, h.aq, h.aa⟩
section
variable {S : Store} {p l q a r d dt an : Nat} {es ts : Eqs} {asked : List Call} {o0 o8 o9 o10 o11 : Option D}
/-- one asked, behind a telling -/
theorem ask_step (hT : Tb ts) (h : AI S q a r d dt an es ts asked) {A : List D} (gA : S[an]? = some (.lst A)) {k : Nat} {c : Call} (hc : asked[k]? = some c) (hn : c.2 ≤ 5000) {us vs : Eqs} (hts : ts = us ++ vs) (hk : A[k]? = some (ansD us c)) :
    ∃ o11' S', lb_law_v45_1 R_Coming_sign R_law_good_v2 R_law_kept_v2 (eN p l q a r dt an o0 o8 o9 (some (.int (k : Nat))) o11) S = some (.nx (eN p l q a r dt an o0 o8 o9 (some (.int (k : Nat))) o11') S') ∧ AI S' q a r d dt an es ts asked ∧ S'[an]? = some (.lst (A.set k (ansD ts c))) := by
  have hat : atI (asked.map askD) (k : Int) = some (askD c) := atI_nat (by rw [List.getElem?_map, hc]; rfl)
  have a1 : atI [D.str c.1, .int (c.2 : Nat)] 1 = some (.int (c.2 : Nat)) := atI_nat (k := 1) rfl
  have hget := fget_look ts c.1
  have ga := h.ga
  have gt := h.gt
  have hkl := (List.getElem?_eq_some_iff.mp hk).1
  by_cases hm : c.1 ∈ ts.map (·.1)
  · obtain ⟨t, ht⟩ := look_some hm
    rw [ht] at hget
    simp at hget
    obtain ⟨S1, e1', k1⟩ := s_sign hT h.cb (n := c.2) hn hm
    have h1 := h.keep k1
    obtain ⟨S2, e2', k2⟩ := s_law_good2 (c := (c.1, c.2)) h1.gt
    have h2 := h1.keep k2
    have gA2 := k2.get (k1.get gA)
    have gr := h.cb.gr
    have hatA : atI A (k : Int) = some (ansD us c) := atI_nat hk
    have hkept : R_law_kept_v2 [ansD us c, wrD (wres ts c)] S2 = some (.ok (.bl true) S2) := by
      unfold ansD
      by_cases hu : c.1 ∈ us.map (·.1)
      · rw [if_pos hu, hts]
        exact s_law_kept_wr (wres_mono us vs c) S2
      · rw [if_neg hu]
        exact s_law_kept_non _ S2
    have hx : ixN A.length (k : Int) = some k := by simp [ixN, hkl]
    refine ⟨some (wrD (wres ts c)), S2.set an (.lst (A.set k (wrD (wres ts c)))), ?_, h2.setA gA2 _, ?_⟩
    · have hc' : ((c.1, c.2) : Call) = c := rfl
      rw [hc'] at e1' e2'
      simp [lb_law_v45_1, ga, hat, askD, at0, a1, gt, hget, k0, gr, e1', e2', gA2, hatA, hkept, hx]
    · rw [List.getElem?_set_self (List.getElem?_eq_some_iff.mp gA2).1]
      unfold ansD
      rw [if_pos hm]
  · rw [look_none.mpr hm] at hget
    simp at hget
    have hu : c.1 ∉ us.map (·.1) := fun q => hm (by rw [hts, List.map_append]; exact List.mem_append_left _ q)
    have e1 : A.set k (ansD ts c) = A := by
      unfold ansD at hk ⊢
      rw [if_neg hu] at hk
      rw [if_neg hm]
      exact List.ext_getElem? fun i => by
        by_cases hi : k = i
        · subst hi; rw [List.getElem?_set_self hkl, hk]
        · rw [List.getElem?_set_ne hi]
    refine ⟨o11, S, ?_, h, by rw [e1]; exact gA⟩
    simp [lb_law_v45_1, ga, hat, askD, at0, gt, hget, k0]
theorem asks_loop (hT : Tb ts) (h : AI S q a r d dt an es ts asked) (h8 : asked.length = 8) (hn : ∀ c ∈ asked, c.2 ≤ 5000) {us vs : Eqs} (hts : ts = us ++ vs) (gA : S[an]? = some (.lst (asked.map (ansD us)))) :
    ∃ o10' o11' S', forL (fun _ => True) (gName 10) (lb_law_v45_1 R_Coming_sign R_law_good_v2 R_law_kept_v2) ((List.range 8).map fun (k : Nat) => .int k) (eN p l q a r dt an o0 o8 o9 o10 o11) S = some (.nx (eN p l q a r dt an o0 o8 o9 o10' o11') S') ∧ AI S' q a r d dt an es ts asked ∧ S'[an]? = some (.lst (asked.map (ansD ts))) := by
  obtain ⟨ρ', S', hf, ⟨o10', o11', A, rfl, h1, h2, h3, h4⟩⟩ := forL_range (g := gName 10) (b := lb_law_v45_1 R_Coming_sign R_law_good_v2 R_law_kept_v2) (n := 8)
    (fun k ρ T => ∃ o10' o11' A, ρ = eN p l q a r dt an o0 o8 o9 o10' o11' ∧ AI T q a r d dt an es ts asked ∧ T[an]? = some (.lst A) ∧ A.length = 8 ∧ ∀ j c, asked[j]? = some c → A[j]? = some (ansD (if j < k then ts else us) c)) (by
    rintro k hk ρ T ⟨o10', o11', A, rfl, i1, i2, i3, i4⟩
    obtain ⟨c, hc⟩ : ∃ c, asked[k]? = some c := ⟨_, List.getElem?_eq_getElem (by omega)⟩
    have hk0 := i4 k c hc
    rw [if_neg (Nat.lt_irrefl _)] at hk0
    obtain ⟨o11'', T', e, j1, j2⟩ := ask_step (p := p) (l := l) (o0 := o0) (o8 := o8) (o9 := o9) (o11 := o11') hT i1 i2 hc (hn c (List.mem_of_getElem? hc)) hts hk0
    refine ⟨eN p l q a r dt an o0 o8 o9 (some (.int (k : Nat))) o11', T, rfl, _, T', .inl e, some (.int (k : Nat)), o11'', A.set k (ansD ts c), rfl, j1, j2, by simpa using i3, fun j c' hc' => ?_⟩
    by_cases hj : k = j
    · subst hj
      rw [hc] at hc'
      cases hc'
      rw [List.getElem?_set_self (by omega), if_pos (Nat.lt_succ_self _)]
    · rw [List.getElem?_set_ne hj, i4 j c' hc']
      by_cases h9 : j < k
      · rw [if_pos h9, if_pos (by omega)]
      · rw [if_neg h9, if_neg (by omega)]) (eN p l q a r dt an o0 o8 o9 o10 o11) S ⟨o10, o11, _, rfl, h, gA, by simp [h8], fun j c hc => by simp [hc]⟩
  refine ⟨o10', o11', S', hf, h1, ?_⟩
  rw [h2]
  congr 2
  refine List.ext_getElem? fun j => ?_
  rw [List.getElem?_map]
  by_cases hj : j < 8
  · obtain ⟨c, hc⟩ : ∃ c, asked[j]? = some c := ⟨_, List.getElem?_eq_getElem (by omega)⟩
    rw [h4 j c hc, hc, if_pos hj]
    rfl
  · rw [List.getElem?_eq_none (by omega), List.getElem?_eq_none (by omega)]
    rfl
/-- one equation told, all asked -/
theorem told_step (hT : Tb es) (h8 : asked.length = 8) (hn : ∀ c ∈ asked, c.2 ≤ 5000) {i : Nat} {e : List Nat × Tm} (he : es[i]? = some e) (h : AI S q a r d dt an es (es.take i) asked) (gA : S[an]? = some (.lst (asked.map (ansD (es.take i))))) :
    ∃ o10' o11' S', lb_law_v45_2 R_Coming_tell R_Coming_sign R_law_good_v2 R_law_kept_v2 (eN p l q a r dt an o0 (some (.str e.1)) (some e.2.d) o10 o11) S = some (.nx (eN p l q a r dt an o0 (some (.str e.1)) (some e.2.d) o10' o11') S') ∧ AI S' q a r d dt an es (es.take (i + 1)) asked ∧ S'[an]? = some (.lst (asked.map (ansD (es.take (i + 1))))) := by
  have hfew := hT.few
  have hil := (List.getElem?_eq_some_iff.mp he).1
  have ht := s_tell h.cb (by simp; omega) e.1 e.2
  have htk : es.take (i + 1) = es.take i ++ [e] := by rw [List.take_add_one, he]; rfl
  have hni : e.1 ∉ (es.take i).map (·.1) := fun hm => by
    have hnd := hT.nd
    rw [← List.take_append_drop (i + 1) es, htk, List.map_append, List.map_append, List.append_assoc, List.nodup_append] at hnd
    exact hnd.2.2 _ hm e.1 (by simp) rfl
  rw [if_neg hni, if_neg (by simp; omega)] at ht
  have hTi : Tb (es.take (i + 1)) := ⟨by
    rw [List.map_take]
    exact hT.nd.sublist (List.take_sublist _ _), fun x hx => hT.dep x (List.mem_of_mem_take hx), by simp; omega⟩
  have hp := fput_new (es := es.take i) (e := e) hni
  have hd := h.cb.lt.2
  have hdt := (List.getElem?_eq_some_iff.mp h.gt).1
  obtain ⟨S1, hS1⟩ : ∃ S1, S1 = S.set d (.dk ((es.take i ++ [(e.1, e.2)]).map kvE)) := ⟨_, rfl⟩
  rw [← hS1] at ht
  have gt1 : S1[dt]? = some (.dk ((es.take i).map kvE)) := by rw [hS1, List.getElem?_set_ne h.ddt]; exact h.gt
  obtain ⟨S2, hS2⟩ : ∃ S2, S2 = S1.set dt (.dk ((es.take i ++ [e]).map kvE)) := ⟨_, rfl⟩
  have nd : ∀ {j : Nat} {o : MO}, S[j]? = some o → (∀ zs, o ≠ .dk zs) → S2[j]? = some o := fun {j o} g hn => by
    rw [hS2, hS1, List.getElem?_set_ne (fun e => by subst e; rw [h.gt] at g; cases g; exact hn _ rfl), List.getElem?_set_ne (fun e => by subst e; have := h.cb.gd; rw [g] at this; cases this; exact hn _ rfl)]
    exact g
  have i2 : AI S2 q a r d dt an es (es.take (i + 1)) asked := by
    refine ⟨⟨nd h.cb.gr (fun _ e => by cases e), ?_⟩, ?_, nd h.gq (fun _ e => by cases e), nd h.ga (fun _ e => by cases e), h.ddt, h.aq, h.aa⟩
    · rw [hS2, hS1, List.getElem?_set_ne (Ne.symm h.ddt), List.getElem?_set_self hd, htk]
    · rw [hS2, List.getElem?_set_self (by rw [hS1]; simpa using hdt), htk]
  have gA2 := nd gA (fun _ e => by cases e)
  obtain ⟨o10', o11', S3, hf, i3, gA3⟩ := asks_loop (p := p) (l := l) (o0 := o0) (o8 := some (.str e.1)) (o9 := some e.2.d) (o10 := o10) (o11 := o11) hTi i2 h8 hn htk gA2
  refine ⟨o10', o11', S3, ?_, i3, gA3⟩
  have gr := h.cb.gr
  have hlm : (es.take i).length < 1000000 := by simp; omega
  unfold lb_law_v45_2
  rw [sq_nx (ρ1 := eN p l q a r dt an o0 (some (.str e.1)) (some e.2.d) o10 o11) (S1 := S1) (by simp [gr, ht])]
  rw [sq_nx (ρ1 := eN p l q a r dt an o0 (some (.str e.1)) (some e.2.d) o10 o11) (S1 := S2) (by
    rw [hS2, ← hp]
    simp only [List.length_take] at hlm
    simp [gt1, hlm, k0])]
  simp [hf]
end
section
theorem es_of9 {names : List (List Nat)} : ∀ {ns : List (List Nat)} {ys : List D}, All2 (fun x y => ∃ (s : List Nat) (t : Tm), x = .str s ∧ y = ent (s, t) ∧ t.In names ∧ t.depth ≤ 4) (ns.map D.str) ys → ∃ es : List (List Nat × Tm), ys = es.map ent ∧ es.map (·.1) = ns ∧ ∀ e ∈ es, e.2.In names ∧ e.2.depth ≤ 4
  | [], ys, h => by cases h; exact ⟨[], rfl, rfl, fun e h => by cases h⟩
  | s :: ns, ys, h => by
    rw [List.map_cons] at h
    cases h with
    | cons h1 h2 =>
      obtain ⟨s', t, e1, rfl, a, b⟩ := h1
      cases e1
      obtain ⟨es, rfl, h3, h4⟩ := es_of9 h2
      exact ⟨(s, t) :: es, rfl, by simp [h3], fun e he => by
        rcases List.mem_cons.mp he with rfl | he
        · exact ⟨a, b⟩
        · exact h4 e he⟩
abbrev e12' (p l : Nat) (o0 o3 o4 : Option D) : Env := [o0, some (.ref p), some (.ref l), o3, o4, none, none, none, none, none, none, none]
theorem s_book72 {S : Store} {p c l : Nat} {names : List (List Nat)} {o0 o3 o4 : Option D} (hn : Nm S p c l names) (few : names.length ≤ 8) (hs : Sp S p c) :
    ∃ (es : Eqs) (q : Nat) (S' : Store), sAsg (eLc (iAny (eVar 2)) (gName 8) (tYes) (eTup [eVar 8, eCall (R_law_term 24) [eVar 1, eVar 2, e2 addD (eC (.int 1)) (eCall R_law_drop [eVar 1, eC (.int 4)])]]) [8]) (gName 3) (e12' p l o0 o3 o4) S = some (.nx (e12' p l o0 (some (.ref q)) o4) S') ∧ S'[q]? = some (.lst (es.map ent)) ∧ es.map (·.1) = names ∧ (∀ e ∈ es, e.2.In names ∧ e.2.depth ≤ 4) ∧ Sp S' p c ∧ Fr p c S S' ∧ S.length ≤ q := by
  have hlt := hs.lt
  have hg := hn.at'
  have hll := (List.getElem?_eq_some_iff.mp hg).1
  obtain ⟨ys, S', h1, h2, ⟨hs', hf'⟩, h3⟩ := lcL_rel (chk := fun S => S[l]? = some (.lst (names.map .str))) (g := gName 8) (t := tYes) (e := eTup [eVar 8, eCall (R_law_term 24) [eVar 1, eVar 2, e2 addD (eC (.int 1)) (eCall R_law_drop [eVar 1, eC (.int 4)])]]) (l := S.length) (ρ := e12' p l o0 o3 o4)
    (fun S' => Sp S' p c ∧ Fr p c S S') (fun x y => ∃ (s : List Nat) (t : Tm), x = .str s ∧ y = ent (s, t) ∧ t.In names ∧ t.depth ≤ 4) (fun S' acc acc' j _ => ⟨sp_set j.1 (by omega) (by omega), j.2.set (Nat.le_refl _)⟩)
    (fun S' j => by rw [j.2.old l hll hn.np hn.nc]; exact hg) (names.map .str) [] (S ++ [.lst []]) ⟨hs.app, .app⟩ (by simp) (by rw [LINE_eq]; simp; omega)
    (by
      intro x hx S' acc ⟨j1, j2⟩ hl'
      obtain ⟨s, hsn, rfl⟩ := List.mem_map.mp hx
      have hn' : Nm S' p c l names := hn.fr j2
      obtain ⟨v, S1, e1, hv, s1, l1, f1⟩ := drop_nat j1 4 (by decide) (by decide)
      obtain ⟨t, S2, q1, q2, q3, q4, q5⟩ := s_law_term 23 (1 + v) S1 (by omega) (hn'.fr f1) s1
      refine ⟨(e12' p l o0 o3 o4).set 8 (some (.str s)), _, S2, rfl, rfl, ?_, ?_, ⟨q4, (j2.trans f1).trans q5⟩, s, t, rfl, rfl, q2, by omega⟩
      · simp at e1 q1
        simp [e1, q1, ent]
      · rw [q5.old S.length (by have := (List.getElem?_eq_some_iff.mp hl').1; omega) (by omega) (by omega), f1.old S.length (List.getElem?_eq_some_iff.mp hl').1 (by omega) (by omega)]; exact hl')
  obtain ⟨es, rfl, h4, h5⟩ := es_of9 h3
  refine ⟨es, S.length, S', ?_, by simpa using h2, h4, h5, hs', hf', Nat.le_refl _⟩
  simp [hg, wipe, h1]
theorem asked_of {names : List (List Nat)} : ∀ {ys : List D}, (∀ y ∈ ys, ∃ s n, y = askD (s, n) ∧ s ∈ names ∧ n < 31) → ∃ asked : List Call, ys = asked.map askD ∧ ∀ c ∈ asked, c.1 ∈ names ∧ c.2 < 31
  | [], _ => ⟨[], rfl, fun c h => (nomatch h)⟩
  | y :: ys, h => by
    obtain ⟨s, n, rfl, h1, h2⟩ := h y (by simp)
    obtain ⟨asked, rfl, h3⟩ := asked_of fun z hz => h z (List.mem_cons_of_mem _ hz)
    exact ⟨(s, n) :: asked, rfl, fun c hc => by
      rcases List.mem_cons.mp hc with rfl | hc
      · exact ⟨h1, h2⟩
      · exact h3 c hc⟩
theorem s_asked {S : Store} {p c l : Nat} {names : List (List Nat)} {o0 o3 : Option D} (hn : Nm S p c l names) (hs : Sp S p c) :
    ∃ (asked : List Call) (a : Nat) (S' : Store), sAsg (eLc (iR1 (eC (.int 8))) (gName 10) (tYes) (eTup [e2 ixD (eVar 2) (eCall R_law_drop [eVar 1, eCall lenF [eVar 2]]), eCall R_law_drop [eVar 1, eC (.int 31)]]) [10]) (gName 4) (e12' p l o0 o3 none) S = some (.nx (e12' p l o0 o3 (some (.ref a))) S') ∧ S'[a]? = some (.lst (asked.map askD)) ∧ asked.length = 8 ∧ (∀ q ∈ asked, q.1 ∈ names ∧ q.2 < 31) ∧ Sp S' p c ∧ Fr p c S S' ∧ S.length ≤ a := by
  have hlt := hs.lt
  have hg := hn.at'
  have hll := (List.getElem?_eq_some_iff.mp hg).1
  obtain ⟨ys, S', h1, h2, ⟨hs', hf'⟩, h3, h4⟩ := lcL_run (chk := fun _ => True) (g := gName 10) (t := tYes) (e := eTup [e2 ixD (eVar 2) (eCall R_law_drop [eVar 1, eCall lenF [eVar 2]]), eCall R_law_drop [eVar 1, eC (.int 31)]]) (l := S.length) (ρ := e12' p l o0 o3 none)
    (fun S' => Sp S' p c ∧ Fr p c S S') (fun y => ∃ s n, y = askD (s, n) ∧ s ∈ names ∧ n < 31) (fun S' acc acc' j _ => ⟨sp_set j.1 (by omega) (by omega), j.2.set (Nat.le_refl _)⟩)
    (fun S' j => trivial) ((List.range 8).map fun (k : Nat) => .int k) [] (S ++ [.lst []]) ⟨hs.app, .app⟩ (by simp) (by rw [LINE_eq]; decide)
    (by
      intro x hx S' acc ⟨j1, j2⟩ hl'
      have hn' : Nm S' p c l names := hn.fr j2
      have hpos := hn.pos
      have hfew := hn.few
      obtain ⟨v, S1, e1, hv, s1, l1, f1⟩ := drop_nat j1 names.length hpos (by omega)
      obtain ⟨w, S2, e2', hw, s2, l2, f2⟩ := drop_nat s1 31 (by decide) (by decide)
      obtain ⟨s, hs1⟩ : ∃ s, names[v]? = some s := ⟨_, List.getElem?_eq_getElem hv⟩
      have hat : atI (names.map D.str) (v : Int) = some (.str s) := atI_nat (by rw [List.getElem?_map, hs1]; rfl)
      have g1 := hn'.at'
      have g2 := (hn'.fr f1).at'
      refine ⟨(e12' p l o0 o3 none).set 10 (some x), askD (s, w), S2, rfl, rfl, ?_, ?_, ⟨s2, (j2.trans f1).trans f2⟩, s, w, rfl, List.mem_of_getElem? hs1, hw⟩
      · simp at e1 e2'
        simp [g1, e1, g2, hat, e2', askD]
      · rw [f2.old S.length (by have := (List.getElem?_eq_some_iff.mp hl').1; omega) (by omega) (by omega), f1.old S.length (List.getElem?_eq_some_iff.mp hl').1 (by omega) (by omega)]; exact hl')
  obtain ⟨asked, rfl, h5⟩ := asked_of h4
  refine ⟨asked, S.length, S', ?_, by simpa using h2, by simpa using h3, h5, hs', hf', Nat.le_refl _⟩
  simp [wipe, h1]
variable {S : Store} {p l q a r d dt an : Nat} {es ts : Eqs} {asked : List Call} {o0 o8 o9 o10 o11 : Option D}
theorem ne_wr (o : Option Wr) (S : Store) : neD (wrD o) (wrD o) S = some (.ok (.bl false) S) := by
  unfold neD
  rw [dat_wr]
  dsimp only
  rw [if_pos (by
    match o with
    | none => simp [wrP, PD.dep, depL]
    | some (.sign i) => simp [wrP, PD.dep, depL]
    | some (.waits s) => simp [wrP, PD.dep, depL]), PD.eqv_refl]
  rfl
theorem walk_step72 (b : Bk es) (tb : Tb es) (h : AI S q a r d dt an es es asked) (gA : S[an]? = some (.lst (asked.map (ansD es)))) {k : Nat} {c : Call} (hc : asked[k]? = some c) (hm : c.1 ∈ es.map (·.1)) (hn : c.2 ≤ 5000) :
    ∃ o11' S', lb_law_v45_3 R_walk (eN p l q a r dt an o0 o8 o9 (some (.int (k : Nat))) o11) S = some (.nx (eN p l q a r dt an o0 o8 o9 (some (.int (k : Nat))) o11') S') ∧ Keep S S' := by
  have hat : atI (asked.map askD) (k : Int) = some (askD c) := atI_nat (by rw [List.getElem?_map, hc]; rfl)
  have a1 : atI [D.str c.1, .int (c.2 : Nat)] 1 = some (.int (c.2 : Nat)) := atI_nat (k := 1) rfl
  have hatA : atI (asked.map (ansD es)) (k : Int) = some (wrD (wres es c)) := atI_nat (by
    rw [List.getElem?_map, hc]
    show some (ansD es c) = _
    unfold ansD
    rw [if_pos hm])
  obtain ⟨b', w, S1, e1', k1, hw⟩ := s_walk_wres b tb hm hn S
  have hc' : ((c.1, c.2) : Call) = c := rfl
  rw [hc'] at hw
  have gA1 := k1.get gA
  have ga := h.ga
  have gq := h.gq
  have hL : es.length ≤ LINE := by rw [LINE_eq]; have := tb.few; omega
  have hcut : cut (match w with | some i => [D.str wSign, .int (i : Nat), .ref b'] | none => [D.str wFree, .ref b']) none (some (-1)) = (match w with | some i => [D.str wSign, .int (i : Nat)] | none => [D.str wFree]) := by
    cases w <;> simp [cut, sIx]
  have hne := ne_wr (wres es c) S1
  refine ⟨some (resD b' w), S1, ?_, k1⟩
  unfold lb_law_v45_3
  rw [sq_nx (ρ1 := eN p l q a r dt an o0 o8 o9 (some (.int (k : Nat))) (some (resD b' w))) (S1 := S1) (by
    rw [show bookD es = .tup (es.map ent) from rfl] at e1'
    simp [gq, ga, hat, askD, at0, a1, e1', hL])]
  cases w with
  | none =>
    rw [hw] at hatA hne
    simp only [Option.map_none, wrD] at hatA hne
    simp at hcut
    simp [gA1, hatA, resD, slD, hcut, hne]
  | some i =>
    rw [hw] at hatA hne
    simp only [Option.map_some, wrD] at hatA hne
    simp at hcut
    simp [gA1, hatA, resD, slD, hcut, hne]
theorem s_law_v45 (ns : List Int) (hl : ns.length ≤ 63) : ∃ S', R_law_v45 [.fl (ns.map .int)] [] = some (.ok (.bl true) S') := by
  obtain ⟨S1, q1, h1, hl1, f1⟩ := s_law_spring ns []
  have hs1 : Sp S1 1 0 := ⟨_, h1⟩
  obtain ⟨l0, names0, S2, q2, hd, hs2, f2⟩ := s_law_names_v2 hs1
  obtain ⟨v, S3, q3, hv, hs3, l3, f3⟩ := drop_nat hs2 5 (by decide) (by decide)
  have hn3 := hd.nm.fr f3
  have hsl := sl_take9 (a := 2 + v) hn3.at'
  obtain ⟨names, hnames⟩ : ∃ names, names = names0.take (2 + v) := ⟨_, rfl⟩
  rw [← hnames] at hsl
  have hnl : names.length = 2 + v := by rw [hnames]; simp [hd.l8]; omega
  obtain ⟨S4, hS4⟩ : ∃ S4, S4 = S3 ++ [MO.lst (names.map .str)] := ⟨_, rfl⟩
  rw [← hS4] at hsl
  have hlt := hs3.lt
  have hs4 : Sp S4 1 0 := by rw [hS4]; exact hs3.app
  have hn4 : Nm S4 1 0 S3.length names := ⟨by rw [hS4]; simp, by omega, by omega, by omega, by omega⟩
  obtain ⟨es, q, S5, q5, gq, hnm, hes, hs5, f5, hq⟩ := s_book72 (o0 := some (.fl (ns.map .int))) (o3 := none) (o4 := none) hn4 (by omega) hs4
  obtain ⟨asked, a, S6, q6, ga, hal, hask, hs6, f6, ha⟩ := s_asked (o0 := some (.fl (ns.map .int))) (o3 := some (.ref q)) (hn4.fr f5) hs5
  have hlen : es.length = 2 + v := by
    have := congrArg List.length hnm
    simp at this
    omega
  have hndn : names.Nodup := by rw [hnames]; exact hd.nd.sublist (List.take_sublist _ _)
  have tb : Tb es := ⟨by rw [hnm]; exact hndn, fun e he => by have := (hes e he).2; omega, by omega⟩
  have bk : Bk es := ⟨tb.dep, fun e he => by rw [hnm]; exact In.rw (hes e he).1, tb.nd, by omega⟩
  have hql := (List.getElem?_eq_some_iff.mp gq).1
  have hS4l : S4.length = S3.length + 1 := by rw [hS4]; simp
  have gq6 : S6[q]? = some (.lst (es.map ent)) := by rw [f6.old q hql (by omega) (by omega)]; exact gq
  have hmk := s_init S6
  obtain ⟨S7, hS7⟩ : ∃ S7, S7 = S6 ++ [MO.ins "Coming" [("terms", .ref (S6.length + 1))], .dk [], .dk [], .lst [.non], .lst [.non, .non, .non, .non, .non, .non, .non, .non]] := ⟨_, rfl⟩
  have k7 : Keep S6 S7 := by rw [hS7]; exact .app
  have hq6 := (List.getElem?_eq_some_iff.mp gq6).1
  have ha6 := (List.getElem?_eq_some_iff.mp ga).1
  have i7 : AI S7 q a S6.length (S6.length + 1) (S6.length + 2) (S6.length + 4) es (es.take 0) asked := ⟨⟨by rw [hS7]; simp, by rw [hS7]; simp⟩, by rw [hS7]; simp, k7.get gq6, k7.get ga, by omega, by omega, by omega⟩
  have gA7 : S7[S6.length + 4]? = some (.lst (asked.map (ansD (es.take 0)))) := by
    have : asked.map (ansD (es.take 0)) = List.replicate 8 .non := by
      rw [← hal]
      refine List.eq_replicate_iff.mpr ⟨by simp, fun x hx => ?_⟩
      obtain ⟨y, _, rfl⟩ := List.mem_map.mp hx
      simp [ansD]
    rw [this, hS7]
    simp [List.replicate]
  obtain ⟨ρ', S8, h8, ⟨x8, x9, x10, x11, rfl, i8, gA8⟩⟩ := forL_idx (chk := fun S => S[q]? = some (.lst (es.map ent))) (g := gTup [gName 8, gName 9]) (b := lb_law_v45_2 R_Coming_tell R_Coming_sign R_law_good_v2 R_law_kept_v2)
    (fun i ρ T => ∃ x8 x9 x10 x11, ρ = eN 1 S3.length q a S6.length (S6.length + 2) (S6.length + 4) (some (.fl (ns.map .int))) x8 x9 x10 x11 ∧ AI T q a S6.length (S6.length + 1) (S6.length + 2) (S6.length + 4) es (es.take i) asked ∧ T[S6.length + 4]? = some (.lst (asked.map (ansD (es.take i)))))
    (fun i ρ T ⟨_, _, _, _, _, j, _⟩ => j.gq) (es.map ent) 0 (fun i y hy ρ T ⟨x8, x9, x10, x11, hρ, j1, j2⟩ => by
      subst hρ
      rw [List.getElem?_map] at hy
      obtain ⟨e, he, rfl⟩ := Option.map_eq_some_iff.mp hy
      rw [Nat.zero_add] at j1 j2
      obtain ⟨x10', x11', T', e', t1, t2⟩ := told_step (p := 1) (l := S3.length) (o0 := some (.fl (ns.map .int))) (o10 := x10) (o11 := x11) tb hal (fun c hc => by have := (hask c hc).2; omega) he j1 j2
      refine ⟨eN 1 S3.length q a S6.length (S6.length + 2) (S6.length + 4) (some (.fl (ns.map .int))) (some (.str e.1)) (some e.2.d) x10 x11, T, rfl, _, T', .inl e', _, _, _, _, rfl, ?_, ?_⟩
      · rw [Nat.zero_add]; exact t1
      · rw [Nat.zero_add]; exact t2) (eN 1 S3.length q a S6.length (S6.length + 2) (S6.length + 4) (some (.fl (ns.map .int))) none none none none) S7 ⟨_, _, _, _, rfl, i7, gA7⟩
  have htl : es.take (0 + (es.map ent).length) = es := by rw [Nat.zero_add, List.length_map, List.take_length]
  rw [htl] at i8 gA8
  obtain ⟨ρ9, S9, h9, ⟨y10, y11, rfl⟩, k9⟩ := forL_range (g := gName 10) (b := lb_law_v45_3 R_walk) (n := 8)
    (fun k ρ T => (∃ y10 y11, ρ = eN 1 S3.length q a S6.length (S6.length + 2) (S6.length + 4) (some (.fl (ns.map .int))) x8 x9 y10 y11) ∧ Keep S8 T) (by
    rintro k hk ρ T ⟨⟨y10, y11, rfl⟩, kT⟩
    obtain ⟨c, hc⟩ : ∃ c, asked[k]? = some c := ⟨_, List.getElem?_eq_getElem (by omega)⟩
    have hcm := hask c (List.mem_of_getElem? hc)
    obtain ⟨y11', T', e', k'⟩ := walk_step72 (p := 1) (l := S3.length) (o0 := some (.fl (ns.map .int))) (o8 := x8) (o9 := x9) (o11 := y11) bk tb (i8.keep kT) (kT.get gA8) hc (by rw [hnm]; exact hcm.1) (by omega)
    exact ⟨eN 1 S3.length q a S6.length (S6.length + 2) (S6.length + 4) (some (.fl (ns.map .int))) x8 x9 (some (.int (k : Nat))) y11, T, rfl, _, T', .inl e', ⟨_, _, rfl⟩, kT.trans k'⟩) (eN 1 S3.length q a S6.length (S6.length + 2) (S6.length + 4) (some (.fl (ns.map .int))) x8 x9 x10 x11) S8 ⟨⟨_, _, rfl⟩, .refl⟩
  refine ⟨S9, ?_⟩
  have gq7 := i7.gq
  unfold R_law_v45
  rw [run_eq (n := 1) _ _ rfl]
  unfold b_law_v45
  simp at q1
  rw [show (List.map some [D.fl (ns.map .int)] ++ List.replicate (12 - 1) none : Env) = [some (.fl (ns.map .int)), none, none, none, none, none, none, none, none, none, none, none] from rfl]
  rw [sq_nx (ρ1 := [some (.fl (ns.map .int)), some (.ref 1), none, none, none, none, none, none, none, none, none, none]) (S1 := S1) (by simp [q1])]
  rw [sq_nx (ρ1 := e12' 1 S3.length (some (.fl (ns.map .int))) none none) (S1 := S4) (by
    simp at q3 hsl
    simp [q2, q3, hsl])]
  rw [sq_nx q5, sq_nx q6]
  rw [sq_nx (ρ1 := [some (.fl (ns.map .int)), some (.ref 1), some (.ref S3.length), some (.ref q), some (.ref a), some (.ref S6.length), none, none, none, none, none, none]) (S1 := S6 ++ [.ins "Coming" [("terms", .ref (S6.length + 1))], .dk []]) (by simp [hmk])]
  rw [sq_nx (ρ1 := [some (.fl (ns.map .int)), some (.ref 1), some (.ref S3.length), some (.ref q), some (.ref a), some (.ref S6.length), some (.ref (S6.length + 2)), none, none, none, none, none]) (S1 := S6 ++ [.ins "Coming" [("terms", .ref (S6.length + 1))], .dk [], .dk []]) (by simp)]
  rw [sq_nx (ρ1 := eN 1 S3.length q a S6.length (S6.length + 2) (S6.length + 4) (some (.fl (ns.map .int))) none none none none) (S1 := S7) (by simp [hS7, List.replicate])]
  rw [sq_nx (ρ1 := eN 1 S3.length q a S6.length (S6.length + 2) (S6.length + 4) (some (.fl (ns.map .int))) x8 x9 x10 x11) (S1 := S8) (by simp [gq7, h8])]
  rw [sq_nx (ρ1 := eN 1 S3.length q a S6.length (S6.length + 2) (S6.length + 4) (some (.fl (ns.map .int))) x8 x9 y10 y11) (S1 := S9) (by simp [h9])]
  simp
end
end Z
namespace Z
section
open PySem PySem.Spec PyProof.Rows L2
def top (i : Nat) : Stmt := PySem.Challenge.pw_zipspring_k72_whole_told_signs_stay.main.body.getD i (.Pass ⟨0, 0, 0, 0⟩)
variable {P : Program} {w : World} {K : PySem.W.Frag} {mg : Mg} {base : Heap}
abbrev st_term_of : Stmt := top 9
theorem sc_term_of : FnScope ["book", "name"] ["book", "name"] (defScope st_term_of) := ⟨rfl, rfl, rfl, by decide +kernel, rfl, by decide +kernel, by decide +kernel⟩
theorem ok_term_of {f : Addr} {fd : FuncData} (Fu : Fun K "term_of" "term_of" st_term_of f fd) (m_dict : mg "dict" = none) : FnG P w K mg base (L2.CX P w) 1 f fd ["book", "name"] (spF K mg R_term_of) :=
  fn_run Fu sc_term_of rfl fun cdv A outer s H E hr => gss_one (gs_ret (ge_fget hr.u1 (ge_callTy no_dictTF (zc_dictTF rfl) rfl m_dict (by decide +kernel) (ga_cons (ge_var 0) (ga_nil))) (ge_var 1)))
abbrev st_followed : Stmt := top 16
theorem sc_followed : FnScope ["term", "n", "zipped"] ["term", "n"] (defScope st_followed) := ⟨rfl, rfl, rfl, by decide +kernel, rfl, by decide +kernel, by decide +kernel⟩
theorem ok_followed {f : Addr} {fd : FuncData} (Fu : Fun K "followed" "followed" st_followed f fd)  : FnG P w K mg base (L2.CX P w) 1 f fd ["term", "n"] (spF K mg R_followed) :=
  fn_run Fu sc_followed rfl fun cdv A outer s H E hr => gss_cons (gs_set 2 sc_followed.nd (ge_bl)) (gss_cons (gs_while (passes_of rfl) (gt_cmp no_ne (zo_ne hr.units) (ge_ix (ge_var 0) (ge_int)) (ge_str)) (gss_one (gs_if (gt_cmp no_eq (zo_eq hr.units) (ge_ix (ge_var 0) (ge_int)) (ge_str)) (gss_cons (gs_if (gt_cmp no_eq (zo_eq hr.units) (ge_var 1) (ge_int)) (gss_one (gs_ret (ge_tup (ga_cons (ge_tup (ga_cons (ge_str) (ga_cons (ge_ix (ge_var 0) (ge_int)) (ga_nil)))) (ga_cons (ge_var 2) (ga_nil)))))) (gss_nil)) (gss_cons (gs_set 1 sc_followed.nd (ge_op no_sub zo_sub (ge_var 1) (ge_int))) (gss_one (gs_set 0 sc_followed.nd (ge_ix (ge_var 0) (ge_int)))))) (gss_one (gs_if (gt_cmp no_eq (zo_eq hr.units) (ge_ix (ge_var 0) (ge_int)) (ge_str)) (gss_cons (gs_set 1 sc_followed.nd (ge_op no_add zo_add (ge_var 1) (ge_int))) (gss_one (gs_set 0 sc_followed.nd (ge_ix (ge_var 0) (ge_int))))) (gss_cons (gs_set 2 sc_followed.nd (ge_bl)) (gss_cons (gs_set 0 sc_followed.nd (ge_ix (ge_var 0) (ge_op no_add zo_add (ge_int) (ge_op no_mod zo_mod (ge_var 1) (ge_int))))) (gss_one (gs_set 1 sc_followed.nd (ge_op no_fdiv zo_fdiv (ge_var 1) (ge_int))))))))))) (gss_one (gs_ret (ge_tup (ga_cons (ge_tup (ga_cons (ge_str) (ga_cons (ge_ix (ge_var 0) (ge_int)) (ga_cons (ge_var 1) (ga_nil))))) (ga_cons (ge_var 2) (ga_nil)))))))
abbrev st_law_spring : Stmt := top 21
theorem sc_law_spring : FnScope ["script", "mixed", "cell"] ["script"] (defScope st_law_spring) := ⟨rfl, rfl, rfl, by decide +kernel, rfl, by decide +kernel, by decide +kernel⟩
theorem ok_law_spring {f : Addr} {fd : FuncData} (Fu : Fun K "_law_spring" "_law_spring" st_law_spring f fd) (m_list : mg "list" = none) : FnG P w K mg base (L2.CX P w) 1 f fd ["script"] (spF K mg R_law_spring) :=
  fn_run Fu sc_law_spring rfl fun cdv A outer s H E hr => gss_cons (gs_set 1 sc_law_spring.nd (ge_int)) (gss_cons (gs_for (passes_of rfl) rfl (gi_any (ge_var 0)) (gg_name 2 sc_law_spring.nd) (gss_one (gs_set 1 sc_law_spring.nd (ge_op no_mod zo_mod (ge_op no_add zo_add (ge_op no_mul zo_mul (ge_var 1) (ge_int)) (ge_var 2)) (ge_int))))) (gss_one (gs_ret (ge_lst (ga_cons (ge_callTy no_list zc_list rfl m_list (by decide +kernel) (ga_cons (ge_var 0) (ga_nil))) (ga_cons (ge_int) (ga_cons (ge_var 1) (ga_nil))))))))
abbrev st_law_drop : Stmt := top 22
theorem sc_law_drop : FnScope ["spring", "many", "cell", "drawn"] ["spring", "many"] (defScope st_law_drop) := ⟨rfl, rfl, rfl, by decide +kernel, rfl, by decide +kernel, by decide +kernel⟩
theorem ok_law_drop {f : Addr} {fd : FuncData} (Fu : Fun K "_law_drop" "_law_drop" st_law_drop f fd) (m_len : mg "len" = none) (m_abs : mg "abs" = none) : FnG P w K mg base (L2.CX P w) 1 f fd ["spring", "many"] (spF K mg R_law_drop) :=
  fn_run Fu sc_law_drop rfl fun cdv A outer s H E hr => gss_cons (gs_if (GW.gt (gw_and (gt_cmp no_eq (zo_eq hr.units) (ge_ix (ge_var 0) (ge_int)) (ge_int)) (gw_and1 (gt_cmp no_gt zo_gt (ge_callB no_len zc_len rfl m_len (by decide +kernel) (ga_cons (ge_ix (ge_var 0) (ge_int)) (ga_nil))) (ge_int))))) (gss_cons (gs_set 2 sc_law_drop.nd (ge_mt .list no_pop PySem.F.plainAttrs_list PySem.F.slot_list_pop PySem.F.type_list_pop zm_pop (ge_ix (ge_var 0) (ge_int)) (ga_cons (ge_int) (ga_nil)))) (gss_cons (gs_if (gt_cmp no_lt zo_lt (ge_callB no_abs zc_abs rfl m_abs (by decide +kernel) (ga_cons (ge_var 2) (ga_nil))) (ge_op no_pow zo_pow (ge_int) (ge_int))) (gss_one (gs_ret (ge_op no_mod zo_mod (ge_var 2) (ge_var 1)))) (gss_nil)) (gss_one (gs_asg (ge_callB no_abs zc_abs rfl m_abs (by decide +kernel) (ga_cons (ge_var 2) (ga_nil))) (gg_sub (W := W0) (ge_var 0) (ge_int)))))) (gss_nil)) (gss_cons (gs_if (gt_cmp no_gt zo_gt (ge_ix (ge_var 0) (ge_int)) (ge_int)) (gss_cons (gs_set 3 sc_law_drop.nd (ge_op no_mod zo_mod (ge_ix (ge_var 0) (ge_int)) (ge_var 1))) (gss_cons (gs_asg (ge_op no_fdiv zo_fdiv (ge_ix (ge_var 0) (ge_int)) (ge_var 1)) (gg_sub (W := W0) (ge_var 0) (ge_int))) (gss_one (gs_ret (ge_var 3))))) (gss_nil)) (gss_cons (gs_asg (ge_op no_mod zo_mod (ge_op no_add zo_add (ge_op no_mul zo_mul (ge_ix (ge_var 0) (ge_int)) (ge_ix (ge_var 0) (ge_int))) (ge_int)) (ge_int)) (gg_sub (W := W0) (ge_var 0) (ge_int))) (gss_one (gs_ret (ge_op no_mod zo_mod (ge_op no_fdiv zo_fdiv (ge_ix (ge_var 0) (ge_int)) (ge_int)) (ge_var 1))))))
abbrev st_law_kept_v2 : Stmt := top 25
theorem sc_law_kept_v2 : FnScope ["before", "found"] ["before", "found"] (defScope st_law_kept_v2) := ⟨rfl, rfl, rfl, by decide +kernel, rfl, by decide +kernel, by decide +kernel⟩
theorem ok_law_kept_v2 {f : Addr} {fd : FuncData} (Fu : Fun K "_law_kept" "_law_kept" st_law_kept_v2 f fd)  : FnG P w K mg base (L2.CX P w) 1 f fd ["before", "found"] (spF K mg R_law_kept_v2) :=
  fn_run Fu sc_law_kept_v2 rfl fun cdv A outer s H E hr => gss_one (gs_ret (ge_or (ge_cmp no_is zo_is (ge_var 0) (ge_non)) (ge_or (ge_cmp no_eq (zo_eq hr.units) (ge_ix (ge_var 0) (ge_int)) (ge_str)) (ge_one (ge_cmp no_eq (zo_eq hr.units) (ge_var 1) (ge_var 0))))))
abbrev st_law_good_v2 : Stmt := top 26
theorem sc_law_good_v2 : FnScope ["found", "told"] ["found", "told"] (defScope st_law_good_v2) := ⟨rfl, rfl, rfl, by decide +kernel, rfl, by decide +kernel, by decide +kernel⟩
theorem ok_law_good_v2 {f : Addr} {fd : FuncData} (Fu : Fun K "_law_good" "_law_good" st_law_good_v2 f fd) (m_isinstance : mg "isinstance" = none) (m_tuple : mg "tuple" = none) (m_len : mg "len" = none) : FnG P w K mg base (L2.CX P w) 1 f fd ["found", "told"] (spF K mg R_law_good_v2) :=
  fn_run Fu sc_law_good_v2 rfl fun cdv A outer s H E hr => gss_cons (gs_if (GW.gt (gw_or (gt_not (gt_val (ge_isi .tuple (ge_var 0) rfl m_isinstance (by decide +kernel) rfl m_tuple (by decide +kernel)))) (gw_or1 (gt_cmp no_eq (zo_eq hr.units) (ge_callB no_len zc_len rfl m_len (by decide +kernel) (ga_cons (ge_var 0) (ga_nil))) (ge_int))))) (gss_one (gs_ret (ge_bl))) (gss_nil)) (gss_one (gs_ret (ge_or (ge_cmp no_in (zo_in hr.u65) (ge_ix (ge_var 0) (ge_int)) (ge_lst (ga_cons (ge_str) (ga_cons (ge_str) (ga_nil))))) (ge_one (ge_and (ge_cmp no_eq (zo_eq hr.units) (ge_ix (ge_var 0) (ge_int)) (ge_str)) (ge_and (ge_cmp no_eq (zo_eq hr.units) (ge_callB no_len zc_len rfl m_len (by decide +kernel) (ga_cons (ge_var 0) (ga_nil))) (ge_int)) (ge_one (ge_fni hr.u1 (ge_ix (ge_var 0) (ge_int)) (ge_var 1)))))))))
abbrev st_Coming___init__ : Stmt := inClass (top 19) 0
theorem sc_Coming___init__ : FnScope ["self"] ["self"] (defScope st_Coming___init__) := ⟨rfl, rfl, rfl, by decide +kernel, rfl, by decide +kernel, by decide +kernel⟩
theorem ok_Coming___init__ {f : Addr} {fd : FuncData} (Fu : Fun K "__init__" "Coming.__init__" st_Coming___init__ f fd) {C_Coming : Addr} (e_Coming : PySem.W.nsIn K mainGlobals "Coming" = some (some (.ref C_Coming))) (cl_Coming : Cls K C_Coming) (na_Coming_terms : NoAttr K C_Coming "terms") : FnG P w K mg base (L2.CX P w) 1 f fd ["self"] (spF K mg R_Coming___init__) :=
  fn_run Fu sc_Coming___init__ rfl fun cdv A outer s H E hr => gss_one (gs_fld (c := "Coming") (f := "terms") e_Coming cl_Coming na_Coming_terms (ge_dctF) (ge_var 0))
abbrev st_Coming_tell : Stmt := inClass (top 19) 1
theorem sc_Coming_tell : FnScope ["self", "name", "term"] ["self", "name", "term"] (defScope st_Coming_tell) := ⟨rfl, rfl, rfl, by decide +kernel, rfl, by decide +kernel, by decide +kernel⟩
theorem ok_Coming_tell {f : Addr} {fd : FuncData} (Fu : Fun K "tell" "Coming.tell" st_Coming_tell f fd) (m_len : mg "len" = none) {t_MOST_EQUATIONS : Tok} (m_MOST_EQUATIONS : mg "MOST_EQUATIONS" = some (.int 8 t_MOST_EQUATIONS)) {C_Told : Addr} (m_Told : ExC K mg "Told" C_Told) {C_TooBig : Addr} (m_TooBig : ExC K mg "TooBig" C_TooBig) {C_Coming : Addr} (e_Coming : PySem.W.nsIn K mainGlobals "Coming" = some (some (.ref C_Coming))) (cl_Coming : Cls K C_Coming) (na_Coming_terms : NoAttr K C_Coming "terms") : FnG P w K mg base (L2.CX P w) 1 f fd ["self", "name", "term"] (spF K mg R_Coming_tell) :=
  fn_run Fu sc_Coming_tell rfl fun cdv A outer s H E hr => gss_cons (gs_if (gt_fin hr.u1 (ge_var 1) (ge_fld (c := "Coming") (f := "terms") e_Coming cl_Coming na_Coming_terms (ge_var 0))) (gss_one (gs_raise (x := "Told") (d := .str [116, 104, 105, 115, 32, 110, 97, 109, 101, 32, 104, 97, 115, 32, 105, 116, 115, 32, 101, 113, 117, 97, 116, 105, 111, 110]) m_Told rfl (takes_of rfl rfl rfl rfl) rfl (ge_str))) (gss_nil)) (gss_cons (gs_if (gt_cmp no_ge zo_ge (ge_callB no_dlen zc_dlen rfl m_len (by decide +kernel) (ga_cons (ge_fld (c := "Coming") (f := "terms") e_Coming cl_Coming na_Coming_terms (ge_var 0)) (ga_nil))) (ge_gi m_MOST_EQUATIONS rfl)) (gss_one (gs_raise (x := "TooBig") (d := .str [110, 111, 32, 109, 111, 114, 101, 32, 101, 113, 117, 97, 116, 105, 111, 110, 115]) m_TooBig rfl (takes_of rfl rfl rfl rfl) rfl (ge_str))) (gss_nil)) (gss_one (gs_fput hr.u1 (ge_var 2) (ge_fld (c := "Coming") (f := "terms") e_Coming cl_Coming na_Coming_terms (ge_var 0)) (ge_var 1))))
abbrev st_Coming_known : Stmt := inClass (top 19) 2
theorem sc_Coming_known : FnScope ["self", "name"] ["self", "name"] (defScope st_Coming_known) := ⟨rfl, rfl, rfl, by decide +kernel, rfl, by decide +kernel, by decide +kernel⟩
theorem ok_Coming_known {f : Addr} {fd : FuncData} (Fu : Fun K "known" "Coming.known" st_Coming_known f fd) {C_NoName : Addr} (m_NoName : ExC K mg "NoName" C_NoName) {C_Coming : Addr} (e_Coming : PySem.W.nsIn K mainGlobals "Coming" = some (some (.ref C_Coming))) (cl_Coming : Cls K C_Coming) (na_Coming_terms : NoAttr K C_Coming "terms") : FnG P w K mg base (L2.CX P w) 1 f fd ["self", "name"] (spF K mg R_Coming_known) :=
  fn_run Fu sc_Coming_known rfl fun cdv A outer s H E hr => gss_cons (gs_if (gt_fni hr.u1 (ge_var 1) (ge_fld (c := "Coming") (f := "terms") e_Coming cl_Coming na_Coming_terms (ge_var 0))) (gss_one (gs_raise (x := "NoName") (d := .str [110, 111, 32, 101, 113, 117, 97, 116, 105, 111, 110, 32, 111, 102, 32, 116, 104, 105, 115, 32, 110, 97, 109, 101]) m_NoName rfl (takes_of rfl rfl rfl rfl) rfl (ge_str))) (gss_nil)) (gss_one (gs_ret (ge_fget hr.u1 (ge_fld (c := "Coming") (f := "terms") e_Coming cl_Coming na_Coming_terms (ge_var 0)) (ge_var 1))))
abbrev st_walk : Stmt := top 17
theorem sc_walk : FnScope ["book", "name", "n", "calls", "known", "lows", "found", "zipped", "again"] ["book", "name", "n"] (defScope st_walk) := ⟨rfl, rfl, rfl, by decide +kernel, rfl, by decide +kernel, by decide +kernel⟩
theorem ok_walk {f : Addr} {fd : FuncData} (Fu : Fun K "walk" "walk" st_walk f fd) (g_followed : GF P w K mg base "followed" 1 R_followed) (g_term_of : GF P w K mg base "term_of" 1 R_term_of) : FnG P w K mg base (L2.CX P w) 2 f fd ["book", "name", "n"] (spF K mg R_walk) :=
  fn_run Fu sc_walk rfl fun cdv A outer s H E hr => gss_cons (gs_set 3 sc_walk.nd (ge_lst (ga_cons (ge_tup (ga_cons (ge_var 1) (ga_cons (ge_var 2) (ga_nil)))) (ga_nil)))) (gss_cons (gs_set 4 sc_walk.nd (ge_dct1 hr.u3 (ge_tup (ga_cons (ge_var 1) (ga_cons (ge_var 2) (ga_nil)))) (ge_bl))) (gss_cons (gs_set 5 sc_walk.nd (ge_fdct1 hr.u3 (ge_var 1) (ge_var 2))) (gss_one (gs_while (passes_of rfl) (gt_val (ge_bl)) (gss_cons (gs_asg (ge_call g_followed (hr.mono (by omega)) (takes_of rfl rfl rfl rfl) rfl (ga_cons (ge_call g_term_of (hr.mono (by omega)) (takes_of rfl rfl rfl rfl) rfl (ga_cons (ge_var 0) (ga_cons (ge_var 1) (ga_nil)))) (ga_cons (ge_var 2) (ga_nil)))) (gg_tup rfl (ggs_cons (gg_name 6 sc_walk.nd) (ggs_cons (gg_name 7 sc_walk.nd) (ggs_nil))))) (gss_cons (gs_if (gt_cmp no_eq (zo_eq hr.units) (ge_ix (ge_var 6) (ge_int)) (ge_str)) (gss_one (gs_ret (ge_tup (ga_cons (ge_str) (ga_cons (ge_ix (ge_var 6) (ge_int)) (ga_cons (ge_var 3) (ga_nil))))))) (gss_nil)) (gss_cons (gs_asg (ge_sl (ge_var 6) (go_some (ge_int)) go_none) (gg_tup rfl (ggs_cons (gg_name 1 sc_walk.nd) (ggs_cons (gg_name 2 sc_walk.nd) (ggs_nil))))) (gss_cons (gs_if (gt_val (ge_var 7)) (gss_one (gs_set 5 sc_walk.nd (ge_dctF))) (gss_nil)) (gss_cons (gs_set 8 sc_walk.nd (ge_or (ge_kin hr.u1 (ge_tup (ga_cons (ge_var 1) (ga_cons (ge_var 2) (ga_nil)))) (ge_var 4)) (ge_one (ge_and (ge_fin hr.u1 (ge_var 1) (ge_var 5)) (ge_one (ge_cmp no_le zo_le (ge_fget hr.u1 (ge_var 5) (ge_var 1)) (ge_var 2))))))) (gss_cons (gs_expr (ge_mt .list no_append PySem.F.plainAttrs_list PySem.F.slot_list_append PySem.F.type_list_append zm_append (ge_var 3) (ga_cons (ge_tup (ga_cons (ge_var 1) (ga_cons (ge_var 2) (ga_nil)))) (ga_nil)))) (gss_cons (gs_kput hr.u1 (ge_bl) (ge_var 4) (ge_tup (ga_cons (ge_var 1) (ga_cons (ge_var 2) (ga_nil))))) (gss_cons (gs_if (gt_val (ge_var 8)) (gss_one (gs_ret (ge_tup (ga_cons (ge_str) (ga_cons (ge_var 3) (ga_nil)))))) (gss_nil)) (gss_one (gs_fput hr.u1 (ge_var 2) (ge_var 5) (ge_var 1)))))))))))))))
abbrev st_law_names_v2 : Stmt := top 23
theorem sc_law_names_v2 : FnScope ["spring", "letters", "k", "names", "turn"] ["spring"] (defScope st_law_names_v2) := ⟨rfl, rfl, rfl, by decide +kernel, rfl, by decide +kernel, by decide +kernel⟩
theorem ok_law_names_v2 {f : Addr} {fd : FuncData} (Fu : Fun K "_law_names" "_law_names" st_law_names_v2 f fd) (g__law_drop : GF P w K mg base "_law_drop" 1 R_law_drop) (m_range : mg "range" = none) : FnG P w K mg base (L2.CX P w) 2 f fd ["spring"] (spF K mg R_law_names_v2) :=
  fn_run Fu sc_law_names_v2 rfl fun cdv A outer s H E hr => gss_cons (gs_set 1 sc_law_names_v2.nd (ge_ix (ge_str) (ge_call g__law_drop (hr.mono (by omega)) (takes_of rfl rfl rfl rfl) rfl (ga_cons (ge_var 0) (ga_cons (ge_int) (ga_nil)))))) (gss_cons (gs_for (passes_of rfl) rfl (gi_r1 (ge_int) rfl m_range) (gg_name 2 sc_law_names_v2.nd) (gss_one (gs_set 1 sc_law_names_v2.nd (ge_op no_add zo_add (ge_var 1) (ge_ix (ge_str) (ge_call g__law_drop (hr.mono (by omega)) (takes_of rfl rfl rfl rfl) rfl (ga_cons (ge_var 0) (ga_cons (ge_int) (ga_nil))))))))) (gss_cons (gs_setLc 3 [("k", 2)] rfl sc_law_names_v2.nd (gi_r1 (ge_int) rfl m_range) (blkOk_by rfl) (fun _ _ _ _ _ => gg_name 2 sc_law_names_v2.nd) (fun _ _ _ _ _ => gts_nil) (fun _ _ _ _ _ => ge_sl (ge_var 1) go_none (go_some (ge_op no_add zo_add (ge_var 2) (ge_int))))) (gss_cons (gs_if (gt_cmp no_eq (zo_eq hr.units) (ge_call g__law_drop (hr.mono (by omega)) (takes_of rfl rfl rfl rfl) rfl (ga_cons (ge_var 0) (ga_cons (ge_int) (ga_nil)))) (ge_int)) (gss_one (gs_set 3 sc_law_names_v2.nd (ge_lst (ga_cons (ge_str) (ga_cons (ge_str) (ga_cons (ge_str) (ga_cons (ge_str) (ga_cons (ge_str) (ga_cons (ge_str) (ga_cons (ge_str) (ga_cons (ge_str) (ga_nil)))))))))))) (gss_nil)) (gss_cons (gs_set 4 sc_law_names_v2.nd (ge_call g__law_drop (hr.mono (by omega)) (takes_of rfl rfl rfl rfl) rfl (ga_cons (ge_var 0) (ga_cons (ge_int) (ga_nil))))) (gss_one (gs_ret (ge_op no_add zo_add (ge_sl (ge_var 3) (go_some (ge_var 4)) go_none) (ge_sl (ge_var 3) go_none (go_some (ge_var 4))))))))))
abbrev st_Coming_sign : Stmt := inClass (top 19) 3
theorem sc_Coming_sign : FnScope ["self", "name", "n", "seen", "lows", "found", "zipped"] ["self", "name", "n"] (defScope st_Coming_sign) := ⟨rfl, rfl, rfl, by decide +kernel, rfl, by decide +kernel, by decide +kernel⟩
theorem ok_Coming_sign {f : Addr} {fd : FuncData} (Fu : Fun K "sign" "Coming.sign" st_Coming_sign f fd) {C_Coming : Addr} (g_Coming_known : GM P w K mg base C_Coming "known" 1 R_Coming_known) (g_followed : GF P w K mg base "followed" 1 R_followed) (e_Coming : PySem.W.nsIn K mainGlobals "Coming" = some (some (.ref C_Coming))) (cl_Coming : Cls K C_Coming) (na_Coming_terms : NoAttr K C_Coming "terms") : FnG P w K mg base (L2.CX P w) 2 f fd ["self", "name", "n"] (spF K mg R_Coming_sign) :=
  fn_run Fu sc_Coming_sign rfl fun cdv A outer s H E hr => gss_cons (gs_expr (ge_meth (c := "Coming") (m := "known") e_Coming cl_Coming g_Coming_known (hr.mono (by omega)) (takes_of rfl rfl rfl rfl) (ge_var 0) (ga_cons (ge_var 1) (ga_nil)))) (gss_cons (gs_set 3 sc_Coming_sign.nd (ge_dctT)) (gss_cons (gs_set 4 sc_Coming_sign.nd (ge_dctF)) (gss_cons (gs_while (passes_of rfl) (gt_fin hr.u1 (ge_var 1) (ge_fld (c := "Coming") (f := "terms") e_Coming cl_Coming na_Coming_terms (ge_var 0))) (gss_cons (gs_if (GW.gt (gw_or (gt_kin hr.u1 (ge_tup (ga_cons (ge_var 1) (ga_cons (ge_var 2) (ga_nil)))) (ge_var 3)) (gw_or1 (gt_cmp no_le zo_le (ge_fget2 hr.u1 (ge_var 4) (ge_var 1) (ge_op no_add zo_add (ge_var 2) (ge_int))) (ge_var 2))))) (gss_one (gs_ret (ge_tup (ga_cons (ge_str) (ga_nil))))) (gss_nil)) (gss_cons (gs_kput hr.u1 (ge_bl) (ge_var 3) (ge_tup (ga_cons (ge_var 1) (ga_cons (ge_var 2) (ga_nil))))) (gss_cons (gs_fput hr.u1 (ge_var 2) (ge_var 4) (ge_var 1)) (gss_cons (gs_asg (ge_call g_followed (hr.mono (by omega)) (takes_of rfl rfl rfl rfl) rfl (ga_cons (ge_fget hr.u1 (ge_fld (c := "Coming") (f := "terms") e_Coming cl_Coming na_Coming_terms (ge_var 0)) (ge_var 1)) (ga_cons (ge_var 2) (ga_nil)))) (gg_tup rfl (ggs_cons (gg_name 5 sc_Coming_sign.nd) (ggs_cons (gg_name 6 sc_Coming_sign.nd) (ggs_nil))))) (gss_cons (gs_if (gt_cmp no_eq (zo_eq hr.units) (ge_ix (ge_var 5) (ge_int)) (ge_str)) (gss_one (gs_ret (ge_var 5))) (gss_nil)) (gss_cons (gs_if (gt_val (ge_var 6)) (gss_one (gs_set 4 sc_Coming_sign.nd (ge_dctF))) (gss_nil)) (gss_one (gs_asg (ge_sl (ge_var 5) (go_some (ge_int)) go_none) (gg_tup rfl (ggs_cons (gg_name 1 sc_Coming_sign.nd) (ggs_cons (gg_name 2 sc_Coming_sign.nd) (ggs_nil))))))))))))) (gss_one (gs_ret (ge_tup (ga_cons (ge_str) (ga_cons (ge_var 1) (ga_nil)))))))))
abbrev st_law_term : Stmt := top 24
theorem sc_law_term : FnScope ["spring", "names", "deep", "way"] ["spring", "names", "deep"] (defScope st_law_term) := ⟨rfl, rfl, rfl, by decide +kernel, rfl, by decide +kernel, by decide +kernel⟩
theorem ok_law_term {f : Addr} {fd : FuncData} (Fu : Fun K "_law_term" "_law_term" st_law_term f fd) (hm : mg "_law_term" = some (.ref f)) (kp : PySem.W.keepIn K (.ref f) = true) (bi : Binds K fd ["spring", "names", "deep"] []) (g__law_drop : GF P w K mg base "_law_drop" 1 R_law_drop) (m_int : mg "int" = none) (m_len : mg "len" = none) : ∀ d : Nat, FnG P w K mg base (L2.CX P w) (1 + d) f fd ["spring", "names", "deep"] (spF K mg (R_law_term d))
  | 0 => fnok_none
  | d + 1 => fn_run (k := 1 + d) Fu sc_law_term rfl fun cdv A outer s H E hr => by
    have g__law_term : GF P w K mg base "_law_term" (1 + d) (R_law_term d) := gf_of hm kp bi (ok_law_term Fu hm kp bi g__law_drop m_int m_len d)
    exact gss_cons (gs_set 3 sc_law_term.nd (ge_op no_mul zo_mul (ge_call g__law_drop (hr.mono (by omega)) (takes_of rfl rfl rfl rfl) rfl (ga_cons (ge_var 0) (ga_cons (ge_int) (ga_nil)))) (ge_callTy no_int zc_int rfl m_int (by decide +kernel) (ga_cons (ge_cmp no_gt zo_gt (ge_var 2) (ge_int)) (ga_nil))))) (gss_cons (gs_if (gt_cmp no_lt zo_lt (ge_var 3) (ge_int)) (gss_one (gs_ret (ge_tup (ga_cons (ge_str) (ga_cons (ge_ix (ge_var 1) (ge_call g__law_drop (hr.mono (by omega)) (takes_of rfl rfl rfl rfl) rfl (ga_cons (ge_var 0) (ga_cons (ge_callB no_len zc_len rfl m_len (by decide +kernel) (ga_cons (ge_var 1) (ga_nil))) (ga_nil))))) (ga_nil)))))) (gss_nil)) (gss_cons (gs_if (gt_cmp no_lt zo_lt (ge_var 3) (ge_int)) (gss_one (gs_ret (ge_tup (ga_cons (ge_str) (ga_cons (ge_call g__law_drop (hr.mono (by omega)) (takes_of rfl rfl rfl rfl) rfl (ga_cons (ge_var 0) (ga_cons (ge_int) (ga_nil)))) (ga_cons (ge_call g__law_term (hr.mono (by omega)) (takes_of rfl rfl rfl rfl) rfl (ga_cons (ge_var 0) (ga_cons (ge_var 1) (ga_cons (ge_op no_sub zo_sub (ge_var 2) (ge_int)) (ga_nil))))) (ga_nil))))))) (gss_nil)) (gss_cons (gs_if (gt_cmp no_eq (zo_eq hr.units) (ge_var 3) (ge_int)) (gss_one (gs_ret (ge_tup (ga_cons (ge_str) (ga_cons (ge_call g__law_term (hr.mono (by omega)) (takes_of rfl rfl rfl rfl) rfl (ga_cons (ge_var 0) (ga_cons (ge_var 1) (ga_cons (ge_op no_sub zo_sub (ge_var 2) (ge_int)) (ga_nil))))) (ga_nil)))))) (gss_nil)) (gss_one (gs_ret (ge_tup (ga_cons (ge_str) (ga_cons (ge_call g__law_term (hr.mono (by omega)) (takes_of rfl rfl rfl rfl) rfl (ga_cons (ge_var 0) (ga_cons (ge_var 1) (ga_cons (ge_op no_sub zo_sub (ge_var 2) (ge_int)) (ga_nil))))) (ga_cons (ge_call g__law_term (hr.mono (by omega)) (takes_of rfl rfl rfl rfl) rfl (ga_cons (ge_var 0) (ga_cons (ge_var 1) (ga_cons (ge_op no_sub zo_sub (ge_var 2) (ge_int)) (ga_nil))))) (ga_nil))))))))))
abbrev st_law_v45 : Stmt := top 27
theorem sc_law_v45 : FnScope ["script", "spring", "names", "book", "asked", "coming", "told", "answers", "name", "term", "k", "found"] ["script"] (defScope st_law_v45) := ⟨rfl, rfl, rfl, by decide +kernel, rfl, by decide +kernel, by decide +kernel⟩
theorem ok_law_v45 {f : Addr} {fd : FuncData} (Fu : Fun K "law" "law" st_law_v45 f fd) (g__law_spring : GF P w K mg base "_law_spring" 1 R_law_spring) (g__law_names : GF P w K mg base "_law_names" 2 R_law_names_v2) (g__law_drop : GF P w K mg base "_law_drop" 1 R_law_drop) (g__law_term : GF P w K mg base "_law_term" 25 (R_law_term 24)) {C_Coming : Addr} (g_Coming___init__ : GN P w K mg base C_Coming 1 R_Coming___init__) (g_Coming_tell : GM P w K mg base C_Coming "tell" 1 R_Coming_tell) (g_Coming_sign : GM P w K mg base C_Coming "sign" 2 R_Coming_sign) (g__law_good : GF P w K mg base "_law_good" 1 R_law_good_v2) (g__law_kept : GF P w K mg base "_law_kept" 1 R_law_kept_v2) (g_walk : GF P w K mg base "walk" 2 R_walk) (m_range : mg "range" = none) (m_len : mg "len" = none) (m_tuple : mg "tuple" = none) (e_Coming : PySem.W.nsIn K mainGlobals "Coming" = some (some (.ref C_Coming))) (cl_Coming : Cls K C_Coming) (u_Coming : mg "Coming" = some (.ref C_Coming)) : FnG P w K mg base (L2.CX P w) 26 f fd ["script"] (spF K mg R_law_v45) :=
  fn_run Fu sc_law_v45 rfl fun cdv A outer s H E hr => gss_cons (gs_set 1 sc_law_v45.nd (ge_call g__law_spring (hr.mono (by omega)) (takes_of rfl rfl rfl rfl) rfl (ga_cons (ge_var 0) (ga_nil)))) (gss_cons (gs_set 2 sc_law_v45.nd (ge_sl (ge_call g__law_names (hr.mono (by omega)) (takes_of rfl rfl rfl rfl) rfl (ga_cons (ge_var 1) (ga_nil))) go_none (go_some (ge_op no_add zo_add (ge_int) (ge_call g__law_drop (hr.mono (by omega)) (takes_of rfl rfl rfl rfl) rfl (ga_cons (ge_var 1) (ga_cons (ge_int) (ga_nil)))))))) (gss_cons (gs_setLc 3 [("name", 8)] rfl sc_law_v45.nd (gi_any (ge_var 2)) (blkOk_by rfl) (fun _ _ _ _ _ => gg_name 8 sc_law_v45.nd) (fun _ _ _ _ _ => gts_nil) (fun _ _ _ _ _ => ge_tup (ga_cons (ge_var 8) (ga_cons (ge_call g__law_term (hr.mono (by omega)) takes0 rfl (ga_cons (ge_var 1) (ga_cons (ge_var 2) (ga_cons (ge_op no_add zo_add (ge_int) (ge_call g__law_drop (hr.mono (by omega)) takes0 rfl (ga_cons (ge_var 1) (ga_cons (ge_int) (ga_nil))))) (ga_nil))))) (ga_nil))))) (gss_cons (gs_setLc 4 [("k", 10)] rfl sc_law_v45.nd (gi_r1 (ge_int) rfl m_range) (blkOk_by rfl) (fun _ _ _ _ _ => gg_name 10 sc_law_v45.nd) (fun _ _ _ _ _ => gts_nil) (fun _ _ _ _ _ => ge_tup (ga_cons (ge_ix (ge_var 2) (ge_call g__law_drop (hr.mono (by omega)) takes0 rfl (ga_cons (ge_var 1) (ga_cons (ge_callB no_len zc_len rfl m_len (by decide +kernel) (ga_cons (ge_var 2) (ga_nil))) (ga_nil))))) (ga_cons (ge_call g__law_drop (hr.mono (by omega)) takes0 rfl (ga_cons (ge_var 1) (ga_cons (ge_int) (ga_nil)))) (ga_nil))))) (gss_cons (gs_set 5 sc_law_v45.nd (ge_make0 (c := "Coming") g_Coming___init__ (hr.mono (by omega)) (takes_of rfl rfl rfl rfl) rfl e_Coming u_Coming)) (gss_cons (gs_set 6 sc_law_v45.nd (ge_dctF)) (gss_cons (gs_set 7 sc_law_v45.nd (ge_op no_mul zo_mul (ge_lst (ga_cons (ge_non) (ga_nil))) (ge_int))) (gss_cons (gs_for (passes_of rfl) rfl (gi_any (ge_var 3)) (gg_tup rfl (ggs_cons (gg_name 8 sc_law_v45.nd) (ggs_cons (gg_name 9 sc_law_v45.nd) (ggs_nil)))) (gss_cons (gs_expr (ge_meth (c := "Coming") (m := "tell") e_Coming cl_Coming g_Coming_tell (hr.mono (by omega)) (takes_of rfl rfl rfl rfl) (ge_var 5) (ga_cons (ge_var 8) (ga_cons (ge_var 9) (ga_nil))))) (gss_cons (gs_fput hr.u1 (ge_var 9) (ge_var 6) (ge_var 8)) (gss_one (gs_for (passes_of rfl) rfl (gi_r1 (ge_int) rfl m_range) (gg_name 10 sc_law_v45.nd) (gss_one (gs_if (gt_fin hr.u1 (ge_ix (ge_ix (ge_var 4) (ge_var 10)) (ge_int)) (ge_var 6)) (gss_cons (gs_set 11 sc_law_v45.nd (ge_meth (c := "Coming") (m := "sign") e_Coming cl_Coming g_Coming_sign (hr.mono (by omega)) (takes_of rfl rfl rfl rfl) (ge_var 5) (ga_cons (ge_ix (ge_ix (ge_var 4) (ge_var 10)) (ge_int)) (ga_cons (ge_ix (ge_ix (ge_var 4) (ge_var 10)) (ge_int)) (ga_nil))))) (gss_cons (gs_if (GW.gt (gw_or (gt_not (gt_val (ge_call g__law_good (hr.mono (by omega)) (takes_of rfl rfl rfl rfl) rfl (ga_cons (ge_var 11) (ga_cons (ge_var 6) (ga_nil)))))) (gw_or1 (gt_not (gt_val (ge_call g__law_kept (hr.mono (by omega)) (takes_of rfl rfl rfl rfl) rfl (ga_cons (ge_ix (ge_var 7) (ge_var 10)) (ga_cons (ge_var 11) (ga_nil))))))))) (gss_one (gs_ret (ge_bl))) (gss_nil)) (gss_one (gs_asg (ge_var 11) (gg_sub (W := W0) (ge_var 7) (ge_var 10)))))) (gss_nil)))))))) (gss_cons (gs_for (passes_of rfl) rfl (gi_r1 (ge_int) rfl m_range) (gg_name 10 sc_law_v45.nd) (gss_cons (gs_set 11 sc_law_v45.nd (ge_call g_walk (hr.mono (by omega)) (takes_of rfl rfl rfl rfl) rfl (ga_cons (ge_callTy no_tuple zc_tuple rfl m_tuple (by decide +kernel) (ga_cons (ge_var 3) (ga_nil))) (ga_cons (ge_ix (ge_ix (ge_var 4) (ge_var 10)) (ge_int)) (ga_cons (ge_ix (ge_ix (ge_var 4) (ge_var 10)) (ge_int)) (ga_nil)))))) (gss_one (gs_if (gt_cmp no_ne (zo_ne hr.units) (ge_ix (ge_var 7) (ge_var 10)) (ge_sl (ge_var 11) go_none (go_some (ge_un no_neg zo_neg (ge_int))))) (gss_one (gs_ret (ge_bl))) (gss_nil))))) (gss_one (gs_ret (ge_bl)))))))))))
theorem all_mk {P : Program} {w : World} {K : PySem.W.Frag} {h : Heap} {mg : Mg} {fa : Addr} (X : K.In h) (G : h.Ns mainGlobals mg) (hfa : mg "law" = some (.ref fa))
    {C_Coming : Addr}
    {f0 : Addr} {od0 an0 : Option Addr} {sl0 : Array (Option Value)} {oc0 kV0 dc0 pm0 cd0 ct0 : Value}
    {f1 : Addr} {od1 an1 : Option Addr} {sl1 : Array (Option Value)} {oc1 kV1 dc1 pm1 cd1 ct1 : Value}
    {f2 : Addr} {od2 an2 : Option Addr} {sl2 : Array (Option Value)} {oc2 kV2 dc2 pm2 cd2 ct2 : Value}
    {f3 : Addr} {od3 an3 : Option Addr} {sl3 : Array (Option Value)} {oc3 kV3 dc3 pm3 cd3 ct3 : Value}
    {f4 : Addr} {od4 an4 : Option Addr} {sl4 : Array (Option Value)} {oc4 kV4 dc4 pm4 cd4 ct4 : Value}
    {f5 : Addr} {od5 an5 : Option Addr} {sl5 : Array (Option Value)} {oc5 kV5 dc5 pm5 cd5 ct5 : Value}
    {f6 : Addr} {od6 an6 : Option Addr} {sl6 : Array (Option Value)} {oc6 kV6 dc6 pm6 cd6 ct6 : Value}
    {f7 : Addr} {od7 an7 : Option Addr} {sl7 : Array (Option Value)} {oc7 kV7 dc7 pm7 cd7 ct7 : Value}
    {f8 : Addr} {od8 an8 : Option Addr} {sl8 : Array (Option Value)} {oc8 kV8 dc8 pm8 cd8 ct8 : Value}
    {f9 : Addr} {od9 an9 : Option Addr} {sl9 : Array (Option Value)} {oc9 kV9 dc9 pm9 cd9 ct9 : Value}
    {f10 : Addr} {od10 an10 : Option Addr} {sl10 : Array (Option Value)} {oc10 kV10 dc10 pm10 cd10 ct10 : Value}
    {f11 : Addr} {od11 an11 : Option Addr} {sl11 : Array (Option Value)} {oc11 kV11 dc11 pm11 cd11 ct11 : Value}
    {f12 : Addr} {od12 an12 : Option Addr} {sl12 : Array (Option Value)} {oc12 kV12 dc12 pm12 cd12 ct12 : Value}
    {f13 : Addr} {od13 an13 : Option Addr} {sl13 : Array (Option Value)} {oc13 kV13 dc13 pm13 cd13 ct13 : Value}
    {C_Told : Addr}
    {C_TooBig : Addr}
    {C_NoName : Addr}
    {t_MOST_EQUATIONS : Tok}
    (ne_Coming : PySem.W.nsIn K mainGlobals "Coming" = some (some (.ref C_Coming)))
    (np_Coming : PySem.W.plainGet K C_Coming Str.empty = true)
    (nh_Coming : PySem.W.hasDictIn K C_Coming = true)
    (no_Coming : PySem.W.plainOver K C_Coming = true)
    (ns_Coming : PySem.W.findIn K (.ref C_Coming) "__setattr__" = some (some (.builtin "object.__setattr__")))
    (nf_Coming_terms : PySem.W.findIn K (.ref C_Coming) "terms" = some none)
    (nm_Coming : PySem.W.makesIn K C_Coming = true) (nk_Coming : PySem.W.keepIn K (.ref C_Coming) = true)
    (a0 : PySem.W.nsIn K mainGlobals "term_of" = some (some (.ref f0))) (l0 : K.lookup f0 = some ⟨oc0, od0, .func (PySem.W.fnOf "term_of" "term_of" (defArgs st_term_of) (defBody st_term_of) (defScope st_term_of) .none kV0 dc0 pm0 an0 cd0 ct0), sl0⟩) (c0 : PySem.W.codeIn K cd0 "term_of" = true) (k0 : PySem.W.keepIn K (.ref f0) = true)
    (a1 : PySem.W.nsIn K mainGlobals "followed" = some (some (.ref f1))) (l1 : K.lookup f1 = some ⟨oc1, od1, .func (PySem.W.fnOf "followed" "followed" (defArgs st_followed) (defBody st_followed) (defScope st_followed) .none kV1 dc1 pm1 an1 cd1 ct1), sl1⟩) (c1 : PySem.W.codeIn K cd1 "followed" = true) (k1 : PySem.W.keepIn K (.ref f1) = true)
    (a2 : PySem.W.nsIn K mainGlobals "_law_spring" = some (some (.ref f2))) (l2 : K.lookup f2 = some ⟨oc2, od2, .func (PySem.W.fnOf "_law_spring" "_law_spring" (defArgs st_law_spring) (defBody st_law_spring) (defScope st_law_spring) .none kV2 dc2 pm2 an2 cd2 ct2), sl2⟩) (c2 : PySem.W.codeIn K cd2 "_law_spring" = true) (k2 : PySem.W.keepIn K (.ref f2) = true)
    (a3 : PySem.W.nsIn K mainGlobals "_law_drop" = some (some (.ref f3))) (l3 : K.lookup f3 = some ⟨oc3, od3, .func (PySem.W.fnOf "_law_drop" "_law_drop" (defArgs st_law_drop) (defBody st_law_drop) (defScope st_law_drop) .none kV3 dc3 pm3 an3 cd3 ct3), sl3⟩) (c3 : PySem.W.codeIn K cd3 "_law_drop" = true) (k3 : PySem.W.keepIn K (.ref f3) = true)
    (a4 : PySem.W.nsIn K mainGlobals "_law_kept" = some (some (.ref f4))) (l4 : K.lookup f4 = some ⟨oc4, od4, .func (PySem.W.fnOf "_law_kept" "_law_kept" (defArgs st_law_kept_v2) (defBody st_law_kept_v2) (defScope st_law_kept_v2) .none kV4 dc4 pm4 an4 cd4 ct4), sl4⟩) (c4 : PySem.W.codeIn K cd4 "_law_kept" = true) (k4 : PySem.W.keepIn K (.ref f4) = true)
    (a5 : PySem.W.nsIn K mainGlobals "_law_good" = some (some (.ref f5))) (l5 : K.lookup f5 = some ⟨oc5, od5, .func (PySem.W.fnOf "_law_good" "_law_good" (defArgs st_law_good_v2) (defBody st_law_good_v2) (defScope st_law_good_v2) .none kV5 dc5 pm5 an5 cd5 ct5), sl5⟩) (c5 : PySem.W.codeIn K cd5 "_law_good" = true) (k5 : PySem.W.keepIn K (.ref f5) = true)
    (a6 : PySem.W.findIn K (.ref C_Coming) "__init__" = some (some (.ref f6))) (l6 : K.lookup f6 = some ⟨oc6, od6, .func (PySem.W.fnOf "__init__" "Coming.__init__" (defArgs st_Coming___init__) (defBody st_Coming___init__) (defScope st_Coming___init__) .none kV6 dc6 pm6 an6 cd6 ct6), sl6⟩) (c6 : PySem.W.codeIn K cd6 "Coming.__init__" = true) (k6 : PySem.W.keepIn K (.ref f6) = true) (fn6 : PySem.W.isFn K (.ref f6) = true)
    (a7 : PySem.W.findIn K (.ref C_Coming) "tell" = some (some (.ref f7))) (l7 : K.lookup f7 = some ⟨oc7, od7, .func (PySem.W.fnOf "tell" "Coming.tell" (defArgs st_Coming_tell) (defBody st_Coming_tell) (defScope st_Coming_tell) .none kV7 dc7 pm7 an7 cd7 ct7), sl7⟩) (c7 : PySem.W.codeIn K cd7 "Coming.tell" = true) (k7 : PySem.W.keepIn K (.ref f7) = true) (fn7 : PySem.W.isFn K (.ref f7) = true)
    (a8 : PySem.W.findIn K (.ref C_Coming) "known" = some (some (.ref f8))) (l8 : K.lookup f8 = some ⟨oc8, od8, .func (PySem.W.fnOf "known" "Coming.known" (defArgs st_Coming_known) (defBody st_Coming_known) (defScope st_Coming_known) .none kV8 dc8 pm8 an8 cd8 ct8), sl8⟩) (c8 : PySem.W.codeIn K cd8 "Coming.known" = true) (k8 : PySem.W.keepIn K (.ref f8) = true) (fn8 : PySem.W.isFn K (.ref f8) = true)
    (a9 : PySem.W.nsIn K mainGlobals "walk" = some (some (.ref f9))) (l9 : K.lookup f9 = some ⟨oc9, od9, .func (PySem.W.fnOf "walk" "walk" (defArgs st_walk) (defBody st_walk) (defScope st_walk) .none kV9 dc9 pm9 an9 cd9 ct9), sl9⟩) (c9 : PySem.W.codeIn K cd9 "walk" = true) (k9 : PySem.W.keepIn K (.ref f9) = true)
    (a10 : PySem.W.nsIn K mainGlobals "_law_names" = some (some (.ref f10))) (l10 : K.lookup f10 = some ⟨oc10, od10, .func (PySem.W.fnOf "_law_names" "_law_names" (defArgs st_law_names_v2) (defBody st_law_names_v2) (defScope st_law_names_v2) .none kV10 dc10 pm10 an10 cd10 ct10), sl10⟩) (c10 : PySem.W.codeIn K cd10 "_law_names" = true) (k10 : PySem.W.keepIn K (.ref f10) = true)
    (a11 : PySem.W.findIn K (.ref C_Coming) "sign" = some (some (.ref f11))) (l11 : K.lookup f11 = some ⟨oc11, od11, .func (PySem.W.fnOf "sign" "Coming.sign" (defArgs st_Coming_sign) (defBody st_Coming_sign) (defScope st_Coming_sign) .none kV11 dc11 pm11 an11 cd11 ct11), sl11⟩) (c11 : PySem.W.codeIn K cd11 "Coming.sign" = true) (k11 : PySem.W.keepIn K (.ref f11) = true) (fn11 : PySem.W.isFn K (.ref f11) = true)
    (a12 : PySem.W.nsIn K mainGlobals "_law_term" = some (some (.ref f12))) (l12 : K.lookup f12 = some ⟨oc12, od12, .func (PySem.W.fnOf "_law_term" "_law_term" (defArgs st_law_term) (defBody st_law_term) (defScope st_law_term) .none kV12 dc12 pm12 an12 cd12 ct12), sl12⟩) (c12 : PySem.W.codeIn K cd12 "_law_term" = true) (k12 : PySem.W.keepIn K (.ref f12) = true)
    (a13 : PySem.W.nsIn K mainGlobals "law" = some (some (.ref f13))) (l13 : K.lookup f13 = some ⟨oc13, od13, .func (PySem.W.fnOf "law" "law" (defArgs st_law_v45) (defBody st_law_v45) (defScope st_law_v45) .none kV13 dc13 pm13 an13 cd13 ct13), sl13⟩) (c13 : PySem.W.codeIn K cd13 "law" = true) (k13 : PySem.W.keepIn K (.ref f13) = true)
    (en_Told : PySem.W.nsIn K mainGlobals "Told" = some (some (.ref C_Told))) (ex_Told : PySem.W.excIn K C_Told [.type "ValueError", .type "Exception", .type "BaseException", .type "object"] "ValueError.__new__" = true) (ek_Told : PySem.W.keepIn K (.ref C_Told) = true) (eb_Told : PySem.W.subIn K (.ref C_Told) (.type "BaseException") = some true) (et_Told : PySem.W.typeIn K (.ref C_Told) = some (.type "type")) (ei_Told : PySem.W.isClsIn K C_Told = true) (es_Told : PySem.W.subIn K (.ref C_Told) (.ref C_Told) = some true)
    (en_TooBig : PySem.W.nsIn K mainGlobals "TooBig" = some (some (.ref C_TooBig))) (ex_TooBig : PySem.W.excIn K C_TooBig [.type "ValueError", .type "Exception", .type "BaseException", .type "object"] "ValueError.__new__" = true) (ek_TooBig : PySem.W.keepIn K (.ref C_TooBig) = true) (eb_TooBig : PySem.W.subIn K (.ref C_TooBig) (.type "BaseException") = some true) (et_TooBig : PySem.W.typeIn K (.ref C_TooBig) = some (.type "type")) (ei_TooBig : PySem.W.isClsIn K C_TooBig = true) (es_TooBig : PySem.W.subIn K (.ref C_TooBig) (.ref C_TooBig) = some true)
    (en_NoName : PySem.W.nsIn K mainGlobals "NoName" = some (some (.ref C_NoName))) (ex_NoName : PySem.W.excIn K C_NoName [.type "ValueError", .type "Exception", .type "BaseException", .type "object"] "ValueError.__new__" = true) (ek_NoName : PySem.W.keepIn K (.ref C_NoName) = true) (eb_NoName : PySem.W.subIn K (.ref C_NoName) (.type "BaseException") = some true) (et_NoName : PySem.W.typeIn K (.ref C_NoName) = some (.type "type")) (ei_NoName : PySem.W.isClsIn K C_NoName = true) (es_NoName : PySem.W.subIn K (.ref C_NoName) (.ref C_NoName) = some true)
    (z_dict : PySem.W.nsIn K mainGlobals "dict" = some none)
    (z_list : PySem.W.nsIn K mainGlobals "list" = some none)
    (z_len : PySem.W.nsIn K mainGlobals "len" = some none)
    (z_abs : PySem.W.nsIn K mainGlobals "abs" = some none)
    (z_isinstance : PySem.W.nsIn K mainGlobals "isinstance" = some none)
    (z_tuple : PySem.W.nsIn K mainGlobals "tuple" = some none)
    (z_range : PySem.W.nsIn K mainGlobals "range" = some none)
    (z_int : PySem.W.nsIn K mainGlobals "int" = some none)
    (q_MOST_EQUATIONS : PySem.W.nsIn K mainGlobals "MOST_EQUATIONS" = some (some (.int 8 t_MOST_EQUATIONS)))
    : ∃ fd : FuncData, (∀ (s : Shared) (v : Value), BindsTo s fd ⟨[v], []⟩ [("script", v)]) ∧ ∀ base : Heap, K.In base → base.Ns mainGlobals mg → FnG P w K mg base (L2.CX P w) 26 fa fd ["script"] (spF K mg R_law_v45) := by
  have e := hfa.symm.trans (PySem.W.mg_of X G a13)
  cases e
  have m_dict := PySem.W.mg_none_of X G z_dict
  have m_list := PySem.W.mg_none_of X G z_list
  have m_len := PySem.W.mg_none_of X G z_len
  have m_abs := PySem.W.mg_none_of X G z_abs
  have m_isinstance := PySem.W.mg_none_of X G z_isinstance
  have m_tuple := PySem.W.mg_none_of X G z_tuple
  have m_range := PySem.W.mg_none_of X G z_range
  have m_int := PySem.W.mg_none_of X G z_int
  have m_MOST_EQUATIONS := PySem.W.mg_of X G q_MOST_EQUATIONS
  have m_Told : ExC K mg "Told" C_Told := ⟨PySem.W.mg_of X G en_Told, ex_Told, ek_Told, eb_Told, et_Told, exm_self eb_Told ei_Told et_Told es_Told⟩
  have m_TooBig : ExC K mg "TooBig" C_TooBig := ⟨PySem.W.mg_of X G en_TooBig, ex_TooBig, ek_TooBig, eb_TooBig, et_TooBig, exm_self eb_TooBig ei_TooBig et_TooBig es_TooBig⟩
  have m_NoName : ExC K mg "NoName" C_NoName := ⟨PySem.W.mg_of X G en_NoName, ex_NoName, ek_NoName, eb_NoName, et_NoName, exm_self eb_NoName ei_NoName et_NoName es_NoName⟩
  have u_Coming := PySem.W.mg_of X G ne_Coming
  have e_Coming := ne_Coming
  have cl_Coming : Cls K C_Coming := ⟨np_Coming, nh_Coming, no_Coming, ns_Coming⟩
  have na_Coming_terms : NoAttr K C_Coming "terms" := nf_Coming_terms
  have F0 := fun_mk (st := st_term_of) l0 c0 k0
  have B0 := F0.binds (ps := ["book", "name"]) fun _ _ _ _ _ _ us hl => match us, hl with | [_, _], _ => rfl
  have F1 := fun_mk (st := st_followed) l1 c1 k1
  have B1 := F1.binds (ps := ["term", "n"]) fun _ _ _ _ _ _ us hl => match us, hl with | [_, _], _ => rfl
  have F2 := fun_mk (st := st_law_spring) l2 c2 k2
  have B2 := F2.binds (ps := ["script"]) fun _ _ _ _ _ _ us hl => match us, hl with | [_], _ => rfl
  have F3 := fun_mk (st := st_law_drop) l3 c3 k3
  have B3 := F3.binds (ps := ["spring", "many"]) fun _ _ _ _ _ _ us hl => match us, hl with | [_, _], _ => rfl
  have F4 := fun_mk (st := st_law_kept_v2) l4 c4 k4
  have B4 := F4.binds (ps := ["before", "found"]) fun _ _ _ _ _ _ us hl => match us, hl with | [_, _], _ => rfl
  have F5 := fun_mk (st := st_law_good_v2) l5 c5 k5
  have B5 := F5.binds (ps := ["found", "told"]) fun _ _ _ _ _ _ us hl => match us, hl with | [_, _], _ => rfl
  have F6 := fun_mk (st := st_Coming___init__) l6 c6 k6
  have B6 := F6.binds (ps := ["self"]) fun _ _ _ _ _ _ us hl => match us, hl with | [_], _ => rfl
  have F7 := fun_mk (st := st_Coming_tell) l7 c7 k7
  have B7 := F7.binds (ps := ["self", "name", "term"]) fun _ _ _ _ _ _ us hl => match us, hl with | [_, _, _], _ => rfl
  have F8 := fun_mk (st := st_Coming_known) l8 c8 k8
  have B8 := F8.binds (ps := ["self", "name"]) fun _ _ _ _ _ _ us hl => match us, hl with | [_, _], _ => rfl
  have F9 := fun_mk (st := st_walk) l9 c9 k9
  have B9 := F9.binds (ps := ["book", "name", "n"]) fun _ _ _ _ _ _ us hl => match us, hl with | [_, _, _], _ => rfl
  have F10 := fun_mk (st := st_law_names_v2) l10 c10 k10
  have B10 := F10.binds (ps := ["spring"]) fun _ _ _ _ _ _ us hl => match us, hl with | [_], _ => rfl
  have F11 := fun_mk (st := st_Coming_sign) l11 c11 k11
  have B11 := F11.binds (ps := ["self", "name", "n"]) fun _ _ _ _ _ _ us hl => match us, hl with | [_, _, _], _ => rfl
  have F12 := fun_mk (st := st_law_term) l12 c12 k12
  have B12 := F12.binds (ps := ["spring", "names", "deep"]) fun _ _ _ _ _ _ us hl => match us, hl with | [_, _, _], _ => rfl
  have F13 := fun_mk (st := st_law_v45) l13 c13 k13
  refine ⟨PySem.W.fnOf "law" "law" (defArgs st_law_v45) (defBody st_law_v45) (defScope st_law_v45) .none kV13 dc13 pm13 an13 cd13 ct13, fun s v => .of_eq rfl, fun base _ _ => ?_⟩
  have g_term_of : GF P w K mg base "term_of" 1 R_term_of := gf_of (PySem.W.mg_of X G a0) k0 B0 (ok_term_of F0 m_dict)
  have g_followed : GF P w K mg base "followed" 1 R_followed := gf_of (PySem.W.mg_of X G a1) k1 B1 (ok_followed F1 )
  have g__law_spring : GF P w K mg base "_law_spring" 1 R_law_spring := gf_of (PySem.W.mg_of X G a2) k2 B2 (ok_law_spring F2 m_list)
  have g__law_drop : GF P w K mg base "_law_drop" 1 R_law_drop := gf_of (PySem.W.mg_of X G a3) k3 B3 (ok_law_drop F3 m_len m_abs)
  have g__law_kept : GF P w K mg base "_law_kept" 1 R_law_kept_v2 := gf_of (PySem.W.mg_of X G a4) k4 B4 (ok_law_kept_v2 F4 )
  have g__law_good : GF P w K mg base "_law_good" 1 R_law_good_v2 := gf_of (PySem.W.mg_of X G a5) k5 B5 (ok_law_good_v2 F5 m_isinstance m_tuple m_len)
  have g_Coming___init__ : GN P w K mg base C_Coming 1 R_Coming___init__ := ⟨⟨_, _, _, ⟨nm_Coming, a6, fn6, nk_Coming⟩, B6, ok_Coming___init__ F6 e_Coming cl_Coming na_Coming_terms⟩⟩
  have g_Coming_tell : GM P w K mg base C_Coming "tell" 1 R_Coming_tell := ⟨⟨_, _, _, ⟨a7, fn7, k7⟩, B7, ok_Coming_tell F7 m_len m_MOST_EQUATIONS m_Told m_TooBig e_Coming cl_Coming na_Coming_terms⟩⟩
  have g_Coming_known : GM P w K mg base C_Coming "known" 1 R_Coming_known := ⟨⟨_, _, _, ⟨a8, fn8, k8⟩, B8, ok_Coming_known F8 m_NoName e_Coming cl_Coming na_Coming_terms⟩⟩
  have g_walk : GF P w K mg base "walk" 2 R_walk := gf_of (PySem.W.mg_of X G a9) k9 B9 (ok_walk F9 g_followed g_term_of)
  have g__law_names : GF P w K mg base "_law_names" 2 R_law_names_v2 := gf_of (PySem.W.mg_of X G a10) k10 B10 (ok_law_names_v2 F10 g__law_drop m_range)
  have g_Coming_sign : GM P w K mg base C_Coming "sign" 2 R_Coming_sign := ⟨⟨_, _, _, ⟨a11, fn11, k11⟩, B11, ok_Coming_sign F11 g_Coming_known g_followed e_Coming cl_Coming na_Coming_terms⟩⟩
  have g__law_term : GF P w K mg base "_law_term" 25 (R_law_term 24) := gf_of (PySem.W.mg_of X G a12) k12 B12 (ok_law_term F12 (PySem.W.mg_of X G a12) k12 B12 g__law_drop m_int m_len 24)
  exact ok_law_v45 F13 g__law_spring g__law_names g__law_drop g__law_term g_Coming___init__ g_Coming_tell g_Coming_sign g__law_good g__law_kept g_walk m_range m_len m_tuple e_Coming cl_Coming u_Coming
end
end Z
open PySem PySem.W PyProof.Rows in
set_option maxRecDepth 100000 in
set_option maxHeartbeats 0 in
theorem PySem.Challenge.cw_zipspring_k72_whole_told_signs_stay_holds : PySem.Challenge.rw_zipspring_k72_whole_told_signs_stay.Holds := by
  w_on; o_law; k_head; (case hw => w_witness2)
  k_fill
  refine Z.walkZ (l := PySem.Challenge.rw_zipspring_k72_whole_told_signs_stay) (k := 26) (R := Z.R_law_v45) rfl (by decide) ⟨⟨rfl, by decide, by decide⟩, rfl⟩ rfl (fun w h Y => PySem.W.kIn_of Y) (fun ns hl _ => Z.s_law_v45 ns hl) ?F
  case F =>
    intro w mg fa h KX G hmg
    refine' Z.all_mk KX G hmg ?ne_Coming ?np_Coming ?nh_Coming ?no_Coming ?ns_Coming ?nf_Coming_terms ?nm_Coming ?nk_Coming ?a0 ?l0 ?c0 ?k0 ?a1 ?l1 ?c1 ?k1 ?a2 ?l2 ?c2 ?k2 ?a3 ?l3 ?c3 ?k3 ?a4 ?l4 ?c4 ?k4 ?a5 ?l5 ?c5 ?k5 ?a6 ?l6 ?c6 ?k6 ?fn6 ?a7 ?l7 ?c7 ?k7 ?fn7 ?a8 ?l8 ?c8 ?k8 ?fn8 ?a9 ?l9 ?c9 ?k9 ?a10 ?l10 ?c10 ?k10 ?a11 ?l11 ?c11 ?k11 ?fn11 ?a12 ?l12 ?c12 ?k12 ?a13 ?l13 ?c13 ?k13 ?en_Told ?ex_Told ?ek_Told ?eb_Told ?et_Told ?ei_Told ?es_Told ?en_TooBig ?ex_TooBig ?ek_TooBig ?eb_TooBig ?et_TooBig ?ei_TooBig ?es_TooBig ?en_NoName ?ex_NoName ?ek_NoName ?eb_NoName ?et_NoName ?ei_NoName ?es_NoName ?z_dict ?z_list ?z_len ?z_abs ?z_isinstance ?z_tuple ?z_range ?z_int ?q_MOST_EQUATIONS
    (case ne_Coming => k_is)
    (case np_Coming => k_is)
    (case nh_Coming => k_is)
    (case no_Coming => k_is)
    (case ns_Coming => k_is)
    (case nf_Coming_terms => k_is)
    (case nm_Coming => k_is)
    (case nk_Coming => k_is)
    (case a0 => k_is)
    (case l0 => k_is)
    (case c0 => k_is)
    (case k0 => k_is)
    (case a1 => k_is)
    (case l1 => k_is)
    (case c1 => k_is)
    (case k1 => k_is)
    (case a2 => k_is)
    (case l2 => k_is)
    (case c2 => k_is)
    (case k2 => k_is)
    (case a3 => k_is)
    (case l3 => k_is)
    (case c3 => k_is)
    (case k3 => k_is)
    (case a4 => k_is)
    (case l4 => k_is)
    (case c4 => k_is)
    (case k4 => k_is)
    (case a5 => k_is)
    (case l5 => k_is)
    (case c5 => k_is)
    (case k5 => k_is)
    (case a6 => k_is)
    (case l6 => k_is)
    (case c6 => k_is)
    (case k6 => k_is)
    (case fn6 => k_is)
    (case a7 => k_is)
    (case l7 => k_is)
    (case c7 => k_is)
    (case k7 => k_is)
    (case fn7 => k_is)
    (case a8 => k_is)
    (case l8 => k_is)
    (case c8 => k_is)
    (case k8 => k_is)
    (case fn8 => k_is)
    (case a9 => k_is)
    (case l9 => k_is)
    (case c9 => k_is)
    (case k9 => k_is)
    (case a10 => k_is)
    (case l10 => k_is)
    (case c10 => k_is)
    (case k10 => k_is)
    (case a11 => k_is)
    (case l11 => k_is)
    (case c11 => k_is)
    (case k11 => k_is)
    (case fn11 => k_is)
    (case a12 => k_is)
    (case l12 => k_is)
    (case c12 => k_is)
    (case k12 => k_is)
    (case a13 => k_is)
    (case l13 => k_is)
    (case c13 => k_is)
    (case k13 => k_is)
    (case en_Told => k_is)
    (case ex_Told => k_exc)
    (case ek_Told => k_is)
    (case eb_Told => k_is)
    (case et_Told => k_is)
    (case ei_Told => k_is)
    (case es_Told => first | rfl | k_is)
    (case en_TooBig => k_is)
    (case ex_TooBig => k_exc)
    (case ek_TooBig => k_is)
    (case eb_TooBig => k_is)
    (case et_TooBig => k_is)
    (case ei_TooBig => k_is)
    (case es_TooBig => first | rfl | k_is)
    (case en_NoName => k_is)
    (case ex_NoName => k_exc)
    (case ek_NoName => k_is)
    (case eb_NoName => k_is)
    (case et_NoName => k_is)
    (case ei_NoName => k_is)
    (case es_NoName => first | rfl | k_is)
    (case z_dict => k_is)
    (case z_list => k_is)
    (case z_len => k_is)
    (case z_abs => k_is)
    (case z_isinstance => k_is)
    (case z_tuple => k_is)
    (case z_range => k_is)
    (case z_int => k_is)
    (case q_MOST_EQUATIONS => k_is)
