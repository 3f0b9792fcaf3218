import PyProof.Rows.All
import HandS.TupAny
import HandS.TupMul
import HandS.CallSlots
import HandS.Style
import KE.KRevSl
import HandS.WordsExc
import HandS.EndBits
import Wide.All
import OpenK.AllK
import Wide.FinOn
import HandS.ForSpec
import HandS.ForMost
import HandS.Wide
import KE.KDictKeyed
import KE.KDictDisplayH
import KE.KeyNested
import HandS.Deep
import HandS.IsInst
import HandS.Iter
import HandS.Conv
import HandS.Text
import HandS.RaiseMore
import HandS.Exc
import HandS.TryOnly
import PyProof.StrLawsChain
import HandS.Dict
import KE.KDictPairs
import HandS.SetFor
import HandS.Strs
import PyProof.Rows.SortStr
import HandS.TupLen
import HandS.WordsDict
import KE.GoesEnum
import PyProof.ReprRoads
import PyProof.CallFns
import PyProof.ReprLen
import HandS.ExcIs
import HandS.ExcValue
import PyProof.StrBlock2
import HandS.Zip
import HandS.More
import KE.GoesZip
import KE.GoesMore
import KE.KIntText
import PyProof.Rows.SetFrom
import HandS.TupSets
import KE.KDictZip
import HandS.SetKeys
import KE.KEqDict
import PyProof.StrLawsIn
import HandS.NoneIn
import KE.KItemsList
import PySem.Challenge.RW_zipspring_k32_alike_and_pairings
set_option Elab.async false
set_option linter.all false
set_option maxRecDepth 100000
set_option autoImplicit false
namespace L2
open PySem PySem.Spec PyProof.Rows
def NewT (H : Hp) (p : Addr) (xs : List V) (Q : VK) : Prop := Q (.ref p) (upd H p (.tup xs)) ∨ ∀ o : Obj, o.dict = none → Q (.ref p) (upd H p (.frz o (.tup xs)))
section
variable {X : Cx} {pins : List (Addr × Obj)} {σ : St} {H : Hp} {s : Shared}
theorem Inv.newT {xs : List V} {its : List Value} {Q : VK} {t' : Tok} (I : Inv X pins σ H s) (r : Vals xs its) (z : xs.length ≤ sizeLine) (q : NewT H s.heap.objs.size xs Q) :
    EP X pins σ Q (.ref s.heap.objs.size) { s with heap := s.heap.push { cls := .type "tuple", data := .seq its.toArray }, toks := t' } := by
  rcases q with q | q
  · exact ⟨.ref s.heap.objs.size, _, I.laid (t' := t') (o := .tup xs) (fun b ob q => Heap.get?_push_of_some _ q) (Nat.le_refl _) ⟨z, _, r, IsTup.new _ _⟩, rfl, q⟩
  · exact ⟨.ref s.heap.objs.size, _, I.laid (t' := t') (o := .frz { cls := .type "tuple", data := .seq its.toArray } (.tup xs)) (fun b ob q => Heap.get?_push_of_some _ q) (Nat.le_refl _) ⟨Heap.get?_push_size _ rfl, z, _, r, IsTup.new _ _⟩, rfl, q _ rfl⟩
end
section
variable {X : Cx} {es : List Expr} {t : TA} {pos : Pos}
def tTup2 (t : TA) : TE := fun σ H Q => t σ H fun xs H1 => xs.length ≤ sizeLine ∧ ∀ p, H1 p = none → NewT H1 p xs Q
theorem pe_tup2 {x1} (h : PA X es t) : PE X (.Tuple es x1 pos) (tTup2 t) := by
  refine ⟨fun pins s σ H Q I hq => ?_⟩
  refine wpAny_Tuple_spliced (thn (h.run pos pins s σ H _ I hq) fun us s1 ⟨xs, H1, I1, r, z, q⟩ => ⟨by rw [← r.length]; exact z, ?_⟩)
  exact I1.newT (t' := s1.toks) r z (q _ (I1.hok.fresh (Nat.le_refl _)))
/-- t + u -/
def rCat2 (K : PySem.W.Frag) : R2 := fun x y H Q => ∃ a b xs ys, x = .ref a ∧ y = .ref b ∧ SqT K H a xs ∧ SqT K H b ys ∧ xs.length + ys.length ≤ sizeLine ∧
  (xs = [] → Q (.ref b) H) ∧ (xs ≠ [] → ys = [] → Q (.ref a) H) ∧ (xs ≠ [] → ys ≠ [] → ∀ p, H p = none → NewT H p (xs ++ ys) Q)
theorem op_cat2 : OpR X (binaryOp .Add) (rCat2 X.K) := by
  intro pins s σ H x y v u Q I rx ry h
  obtain ⟨a, b, xs, ys, rfl, rfl, ha, hb, hz, q0, q1, q2⟩ := h
  cases rx
  cases ry
  obtain ⟨its, r1, p1, _⟩ := I.tuple ha
  obtain ⟨its2, r2, p2, _⟩ := I.tuple hb
  by_cases hx : xs = []
  · subst hx
    cases r1
    exact cat_tup0 p1 p2 ⟨.ref b, H, I, rfl, q0 rfl⟩
  · refine HT.cat_tup p1 p2 (fun z => hx (r1.nil_iff.mp z)) (fun z => ⟨.ref a, H, I, rfl, q1 hx (r2.nil_iff.mp z)⟩) (fun z => ?_) (by rw [← r1.length, ← r2.length]; exact hz)
    exact I.newT (t' := s.toks) (r1.append r2) (by rw [List.length_append]; exact hz) (q2 hx (fun w => z (r2.nil_iff.mpr w)) _ (I.hok.fresh (Nat.le_refl _)))
/-- t[lo:hi]: the whole of it is t itself -/
def rSl2 (K : PySem.W.Frag) : V → Option Int → Option Int → Hp → VK → Prop := fun x lo hi H Q => ∃ a xs, x = .ref a ∧ SqT K H a xs ∧
  (HT.sIx xs.length 0 lo = 0 ∧ HT.sIx xs.length xs.length hi = xs.length → Q (.ref a) H) ∧ (¬ (HT.sIx xs.length 0 lo = 0 ∧ HT.sIx xs.length xs.length hi = xs.length) → ∀ p, H p = none → NewT H p (cutV xs lo hi) Q)
theorem sl_tup2 : SlR X (rSl2 X.K) := by
  intro pins s σ H x v vl vu lo hi sl Q I rx hs pl pu h
  obtain ⟨a, xs, rfl, hx, q1, q2⟩ := h
  cases rx
  obtain ⟨its, r, ht, hz⟩ := I.tuple hx
  have hlen : its.toArray.size = xs.length := by rw [List.size_toArray]; exact r.length.symm
  refine ⟨"tuple", _, PyProof.Rows.slot_tuple_getitem.lookup, ht.typeIs, ?_⟩
  by_cases hw : HT.sIx xs.length 0 lo = 0 ∧ HT.sIx xs.length xs.length hi = xs.length
  · exact getItem_tuple_whole ht hs pl pu (by rw [hlen]; exact hw) ⟨.ref a, H, I, rfl, q1 hw⟩
  · refine HT.getItem_tuple_cut ht hs pl pu (by rw [hlen]; exact hw) ?_ (by rw [hlen]; exact hz)
    rw [hlen]
    exact I.newT (t' := s.toks) ((r.drop (HT.sIx xs.length 0 lo)).take (HT.sIx xs.length xs.length hi - HT.sIx xs.length 0 lo)) (Nat.le_trans (cutV_length xs lo hi) hz) (q2 hw _ (I.hok.fresh (Nat.le_refl _)))
/-- tuple(x) -/
theorem call_tuple2 : CallR X (.type "tuple") (fun xs H Q => ∃ p ys, xs = [.ref p] ∧ ((SqL X.K H p ys ∧ ∀ l, H l = none → NewT H l ys Q) ∨ (SqT X.K H p ys ∧ Q (.ref p) H))) := by
  intro pins s σ H xs us Q I r h
  obtain ⟨p, ys, rfl, h⟩ := h
  obtain ⟨u, rfl, rx⟩ := vals1 r
  cases rx
  rcases h with ⟨hq, q⟩ | ⟨hq, q⟩
  · obtain ⟨its, r', pl, hz⟩ := I.list hq
    have hlen := r'.length
    refine call_tuple_list pl.isList (fun h' kp => ?_) (by simp only [List.size_toArray] <;> omega)
    have I1 : Inv X pins σ H { s with heap := h' } := I.kept (t' := s.toks) kp
    exact I1.newT (t' := s.toks) r' hz (q _ (I1.hok.fresh (Nat.le_refl _)))
  · obtain ⟨its, r', pl, hz⟩ := I.tuple hq
    exact call_tuple_same pl ⟨.ref p, H, I, rfl, q⟩
/-- t * k -/
def rRep2 (K : PySem.W.Frag) : R2 := fun x y H Q => ∃ l k xs, x = .ref l ∧ y = .int k ∧ SqT K H l xs ∧ xs ≠ [] ∧ 2 ≤ k ∧ k ≤ 1000 ∧ xs.length ≤ 1000 ∧ ∀ p, H p = none → NewT H p (List.replicate k.toNat xs).flatten Q
theorem op_rep2 : OpR X (binaryOp .Mult) (rRep2 X.K) := by
  intro pins s σ H x y v u Q I rx ry h
  obtain ⟨l, k, xs, rfl, rfl, hT, hne, h1, h2, hz, q⟩ := h
  cases rx
  obtain ⟨t, rfl⟩ := ry
  obtain ⟨its, r, ⟨⟨cls, dd, data, sl⟩, ho, hc, n, hd⟩, hs⟩ := I.tuple hT
  simp only at hc hd
  subst hc hd
  have hle : its.length = xs.length := r.length.symm
  have hn : its ≠ [] := fun e => hne (by
    rw [e] at hle
    exact List.eq_nil_of_length_eq_zero hle.symm)
  have hi : its.toArray.isEmpty = false := by
    cases its with
    | nil => exact absurd rfl hn
    | cons a b => rfl
  have hsz0 : its.toArray.size = xs.length := by rw [List.size_toArray, hle]
  have hm : ((its.toArray.size : Nat) : Int) * k ≤ 1000000 := by
    rw [hsz0]
    have a1 : ((xs.length : Nat) : Int) * k ≤ 1000 * k := Int.mul_le_mul_of_nonneg_right (by omega) (by omega)
    omega
  have flen : (List.replicate k.toNat its).flatten.length ≤ sizeLine := by
    rw [PyProof.Rows.lm_len_rep_flat, hle, sizeLine_eq]
    have a1 : k.toNat * xs.length ≤ 1000 * 1000 := Nat.mul_le_mul (by omega) hz
    omega
  have c0 : (decide (k < -(2 ^ 63)) || decide (k ≥ 2 ^ 63)) = false := by
    rw [decide_eq_false (by omega), decide_eq_false (by omega)] <;> rfl
  have c1 : (its.toArray.isEmpty || k == 1) = false := by
    rw [hi, Bool.false_or]
    exact beq_eq_false_iff_ne.mpr (by omega)
  have c2 : (decide (k ≤ 0) || its.toArray.isEmpty) = false := by
    rw [hi, Bool.or_false]
    exact decide_eq_false (by omega)
  have c4 : Builtin.Tuple.tupleTooMany (((its.toArray.size : Nat) : Int) * k) = false := by
    unfold Builtin.Tuple.tupleTooMany
    rw [sizeLine_eq]
    exact decide_eq_false (by omega)
  refine wpAny_binaryOp_repeat_ref (T := "tuple") (U := "int") (by decide) ⟨_, ho, rfl⟩ (fun s' => typeIs_int s' k t) noFill_tuple_mul F.fills_int_mul F.slot_int_rmul repeat_tuple F.slot_int_index.lookup
    (call_meets F.slot_int_rmul (typeIs_int s k t) F.entry_int_rmul (F.args_int_rmul_2 _ _) (int_rmul_tuple k t l its.toArray n dd sl)
      ⟨ho, rfl, ⟨_, ho, rfl⟩, call_meets F.slot_tuple_mul ⟨_, ho, rfl⟩ F.entry_tuple_mul (F.args_tuple_mul_2 _ _) (tuple_mulW l its.toArray n dd sl k t c0 c1 c2 (by omega) c4 (by rw [size_rep, List.size_toArray]; exact flen)) ⟨ho, ?_⟩⟩)
  rw [size_rep]
  exact I.newT (t' := s.toks) (r.rep k.toNat) (by rw [PyProof.Rows.lm_len_rep_flat, sizeLine_eq]; have a1 : k.toNat * xs.length ≤ 1000 * 1000 := Nat.mul_le_mul (by omega) hz; omega) (q _ (I.hok.fresh (Nat.le_refl _)))
end
end L2
namespace L2
open PySem PySem.Spec PyProof.Rows
/-- room, and no guard around -/
structure RoomG (k : Nat) (A : Around) : Prop where
  r : Room k A
  g : A.guards = some []
theorem RoomG.mono {j k : Nat} {A : Around} (h : RoomG k A) (l : j ≤ k) : RoomG j A := ⟨h.r.mono l, h.g⟩
theorem RoomG.deeper {k : Nat} {A : Around} (h : RoomG (k + 1) A) (env : Env) : RoomG k (A.deeper env) := ⟨h.r.deeper env, h.g⟩
/-- as FnOk, asked only there -/
structure FnG (P : Program) (w : World) (K : PySem.W.Frag) (mg : Str → Option Value) (base : Heap) (CX : CXT) (k : Nat) (f : Addr) (fd : FuncData) (ps : List Str) (sp : Sp) : Prop where
  len : ∀ vs H Q E, sp vs H Q E → vs.length = ps.length
  run : ∀ (A : Around) (outer : List Env) (s : Shared) (H : Hp) (args : Args) (us : List Value) (vs : List V) (Q : VK) (E : XK), RoomG k A → Env0 P w K mg base A outer s H → BindsTo s fd args (ps.zip us) → Vals vs us → sp vs H Q E →
    codeAny (model P w) A (.call (.ref f) args) (CR CX outer P w H s Q E) s
theorem FnG.imp {P : Program} {w : World} {K : PySem.W.Frag} {mg : Str → Option Value} {base : Heap} {CX : CXT} {k : Nat} {f : Addr} {fd : FuncData} {ps : List Str} {sp sp' : Sp} (F : FnG P w K mg base CX k f fd ps sp)
    (h : ∀ vs H Q E, sp' vs H Q E → sp vs H Q E) : FnG P w K mg base CX k f fd ps sp' :=
  ⟨fun vs H Q E q => F.len vs H Q E (h _ _ _ _ q), fun A outer s H args us vs Q E hr he hb hv hs => F.run A outer s H args us vs Q E hr he hb hv (h _ _ _ _ hs)⟩
theorem fn_ofG {CX : CXT} {P : Program} {w : World} {K : PySem.W.Frag} {mg : Str → Option Value} {base : Heap} {k : Nat} {f : Addr} {name qual : Str} {params : Arguments} {body : List Stmt} {scope : Scope} {dV kV doc pm cdv ct oc : Value} {an od : Option Addr}
    {osl : Array (Option Value)} {N ps : List Str} {sp : Sp} (lk : K.lookup f = some ⟨oc, od, .func (PySem.W.fnOf name qual params body scope dV kV doc pm an cdv ct), osl⟩) (hcd : PySem.W.codeIn K cdv qual = true) (S : FnScope N ps scope)
    (len : ∀ vs H Q E, sp vs H Q E → vs.length = ps.length)
    (hbody : ∀ (A : Around) (outer : List Env) (s : Shared) (H : Hp) (vs : List V) (Q : VK) (E : XK), RoomG k (A.deeper (envOfC qual scope s.heap.objs.size f cdv)) → sp vs H Q E →
      ∃ t, PSs (cxOf CX P w K mg base N qual scope f cdv A outer s H E) body t ∧ t { nx := fun _ H' => Q .non H', rt := Q } (start N vs) H) :
    FnG P w K mg base CX (k + 1) f (PySem.W.fnOf name qual params body scope dV kV doc pm an cdv ct) ps sp := by
  refine ⟨len, fun A outer s H args us vs Q E hr e0 hb r hsp => ?_⟩
  have hl := len _ _ _ _ hsp
  have KX : K.In s.heap := e0.mod.kin.keeps fun b o e => (e0.bs b o e).1
  have lim : s.heap.NoLimit := e0.mod.nolimit.keeps fun b o e => (e0.bs b o e).1
  have hkind : ∀ y ∈ ps.zip us, scope.names.lookup y.1 = some .local ∨ (scope.names.lookup y.1 = some .cell ∧ ((cellsFrom (s.heap.objs.size + 1) scope.names []).lookup y.1).isSome = true) := fun ⟨n, v⟩ hy => by
    rcases S.par n (List.of_mem_zip hy).1 with q | q
    · exact .inl q
    · exact .inr ⟨q, PySem.W.cellsFrom_some _ _ _ (.inl q)⟩
  refine codeAny_call_function hr.r.depth (KX _ _ lk) rfl S.co S.gen rfl (PySem.W.codeRec_of KX hcd) (hb _ _ _ _ ?_)
  refine wpAny_newFunctionEnv_cells S.kind hkind fun env he s1 x => ?_
  subst he
  refine ⟨lim.keeps x.toInCall.keep, codeAny_func ?_⟩
  obtain ⟨t, ht, hq⟩ := hbody A outer s H vs Q E (hr.deeper _) hsp
  have I : Inv (cxOf CX P w K mg base N qual scope f cdv A outer s H E) [] (start N vs) H s1 := inv_start S hr.r.hd e0 hl r x
  refine wpAny_mono (ht.run [] s1 (start N vs) H _ I hq) (fun fl s' hs => ?_) fun e s' hs => hs
  have fin : ∀ {σ' : St} {H' : Hp} {v : V} {u : Value}, Inv (cxOf CX P w K mg base N qual scope f cdv A outer s H E) [] σ' H' s' → RelV v u → Q v H' → CE outer P w H s Q u s' :=
    fun {σ' H' v u} J rv q => ⟨v, H', J.os, J.bare, J.base, J.hok, rv, q⟩
  cases fl with
  | ret u =>
    obtain ⟨v, σ', H', J, rv, q⟩ := hs
    exact fin J rv q
  | next =>
    obtain ⟨σ', H', J, q⟩ := hs
    exact fin (v := V.non) (u := Value.none) J rfl q
  | brk =>
    obtain ⟨_, _, _, q⟩ := hs
    exact False.elim q
  | cont =>
    obtain ⟨_, _, _, q⟩ := hs
    exact False.elim q
section
variable {P : Program} {w : World} {K : PySem.W.Frag} {mg : Str → Option Value} {base : Heap}
theorem Fun.okG {x qual : Str} {st : Stmt} {f : Addr} {fd : FuncData} {N ps : List Str} {k : Nat} {sp : Sp} (F : Fun K x qual st f fd) (S : FnScope N ps (defScope st)) (len : ∀ vs H Q E, sp vs H Q E → vs.length = ps.length)
    (hbody : ∀ (cdv : Value) (A : Around) (outer : List Env) (s : Shared) (H : Hp) (vs : List V) (Q : VK) (E : XK), RoomG k (A.deeper (envOfC qual (defScope st) s.heap.objs.size f cdv)) → sp vs H Q E →
      ∃ t, PSs (cxOf (L2.CX P w) P w K mg base N qual (defScope st) f cdv A outer s H E) (defBody st) t ∧ t { nx := fun _ H' => Q .non H', rt := Q } (start N vs) H) : FnG P w K mg base (L2.CX P w) (k + 1) f fd ps sp := by
  obtain ⟨oc, od, kV, doc, pm, an, cdv, ct, osl, rfl, lk, hcd⟩ := F.ex
  exact fn_ofG lk hcd S len fun A outer s H vs Q E hr hsp => hbody cdv A outer s H vs Q E hr hsp
end
section
variable {X : Cx} {CX : CXT} {k : Nat} {f : Addr} {fd : FuncData} {ps : List Str} {sp : Sp} {dvs : List V} {ds : List Value} {E : St → XK} {x : Str} {p pos : Pos} {e : Expr} {es : List Expr} {t : TA}
theorem run_fnG {pins : List (Addr × Obj)} {σ : St} {H : Hp} {s : Shared} {Q : VK} {us : List Value} {vs : List V} (F : FnG X.prog X.w X.K X.mg X.base CX k f fd ps sp) (hr : RoomG k X.A) (hb : Binds X.K fd ps ds) (hd : Vals dvs ds) (hx : PassesAt CX X σ (E σ))
    (I : Inv X pins σ H s) (r : Vals vs us) (h : sp (vs ++ dvs) H Q (E σ)) : wpAny (model X.prog X.w) X.A (call (.ref f) us) (EP X pins σ Q) X.xe s := by
  have r2 : Vals (vs ++ dvs) (us ++ ds) := r.append hd
  have hl : (us ++ ds).length = ps.length := by rw [← r2.length]; exact F.len _ _ _ _ h
  refine wpAny_call (codeAny_mono (F.run X.A X.stack s H ⟨us, []⟩ (us ++ ds) (vs ++ dvs) Q (E σ) hr I.env0 (hb s us I.kIn hl) r2 h) fun r s' hq => ?_)
  cases r with
  | error e => exact hx pins H s e s' I hq
  | ok fl =>
    cases fl with
    | ret u => exact I.after hq
    | next => exact False.elim hq
    | brk => exact False.elim hq
    | cont => exact False.elim hq
theorem pe_callG (F : FnG X.prog X.w X.K X.mg X.base CX k f fd ps sp) (hr : RoomG k X.A) (hg : Gl X x) (hm : X.mg x = some (.ref f)) (hk : PySem.W.keepIn X.K (.ref f) = true) (hb : Binds X.K fd ps ds) (hd : Vals dvs ds) (hx : ∀ σ, PassesAt CX X σ (E σ))
    (ha : PA X (e :: es) t) (hdb : (x == ("__debug__" : Str)) = false := by decide) (he : starEach (e :: es) X.env = (false, eval e X.env) :: starEach es X.env := by rfl) (hpl : (backTo pos (starEach es X.env)).any (·.1) = false := by rfl) :
    PE X (.Call (.Name x p) (e :: es) [] pos) (tCallSD sp dvs E t) := by
  refine ⟨fun pins s σ H Q I h => ?_⟩
  refine wpAny_Call_Name_kw (ld_glob I hg hm ?_ hdb)
  refine PySem.W.callWith_K (h₀ := X.base) I.ok.mod.kin hk (thn (ha.run pos pins s σ H _ I h) fun us s1 ⟨vs, H1, I1, r, q⟩ => ⟨I1.kIn, ?_⟩) he hpl
  exact run_fnG F hr hb hd (hx σ) I1 r q
end
/-- the law's promise, at the heap behind the top -/
theorem law_callG {P : Program} {w : World} {K : PySem.W.Frag} {mg mb : Str → Option Value} {CX : CXT} {k : Nat} {fa a : Addr} {fd : FuncData} {x : Str} {sp : Sp} {s₁ : Shared} {vs : List Value} {ns : List Int}
    (KX : K.In s₁.heap) (hns : s₁.heap.Ns mainGlobals mg) (hb : s₁.heap.Ns builtinsNs mb) (hbb : ∀ x : Str, x ≠ "__name__" → mb x = bootBuiltins x) (hlim : s₁.heap.NoLimit) (hg : s₁.gens = #[])
    (ha : s₁.heap.get? a = some { cls := .type "list", data := .seq vs.toArray }) (hi : IntsAre vs ns) (hl : ns.length ≤ sizeLine) (hr : RoomG k callerA)
    (F : ∀ base : Heap, K.In base → base.Ns mainGlobals mg → FnG P w K mg base CX k fa fd [x] sp) (hbind : ∀ (s : Shared) (u : Value), BindsTo s fd ⟨[u], []⟩ [(x, u)])
    (hsp : ∀ H : Hp, Only H → SqL K H a (ns.map V.int) → sp [.ref a] H (fun v _ => v = .bl true) fun _ _ _ => False)
    (hCX : ∀ H e s', CX [] H s₁ (fun _ _ _ => False) e s' → False) :
    codeAny (model P w) callerA (.call (.ref fa) ⟨[.ref a], []⟩) (fun r s' => r = .ok (.ret (.bool true)) ∧ OldK s₁.heap s'.heap ∧ s'.os = s₁.os ∧ AllBare s'.gens) s₁ := by
  have rv := vals_ints hi
  have lenV := hi.length
  have core : ∀ H : Hp, Only H → SqL K H a (ns.map V.int) → HOk P w H s₁.heap → (∀ b, H b ≠ none → b = a) → (H a ≠ none → K.lookup a = none) →
      codeAny (model P w) callerA (.call (.ref fa) ⟨[.ref a], []⟩) (fun r s' => r = .ok (.ret (.bool true)) ∧ OldK s₁.heap s'.heap ∧ s'.os = s₁.os ∧ AllBare s'.gens) s₁ := by
    intro H hO hS hok hA hK
    have base_of : ∀ {b : Addr} {o : Obj}, s₁.heap.get? b = some o → H b = none → (hidT s₁.heap H).get? b = some o := fun e n => hidT_get e n
    have hisA : ∀ {b : Addr} {u : HO}, H b = some u → b = a := fun {b u} q => hA b (by rw [q]; simp)
    have noA : ∀ {b : Addr} {o : Obj} {es : Array DictEntry} {ep : Nat}, s₁.heap.get? b = some o → o.data = .dict es ep → H b = none := fun {b o es ep} e d => by
      cases q : H b with
      | none => rfl
      | some u =>
        obtain rfl := hisA q
        rw [ha] at e; cases e
        exact nomatch (show Data.seq vs.toArray _ = Data.dict es ep from d)
    have nsK : ∀ {b : Addr} {m : Str → Option Value}, s₁.heap.Ns b m → (hidT s₁.heap H).Ns b m := fun {b m} ⟨o, es, ep, e, d, r⟩ => ⟨o, es, ep, base_of e (noA e d), d, r⟩
    have hKb : K.In (hidT s₁.heap H) := fun b o e => base_of (KX b o e) (by
      cases q : H b with
      | none => rfl
      | some u =>
        obtain rfl := hisA q
        rw [hK (by rw [q]; simp)] at e; cases e)
    have hM : Mod K mg (hidT s₁.heap H) := ⟨hKb, nsK hns, ⟨mb, nsK hb, hbb⟩, let ⟨mc, h1, h2⟩ := hlim; ⟨mc, nsK h1, h2⟩⟩
    have e0 : Env0 P w K mg (hidT s₁.heap H) callerA [] s₁ H := ⟨rfl, hM, fun b o e => of_hidT e, Nat.le_of_eq (hidT_size _ _), trivial, fun b hb => absurd (show b ∈ ([] : List Addr) from hb) (by simp), hok, .of_eq hg⟩
    refine codeAny_mono ((F _ hKb (nsK hns)).run callerA [] s₁ H ⟨[.ref a], []⟩ [.ref a] [.ref a] _ _ hr e0 (hbind s₁ (.ref a)) (.cons rfl .nil) (hsp H hO hS)) fun r s' h => ?_
    match r, h with
    | .error e, h => exact (hCX H e s' h).elim
    | .ok .next, h => exact False.elim h
    | .ok .brk, h => exact False.elim h
    | .ok .cont, h => exact False.elim h
    | .ok (.ret u), h =>
      obtain ⟨v, H', os, bare, un, hok', r', q⟩ := h
      obtain rfl : v = .bl true := q
      obtain rfl : u = Value.bool true := r'
      refine ⟨rfl, OldK.of_keep fun b o e => ?_, os, bare⟩
      cases q : H b with
      | none => exact un.keep b o e q (by intro z; exact absurd (show b ∈ ([] : List Addr) from z) (by simp)) (by simp)
      | some u =>
        rcases hO b with z | ⟨ob, xs, z⟩
        · rw [q] at z; cases z
        · obtain ⟨e1, _⟩ := hok b _ z
          obtain ⟨e2, _⟩ := hok' b _ (un.frzs b ob _ z)
          rw [e] at e1; cases e1
          exact e2
  cases hk : K.lookup a with
  | some o =>
    have e := KX a o hk
    rw [ha] at e
    cases e
    exact core (fun _ => none) (fun _ => .inl rfl) (.inr ⟨_, vs.toArray, _, hk, rfl, rfl, rfl, by rw [List.size_toArray, lenV]; exact hl, by simpa using rv⟩) (fun b u z => by cases (show (none : Option HO) = some u from z)) (fun b z => absurd rfl z) fun z => absurd rfl z
  | none =>
    refine core (fun b => if b = a then some (.frz { cls := .type "list", data := .seq vs.toArray } (.lst (ns.map V.int))) else none) (fun b => ?_) (.inl (.inr ⟨{ cls := .type "list", data := .seq vs.toArray }, if_pos rfl⟩)) (fun b u z => ?_) (fun b z => ?_) fun _ => hk
    · by_cases hb : b = a
      · exact .inr ⟨_, _, if_pos hb⟩
      · exact .inl (if_neg hb)
    · by_cases hb : b = a
      · cases (if_pos hb).symm.trans z
        subst hb
        exact ⟨ha, by rw [List.length_map]; exact hl, vs, _, rv, ha⟩
      · cases (if_neg hb).symm.trans z
    · by_cases hb : b = a
      · exact hb
      · exact absurd (if_neg hb) z
theorem walk_ofG {l : PySem.W.OpenLaw} {n k : Nat} {q : Program} {loose : List Str} {XP : (Str → Option Value) → Heap → Prop} {YP : World → Heap → Prop} {d : DefRec} {K : Params → PySem.W.Frag} {CX : World → CXT} {sp : World → Sp} {x : Str}
    (hn : l.most = some n) (hn2 : n ≤ sizeLine) (hdf : d.params.defaults = []) (hr : RoomG k callerA)
    (hY : ∀ (w : World) (h : Heap), YP w h → (K w.params).In h)
    (F : ∀ (w : World) (mg : Str → Option Value) (fa : Addr) (h : Heap), (K w.params).In h → h.Ns mainGlobals mg → mg d.name = some (.ref fa) →
      ∃ fd : FuncData, (∀ (s : Shared) (u : Value), BindsTo s fd ⟨[u], []⟩ [(x, u)]) ∧
        ∀ base : Heap, (K w.params).In base → base.Ns mainGlobals mg → FnG l.prog w (K w.params) mg base (CX w) k fa fd [x] (sp w))
    (hsp : ∀ (w : World) (H : Hp) (a : Addr) (ns : List Int), ns.length ≤ n → (∀ z ∈ ns, Builtin.Int.intBits z ≤ 1048576) → Only H → SqL (K w.params) H a (ns.map V.int) → sp w [.ref a] H (fun v _ => v = .bl true) fun _ _ _ => False)
    (hCX : ∀ (w : World) (H : Hp) (s : Shared) (e : Value) (s' : Shared), CX w [] H s (fun _ _ _ => False) e s' → False) :
    PySem.W.WalkO q loose XP YP l.row.toRowW d [] (fun f vs => PySem.call f vs) := by
  refine Att.attach_callB hn hdf fun w s₀ s₁ mg mb fa o pm cd doc a vs ns G Y ho hd hcd hmg hobj hints hlen hbits hg => ?_
  have KX := hY w _ Y
  obtain ⟨fd, hb, hF⟩ := F w mg fa _ KX G.T.g hmg
  exact law_callG KX G.T.g G.T.b G.T.builtins G.T.nolimit hg hobj hints (Nat.le_trans hlen hn2) hr hF hb (fun H hO hS => hsp w H a ns hlen hbits hO hS) fun H e s' => hCX w H s₁ e s'
end L2
namespace Z
inductive D where
  | non | bl (b : Bool) | int (i : Int) | str (s : List Nat) | tup (xs : List D) | ref (n : Nat) | fl (xs : List D)
inductive MO where
  | lst (xs : List D) | dct (kvs : List (List D × D)) | st (kvs : List (List D × D)) | ins (c : String) (fs : List (String × D)) | exn (c : String) | dk (kvs : List (D × D)) | dkl (kvs : List (D × D)) | nk (kvs : List (D × D)) | nkl (kvs : List (D × D))
abbrev Store := List MO
inductive Res (α : Type) where
  | ok (a : α) (S : Store) | ex (c : String) (S : Store)
abbrev M (α : Type) := Option (Res α)
abbrev Env := List (Option D)
inductive Out where
  | nx (ρ : Env) (S : Store) | rt (d : D) (S : Store) | bk (ρ : Env) (S : Store) | ct (ρ : Env) (S : Store) | ex (c : String) (ρ : Env) (S : Store)
def k0 : D → Bool
  | .int _ => true
  | .str _ => true
  | _ => false
/-- the most that a list or a text holds -/
@[irreducible] def LINE : Nat := 16777216
theorem LINE_eq : LINE = 16777216 := by unfold LINE; rfl
def bd {α β : Type} : M α → (α → Store → M β) → M β
  | none, _ => none
  | some (.ok a S), f => f a S
  | some (.ex c S), _ => some (.ex c S)
@[simp] theorem bd_ok {α β : Type} (a : α) (S : Store) (f : α → Store → M β) : bd (some (.ok a S)) f = f a S := rfl
@[simp] theorem bd_no {α β : Type} (f : α → Store → M β) : bd none f = none := rfl
@[simp] theorem bd_ex {α β : Type} (c : String) (S : Store) (f : α → Store → M β) : bd (some (.ex c S)) f = some (.ex c S) := rfl
/-- what raises is not told -/
def bq {α β : Type} : M α → (α → Store → M β) → M β
  | some (.ok a S), f => f a S
  | _, _ => none
@[simp] theorem bq_ok {α β : Type} (a : α) (S : Store) (f : α → Store → M β) : bq (some (.ok a S)) f = f a S := rfl
@[simp] theorem bq_no {α β : Type} (f : α → Store → M β) : bq none f = none := rfl
@[simp] theorem bq_ex {α β : Type} (c : String) (S : Store) (f : α → Store → M β) : bq (some (.ex c S)) f = none := rfl
def bo {α : Type} : M α → Env → (α → Store → Option Out) → Option Out
  | none, _, _ => none
  | some (.ok a S), _, f => f a S
  | some (.ex c S), ρ, _ => some (.ex c ρ S)
@[simp] theorem bo_ok {α : Type} (a : α) (S : Store) (ρ : Env) (f : α → Store → Option Out) : bo (some (.ok a S)) ρ f = f a S := rfl
@[simp] theorem bo_no {α : Type} (ρ : Env) (f : α → Store → Option Out) : bo none ρ f = none := rfl
@[simp] theorem bo_ex {α : Type} (c : String) (S : Store) (ρ : Env) (f : α → Store → Option Out) : bo (some (.ex c S)) ρ f = some (.ex c ρ S) := rfl
abbrev SE := Env → Store → M D
abbrev ST := Env → Store → M Bool
abbrev SS := Env → Store → Option Out
abbrev Fn := List D → Store → M D
def new1 (o : MO) (S : Store) : M D := some (.ok (.ref S.length) (S ++ [o]))
def eVar (i : Nat) : SE := fun ρ S => match ρ[i]? with | some (some d) => some (.ok d S) | _ => none
def eC (d : D) : SE := fun _ S => some (.ok d S)
def e1 (f : D → Store → M D) (a : SE) : SE := fun ρ S => bd (a ρ S) f
def e2 (f : D → D → Store → M D) (a b : SE) : SE := fun ρ S => bd (a ρ S) fun x S1 => bd (b ρ S1) fun y S2 => f x y S2
def evL : List SE → Env → Store → M (List D)
  | [], _, S => some (.ok [] S)
  | a :: r, ρ, S => bd (a ρ S) fun x S1 => bd (evL r ρ S1) fun xs S2 => some (.ok (x :: xs) S2)
def eTup (es : List SE) : SE := fun ρ S => bd (evL es ρ S) fun xs S1 => some (.ok (.tup xs) S1)
def eLst (es : List SE) : SE := fun ρ S => bd (evL es ρ S) fun xs S1 => new1 (.lst xs) S1
def eCall (F : Fn) (es : List SE) : SE := fun ρ S => bd (evL es ρ S) F
def eAnd (a b : SE) : SE := fun ρ S => bd (a ρ S) fun x S1 => match x with | .bl true => b ρ S1 | .bl false => some (.ok (.bl false) S1) | _ => none
def eOr (a b : SE) : SE := fun ρ S => bd (a ρ S) fun x S1 => match x with | .bl false => b ρ S1 | .bl true => some (.ok (.bl true) S1) | _ => none
def eNot (a : SE) : SE := fun ρ S => bd (a ρ S) fun x S1 => match x with | .bl b => some (.ok (.bl !b) S1) | _ => none
/-- a op b op' c -/
def eCh (f g : D → D → Store → M D) (a b c : SE) : SE := fun ρ S => bd (a ρ S) fun x S1 => bd (b ρ S1) fun y S2 => bd (f x y S2) fun z S3 =>
  match z with | .bl true => bd (c ρ S3) fun w S4 => g y w S4 | .bl false => some (.ok (.bl false) S3) | _ => none
def tVal (e : SE) : ST := fun ρ S => bd (e ρ S) fun x S1 => match x with | .bl b => some (.ok b S1) | _ => none
def tAnd (a b : ST) : ST := fun ρ S => bd (a ρ S) fun x S1 => if x = true then b ρ S1 else some (.ok false S1)
def tOr (a b : ST) : ST := fun ρ S => bd (a ρ S) fun x S1 => if x = true then some (.ok true S1) else b ρ S1
def tNot (a : ST) : ST := fun ρ S => bd (a ρ S) fun x S1 => some (.ok (!x) S1)
def eIf (t : ST) (a b : SE) : SE := fun ρ S => bd (t ρ S) fun x S1 => if x = true then a ρ S1 else b ρ S1
structure Itm where
  xs : List D
  chk : Store → Prop
abbrev SI := Env → Store → M Itm
abbrev SG := D → Env → Store → Option (Env × Store)
def gName (i : Nat) : SG := fun d ρ S => some (ρ.set i (some d), S)
def gAll : List SG → List D → Env → Store → Option (Env × Store)
  | [], [], ρ, S => some (ρ, S)
  | g :: gs, d :: ds, ρ, S => match g d ρ S with | some (ρ1, S1) => gAll gs ds ρ1 S1 | none => none
  | _, _, _, _ => none
def gTup (gs : List SG) : SG := fun d ρ S => match d with | .tup ds => gAll gs ds ρ S | _ => none
open Classical in
/-- a comprehension: the items made so far stand in the new list at l -/
noncomputable def lcL (chk : Store → Prop) (g : SG) (t : ST) (e : SE) (l : Nat) : List D → Env → Store → M D
  | [], _, S => if chk S then some (.ok (.ref l) S) else none
  | x :: r, ρ, S => if chk S then (match g x ρ S with
      | none => none
      | some (ρ1, S1) => bq (t ρ1 S1) fun b S2 => if b = true then bq (e ρ1 S2) fun y S3 => (match S3[l]? with
            | some (.lst acc) => if acc.length < LINE then lcL chk g t e l r ρ (S3.set l (.lst (acc ++ [y]))) else none
            | _ => none)
          else lcL chk g t e l r ρ S2)
    else none
def wipe (ρ : Env) : List Nat → Env
  | [] => ρ
  | v :: vs => (wipe ρ vs).set v none
noncomputable def eLc (it : SI) (g : SG) (t : ST) (e : SE) (own : List Nat) : SE := fun ρ S => bd (it ρ S) fun J S1 => lcL J.chk g t e S1.length J.xs (wipe ρ own) (S1 ++ [.lst []])
def tYes : ST := fun _ S => some (.ok true S)
def sq (a b : SS) : SS := fun ρ S => match a ρ S with | some (.nx ρ1 S1) => b ρ1 S1 | o => o
def sNx : SS := fun ρ S => some (.nx ρ S)
def sCt : SS := fun ρ S => some (.ct ρ S)
def sExp (e : SE) : SS := fun ρ S => bo (e ρ S) ρ fun _ S1 => some (.nx ρ S1)
def sRet (e : SE) : SS := fun ρ S => bo (e ρ S) ρ fun d S1 => some (.rt d S1)
def sIf (t : ST) (a b : SS) : SS := fun ρ S => bo (t ρ S) ρ fun x S1 => if x = true then a ρ S1 else b ρ S1
def sAsg (e : SE) (g : SG) : SS := fun ρ S => bo (e ρ S) ρ fun d S1 => match g d ρ S1 with | some (ρ2, S2) => some (.nx ρ2 S2) | none => none
def sAug (i : Nat) (f : D → D → Store → M D) (e : SE) : SS := fun ρ S => bo (e2 f (eVar i) e ρ S) ρ fun d S1 => some (.nx (ρ.set i (some d)) S1)
open Classical in
noncomputable def forL (chk : Store → Prop) (g : SG) (b : SS) : List D → SS
  | [], ρ, S => if chk S then some (.nx ρ S) else none
  | x :: r, ρ, S => if chk S then (match g x ρ S with
      | none => none
      | some (ρ1, S1) => match b ρ1 S1 with
        | some (.nx ρ2 S2) => forL chk g b r ρ2 S2
        | some (.ct ρ2 S2) => forL chk g b r ρ2 S2
        | some (.bk ρ2 S2) => some (.nx ρ2 S2)
        | o => o)
    else none
noncomputable def sFor (it : SI) (g : SG) (b : SS) : SS := fun ρ S => bo (it ρ S) ρ fun J S1 => forL J.chk g b J.xs ρ S1
def sWh (t : ST) (b : SS) (ρ : Env) (S : Store) : Option Out :=
  match t ρ S with
  | none => none
  | some (.ex c S1) => some (.ex c ρ S1)
  | some (.ok false S1) => some (.nx ρ S1)
  | some (.ok true S1) => match b ρ S1 with
    | some (.nx ρ2 S2) => sWh t b ρ2 S2
    | some (.ct ρ2 S2) => sWh t b ρ2 S2
    | some (.bk ρ2 S2) => some (.nx ρ2 S2)
    | some (.rt d S2) => some (.rt d S2)
    | some (.ex c ρ2 S2) => some (.ex c ρ2 S2)
    | none => none
partial_fixpoint
def sRaise (c : String) : SS := fun ρ S => some (.ex c ρ S)
/-- the parameters' values, then the other names -/
def env0 (n : Nat) (ds : List D) : Env := ds.map some ++ List.replicate (n - ds.length) none
end Z
namespace Z
inductive PD where
  | non | bl (b : Bool) | int (i : Int) | str (s : List Nat) | lst (xs : List PD) | tup (xs : List PD)
def b2i (b : Bool) : Int := if b then 1 else 0
mutual
def PD.eqv : PD → PD → Bool
  | .non, .non => true
  | .bl a, .bl b => a == b
  | .bl a, .int j => b2i a == j
  | .int i, .bl b => i == b2i b
  | .int i, .int j => i == j
  | .str x, .str y => x == y
  | .lst xs, .lst ys => eqvL xs ys
  | .tup xs, .tup ys => eqvL xs ys
  | .non, .bl _ | .non, .int _ | .non, .str _ | .non, .lst _ | .non, .tup _ => false
  | .bl _, .non | .bl _, .str _ | .bl _, .lst _ | .bl _, .tup _ => false
  | .int _, .non | .int _, .str _ | .int _, .lst _ | .int _, .tup _ => false
  | .str _, .non | .str _, .bl _ | .str _, .int _ | .str _, .lst _ | .str _, .tup _ => false
  | .lst _, .non | .lst _, .bl _ | .lst _, .int _ | .lst _, .str _ | .lst _, .tup _ => false
  | .tup _, .non | .tup _, .bl _ | .tup _, .int _ | .tup _, .str _ | .tup _, .lst _ => false
def eqvL : List PD → List PD → Bool
  | [], [] => true
  | x :: xs, y :: ys => PD.eqv x y && eqvL xs ys
  | [], _ :: _ => false
  | _ :: _, [] => false
end
mutual
def PD.dep : PD → Nat
  | .lst xs => depL xs + 1
  | .tup xs => depL xs + 1
  | _ => 0
def depL : List PD → Nat
  | [] => 0
  | x :: xs => max (PD.dep x) (depL xs)
end
mutual
/-- the data of a value; g: of what stands at a number -/
def D.pd (g : Nat → Option PD) : D → Option PD
  | .non => some .non
  | .bl b => some (.bl b)
  | .int i => some (.int i)
  | .str s => some (.str s)
  | .tup xs => (pdL g xs).map .tup
  | .fl xs => (pdL g xs).map .lst
  | .ref n => g n
def pdL (g : Nat → Option PD) : List D → Option (List PD)
  | [] => some []
  | x :: xs => match D.pd g x, pdL g xs with
    | some y, some ys => some (y :: ys)
    | _, _ => none
end
def rdR : Nat → Store → Nat → Option PD
  | 0, _, _ => none
  | n + 1, S, r => match S[r]? with
    | some (.lst xs) => (pdL (rdR n S) xs).map .lst
    | _ => none
def dat (S : Store) (d : D) : Option PD := d.pd (rdR 70 S)
def eqD (d e : D) (S : Store) : M D := match dat S d, dat S e with
  | some x, some y => if x.dep ≤ 64 ∧ y.dep ≤ 64 then some (.ok (.bl (x.eqv y)) S) else none
  | _, _ => none
/-- two lists of unlike lengths -/
def neL (d e : D) (S : Store) : M D := match d, e with
  | .ref n, .ref m => (match S[n]?, S[m]? with
    | some (.lst xs), some (.lst ys) => if xs.length = ys.length then none else some (.ok (.bl true) S)
    | _, _ => none)
  | _, _ => none
def neD (d e : D) (S : Store) : M D := match dat S d, dat S e with
  | some x, some y => if x.dep ≤ 64 ∧ y.dep ≤ 64 then some (.ok (.bl (!x.eqv y)) S) else neL d e S
  | _, _ => none
def addD : D → D → Store → M D
  | .int i, .int j, S => some (.ok (.int (i + j)) S)
  | .str a, .str b, S => if a.length + b.length ≤ LINE then some (.ok (.str (a ++ b)) S) else none
  | .tup a, .tup b, S => if a.length + b.length ≤ LINE then some (.ok (.tup (a ++ b)) S) else none
  | .ref m, .ref n, S => match S[m]?, S[n]? with
    | some (.lst a), some (.lst b) => if a.length + b.length ≤ LINE then new1 (.lst (a ++ b)) S else none
    | _, _ => none
  | _, _, _ => none
/-- += -/
def iaddD : D → D → Store → M D
  | .int i, .int j, S => some (.ok (.int (i + j)) S)
  | _, _, _ => none
def subD : D → D → Store → M D
  | .int i, .int j, S => some (.ok (.int (i - j)) S)
  | _, _, _ => none
@[irreducible] def small (i : Int) : Prop := -18446744073709551616 < i ∧ i < 18446744073709551616
theorem small_iff (i : Int) : small i ↔ -18446744073709551616 < i ∧ i < 18446744073709551616 := by unfold small; exact Iff.rfl
noncomputable instance (i : Int) : Decidable (small i) := Classical.propDecidable _
noncomputable def mulD : D → D → Store → M D
  | .int i, .int j, S => if (small i ∨ small j) ∨ i.natAbs.log2 + j.natAbs.log2 < 1000000 then some (.ok (.int (i * j)) S) else none
  | .ref m, .int k, S => match S[m]? with
    | some (.lst a) => if -9223372036854775808 ≤ k ∧ k < 9223372036854775808 ∧ a.length * k.toNat ≤ LINE then new1 (.lst (List.replicate k.toNat a).flatten) S else none
    | _ => none
  | .tup a, .int k, S => if 0 < a.length ∧ a.length ≤ 1000 ∧ 2 ≤ k ∧ k ≤ 1000 then some (.ok (.tup (List.replicate k.toNat a).flatten) S) else none
  | _, _, _ => none
def fdivD : D → D → Store → M D
  | .int i, .int j, S => if 0 < j ∧ j.natAbs.log2 < 9000 then some (.ok (.int (i / j)) S) else none
  | _, _, _ => none
def modD : D → D → Store → M D
  | .int i, .int j, S => if 0 < j then some (.ok (.int (i % j)) S) else none
  | _, _, _ => none
noncomputable def powD : D → D → Store → M D
  | .int i, .int j, S => if 0 ≤ j ∧ j ≤ 1000000 ∧ small i then some (.ok (.int (i ^ j.toNat)) S) else none
  | _, _, _ => none
def negD : D → Store → M D
  | .int i, S => some (.ok (.int (-i)) S)
  | _, _ => none
def ltD : D → D → Store → M D
  | .int i, .int j, S => some (.ok (.bl (decide (i < j))) S)
  | _, _, _ => none
def leD : D → D → Store → M D
  | .int i, .int j, S => some (.ok (.bl (decide (i ≤ j))) S)
  | _, _, _ => none
def gtD : D → D → Store → M D
  | .int i, .int j, S => some (.ok (.bl (decide (j < i))) S)
  | _, _, _ => none
def geD : D → D → Store → M D
  | .int i, .int j, S => some (.ok (.bl (decide (j ≤ i))) S)
  | _, _, _ => none
def isNonB : D → Bool
  | .non => true
  | _ => false
/-- is None, is True -/
def isD : D → D → Store → M D
  | x, .non, S => some (.ok (.bl (isNonB x)) S)
  | .bl a, .bl b, S => some (.ok (.bl (a == b)) S)
  | _, _, _ => none
def isntD : D → D → Store → M D
  | x, .non, S => some (.ok (.bl (!isNonB x)) S)
  | .bl a, .bl b, S => some (.ok (.bl (!(a == b))) S)
  | _, _, _ => none
def ixN (n : Nat) (i : Int) : Option Nat := if 0 ≤ i then (if i < n then some i.toNat else none) else if -(n : Int) ≤ i then some (i + n).toNat else none
def atI {α : Type} (xs : List α) (i : Int) : Option α := (ixN xs.length i).bind fun j => xs[j]?
/-- the items of a sequence -/
def seqOf (S : Store) : D → Option (List D)
  | .tup xs => some xs
  | .fl xs => some xs
  | .ref n => match S[n]? with
    | some (.lst xs) => some xs
    | _ => none
  | _ => none
def ixD (d e : D) (S : Store) : M D := match e with
  | .int i => (match d with
    | .str s => if s.length ≤ LINE then (match atI s i with | some c => some (.ok (.str [c]) S) | none => none) else none
    | d => match seqOf S d with
      | some xs => (match atI xs i with | some x => some (.ok x S) | none => none)
      | none => none)
  | _ => none
def sIx (n d : Nat) : Option Int → Nat
  | none => d
  | some v => if v < 0 then (v + (n : Int)).toNat else min v.toNat n
def cut {α : Type} (xs : List α) (lo hi : Option Int) : List α := (xs.drop (sIx xs.length 0 lo)).take (sIx xs.length xs.length hi - sIx xs.length 0 lo)
def slD (lo hi : Option Int) (d : D) (S : Store) : M D := match d with
  | .str s => if s.length ≤ LINE then some (.ok (.str (cut s lo hi)) S) else none
  | .tup xs => some (.ok (.tup (cut xs lo hi)) S)
  | .ref n => (match S[n]? with
    | some (.lst xs) => new1 (.lst (cut xs lo hi)) S
    | _ => none)
  | _ => none
/-- d[lo:hi] -/
def eSl (a : SE) (lo hi : Option SE) : SE := fun ρ S => bd (a ρ S) fun d S1 =>
  bd (match lo with | none => some (.ok none S1) | some m => bd (m ρ S1) fun x S2 => match x with | .int i => some (.ok (some i) S2) | _ => none) fun l S3 =>
  bd (match hi with | none => some (.ok none S3) | some m => bd (m ρ S3) fun x S4 => match x with | .int i => some (.ok (some i) S4) | _ => none) fun h S5 => slD l h d S5
/-- x in c -/
def inB (x c : D) (S : Store) : Option Bool := match c with
  | .str z => (match x with | .str [k] => some (decide (k ∈ z)) | _ => none)
  | .ref n => (match dat S x, dat S (.ref n) with
    | some y, some (.lst ys) => if y.dep ≤ 64 ∧ (PD.lst ys).dep ≤ 64 then some (ys.any fun z => z.eqv y) else none
    | _, _ => none)
  | _ => none
def inD (x c : D) (S : Store) : M D := match inB x c S with | some b => some (.ok (.bl b) S) | none => none
def ninD (x c : D) (S : Store) : M D := match inB x c S with | some b => some (.ok (.bl (!b)) S) | none => none
def lenF : Fn := fun ds S => match ds with
  | [.str s] => if s.length ≤ LINE then some (.ok (.int s.length) S) else none
  | [d] => (match seqOf S d with | some xs => some (.ok (.int xs.length) S) | none => none)
  | _ => none
def absF : Fn := fun ds S => match ds with
  | [.int i] => some (.ok (.int (if i < 0 then -i else i)) S)
  | _ => none
def maxF : Fn := fun ds S => match ds with
  | [.int i, .int j] => some (.ok (.int (if j > i then j else i)) S)
  | _ => none
def minF : Fn := fun ds S => match ds with
  | [.int i, .int j] => some (.ok (.int (if j < i then j else i)) S)
  | _ => none
def listF : Fn := fun ds S => match ds with
  | [d] => (match seqOf S d with | some xs => new1 (.lst xs) S | none => none)
  | _ => none
def tupleF : Fn := fun ds S => match ds with
  | [d] => (match seqOf S d with | some xs => some (.ok (.tup xs) S) | none => none)
  | _ => none
inductive Ty where | str | int | bool | tuple | list
def isiB (S : Store) (t : Ty) : D → Option Bool
  | .non => some false
  | .bl _ => some (match t with | .int => true | .bool => true | _ => false)
  | .int _ => some (match t with | .int => true | _ => false)
  | .str _ => some (match t with | .str => true | _ => false)
  | .tup _ => some (match t with | .tuple => true | _ => false)
  | .fl _ => some (match t with | .list => true | _ => false)
  | .ref n => match S[n]? with
    | some (.lst _) => some (match t with | .list => true | _ => false)
    | _ => none
/-- isinstance(x, T) -/
def isiD (t : Ty) (d : D) (S : Store) : M D := match isiB S t d with | some b => some (.ok (.bl b) S) | none => none
def appendF : Fn := fun ds S => match ds with
  | [.ref n, x] => (match S[n]? with
    | some (.lst xs) => if xs.length < LINE then some (.ok .non (S.set n (.lst (xs ++ [x])))) else none
    | _ => none)
  | _ => none
def popF : Fn := fun ds S => match ds with
  | [.ref n] => (match S[n]? with
    | some (.lst xs) => (match xs[xs.length - 1]? with | some x => some (.ok x (S.set n (.lst xs.dropLast))) | none => none)
    | _ => none)
  | [.ref n, .int i] => (match S[n]? with
    | some (.lst xs) => (match ixN xs.length i with
      | some k => (match xs[k]? with | some x => some (.ok x (S.set n (.lst (xs.eraseIdx k)))) | none => none)
      | none => none)
    | _ => none)
  | _ => none
/-- o[i] = v -/
def setF (o i : SE) : SG := fun d ρ S => match bq (o ρ S) fun x S1 => bq (i ρ S1) fun y S2 => (match x, y with
    | .ref n, .int k => (match S2[n]? with
      | some (.lst xs) => (match ixN xs.length k with
        | some j => some (.ok () (S2.set n (.lst (xs.set j d))))
        | none => none)
      | _ => none)
    | _, _ => none) with
  | some (.ok _ S3) => some (ρ, S3)
  | _ => none
/-- a list, a tuple, a text -/
def itmOf (d : D) (S : Store) : M Itm := match d with
  | .ref n => (match S[n]? with
    | some (.lst xs) => some (.ok ⟨xs, fun S => S[n]? = some (.lst xs)⟩ S)
    | _ => none)
  | .tup xs => some (.ok ⟨xs, fun _ => True⟩ S)
  | .fl xs => some (.ok ⟨xs, fun _ => True⟩ S)
  | .str s => some (.ok ⟨s.map fun c => .str [c], fun _ => True⟩ S)
  | _ => none
def iAny (a : SE) : SI := fun ρ S => bd (a ρ S) itmOf
@[irreducible] def r62 (i : Int) : Prop := -4611686018427387904 ≤ i ∧ i < 4611686018427387904
theorem r62_iff (i : Int) : r62 i ↔ -4611686018427387904 ≤ i ∧ i < 4611686018427387904 := by unfold r62; exact Iff.rfl
noncomputable instance (i : Int) : Decidable (r62 i) := Classical.propDecidable _
/-- range(n) -/
noncomputable def iR1 (a : SE) : SI := fun ρ S => bd (a ρ S) fun d S1 => match d with
  | .int n => if r62 n then some (.ok ⟨(List.range n.toNat).map fun (k : Nat) => .int k, fun _ => True⟩ S1) else none
  | _ => none
end Z
namespace Z
inductive Rc where | list | str | dict
/-- the receiver of a method -/
def rcB (S : Store) (t : Rc) : D → Bool
  | .str _ => (match t with | .str => true | _ => false)
  | .ref n => (match S[n]?, t with | some (.lst _), .list => true | some (.st _), .dict => true | _, _ => false)
  | _ => false
/-- o.m(..), m a built-in type's -/
def eMt (t : Rc) (F : Fn) (o : SE) (es : List SE) : SE := fun ρ S => bd (o ρ S) fun d S1 => if rcB S1 t d = true then bd (evL es ρ S1) fun ds S2 => F (d :: ds) S2 else none
end Z
namespace L2
open PySem PySem.Spec PyProof.Rows
abbrev NEnt := NestedKey × Addr × Value
def NkO (P : Program) (w : World) (a : Addr) (xs : List NEnt) : Heap → Prop := fun h => (xs.length ≤ sizeLine ∧ (a == sysModules) = false) ∧ ∃ o es ep, h.get? a = some o ∧ o.ExactDict ∧ o.data = .dict es ep ∧ es.toList = xs.map (entryOfKey (nestedKind P w)) ∧ (xs.map (·.1)).Nodup
theorem nk_ok {P : Program} {w : World} {H : Hp} {h : Heap} {a : Addr} {xs : List NEnt} (x : NkO P w a xs h) : ObjOk P w H h a (.ext (NkO P w a xs)) :=
  ⟨x, let ⟨_, o, _, _, e, _⟩ := x; ⟨o, e⟩, fun h1 h2 ⟨z, o, es, ep, e, r⟩ k => ⟨z, o, es, ep, k _ e, r⟩⟩
theorem nk_rd {P : Program} {w : World} {H : Hp} {h : Heap} {a : Addr} {xs : List NEnt} (ok : HOk P w H h) (e : Rd H a (.ext (NkO P w a xs))) : NkO P w a xs h := by
  obtain ⟨x, _⟩ := e.ok ok
  exact x
mutual
/-- the value is this key, by what is known -/
def NK (H : Hp) : NestedKey → V → Prop
  | .none, v => v = .non
  | .num i, v => v = .int i
  | .text x, v => v = .str x
  | .tup ks, v => ∃ a vs, v = .ref a ∧ Rd H a (.tup vs) ∧ NKL H ks vs
def NKL (H : Hp) : List NestedKey → List V → Prop
  | [], vs => vs = []
  | k :: ks, vs => ∃ v r, vs = v :: r ∧ NK H k v ∧ NKL H ks r
end
mutual
theorem NK.is {P : Program} {w : World} {H : Hp} {h : Heap} (ok : HOk P w H h) : ∀ (k : NestedKey) (v : V) (u : Value), NK H k v → RelV v u → NestedIs h k u
  | .none, v, u, e, r => by
    rw [NK] at e
    subst e
    obtain rfl : u = Value.none := r
    exact .none
  | .num i, v, u, e, r => by
    rw [NK] at e
    subst e
    obtain ⟨t, rfl⟩ := r
    exact .int i t
  | .text x, v, u, e, r => by
    rw [NK] at e
    subst e
    obtain ⟨t, rfl⟩ := r
    exact .text x t
  | .tup ks, v, u, e, r => by
    rw [NK] at e
    obtain ⟨a, vs, rfl, hr, hk⟩ := e
    obtain rfl : u = Value.ref a := r
    obtain ⟨_, its, rv, o, e1, e2, n, e3⟩ := hr.ok ok
    exact .tup e1 e2 e3 (by simpa using NKL.is ok ks vs its hk rv)
theorem NKL.is {P : Program} {w : World} {H : Hp} {h : Heap} (ok : HOk P w H h) : ∀ (ks : List NestedKey) (vs : List V) (us : List Value), NKL H ks vs → Vals vs us → NestedAll h ks us
  | [], vs, us, e, r => by
    rw [NKL] at e
    subst e
    cases r
    exact .nil
  | k :: ks, vs, us, e, r => by
    rw [NKL] at e
    obtain ⟨v, t, rfl, h1, h2⟩ := e
    cases r with
    | cons r1 r2 => exact .cons (NK.is ok k v _ h1 r1) (NKL.is ok ks t _ h2 r2)
end
/-- the keys of these entries are known -/
def NKs (H : Hp) (xs : List NEnt) : Prop := ∀ x ∈ xs, NK H x.1 (.ref x.2.1) ∧ x.1.depth ≤ 8
theorem nk_dict {P : Program} {w : World} {H : Hp} {h : Heap} {a : Addr} {xs : List NEnt} (ok : HOk P w H h) (x : NkO P w a xs h) (hk : NKs H xs) : h.DictOfH (nestedKind P w) a xs := by
  obtain ⟨_, o, es, ep, e1, e2, e3, e4, e5⟩ := x
  exact ⟨o, es, ep, e1, e2, e3, e4, fun y hy => ⟨NK.is ok _ _ _ (hk y hy).1 rfl, (hk y hy).2⟩, e5⟩
theorem nk_of {P : Program} {w : World} {h : Heap} {a : Addr} {xs : List NEnt} (z : xs.length ≤ sizeLine) (hd : (a == sysModules) = false) (x : h.DictOfH (nestedKind P w) a xs) : NkO P w a xs h := by
  obtain ⟨o, es, ep, e1, e2, e3, e4, _, e5⟩ := x
  exact ⟨⟨z, hd⟩, o, es, ep, e1, e2, e3, e4, e5⟩
section
variable {X : Cx} {pins : List (Addr × Obj)} {σ : St} {H : Hp} {s : Shared} {a b : Addr} {y v : V} {u r : Value} {A : Around} {E : Value → Shared → Prop} {xs : List NEnt} {k : NestedKey}
theorem nroom (hu : A.units + 9 < cLine) : (nestedKind X.prog X.w).room A.in1 := by
  show A.in1.units + 8 < cLine
  rw [Around.in1_units]
  omega
/-- a dict of nested keys, and a key -/
structure NRef (X : Cx) (H : Hp) (a : Addr) (xs : List NEnt) (b : Addr) (k : NestedKey) : Prop where
  at' : Rd H a (.ext (NkO X.prog X.w a xs))
  ks : NKs H xs
  key : NK H k (.ref b)
  dep : k.depth ≤ 8
theorem NRef.at_ (g : NRef X H a xs b k) (I : Inv X pins σ H s) : (xs.length ≤ sizeLine ∧ (a == sysModules) = false) ∧ s.heap.DictOfH (nestedKind X.prog X.w) a xs ∧ (nestedKind X.prog X.w).is s.heap k b := by
  have x := nk_rd I.hok g.at'
  exact ⟨x.1, nk_dict I.hok x g.ks, NK.is I.hok k _ _ g.key rfl, g.dep⟩
theorem n_getItem {p : Addr × Value} {Q : Value → Shared → Prop} (hu : A.units + 9 < cLine) (I : Inv X pins σ H s) (g : NRef X H a xs b k) (hp : atKey xs k = some p) (h : ∀ s', Inv X pins σ H s' → Q p.2 s') :
    wpAny (model X.prog X.w) A (getItem (.ref a) (.ref b)) Q E s := by
  obtain ⟨⟨z, hd⟩, dd, hk⟩ := g.at_ I
  exact wpAny_getItem_heap (nroom hu) hk dd hp (h _ (I.tok _))
theorem n_in {Q : Value → Shared → Prop} (hu : A.units + 9 < cLine) (I : Inv X pins σ H s) (g : NRef X H a xs b k) (h : ∀ s', Inv X pins σ H s' → Q (.bool (atKey xs k).isSome) s') :
    wpAny (model X.prog X.w) A (compareOp .In (.ref b) (.ref a)) Q E s := by
  obtain ⟨⟨z, hd⟩, dd, hk⟩ := g.at_ I
  exact wpAny_in_heap (nroom hu) hk hd dd (h _ (I.tok _))
theorem n_notIn {Q : Value → Shared → Prop} (hu : A.units + 9 < cLine) (I : Inv X pins σ H s) (g : NRef X H a xs b k) (h : ∀ s', Inv X pins σ H s' → Q (.bool (!(atKey xs k).isSome)) s') :
    wpAny (model X.prog X.w) A (compareOp .NotIn (.ref b) (.ref a)) Q E s := by
  obtain ⟨⟨z, hd⟩, dd, hk⟩ := g.at_ I
  refine notIn_keyed (nroom hu) hk hd ⟨xs, dd, rfl⟩ ?_
  rw [valueAt_pairsH, Option.isSome_map]
  exact h _ (I.tok _)
theorem n_get1 {Q : Value → Shared → Prop} (hu : A.units + 9 < cLine) (I : Inv X pins σ H s) (g : NRef X H a xs b k) (h : ∀ s', Inv X pins σ H s' → Q (((atKey xs k).map (·.2)).getD .none) s') :
    wpAny (model X.prog X.w) A (call (.builtin "dict.get") [.ref a, .ref b]) Q E s := by
  obtain ⟨⟨z, hd⟩, dd, hk⟩ := g.at_ I
  refine get_keyed (nroom hu) hk hd ⟨xs, dd, rfl⟩ ?_
  rw [valueAt_pairsH]
  exact h _ (I.tok _)
theorem n_get2 {Q : Value → Shared → Prop} (hu : A.units + 9 < cLine) (I : Inv X pins σ H s) (g : NRef X H a xs b k) (h : ∀ s', Inv X pins σ H s' → Q (((atKey xs k).map (·.2)).getD r) s') :
    wpAny (model X.prog X.w) A (call (.builtin "dict.get") [.ref a, .ref b, r]) Q E s := by
  obtain ⟨⟨z, hd⟩, dd, hk⟩ := g.at_ I
  refine getOr_keyed (nroom hu) hk hd ⟨xs, dd, rfl⟩ ?_
  rw [valueAt_pairsH]
  exact h _ (I.tok _)
/-- stored: the heap's dict is new -/
theorem n_put {h' : Heap} {t' : Nat} {ys : List NEnt} (I : Inv X pins σ H s) (e : H a = some (.ext (NkO X.prog X.w a xs))) (hd : (a == sysModules) = false) (dd : h'.DictOfH (nestedKind X.prog X.w) a ys) (hs : Heap.SameBut a s.heap h') (hl : ys.length ≤ sizeLine) :
    Inv X pins σ (upd H a (.ext (NkO X.prog X.w a ys))) { s with heap := h', toks := t' } :=
  d_write I (by rw [e]; exact True.intro) hs (let ⟨o, _, _, h, _⟩ := dd; ⟨o, h⟩) (nk_ok (nk_of hl hd dd))
theorem storedH_len (xs : List NEnt) (k : NestedKey) (b : Addr) (r : Value) : (storedH xs k b r).length ≤ xs.length + 1 := by
  unfold storedH
  split <;> simp
theorem n_setItem {Q : Unit → Shared → Prop} (hu : A.units + 9 < cLine) (I : Inv X pins σ H s) (g : NRef X H a xs b k) (e : H a = some (.ext (NkO X.prog X.w a xs))) (hl : xs.length < sizeLine)
    (h : ∀ s', Inv X pins σ (upd H a (.ext (NkO X.prog X.w a (storedH xs k b r)))) s' → Q () s') : wpAny (model X.prog X.w) A (setItem (.ref a) (.ref b) r) Q E s := by
  obtain ⟨⟨z, hd⟩, dd, hk⟩ := g.at_ I
  refine wpAny_setItem_heap (hsz := z) (nroom hu) hk dd fun h' dd' hs => ?_
  have := storedH_len xs k b r
  exact h _ (n_put I e hd dd' hs (by omega))
theorem nk_type (I : Inv X pins σ H s) (g : Rd H a (.ext (NkO X.prog X.w a xs))) : s.TypeIs (.ref a) "dict" ∧ (∀ b, Value.ref a = .ref b → ∃ ob, s.heap.get? b = some ob ∧ ob.dict = none) ∧ (a == sysModules) = false := by
  obtain ⟨⟨_, hd⟩, o, es, ep, e1, e2, _⟩ := nk_rd I.hok g
  exact ⟨⟨o, e1, e2.1⟩, fun b q => by cases q; exact ⟨o, e1, e2.2.1⟩, hd⟩
end
def tNGet (X : Cx) (td ty : TE) : TE := fun σ H Q => td σ H fun x H1 => ty σ H1 fun y H2 => ∃ a b xs k p v, x = .ref a ∧ y = .ref b ∧ NRef X H2 a xs b k ∧ atKey xs k = some p ∧ RelV v p.2 ∧ Q v H2
def tNIn (X : Cx) (n : Bool → Bool) (ty td : TE) : TE := fun σ H Q => ty σ H fun y H1 => td σ H1 fun x H2 => ∃ a b xs k, x = .ref a ∧ y = .ref b ∧ NRef X H2 a xs b k ∧ Q (.bl (n (atKey xs k).isSome)) H2
def tNGet1 (X : Cx) (td ty : TE) : TE := fun σ H Q => td σ H fun x H1 => ∃ a xs0, x = .ref a ∧ Rd H1 a (.ext (NkO X.prog X.w a xs0)) ∧ ty σ H1 fun y H2 => ∃ b xs k v, y = .ref b ∧ NRef X H2 a xs b k ∧ RelV v (((atKey xs k).map (·.2)).getD .none) ∧ Q v H2
def tNGet2 (X : Cx) (td ty tx : TE) : TE := fun σ H Q => td σ H fun x H1 => ∃ a xs0, x = .ref a ∧ Rd H1 a (.ext (NkO X.prog X.w a xs0)) ∧ ty σ H1 fun y H2 => tx σ H2 fun z H3 => ∃ b xs k, y = .ref b ∧ NRef X H3 a xs b k ∧ ∀ r, RelV z r → ∃ v, RelV v (((atKey xs k).map (·.2)).getD r) ∧ Q v H3
def sNPutL (X : Cx) (td ty tv : TE) : TS := fun D σ H => tv σ H fun v H1 => td σ H1 fun x H2 => ty σ H2 fun y H3 => ∃ a b xs k, x = .ref a ∧ y = .ref b ∧ NRef X H3 a xs b k ∧ H3 a = some (.ext (NkO X.prog X.w a xs)) ∧ xs.length < sizeLine ∧ ∀ r, RelV v r → D.nx σ (upd H3 a (.ext (NkO X.prog X.w a (storedH xs k b r))))
section
variable {X : Cx} {o i e f value : Expr} {pos pos' apos cpos : Pos} {td ty tv tx : TE}
theorem pe_nget (hu : X.A.units + 9 < cLine) (ho : PE X o td) (hi : PE X i ty) (hs : NoSl i) : PE X (.Subscript o i pos) (tNGet X td ty) := by
  refine ⟨fun pins s σ H Q I h => ?_⟩
  refine subD_of PySem.F.slot_dict_getitem.lookup hs (thn (ho.run pins s σ H _ I h) fun u s1 ⟨x, H1, I1, rx, q1⟩ => thn (hi.run pins s1 σ H1 _ I1 q1) fun iv s2 ⟨y, H2, I2, ry, a, b, xs, k, p, v, ex, ey, g, hp, rv, q2⟩ => ?_)
  subst ex ey
  obtain rfl : u = Value.ref a := rx
  obtain rfl : iv = Value.ref b := ry
  exact ⟨(nk_type I2 g.at').1, n_getItem hu I2 g hp fun s3 I3 => ⟨v, H2, I3, rv, q2⟩⟩
theorem pc_nin (hu : X.A.units + 9 < cLine) (hi : PE X i ty) (ho : PE X o td) : PC X .In i o (tNIn X id ty td) := by
  refine ⟨fun pins s σ H Q I h => ?_⟩
  refine thn (hi.run pins s σ H _ I h) fun iv s1 ⟨y, H1, I1, ry, q1⟩ => thn (ho.run pins s1 σ H1 _ I1 q1) fun u s2 ⟨x, H2, I2, rx, a, b, xs, k, ex, ey, g, q2⟩ => ?_
  subst ex ey
  obtain rfl : u = Value.ref a := rx
  obtain rfl : iv = Value.ref b := ry
  exact n_in hu I2 g fun s3 I3 => ⟨.bl (atKey xs k).isSome, H2, I3, rfl, q2⟩
theorem pc_nnotin (hu : X.A.units + 9 < cLine) (hi : PE X i ty) (ho : PE X o td) : PC X .NotIn i o (tNIn X (!·) ty td) := by
  refine ⟨fun pins s σ H Q I h => ?_⟩
  refine thn (hi.run pins s σ H _ I h) fun iv s1 ⟨y, H1, I1, ry, q1⟩ => thn (ho.run pins s1 σ H1 _ I1 q1) fun u s2 ⟨x, H2, I2, rx, a, b, xs, k, ex, ey, g, q2⟩ => ?_
  subst ex ey
  obtain rfl : u = Value.ref a := rx
  obtain rfl : iv = Value.ref b := ry
  exact n_notIn hu I2 g fun s3 I3 => ⟨.bl (!(atKey xs k).isSome), H2, I3, rfl, q2⟩
theorem ps_nput (hu : X.A.units + 9 < cLine) (ho : PE X o td) (hi : PE X i ty) (hv : PE X value tv) (hs : swapsWith value (some (.Subscript o i pos')) pos.line X.env = pure false) :
    PS X (.Assign [.Subscript o i pos'] value pos) (sNPutL X td ty tv) := by
  refine ⟨fun pins s σ H D I h => ?_⟩
  refine wpAny_Assign_Subscript (thn (hv.run pins s σ H _ I h) fun r s1 ⟨v, H1, I1, rv, q1⟩ => thn (ho.run pins s1 σ H1 _ I1 q1) fun u s2 ⟨x, H2, I2, rx, q2⟩ => thn (hi.run pins s2 σ H2 _ I2 q2) fun iv s3 ⟨y, H3, I3, ry, a, b, xs, k, ex, ey, g, e, hl, q3⟩ => ?_) hs
  subst ex ey
  obtain rfl : u = Value.ref a := rx
  obtain rfl : iv = Value.ref b := ry
  exact n_setItem hu I3 g e hl fun s4 I4 => ⟨σ, _, I4, q3 r rv⟩
theorem pe_nget1 (hu : X.A.units + 9 < cLine) (ho : PE X o td) (he : PE X e ty) (m : M1 X o "get" apos e cpos) : PE X (.Call (.Attribute o "get" apos) [e] [] cpos) (tNGet1 X td ty) := by
  refine ⟨fun pins s σ H Q I h => ?_⟩
  refine wpAny_Call_method m.base m.few m.line PySem.F.plainAttrs_dict PySem.F.slot_dict_get PySem.F.type_dict_get (thn (ho.run pins s σ H _ I h) fun u s1 ⟨x, H1, I1, rx, a, xs0, ex, d, q1⟩ => ?_)
  subst ex
  obtain rfl : u = Value.ref a := rx
  obtain ⟨t1, t2, _⟩ := nk_type I1 d
  refine ⟨t1, t2, ?_⟩
  rw [m.trees]
  refine Calls.callWith_builtin rfl (Calls.evalArgs_plain (Calls.spliced_cons (thn (he.run pins s1 σ H1 _ I1 q1) fun iv s2 ⟨y, H2, I2, ry, b, xs, k, v, ey, g, rv, q2⟩ => Calls.spliced_nil ?_)))
  subst ey
  obtain rfl : iv = Value.ref b := ry
  exact n_get1 hu I2 g fun s3 I3 => ⟨v, H2, I3, rv, q2⟩
theorem pe_nget2 (hu : X.A.units + 9 < cLine) (ho : PE X o td) (he : PE X e ty) (hf : PE X f tx) (m : M2 X o "get" apos e f cpos) : PE X (.Call (.Attribute o "get" apos) [e, f] [] cpos) (tNGet2 X td ty tx) := by
  refine ⟨fun pins s σ H Q I h => ?_⟩
  refine wpAny_Call_method m.base m.few m.line PySem.F.plainAttrs_dict PySem.F.slot_dict_get PySem.F.type_dict_get (thn (ho.run pins s σ H _ I h) fun u s1 ⟨x, H1, I1, rx, a, xs0, ex, d, q1⟩ => ?_)
  subst ex
  obtain rfl : u = Value.ref a := rx
  obtain ⟨t1, t2, _⟩ := nk_type I1 d
  refine ⟨t1, t2, ?_⟩
  rw [m.trees]
  refine Calls.callWith_builtin rfl (Calls.evalArgs_plain (Calls.spliced_cons (thn (he.run pins s1 σ H1 _ I1 q1) fun iv s2 ⟨y, H2, I2, ry, q2⟩ =>
    Calls.spliced_cons (thn (hf.run pins s2 σ H2 _ I2 q2) fun fv s3 ⟨z, H3, I3, rz, b, xs, k, ey, g, q3⟩ => Calls.spliced_nil ?_))))
  subst ey
  obtain rfl : iv = Value.ref b := ry
  obtain ⟨v, rv, q4⟩ := q3 fv rz
  exact n_get2 hu I3 g fun s4 I4 => ⟨v, H3, I4, rv, q4⟩
end
section
variable {X : Cx} {pins : List (Addr × Obj)} {σ : St} {H : Hp} {s : Shared} {a : Addr}
theorem nk_empty {P : Program} {w : World} {H : Hp} (h : Heap) (hb : sysModules < h.objs.size) : ObjOk P w H (h.push { cls := .type "dict", data := .dict #[] }) h.objs.size (.ext (NkO P w h.objs.size [])) :=
  nk_ok ⟨⟨Nat.zero_le _, beq_eq_false_iff_ne.mpr (Ne.symm (Nat.ne_of_lt hb))⟩, _, #[], 0, Heap.get?_push_size _ rfl, ⟨rfl, rfl, rfl⟩, rfl, rfl, List.nodup_nil⟩
end
def tDNewN (X : Cx) : TE := fun _ H Q => ∀ p, H p = none → Q (.ref p) (upd H p (.ext (NkO X.prog X.w p [])))
theorem pe_dnewN {X : Cx} {pos : Pos} : PE X (.Dict [] [] pos) (tDNewN X) := ⟨fun pins s σ H Q I h =>
  wpAny_Dict_empty ⟨.ref s.heap.objs.size, _, I.laid (a := s.heap.objs.size) (o := .ext (NkO X.prog X.w s.heap.objs.size [])) (t' := s.toks) (fun _ _ q => Heap.get?_push_of_some _ q) (Nat.le_refl _) (nk_empty s.heap I.big), rfl, h _ (I.hok.fresh (Nat.le_refl _))⟩⟩
def tN1 (X : Cx) (tk tv : TE) : TE := fun σ H Q => ∀ p, H p = none → tPairs [(tk, tv)] σ (upd H p (.ext (NkO X.prog X.w p []))) fun ps H2 => ∃ b k y, ps = [(V.ref b, y)] ∧ H2 p = some (.ext (NkO X.prog X.w p [])) ∧ NK H2 k (.ref b) ∧ k.depth ≤ 8 ∧ ∀ r, RelV y r → Q (.ref p) (upd H2 p (.ext (NkO X.prog X.w p [(k, b, r)])))
theorem pe_nct1 {X : Cx} {pos : Pos} {k v : Expr} {tk tv : TE} (hu : X.A.units + 9 < cLine) (hk : PE X k tk) (hv : PE X v tv) : PE X (.Dict [some k] [v] pos) (tN1 X tk tv) := by
  refine ⟨fun pins s σ H Q I q => ?_⟩
  have hn := I.hok.fresh (Nat.le_refl s.heap.objs.size)
  have I1 := I.laid (a := s.heap.objs.size) (o := .ext (NkO X.prog X.w s.heap.objs.size [])) (h' := s.heap.push { cls := .type "dict", data := .dict #[] }) (t' := s.toks) (fun _ _ q => Heap.get?_push_of_some _ q) (Nat.le_refl _) (nk_empty s.heap I.big)
  rw [arm_eval_Dict, zip_pairTrees [some k] [v] X.env pos rfl rfl, dictDisplay_pairs (pairTrees [some k] [v] X.env pos) (by intro h; cases h) (Nat.le_of_ble_eq_true rfl)]
  refine wpAny_bind (wpAny_standAt (wpAny_bind (wpAny_subDictH (knd := nestedKind X.prog X.w) (Q := fun d s' => wpAny (model X.prog X.w) X.A (pure (Value.ref d)) _ _ s') (show X.A.units + 8 < cLine by omega) (Nat.le_of_ble_eq_true rfl) ?_)))
  refine thn ((pps_cons hk hv pps_nil).run pins _ σ _ _ I1 (q _ hn)) fun ws s2 ⟨ps, H2, I2, rel, b, kk, y, ep, e, eb, dk, q2⟩ => ?_
  subst ep
  obtain ⟨⟨u, w⟩, t, rfl, ⟨ru, rw'⟩, rt⟩ : ∃ c t, ws = c :: t ∧ (RelV (V.ref b) c.1 ∧ RelV y c.2) ∧ VV [] t := by
    cases rel with
    | cons h t => exact ⟨_, _, rfl, h, t⟩
  cases rt
  cases (show u = Value.ref b from ru)
  have x := nk_rd I2.hok (.inl e)
  have dd := nk_dict I2.hok x (fun y hy => nomatch hy)
  refine ⟨[(kk, b, w)], ⟨rfl, rfl, ⟨NK.is I2.hok kk _ _ eb rfl, dk⟩, trivial⟩, dd, fun h' tk dd' hs => wpAny_pure ⟨.ref s.heap.objs.size, _, ?_, rfl, q2 w rw'⟩⟩
  exact n_put I2 e x.1.2 dd' hs (by rw [sizeLine_eq]; exact Nat.le_of_ble_eq_true rfl)
/-- these pairs tell these entries -/
def NPairs (K : PySem.W.Frag) (H : Hp) : List Addr → List (NestedKey × Addr × V) → Prop := Paired fun p e => SqT K H p [.ref e.2.1, e.2.2] ∧ NK H e.1 (.ref e.2.1) ∧ e.1.depth ≤ 8
/-- the entries' values, as they stand in the heap -/
def NVals : List (NestedKey × Addr × V) → List NEnt → Prop := Paired fun e x => e.1 = x.1 ∧ e.2.1 = x.2.1 ∧ RelV e.2.2 x.2.2
theorem pairsN_of {X : Cx} {pins : List (Addr × Obj)} {σ : St} {H : Hp} {s : Shared} (I : Inv X pins σ H s) : ∀ {ps : List Addr} {es : List (NestedKey × Addr × V)}, NPairs X.K H ps es →
    ∃ rs : List NEnt, NVals es rs ∧ rs.length = ps.length ∧ NKs H rs ∧ ∀ (j : Nat) (q : NEnt), rs[j]? = some q → ∃ p, ps[j]? = some p ∧ IsTup s.heap p #[.ref q.2.1, q.2.2]
  | _, _, .nil => ⟨[], .nil, rfl, (fun x hx => by cases hx), (fun j q e => by simp at e)⟩
  | _, _, .cons (a := p) (b := e) h t => by
    obtain ⟨rs, r, hl, hk, hp⟩ := pairsN_of I t
    obtain ⟨h1, h2, h3⟩ := h
    obtain ⟨its, rv, ht, _⟩ := I.tuple h1
    obtain ⟨u, y, ei, ru, ry⟩ := vals2 rv
    subst ei
    cases (show u = Value.ref e.2.1 from ru)
    refine ⟨(e.1, e.2.1, y) :: rs, .cons ⟨rfl, rfl, ry⟩ r, by rw [List.length_cons, List.length_cons, hl], fun x hx => ?_, fun j q eq => ?_⟩
    · rcases List.mem_cons.mp hx with rfl | hx
      · exact ⟨h2, h3⟩
      · exact hk x hx
    · cases j with
      | zero =>
        have e' : (e.1, e.2.1, y) = q := Option.some.inj eq
        subst e'
        exact ⟨p, rfl, ht⟩
      | succ j =>
        obtain ⟨p', e1, e2⟩ := hp j q (by simpa using eq)
        exact ⟨p', by simpa using e1, e2⟩
theorem storedAllH_len : ∀ (rs xs : List NEnt), (storedAllH xs rs).length ≤ xs.length + rs.length
  | [], xs => Nat.le_refl _
  | r :: rs, xs => by
    have h1 := storedAllH_len rs (storedH xs r.1 r.2.1 r.2.2)
    have h2 := storedH_len xs r.1 r.2.1 r.2.2
    have : storedAllH xs (r :: rs) = storedAllH (storedH xs r.1 r.2.1 r.2.2) rs := rfl
    rw [this, List.length_cons]
    omega
theorem call_dictN {X : Cx} (hcalm : X.calm = true) (hu : X.A.units + 10 < cLine) : CallR X (.type "dict") (fun xs H Q => ∃ (a : Addr) (ps : List Addr) (es : List (NestedKey × Addr × V)), xs = [.ref a] ∧ H a = some (.lst (ps.map V.ref)) ∧
    NPairs X.K H ps es ∧ ∀ rs, NVals es rs → NKs H rs → ∀ p, H p = none → Q (.ref p) (upd H p (.ext (NkO X.prog X.w p (storedAllH [] rs))))) := by
  intro pins s σ H xs us Q I r q
  obtain ⟨a, ps, es, ex, hq, hp, q⟩ := q
  subst ex
  obtain ⟨u, eu, rx⟩ := vals1 r
  subst eu
  cases rx
  obtain ⟨its, rv, pl, hz⟩ := I.list (SqL.of hq)
  have ei := refs_at rv
  subst ei
  rw [List.length_map] at hz
  obtain ⟨rs, rel, hl, hks, hpr⟩ := pairsN_of I hp
  obtain ⟨o, n, ho, hc, hd, hdat⟩ := pl
  let Ts : Nat → Addr := fun j => ps.getD j 0
  let vs : List (Value × Value) := rs.map fun q => (.ref q.2.1, q.2.2)
  have hvl : vs.length = ps.length := by simp [vs, hl]
  have ok : PlainSeq "list" s.heap a (ps.map Value.ref).toArray ∧ PairItems s.heap (ps.map Value.ref).toArray Ts vs := by
    refine ⟨⟨o, n, ho, hc, hd, hdat⟩, by simp [hvl], fun j k v e => ?_⟩
    obtain ⟨q, hq1, hq2⟩ : ∃ q, rs[j]? = some q ∧ (Value.ref q.2.1, q.2.2) = (k, v) := by
      simp only [vs, List.getElem?_map, Option.map_eq_some_iff] at e
      exact e
    cases hq2
    obtain ⟨p, e1, e2⟩ := hpr j q hq1
    have eT : Ts j = p := by simp [Ts, List.getD_eq_getElem?_getD, e1]
    refine ⟨by simp [e1, eT], .inl ?_⟩
    rw [eT]
    exact e2
  refine call_dict_pairsH (knd := nestedKind X.prog X.w) (ps := rs) (PairArg.list a (ps.map Value.ref).toArray Ts vs) (I.ok.hd hcalm) (show X.A.in1.in1.units + 8 < cLine by rw [Around.in1_units, Around.in1_units]; omega) ok ⟨by simp [vs], fun i key v e => ?_⟩ (fun h' hk x hx => ?_) (by rw [hvl]; exact hz) fun h' tk dd hk => ?_
  · simp only [PairRel, vs, List.getElem?_map, Option.map_eq_some_iff] at e
    obtain ⟨q, hq1, hq2⟩ := e
    cases hq2
    exact ⟨q.1, q.2.1, hq1, rfl⟩
  · exact ⟨NestedIs.at (fun b o vs n e1 e2 => hk _ _ (Nat.ne_of_lt (Heap.lt_size e1)) (by simp) e1) _ _ (NK.is I.hok _ _ _ (hks x hx).1 rfl), (hks x hx).2⟩
  · have hm : (s.heap.objs.size == sysModules) = false := beq_eq_false_iff_ne.mpr (Nat.ne_of_gt I.big)
    have hlen : (storedAllH [] rs).length ≤ sizeLine := by
      have := storedAllH_len rs []
      rw [List.length_nil] at this
      omega
    have hno : H s.heap.objs.size = none := I.hok.fresh (Nat.le_refl _)
    exact ⟨.ref s.heap.objs.size, _, I.laid (t' := tk) (fun b u e => hk b u (by simp) e) (Nat.le_refl _) (nk_ok (nk_of hlen hm dd)), rfl, q rs rel hks _ hno⟩
theorem Inv.frzN {X : Cx} {pins : List (Addr × Obj)} {σ : St} {H : Hp} {s : Shared} {d : Addr} {o : Obj} {xs : List NEnt} (I : Inv X pins σ H s) (h : H d = some (.frz o (.ext (NkO X.prog X.w d xs)))) :
    (d == sysModules) = false ∧ s.heap.get? d = some o ∧ o.ExactDict ∧ ∃ (es : Array DictEntry) (ep : Nat), o.data = .dict es ep ∧ es.size = xs.length ∧
      ∀ (i : Nat) (x : NEnt), xs[i]? = some x → ∃ en : DictEntry, es[i]? = some en ∧ en.key = .ref x.2.1 := by
  obtain ⟨hd, ⟨⟨z, hs⟩, o', es, ep, ho, hx, hdt, he, _⟩, _⟩ := I.hok d _ h
  rw [hd] at ho
  cases ho
  refine ⟨hs, hd, hx, es, ep, hdt, size_of_entries he, fun i x e => ?_⟩
  have q := entry_at he i
  rw [e] at q
  exact ⟨_, q, rfl⟩
def Itkn (P : Program) (w : World) (d : Addr) (o : Obj) (xs : List NEnt) : It :=
  ⟨fun i H => H d = some (.frz o (.ext (NkO P w d xs))) ∧ i < xs.length, fun i H x H' => H' = H ∧ ∃ e, xs[i]? = some e ∧ x = .ref e.2.1, fun i H => H d = some (.frz o (.ext (NkO P w d xs))) ∧ xs.length ≤ i⟩
theorem turn_keysN {P : Program} {w : World} {K : PySem.W.Frag} {tg : Expr} {d : Addr} {o : Obj} {es : Array DictEntry} {ep : Nat} {xs : List NEnt} (it : Addr) (hod : o.data = .dict es ep) : Turn P w K tg (Itkn P w d o xs) [it] it (fun i h => h.IsKeyIter it d i xs.length ep) where
  mem := by simp
  obj := fun i h st b hb => by
    have e : b = it := by simpa using hb
    subst e
    obtain ⟨oi, e, c, dd⟩ := st
    exact ⟨oi, e, fun v z => by rw [dd] at z; cases z⟩
  keep := fun i h h' st k => st.at fun oi e => k it (by simp) oi e
  item := by
    intro X hP hw hK hc i pins s σ H E I hf st hg
    subst hP hw hK
    obtain ⟨hd, hi⟩ := hg
    obtain ⟨f0, f1, f2, f3, f4, f5⟩ := hf it (by simp)
    obtain ⟨hs, hgd, hx, es', ep', hdt, hsz, ent⟩ := I.frzN hd
    obtain ⟨rfl, rfl⟩ := dict_ep hod hdt
    obtain ⟨x, hkv⟩ : ∃ p, xs[i]? = some p := ⟨xs[i], List.getElem?_eq_getElem hi⟩
    obtain ⟨en, hen, hkey⟩ := ent i x hkv
    refine next_key_item st hgd hdt hsz hen fun h' st' sb => ?_
    have I1 : Inv X pins σ H { s with heap := h' } := I.turned (t' := s.toks) (fun b ob hb e => (sb.2 b hb).trans e) f0 f1 f3 f4 f5
    obtain ⟨oi, e, c, dd⟩ := id st'
    exact ⟨en.key, rfl, go_of (s := { s with heap := h' }) e c dd (by decide) ⟨.ref x.2.1, H, I1, hkey, ⟨rfl, x, hkv, rfl⟩, st', fun b hb => (hf b hb).1⟩⟩
  done := by
    intro X hP hw hK hc i pins s σ H E I hf st hg
    subst hP hw hK
    obtain ⟨hd, hi⟩ := hg
    obtain ⟨f0, f1, f2, f3, f4, f5⟩ := hf it (by simp)
    obtain ⟨hs, hgd, hx, es', ep', hdt, hsz, ent⟩ := I.frzN hd
    obtain ⟨rfl, rfl⟩ := dict_ep hod hdt
    exact next_key_end (I.ok.hd hc) st hgd hdt hsz hi fun h' eb => ⟨rfl, I.turned (t' := s.toks) (fun b ob hb e => eb b ob hb e) f0 f1 f3 f4 f5⟩
  self := fun A i s Q E st h => by
    refine wpAny_pyIter_slot st.typeIs F.slot_dict_keyiterator_iter (wpAny_call_entry F.slot_dict_keyiterator_iter st.typeIs F.entry_dict_keyiterator_iter ?_ (F.args_dict_keyiterator_iter_1 _))
    show wpAny _ _ (ret (.ref it)) _ _ s
    exact wpAny_pure ⟨_, rfl, "dict_keyiterator", _, st.typeIs, F.slot_dict_keyiterator_next.lookup, h⟩
def iKeysN (X : Cx) (td : TE) : TI := fun σ H R => td σ H fun x H1 => ∃ d o xs, x = .ref d ∧ H1 d = some (.frz o (.ext (NkO X.prog X.w d xs))) ∧ R (Itkn X.prog X.w d o xs) H1
theorem pi_keysN {X : Cx} {tg e : Expr} {td : TE} (he : PE X e td) : PI X tg e (iKeysN X td) := by
  refine ⟨fun pins s σ H R I h => ?_⟩
  refine thn (he.run pins s σ H _ I h) fun u s1 ⟨x, H1, I1, rx, d, o, xs, ex, hd, q⟩ => ?_
  subst ex
  obtain rfl : u = Value.ref d := rx
  obtain ⟨hs, hgd, hx, es, ep, hdt, hsz, ent⟩ := I1.frzN hd
  refine iter_keys hs hgd hx hdt (pi_one (tk := s1.toks) I1 _ (turn_keysN _ hdt) ⟨_, Heap.get?_push_size _ rfl, rfl, ?_⟩ q)
  rw [hsz] <;> rfl
end L2
namespace Z
open PySem PySem.Spec PyProof.Rows L2
/-- the known part of the heap, and whose run it is -/
structure KW where
  K : PySem.W.Frag
  P : Program
  w : World
instance : CoeOut KW PySem.W.Frag := ⟨KW.K⟩
end Z
/-- a context's own -/
abbrev L2.Cx.KW (X : L2.Cx) : Z.KW := ⟨X.K, X.prog, X.w⟩
namespace Z
open PySem PySem.Spec PyProof.Rows L2
abbrev str (s : List Nat) : Str := ⟨s.toArray⟩
/-- a list that is never changed: the script -/
def FzL (K : PySem.W.Frag) (H : Hp) (a : Addr) (xs : List V) : Prop :=
  (∃ o, H a = some (.frz o (.lst xs))) ∨
    ∃ (o : Obj) (its : Array Value) (n : Nat), K.lookup a = some o ∧ o.cls = .type "list" ∧ o.dict = none ∧ o.data = .seq its n ∧ its.size ≤ sizeLine ∧ Vals xs its.toList
theorem FzL.seq {K : PySem.W.Frag} {H : Hp} {a : Addr} {xs : List V} (h : FzL K H a xs) : SqL K H a xs := by
  rcases h with h | h
  · exact .inl (.inr h)
  · exact .inr h
/-- a tuple: of flat items it is free (it may be a key), else it is held fast, and bears no dict -/
def TupAt (H : Hp) (a : Addr) (vs : List V) : Bool → Prop
  | true => H a = some (.tup vs)
  | false => ∃ o : Obj, o.dict = none ∧ H a = some (.frz o (.tup vs))
theorem TupAt.sq {K : PySem.W.Frag} {H : Hp} {a : Addr} {vs : List V} : ∀ {b : Bool}, TupAt H a vs b → SqT K H a vs
  | true, h => SqT.of h
  | false, ⟨o, _, h⟩ => .inl (.inr ⟨o, h⟩)
mutual
def Rep (K : KW) (ι : List Addr) (H : Hp) : D → V → Prop
  | .non, v => v = .non
  | .bl b, v => v = .bl b
  | .int i, v => v = .int i
  | .str s, v => v = .str (str s) ∧ ∀ c ∈ s, c < 128
  | .tup xs, v => ∃ a vs, v = .ref a ∧ TupAt H a vs (xs.all k0) ∧ RepL K ι H xs vs
  | .ref n, v => ∃ a, v = .ref a ∧ ι[n]? = some a
  | .fl xs, v => ∃ a vs, v = .ref a ∧ FzL K H a vs ∧ RepL K ι H xs vs
def RepL (K : KW) (ι : List Addr) (H : Hp) : List D → List V → Prop
  | [], vs => vs = []
  | x :: xs, vs => ∃ v r, vs = v :: r ∧ Rep K ι H x v ∧ RepL K ι H xs r
end
section
variable {K : KW} {ι ι' ι'' : List Addr} {H H' H'' : Hp}
/-- what stays: the numbers' addresses, the tuples, what is locked -/
structure Ext (ι : List Addr) (H : Hp) (ι' : List Addr) (H' : Hp) : Prop where
  pre : ∃ t, ι' = ι ++ t
  tup : ∀ a xs, H a = some (.tup xs) → H' a = some (.tup xs)
  frz : ∀ a o u, H a = some (.frz o u) → H' a = some (.frz o u)
theorem Ext.refl : Ext ι H ι H := ⟨⟨[], by simp⟩, fun _ _ h => h, fun _ _ _ h => h⟩
theorem Ext.trans (a : Ext ι H ι' H') (b : Ext ι' H' ι'' H'') : Ext ι H ι'' H'' :=
  ⟨by obtain ⟨t, rfl⟩ := a.pre; obtain ⟨u, rfl⟩ := b.pre; exact ⟨t ++ u, by simp⟩, fun _ _ h => b.tup _ _ (a.tup _ _ h), fun _ _ _ h => b.frz _ _ _ (a.frz _ _ _ h)⟩
theorem Ext.at (e : Ext ι H ι' H') {n : Nat} {a : Addr} (h : ι[n]? = some a) : ι'[n]? = some a := by
  obtain ⟨t, rfl⟩ := e.pre
  rw [List.getElem?_append_left (List.getElem?_eq_some_iff.mp h).1]
  exact h
theorem Ext.tupAt (e : Ext ι H ι' H') {a : Addr} {xs : List V} : ∀ {b : Bool}, TupAt H a xs b → TupAt H' a xs b
  | true, h => e.tup _ _ h
  | false, ⟨o, h1, h2⟩ => ⟨o, h1, e.frz _ _ _ h2⟩
theorem Ext.sqT (e : Ext ι H ι' H') {a : Addr} {xs : List V} (h : SqT K H a xs) : SqT K H' a xs := by
  rcases h with (h | ⟨o, h⟩) | h
  · exact .inl (.inl (e.tup _ _ h))
  · exact .inl (.inr ⟨o, e.frz _ _ _ h⟩)
  · exact .inr h
theorem Ext.fzL (e : Ext ι H ι' H') {a : Addr} {xs : List V} (h : FzL K H a xs) : FzL K H' a xs := by
  rcases h with ⟨o, h⟩ | h
  · exact .inl ⟨o, e.frz _ _ _ h⟩
  · exact .inr h
mutual
theorem Rep.ext (e : Ext ι H ι' H') : ∀ (d : D) (v : V), Rep K ι H d v → Rep K ι' H' d v
  | .non, _, h => h
  | .bl _, _, h => h
  | .int _, _, h => h
  | .str _, _, h => h
  | .tup xs, _, h => by
    rw [Rep] at h ⊢
    obtain ⟨a, vs, e1, h1, h2⟩ := h
    exact ⟨a, vs, e1, e.tupAt h1, RepL.ext e xs vs h2⟩
  | .ref n, _, h => by
    rw [Rep] at h ⊢
    obtain ⟨a, e1, h1⟩ := h
    exact ⟨a, e1, e.at h1⟩
  | .fl xs, _, h => by
    rw [Rep] at h ⊢
    obtain ⟨a, vs, e1, h1, h2⟩ := h
    exact ⟨a, vs, e1, e.fzL h1, RepL.ext e xs vs h2⟩
theorem RepL.ext (e : Ext ι H ι' H') : ∀ (ds : List D) (vs : List V), RepL K ι H ds vs → RepL K ι' H' ds vs
  | [], _, h => h
  | x :: xs, _, h => by
    rw [RepL] at h ⊢
    obtain ⟨v, r, e1, h1, h2⟩ := h
    exact ⟨v, r, e1, Rep.ext e x v h1, RepL.ext e xs r h2⟩
end
theorem RepL.length : ∀ {ds : List D} {vs : List V}, RepL K ι H ds vs → vs.length = ds.length
  | [], _, h => by rw [RepL] at h; subst h; rfl
  | x :: xs, _, h => by
    rw [RepL] at h
    obtain ⟨v, r, rfl, _, h2⟩ := h
    simp [RepL.length h2]
theorem RepL.get : ∀ {ds : List D} {vs : List V} {i : Nat} {d : D}, RepL K ι H ds vs → ds[i]? = some d → ∃ v, vs[i]? = some v ∧ Rep K ι H d v
  | [], _, _, _, _, e => by simp at e
  | x :: xs, _, 0, d, h, e => by
    rw [RepL] at h
    obtain ⟨v, r, rfl, h1, _⟩ := h
    simp at e; subst e
    exact ⟨v, rfl, h1⟩
  | x :: xs, _, i + 1, d, h, e => by
    rw [RepL] at h
    obtain ⟨v, r, rfl, _, h2⟩ := h
    obtain ⟨u, a, b⟩ := RepL.get (i := i) h2 (by simpa using e)
    exact ⟨u, by simpa using a, b⟩
theorem RepL.append : ∀ {xs ys : List D} {vs ws : List V}, RepL K ι H xs vs → RepL K ι H ys ws → RepL K ι H (xs ++ ys) (vs ++ ws)
  | [], _, _, _, h, g => by rw [RepL] at h; subst h; simpa using g
  | x :: xs, _, _, _, h, g => by
    rw [RepL] at h
    obtain ⟨v, r, rfl, h1, h2⟩ := h
    rw [List.cons_append, RepL]
    exact ⟨v, _, rfl, h1, RepL.append h2 g⟩
theorem RepL.of_get : ∀ {ds : List D} {vs : List V}, vs.length = ds.length → (∀ (i : Nat) (d : D) (v : V), ds[i]? = some d → vs[i]? = some v → Rep K ι H d v) → RepL K ι H ds vs
  | [], vs, hl, _ => by rw [RepL]; exact List.eq_nil_of_length_eq_zero hl
  | x :: xs, [], hl, _ => by simp at hl
  | x :: xs, v :: r, hl, h => by
    rw [RepL]
    exact ⟨v, r, rfl, h 0 x v rfl rfl, RepL.of_get (by simpa using hl) fun i d u a b => h (i + 1) d u (by simpa using a) (by simpa using b)⟩
theorem RepL.one {d : D} {v : V} (h : Rep K ι H d v) : RepL K ι H [d] [v] := by rw [RepL]; exact ⟨v, [], rfl, h, by rw [RepL]⟩
/-- keys of dicts: ints and texts, tuples of them -/
def keyD : D → Option Key
  | .int i => some (.inl i)
  | .str s => some (.inr (str s))
  | _ => none
def keysD : List D → Option (List Key)
  | [] => some []
  | x :: r => match keyD x, keysD r with
    | some k, some ks => some (k :: ks)
    | _, _ => none
/-- a dict's entries -/
def KsR {α κ : Type} (key : α → Option κ) (K : KW) (ι : List Addr) (H : Hp) : List (α × D) → List (κ × V) → Prop
  | [], ks => ks = []
  | p :: r, ks => ∃ k v t, ks = (k, v) :: t ∧ key p.1 = some k ∧ Rep K ι H p.2 v ∧ KsR key K ι H r t
theorem KsR.ext {α κ : Type} {key : α → Option κ} (e : Ext ι H ι' H') : ∀ (kvs : List (α × D)) (ks : List (κ × V)), KsR key K ι H kvs ks → KsR key K ι' H' kvs ks
  | [], ks, h => h
  | p :: r, ks, h => by
    rw [KsR] at h ⊢
    obtain ⟨k, v, t, e1, e2, e3, e4⟩ := h
    exact ⟨k, v, t, e1, e2, Rep.ext e _ _ e3, KsR.ext e r t e4⟩
theorem KsR.length {α κ : Type} {key : α → Option κ} : ∀ {kvs : List (α × D)} {ks : List (κ × V)}, KsR key K ι H kvs ks → ks.length = kvs.length
  | [], ks, h => by rw [KsR] at h; rw [h]; rfl
  | p :: r, ks, h => by
    rw [KsR] at h
    obtain ⟨k, v, t, rfl, _, _, e4⟩ := h
    rw [List.length_cons, List.length_cons, KsR.length e4]
mutual
def nkD : D → Option NestedKey
  | .non => some .none
  | .int i => some (.num i)
  | .str s => some (.text (str s))
  | .tup xs => (nkL xs).map .tup
  | .bl _ => none
  | .ref _ => none
  | .fl _ => none
def nkL : List D → Option (List NestedKey)
  | [] => some []
  | x :: r => match nkD x, nkL r with
    | some k, some ks => some (k :: ks)
    | _, _ => none
end
/-- a dict's entries, the keys nested -/
def NkR (K : KW) (ι : List Addr) (H : Hp) : List (D × D) → List NEnt → Prop
  | [], xs => xs = []
  | p :: r, xs => ∃ k b u v t, xs = (k, b, u) :: t ∧ nkD p.1 = some k ∧ k.depth ≤ 8 ∧ Rep K ι H p.1 (.ref b) ∧ Rep K ι H p.2 v ∧ RelV v u ∧ NkR K ι H r t
theorem NkR.ext (e : Ext ι H ι' H') : ∀ (kvs : List (D × D)) (xs : List NEnt), NkR K ι H kvs xs → NkR K ι' H' kvs xs
  | [], xs, h => h
  | p :: r, xs, h => by
    rw [NkR] at h ⊢
    obtain ⟨k, b, u, v, t, e1, e2, e3, e4, e5, e6, e7⟩ := h
    exact ⟨k, b, u, v, t, e1, e2, e3, Rep.ext e _ _ e4, Rep.ext e _ _ e5, e6, NkR.ext e r t e7⟩
theorem NkR.length : ∀ {kvs : List (D × D)} {xs : List NEnt}, NkR K ι H kvs xs → xs.length = kvs.length
  | [], xs, h => by rw [NkR] at h; rw [h]; rfl
  | p :: r, xs, h => by
    rw [NkR] at h
    obtain ⟨k, b, u, v, t, rfl, _, _, _, _, _, e7⟩ := h
    rw [List.length_cons, List.length_cons, NkR.length e7]
/-- an exception of a class, no longer in the air -/
def ExK (cls : Value) (a : Addr) : HO := .ext fun h => ∃ oe : Obj, h.get? a = some oe ∧ oe.cls = cls ∧ oe.dict = none ∧ ∃ vs, oe.data = .fields vs
/-- names of fields -/
def keyF (s : String) : Option Str := some (Str.ofString s)
def ObjR (K : KW) (ι : List Addr) (H : Hp) (a : Addr) : MO → Prop
  | .lst xs => ∃ vs, H a = some (.lst vs) ∧ RepL K ι H xs vs
  | .dct kvs => ∃ o ks, H a = some (.frz o (.dT ks)) ∧ KsR keysD K ι H kvs ks
  | .st kvs => ∃ ks, H a = some (.dT ks) ∧ KsR keysD K ι H kvs ks
  | .dk kvs => ∃ ks, H a = some (.dK ks) ∧ KsR keyD K ι H kvs ks
  | .dkl kvs => ∃ o ks, H a = some (.frz o (.dK ks)) ∧ KsR keyD K ι H kvs ks
  | .nk kvs => ∃ xs, H a = some (.ext (NkO K.P K.w a xs)) ∧ NkR K ι H kvs xs
  | .nkl kvs => ∃ o xs, H a = some (.frz o (.ext (NkO K.P K.w a xs))) ∧ NkR K ι H kvs xs
  | .ins c fs => ∃ C dx fvs, PySem.W.nsIn K mainGlobals (Str.ofString c) = some (some (.ref C)) ∧ H a = some (.ins C dx fvs) ∧ KsR keyF K ι H fs fvs
  | .exn c => ∃ C, PySem.W.nsIn K mainGlobals (Str.ofString c) = some (some (.ref C)) ∧ H a = some (ExK (.ref C) a)
structure Sim (K : KW) (ι : List Addr) (S : Store) (H : Hp) : Prop where
  len : ι.length = S.length
  nd : ι.Nodup
  obj : ∀ (i : Nat) (o : MO) (a : Addr), S[i]? = some o → ι[i]? = some a → ObjR K ι H a o
theorem Sim.get {S : Store} (s : Sim K ι S H) {n : Nat} {o : MO} {a : Addr} (h : ι[n]? = some a) (g : S[n]? = some o) : ObjR K ι H a o := s.obj n o a g h
/-- an object of the store is there, and no tuple, and not locked -/
def Mob (o : HO) : Prop := match o with | .tup _ => False | .frz _ _ => False | _ => True
theorem ObjR.there {a : Addr} {o : MO} (h : ObjR K ι H a o) : ∃ u, H a = some u := by
  cases o with
  | lst xs => obtain ⟨vs, e, _⟩ := h; exact ⟨_, e⟩
  | dct _ => obtain ⟨_, ks, e, _⟩ := h; exact ⟨_, e⟩
  | st _ => obtain ⟨ks, e, _⟩ := h; exact ⟨_, e⟩
  | dk _ => obtain ⟨ks, e, _⟩ := h; exact ⟨_, e⟩
  | dkl _ => obtain ⟨_, ks, e, _⟩ := h; exact ⟨_, e⟩
  | nk _ => obtain ⟨ks, e, _⟩ := h; exact ⟨_, e⟩
  | nkl _ => obtain ⟨_, ks, e, _⟩ := h; exact ⟨_, e⟩
  | ins _ _ => obtain ⟨C, dx, fvs, _, e, _⟩ := h; exact ⟨_, e⟩
  | exn _ => obtain ⟨C, _, e⟩ := h; exact ⟨_, e⟩
theorem ext_new {p : Addr} {o : HO} {t : List Addr} (hp : H p = none) : Ext ι H (ι ++ t) (upd H p o) :=
  ⟨⟨t, rfl⟩, fun a xs h => by rw [upd_ne (ne_of_none h hp)]; exact h, fun a q u h => by rw [upd_ne (ne_of_none h hp)]; exact h⟩
theorem ext_tup {p : Addr} {o : HO} (hp : H p = none) : Ext ι H ι (upd H p o) := by simpa using ext_new (ι := ι) (t := []) (o := o) hp
theorem ext_mut {p : Addr} {o u : HO} (hp : H p = some u) (hm : Mob u) : Ext ι H ι (upd H p o) :=
  ⟨⟨[], by simp⟩, fun a xs h => by rw [upd_ne (ne_of h hp (by rintro rfl; exact hm))]; exact h, fun a q x h => by rw [upd_ne (ne_of h hp (by rintro rfl; exact hm))]; exact h⟩
theorem ObjR.move {a : Addr} {o : MO} (h : ObjR K ι H a o) (e : Ext ι H ι' H') (k : H' a = H a) : ObjR K ι' H' a o := by
  cases o with
  | lst xs => obtain ⟨vs, e1, h1⟩ := h; exact ⟨vs, k.trans e1, RepL.ext e _ _ h1⟩
  | dct _ => obtain ⟨q, ks, e1, h1⟩ := h; exact ⟨q, ks, k.trans e1, KsR.ext e _ _ h1⟩
  | st _ => obtain ⟨ks, e1, h1⟩ := h; exact ⟨ks, k.trans e1, KsR.ext e _ _ h1⟩
  | dk _ => obtain ⟨ks, e1, h1⟩ := h; exact ⟨ks, k.trans e1, KsR.ext e _ _ h1⟩
  | dkl _ => obtain ⟨q, ks, e1, h1⟩ := h; exact ⟨q, ks, k.trans e1, KsR.ext e _ _ h1⟩
  | nk _ => obtain ⟨ks, e1, h1⟩ := h; exact ⟨ks, k.trans e1, NkR.ext e _ _ h1⟩
  | nkl _ => obtain ⟨q, ks, e1, h1⟩ := h; exact ⟨q, ks, k.trans e1, NkR.ext e _ _ h1⟩
  | ins _ _ => obtain ⟨C, dx, fvs, n, e1, h1⟩ := h; exact ⟨C, dx, fvs, n, k.trans e1, KsR.ext e _ _ h1⟩
  | exn _ => obtain ⟨C, n, e1⟩ := h; exact ⟨C, n, k.trans e1⟩
theorem Sim.tup {S : Store} (s : Sim K ι S H) {p : Addr} {o : HO} (hp : H p = none) : Sim K ι S (upd H p o) :=
  ⟨s.len, s.nd, fun i o' a h1 h2 => by
    have q := s.obj i o' a h1 h2
    obtain ⟨u, hu⟩ := q.there
    exact q.move (ext_tup hp) (by rw [upd_ne (ne_of_none hu hp)])⟩
/-- a new object -/
theorem Sim.new {S : Store} (s : Sim K ι S H) {p : Addr} {o : HO} {m : MO} (hp : H p = none) (h : ObjR K (ι ++ [p]) (upd H p o) p m) : Sim K (ι ++ [p]) (S ++ [m]) (upd H p o) := by
  refine ⟨by simp [s.len], ?_, fun i o' a h1 h2 => ?_⟩
  · refine List.nodup_append.mpr ⟨s.nd, by simp, fun a ha b hb => ?_⟩
    obtain rfl : b = p := by simpa using hb
    obtain ⟨i, hi⟩ := List.getElem?_of_mem ha
    have hl : i < S.length := by rw [← s.len]; exact (List.getElem?_eq_some_iff.mp hi).1
    obtain ⟨u, hu⟩ := (s.obj i _ a (List.getElem?_eq_getElem hl) hi).there
    exact ne_of_none hu hp
  · by_cases hi : i < S.length
    · rw [List.getElem?_append_left hi] at h1
      rw [List.getElem?_append_left (by rw [s.len]; exact hi)] at h2
      have q := s.obj i o' a h1 h2
      obtain ⟨u, hu⟩ := q.there
      exact q.move (ext_new hp) (by rw [upd_ne (ne_of_none hu hp)])
    · have e : i = S.length := by
        have := (List.getElem?_eq_some_iff.mp h1).1
        simp at this; omega
      subst e
      rw [List.getElem?_append_right (Nat.le_refl _)] at h1
      rw [← s.len, List.getElem?_append_right (Nat.le_refl _)] at h2
      simp at h1 h2
      subst h1 h2
      exact h
/-- an object written -/
theorem Sim.put {S : Store} (s : Sim K ι S H) {n : Nat} {p : Addr} {o : HO} {m : MO} (hp : ι[n]? = some p) (h : ObjR K ι (upd H p o) p m) (hx : ∃ u, H p = some u ∧ Mob u) : Sim K ι (S.set n m) (upd H p o) := by
  have hl : n < S.length := by rw [← s.len]; exact (List.getElem?_eq_some_iff.mp hp).1
  obtain ⟨u, hu, hm⟩ := hx
  refine ⟨by simp [s.len], s.nd, fun i o' a h1 h2 => ?_⟩
  by_cases hi : n = i
  · subst hi
    rw [List.getElem?_set_self hl] at h1
    cases h1
    rw [hp] at h2; cases h2
    exact h
  · rw [List.getElem?_set_ne hi] at h1
    have q := s.obj i o' a h1 h2
    refine q.move (ext_mut hu hm) ?_
    rw [upd_ne]
    rintro rfl
    obtain ⟨l1, e1⟩ := List.getElem?_eq_some_iff.mp hp
    obtain ⟨l2, e2⟩ := List.getElem?_eq_some_iff.mp h2
    exact hi ((List.getElem_inj s.nd).mp (e1.trans e2.symm))
end
end Z
namespace Z
open PySem PySem.Spec PyProof.Rows L2
abbrev Mg := Str → Option Value
section
variable {K : KW} {mg : Mg} {ι ι' ι1 ι2 : List Addr} {H H' H1 H2 : Hp}
def EnvR (K : KW) (ι : List Addr) (H : Hp) (ρ : Env) (σ : L2.St) : Prop := ρ.length = σ.length ∧ ∀ (i : Nat) (d : D), ρ[i]? = some (some d) → ∃ v, σ[i]? = some (some v) ∧ Rep K ι H d v
theorem EnvR.ext {ρ : Env} {σ : L2.St} (e : Ext ι H ι' H') (h : EnvR K ι H ρ σ) : EnvR K ι' H' ρ σ := ⟨h.1, fun i d g => let ⟨v, a, b⟩ := h.2 i d g; ⟨v, a, Rep.ext e _ _ b⟩⟩
theorem EnvR.set {ρ : Env} {σ : L2.St} (h : EnvR K ι H ρ σ) {i : Nat} {d : D} {v : V} (r : Rep K ι H d v) : EnvR K ι H (ρ.set i (some d)) (σ.set i (some v)) := by
  refine ⟨by simp [h.1], fun j e g => ?_⟩
  by_cases hj : i = j
  · subst hj
    by_cases hl : i < ρ.length
    · rw [List.getElem?_set_self hl] at g
      cases g
      exact ⟨v, by rw [List.getElem?_set_self (by rw [← h.1]; exact hl)], r⟩
    · rw [List.getElem?_eq_none (by simpa using hl)] at g; cases g
  · rw [List.getElem?_set_ne hj] at g ⊢
    exact h.2 j e g
theorem EnvR.wipe {ρ : Env} {σ : L2.St} (h : EnvR K ι H ρ σ) : ∀ own : List Nat, EnvR K ι H (Z.wipe ρ own) (L2.wipe σ own)
  | [] => h
  | v :: vs => by
    have q := EnvR.wipe h vs
    refine ⟨by unfold Z.wipe L2.wipe; simp [q.1], fun j e g => ?_⟩
    unfold Z.wipe at g
    unfold L2.wipe
    by_cases hj : v = j
    · subst hj
      by_cases hl : v < (Z.wipe ρ vs).length
      · rw [List.getElem?_set_self hl] at g; cases g
      · rw [List.getElem?_eq_none (by simpa using hl)] at g; cases g
    · rw [List.getElem?_set_ne hj] at g ⊢
      exact q.2 j e g
/-- what is wanted of an outcome -/
def Po {α β : Type} (R : List Addr → Hp → α → β → Prop) (K : KW) (mg : Mg) (ι : List Addr) (H : Hp) (Q : β → Hp → Prop) (E : XK) : M α → Prop
  | none => False
  | some (.ok a S) => ∀ ι' H' x, Ext ι H ι' H' → Sim K ι' S H' → R ι' H' a x → Q x H'
  | some (.ex c S) => ∀ ι' H' cls, Ext ι H ι' H' → Sim K ι' S H' → mg (Str.ofString c) = some cls → E cls none H'
theorem Po.mono {α β : Type} {R : List Addr → Hp → α → β → Prop} {Q : β → Hp → Prop} {E : XK} (e : Ext ι H ι' H') : ∀ {m : M α}, Po R K mg ι H Q E m → Po R K mg ι' H' Q E m
  | none, h => h
  | some (.ok _ _), h => fun ι2 H2 x e2 s r => h ι2 H2 x (e.trans e2) s r
  | some (.ex _ _), h => fun ι2 H2 x e2 s r => h ι2 H2 x (e.trans e2) s r
theorem Po.imp {α β : Type} {R : List Addr → Hp → α → β → Prop} {Q Q' : β → Hp → Prop} {E : XK} (k : ∀ x H', Q x H' → Q' x H') : ∀ {m : M α}, Po R K mg ι H Q E m → Po R K mg ι H Q' E m
  | none, h => h
  | some (.ok _ _), h => fun ι2 H2 x e2 s r => k _ _ (h ι2 H2 x e2 s r)
  | some (.ex _ _), h => h
/-- the first step of a sequence -/
theorem Po.bd {α β α' β' : Type} {R : List Addr → Hp → α → β → Prop} {R' : List Addr → Hp → α' → β' → Prop} {Q : β → Hp → Prop} {Q' : β' → Hp → Prop} {E : XK} {m : M α} {f : α → Store → M α'}
    (h : Po R' K mg ι H Q' E (Z.bd m f)) (k : ∀ a S ι1 H1 x, Ext ι H ι1 H1 → Sim K ι1 S H1 → R ι1 H1 a x → Po R' K mg ι1 H1 Q' E (f a S) → Q x H1) : Po R K mg ι H Q E m := by
  match m, h with
  | some (.ok a S), h => exact fun ι1 H1 x e s r => k a S ι1 H1 x e s r (Po.mono e h)
  | some (.ex c S), h => exact h
theorem Po.ret {α β : Type} {R : List Addr → Hp → α → β → Prop} {Q : β → Hp → Prop} {E : XK} {a : α} {S : Store} {x : β} (h : Po R K mg ι H Q E (some (.ok a S))) (s : Sim K ι S H) (r : R ι H a x) : Q x H := h ι H x .refl s r
abbrev RB : List Addr → Hp → Bool → Bool → Prop := fun _ _ a b => b = a
/-- outcomes of statements -/
def PoS (K : KW) (mg : Mg) (W : WX) (ι : List Addr) (H : Hp) (En : Ends) : Option Out → Prop
  | none => False
  | some (.nx ρ S) => ∀ ι' H' σ, Ext ι H ι' H' → Sim K ι' S H' → EnvR K ι' H' ρ σ → En.nx σ H'
  | some (.bk ρ S) => ∀ ι' H' σ, Ext ι H ι' H' → Sim K ι' S H' → EnvR K ι' H' ρ σ → En.bk σ H'
  | some (.ct ρ S) => ∀ ι' H' σ, Ext ι H ι' H' → Sim K ι' S H' → EnvR K ι' H' ρ σ → En.ct σ H'
  | some (.rt d S) => ∀ ι' H' v, Ext ι H ι' H' → Sim K ι' S H' → Rep K ι' H' d v → En.rt v H'
  | some (.ex c ρ S) => ∀ ι' H' σ cls, Ext ι H ι' H' → Sim K ι' S H' → EnvR K ι' H' ρ σ → mg (Str.ofString c) = some cls → W cls none σ H'
theorem PoS.mono {W : WX} {En : Ends} (e : Ext ι H ι' H') : ∀ {o : Option Out}, PoS K mg W ι H En o → PoS K mg W ι' H' En o
  | none, h => h
  | some (.nx _ _), h => fun ι2 H2 σ e2 s r => h ι2 H2 σ (e.trans e2) s r
  | some (.bk _ _), h => fun ι2 H2 σ e2 s r => h ι2 H2 σ (e.trans e2) s r
  | some (.ct _ _), h => fun ι2 H2 σ e2 s r => h ι2 H2 σ (e.trans e2) s r
  | some (.rt _ _), h => fun ι2 H2 v e2 s r => h ι2 H2 v (e.trans e2) s r
  | some (.ex _ _ _), h => fun ι2 H2 σ c e2 s r => h ι2 H2 σ c (e.trans e2) s r
theorem PoS.bo {α β : Type} {R : List Addr → Hp → α → β → Prop} {Q : β → Hp → Prop} {W : WX} {En : Ends} {m : M α} {ρ : Env} {σ : L2.St} {f : α → Store → Option Out} (hρ : EnvR K ι H ρ σ)
    (h : PoS K mg W ι H En (Z.bo m ρ f)) (k : ∀ a S ι1 H1 x, Ext ι H ι1 H1 → Sim K ι1 S H1 → R ι1 H1 a x → EnvR K ι1 H1 ρ σ → PoS K mg W ι1 H1 En (f a S) → Q x H1) : Po R K mg ι H Q (fun cls d H' => W cls d σ H') m := by
  match m, h with
  | some (.ok a S), h => exact fun ι1 H1 x e s r => k a S ι1 H1 x e s r (hρ.ext e) (PoS.mono e h)
  | some (.ex c S), h => exact fun ι1 H1 cls e s g => h ι1 H1 σ cls e s (hρ.ext e) g
end
/-- an expression's, a test's, an argument list's, a statement's reading -/
def tE (K : KW) (mg : Mg) (W : WX) (m : SE) : TE := fun σ H Q => ∃ ι ρ S, Sim K ι S H ∧ EnvR K ι H ρ σ ∧ Po (Rep K) K mg ι H Q (fun cls d H' => W cls d σ H') (m ρ S)
def tT (K : KW) (mg : Mg) (W : WX) (m : ST) : TT := fun σ H Q => ∃ ι ρ S, Sim K ι S H ∧ EnvR K ι H ρ σ ∧ Po RB K mg ι H Q (fun cls d H' => W cls d σ H') (m ρ S)
def tA (K : KW) (mg : Mg) (W : WX) (ms : List SE) : TA := fun σ H Q => ∃ ι ρ S, Sim K ι S H ∧ EnvR K ι H ρ σ ∧ Po (RepL K) K mg ι H Q (fun cls d H' => W cls d σ H') (evL ms ρ S)
def tS (K : KW) (mg : Mg) (W : WX) (m : SS) : TS := fun En σ H => ∃ ι ρ S, Sim K ι S H ∧ EnvR K ι H ρ σ ∧ PoS K mg W ι H En (m ρ S)
def GE (X : Cx) (W : WX) (e : Expr) (m : SE) : Prop := PE X e (tE X.KW X.mg W m)
def GT (X : Cx) (W : WX) (e : Expr) (m : ST) : Prop := PT X e (tT X.KW X.mg W m)
def GW (X : Cx) (W : WX) (e : Expr) (m : ST) : Prop := PW X e (tT X.KW X.mg W m)
def GA (X : Cx) (W : WX) (es : List Expr) (ms : List SE) : Prop := PA X es (tA X.KW X.mg W ms)
def GS (X : Cx) (W : WX) (st : Stmt) (m : SS) : Prop := PS X st (tS X.KW X.mg W m)
def GSs (X : Cx) (W : WX) (st : List Stmt) (m : SS) : Prop := PSs X st (tS X.KW X.mg W m)
section
variable {X : Cx}
theorem _root_.L2.PE.imp {e : Expr} {t t' : TE} (h : PE X e t) (k : ∀ σ H Q, t' σ H Q → t σ H Q) : PE X e t' := ⟨fun pins s σ H Q I q => h.run pins s σ H Q I (k _ _ _ q)⟩
theorem _root_.L2.PT.imp {e : Expr} {t t' : TT} (h : PT X e t) (k : ∀ σ H Q, t' σ H Q → t σ H Q) : PT X e t' := ⟨fun pins s σ H Q I q => h.run pins s σ H Q I (k _ _ _ q)⟩
theorem _root_.L2.PW.imp {e : Expr} {t t' : TT} (h : PW X e t) (k : ∀ σ H Q, t' σ H Q → t σ H Q) : PW X e t' := ⟨fun wh pins s σ H Q I q => h.run wh pins s σ H Q I (k _ _ _ q)⟩
theorem _root_.L2.PA.imp {es : List Expr} {t t' : TA} (h : PA X es t) (k : ∀ σ H Q, t' σ H Q → t σ H Q) : PA X es t' := ⟨fun pos pins s σ H Q I q => h.run pos pins s σ H Q I (k _ _ _ q)⟩
theorem _root_.L2.PS.imp {st : Stmt} {t t' : TS} (h : PS X st t) (k : ∀ D σ H, t' D σ H → t D σ H) : PS X st t' := ⟨fun pins s σ H D I q => h.run pins s σ H D I (k _ _ _ q)⟩
theorem _root_.L2.PSs.imp {st : List Stmt} {t t' : TS} (h : PSs X st t) (k : ∀ D σ H, t' D σ H → t D σ H) : PSs X st t' := ⟨fun pins s σ H D I q => h.run pins s σ H D I (k _ _ _ q)⟩
variable {W : WX} {a b c e : Expr} {ma mb mc : SE} {pos : Pos}
theorem ge_var (i : Nat) {x : Str} (hN : X.N[i]? = some x := by rfl) (hv : Vis X.env.scope x := by first | exact Or.inl rfl | exact Or.inr (Or.inl rfl) | exact Or.inr (Or.inr rfl)) (hd : (x == ("__debug__" : Str)) = false := by decide)
    (hcd : (x == ("__classdict__" : Str)) = false := by decide) : GE X W (.Name x pos) (eVar i) := (pe_var hN hv hd hcd).imp fun σ H Q ⟨ι, ρ, S, s, r, p⟩ => by
  unfold eVar at p
  cases g : ρ[i]? with
  | none => rw [g] at p; exact p.elim
  | some o =>
    cases o with
    | none => rw [g] at p; exact p.elim
    | some d =>
      rw [g] at p
      obtain ⟨v, hv, hr⟩ := r.2 i d g
      exact ⟨v, hv, Po.ret p s hr⟩
theorem ge_c {v : V} {d : D} (h : PE X e (tC v)) (r : ∀ ι H, Rep X.KW ι H d v) : GE X W e (eC d) := h.imp fun σ H Q ⟨ι, ρ, S, s, _, p⟩ => Po.ret p s (r ι H)
theorem ge_int {i j} : GE X W (.Constant (.int i) j pos) (eC (.int i)) := ge_c pe_int fun _ _ => by rw [Rep]
theorem ge_bl {b j} : GE X W (.Constant (.bool b) j pos) (eC (.bl b)) := ge_c pe_bl fun _ _ => by rw [Rep]
theorem ge_non {j} : GE X W (.Constant .none j pos) (eC .non) := ge_c pe_non fun _ _ => by rw [Rep]
theorem ge_str {x : Str} {s : List Nat} {j} (h : x = str s := by decide +kernel) (h2 : (s.all fun c => decide (c < 128)) = true := by decide +kernel) : GE X W (.Constant (.str x) j pos) (eC (.str s)) :=
  ge_c pe_str fun _ _ => by rw [Rep]; exact ⟨by rw [h], fun c hc => of_decide_eq_true (List.all_eq_true.mp h2 c hc)⟩
def r2 (X : Cx) (f : D → D → Store → M D) : R2 := fun x y H Q => ∃ ι S d e, Sim X.KW ι S H ∧ Rep X.KW ι H d x ∧ Rep X.KW ι H e y ∧ Po (Rep X.KW) X.KW X.mg ι H Q (fun _ _ _ => False) (f d e S)
def NoEx (f : D → D → Store → M D) : Prop := ∀ d e S c S', f d e S ≠ some (.ex c S')
theorem Po.noex {α β : Type} {R : List Addr → Hp → α → β → Prop} {K mg ι H} {Q : β → Hp → Prop} {E E' : XK} {m : M α} (h : Po R K mg ι H Q E m) (n : ∀ c S', m ≠ some (.ex c S')) : Po R K mg ι H Q E' m := by
  match m, h with
  | some (.ok a S), h => exact h
  | some (.ex c S), h => exact absurd rfl (n c S)
theorem e2_read {f : D → D → Store → M D} (n : NoEx f) {σ : L2.St} {H : Hp} {Q : VK} (h : tE X.KW X.mg W (e2 f ma mb) σ H Q) : tOp (r2 X f) (tE X.KW X.mg W ma) (tE X.KW X.mg W mb) σ H Q := by
  obtain ⟨ι, ρ, S, s, r, p⟩ := h
  refine ⟨ι, ρ, S, s, r, Po.bd p fun d S1 ι1 H1 x e1 s1 r1 p1 => ?_⟩
  refine ⟨ι1, ρ, S1, s1, r.ext e1, Po.bd p1 fun d' S2 ι2 H2 y e2 s2 r2 p2 => ?_⟩
  exact ⟨ι2, S2, d, d', s2, Rep.ext e2 _ _ r1, r2, p2.noex fun c S' => n d d' S2 c S'⟩
theorem ge_op {op : Operator} {f : D → D → Store → M D} (n : NoEx f) (ho : OpR X (binaryOp op) (r2 X f)) (ha : GE X W a ma) (hb : GE X W b mb) : GE X W (.BinOp a op b pos) (e2 f ma mb) := (pe_op ho ha hb).imp fun σ H Q h => e2_read n h
theorem ge_cmp {op : CmpOp} {f : D → D → Store → M D} (n : NoEx f) (ho : OpR X (compareOp op) (r2 X f)) (ha : GE X W a ma) (hb : GE X W b mb) (hm : behindInMarks op b = false := by first | exact nobehind _ (by decide) (by decide) | rfl) :
    GE X W (.Compare a [op] [b] pos) (e2 f ma mb) := (pe_cmpR ho ha hb hm).imp fun σ H Q h => e2_read n h
theorem chain_read {f g : D → D → Store → M D} (n : NoEx f) (n' : NoEx g) {σ : L2.St} {H : Hp} {Q : VK} (h : tE X.KW X.mg W (eCh f g ma mb mc) σ H Q) : tChain (r2 X f) (r2 X g) (tE X.KW X.mg W ma) (tE X.KW X.mg W mb) (tE X.KW X.mg W mc) σ H Q := by
  obtain ⟨ι, ρ, S, s, r, p⟩ := h
  refine ⟨ι, ρ, S, s, r, Po.bd p fun d S1 ι1 H1 x e1 s1 r1 p1 => ?_⟩
  refine ⟨ι1, ρ, S1, s1, r.ext e1, Po.bd p1 fun d' S2 ι2 H2 y e2 s2 q2 p2 => ?_⟩
  refine ⟨ι2, S2, d, d', s2, Rep.ext e2 _ _ r1, q2, ?_⟩
  refine Po.noex (Po.bd p2 fun z S3 ι3 H3 w e3 s3 r3 p3 => ?_) fun c S' => n d d' S2 c S'
  cases z with
  | bl k =>
    rw [Rep] at r3
    subst r3
    refine ⟨k, rfl, ?_⟩
    cases k with
    | true =>
      rw [if_pos rfl]
      refine ⟨ι3, ρ, S3, s3, ((r.ext e1).ext e2).ext e3, Po.bd p3 fun z4 S4 ι4 H4 u e4 s4 r4 p4 => ?_⟩
      exact ⟨ι4, S4, d', z4, s4, Rep.ext e4 _ _ (Rep.ext e3 _ _ q2), r4, p4.noex fun c S' => n' d' z4 S4 c S'⟩
    | false =>
      rw [if_neg Bool.false_ne_true]
      exact Po.ret p3 s3 (by rw [Rep])
  | _ => exact p3.elim
theorem ge_un {op : UnaryOp} {f : D → Store → M D} (n : ∀ d S c S', f d S ≠ some (.ex c S')) (ho : UnR X (unaryOp op) (fun x H Q => ∃ ι S d, Sim X.KW ι S H ∧ Rep X.KW ι H d x ∧ Po (Rep X.KW) X.KW X.mg ι H Q (fun _ _ _ => False) (f d S))) (ha : GE X W a ma) :
    GE X W (.UnaryOp op a pos) (e1 f ma) := (pe_un ho ha).imp fun σ H Q h => by
  obtain ⟨ι, ρ, S, s, r, p⟩ := h
  refine ⟨ι, ρ, S, s, r, Po.bd p fun d S1 ι1 H1 x e1 s1 r1 p1 => ?_⟩
  exact ⟨ι1, S1, d, s1, r1, p1.noex fun c S' => n d S1 c S'⟩
theorem ga_nil : GA X W [] [] := pa_nil.imp fun σ H Q ⟨ι, ρ, S, s, r, p⟩ => Po.ret p s (by rw [RepL])
theorem ga_cons {es : List Expr} {ms : List SE} (ha : GE X W e ma) (hr : GA X W es ms) (hs : starEach (e :: es) X.env = (false, eval e X.env) :: starEach es X.env := by rfl) : GA X W (e :: es) (ma :: ms) := (pa_cons ha hr hs).imp fun σ H Q h => by
  obtain ⟨ι, ρ, S, s, r, p⟩ := h
  refine ⟨ι, ρ, S, s, r, Po.bd p fun d S1 ι1 H1 x e1 s1 r1 p1 => ?_⟩
  refine ⟨ι1, ρ, S1, s1, r.ext e1, Po.bd p1 fun ds S2 ι2 H2 ys e2 s2 r2 p2 => ?_⟩
  exact Po.ret p2 s2 (by rw [RepL]; exact ⟨x, ys, rfl, Rep.ext e2 _ _ r1, r2⟩)
theorem evL_length : ∀ {ms : List SE} {ρ : Env} {S S' : Store} {ds : List D}, evL ms ρ S = some (.ok ds S') → ds.length = ms.length
  | [], _, _, _, _, h => by cases h; rfl
  | m :: ms, ρ, S, S', ds, h => by
    unfold evL at h
    match g : m ρ S, h with
    | some (.ok x S1), h =>
      simp only [bd_ok] at h
      match g2 : evL ms ρ S1, h with
      | some (.ok xs S2), h =>
        simp only [bd_ok] at h
        cases h
        simp [evL_length g2]
      | some (.ex _ _), h => simp at h
      | none, h => simp at h
    | some (.ex _ _), h => simp at h
    | none, h => simp at h
theorem Po.evL {ms : List SE} {ρ : Env} {S : Store} {ι : List Addr} {H : Hp} {α' β' : Type} {R' : List Addr → Hp → α' → β' → Prop} {Q : List V → Hp → Prop} {Q' : β' → Hp → Prop} {E : XK} {f : List D → Store → M α'}
    (h : Po R' X.KW X.mg ι H Q' E (Z.bd (Z.evL ms ρ S) f)) (k : ∀ ds S ι1 H1 vs, ds.length = ms.length → Ext ι H ι1 H1 → Sim X.KW ι1 S H1 → RepL X.KW ι1 H1 ds vs → Po R' X.KW X.mg ι1 H1 Q' E (f ds S) → Q vs H1) : Po (RepL X.KW) X.KW X.mg ι H Q E (Z.evL ms ρ S) := by
  match g : Z.evL ms ρ S, h with
  | some (.ok a S), h => exact fun ι1 H1 x e s r => k a S ι1 H1 x (evL_length g) e s r (Po.mono e h)
  | some (.ex c S), h => exact h
  | none, h => exact h
theorem Sim.newTup {K : KW} {mg : Mg} {ι : List Addr} {S : Store} {H : Hp} {ds : List D} {vs : List V} {Q : VK} {E : XK} {p : Addr} (s : Sim K ι S H) (hp : H p = none) (r : RepL K ι H ds vs) (po : Po (Rep K) K mg ι H Q E (some (.ok (.tup ds) S))) : NewT H p vs Q := by
  cases c : ds.all k0
  · refine .inr fun o ho => ?_
    have e := ext_tup (ι := ι) (o := .frz o (.tup vs)) hp
    exact Po.ret (Po.mono e po) (s.tup hp) (by rw [Rep]; exact ⟨p, vs, rfl, by rw [c]; exact ⟨o, ho, upd_same⟩, RepL.ext e _ _ r⟩)
  · refine .inl ?_
    have e := ext_tup (ι := ι) (o := .tup vs) hp
    exact Po.ret (Po.mono e po) (s.tup hp) (by rw [Rep]; exact ⟨p, vs, rfl, by rw [c]; exact upd_same, RepL.ext e _ _ r⟩)
theorem ge_tup {es : List Expr} {ms : List SE} {x1} (h : GA X W es ms) (hl : ms.length ≤ 1000 := by exact Nat.le_of_ble_eq_true rfl) : GE X W (.Tuple es x1 pos) (eTup ms) := (pe_tup2 h).imp fun σ H Q h => by
  obtain ⟨ι, ρ, S, s, r, p⟩ := h
  refine ⟨ι, ρ, S, s, r, Po.evL p fun ds S1 ι1 H1 vs hd e1 s1 r1 p1 => ⟨?_, fun q hq => ?_⟩⟩
  · rw [r1.length, hd]; exact Nat.le_trans hl (by decide)
  · exact s1.newTup hq r1 p1
theorem Sim.newL {K : KW} {ι : List Addr} {S : Store} {H : Hp} (s : Sim K ι S H) {p : Addr} {ds : List D} {vs : List V} (hp : H p = none) (r : RepL K ι H ds vs) : Sim K (ι ++ [p]) (S ++ [.lst ds]) (upd H p (.lst vs)) :=
  s.new hp ⟨vs, upd_same, RepL.ext (ext_new hp) _ _ r⟩
theorem Rep.newL {K : KW} {ι : List Addr} {S : Store} {H H' : Hp} (s : Sim K ι S H) {p : Addr} : Rep K (ι ++ [p]) H' (.ref S.length) (.ref p) := by
  rw [Rep]
  exact ⟨p, rfl, by rw [← s.len, List.getElem?_append_right (Nat.le_refl _)]; simp⟩
theorem ge_lst {es : List Expr} {ms : List SE} (h : GA X W es ms) (hl : ms.length ≤ 1000 := by exact Nat.le_of_ble_eq_true rfl) : GE X W (.List es pos) (eLst ms) := (pe_lst h).imp fun σ H Q h => by
  obtain ⟨ι, ρ, S, s, r, p⟩ := h
  refine ⟨ι, ρ, S, s, r, Po.evL p fun ds S1 ι1 H1 vs hd e1 s1 r1 p1 => ⟨?_, fun q hq => ?_⟩⟩
  · rw [r1.length, hd]; exact Nat.le_trans hl (by decide)
  · exact Po.ret (Po.mono (ext_new (t := [q]) (o := .lst vs) hq) p1) (s1.newL hq r1) (Rep.newL s1)
/-- what a def promises: its meaning -/
def spF (K : KW) (mg : Mg) (F : Fn) : Sp := fun vs H Q E => ∃ ι S ds, Sim K ι S H ∧ RepL K ι H ds vs ∧ Po (Rep K) K mg ι H Q E (F ds S)
/-- a def of the module -/
structure GF (P : Program) (w : World) (K : PySem.W.Frag) (mg : Mg) (base : Heap) (x : Str) (k : Nat) (F : Fn) : Prop where
  ex : ∃ f fd ps, mg x = some (.ref f) ∧ PySem.W.keepIn K (.ref f) = true ∧ Binds K fd ps [] ∧ FnG P w K mg base (L2.CX P w) k f fd ps (spF ⟨K, P, w⟩ mg F)
theorem ge_call {x : Str} {p : Pos} {k : Nat} {F : Fn} {es : List Expr} {ms : List SE} (G : GF X.prog X.w X.KW X.mg X.base x k F) (hr : RoomG k X.A) (tk : Takes X W) (hg : Gl X x) (ha : GA X W (e :: es) ms)
    (hdb : (x == ("__debug__" : Str)) = false := by decide) (he : starEach (e :: es) X.env = (false, eval e X.env) :: starEach es X.env := by rfl) (hpl : (backTo pos (starEach es X.env)).any (·.1) = false := by rfl) :
    GE X W (.Call (.Name x p) (e :: es) [] pos) (eCall F ms) := by
  obtain ⟨f, fd, ps, hm, hk, hb, G⟩ := G.ex
  refine (pe_callG (E := fun σ cls d H' => W cls d σ H') G hr hg hm hk hb .nil (fun σ => passAt tk σ) ha hdb he hpl).imp fun σ H Q h => ?_
  obtain ⟨ι, ρ, S, s, r, p⟩ := h
  refine ⟨ι, ρ, S, s, r, Po.evL p fun ds S1 ι1 H1 vs hd e1 s1 r1 p1 => ?_⟩
  rw [List.append_nil]
  exact ⟨ι1, S1, ds, s1, r1, p1⟩
/-- a built-in by values -/
def rB (X : Cx) (F : Fn) : List V → Hp → VK → Prop := fun vs H Q => ∃ ι S ds, Sim X.KW ι S H ∧ RepL X.KW ι H ds vs ∧ Po (Rep X.KW) X.KW X.mg ι H Q (fun _ _ _ => False) (F ds S)
def NoExF (F : Fn) : Prop := ∀ ds S c S', F ds S ≠ some (.ex c S')
theorem ge_callB {x : Str} {id : String} {p : Pos} {F : Fn} {es : List Expr} {ms : List SE} (n : NoExF F) (hc : CallR X (.builtin id) (rB X F)) (hg : Gl X x) (hm : X.mg x = none) (hv : bootBuiltins x = some (.builtin id)) (ha : GA X W (e :: es) ms)
    (hn : x ≠ "__name__" := by decide) (hdb : (x == ("__debug__" : Str)) = false := by decide) (he : starEach (e :: es) X.env = (false, eval e X.env) :: starEach es X.env := by rfl) (hpl : (backTo pos (starEach es X.env)).any (·.1) = false := by rfl) :
    GE X W (.Call (.Name x p) (e :: es) [] pos) (eCall F ms) := (pe_callB hc hg hm hv ha hn hdb he hpl).imp fun σ H Q h => by
  obtain ⟨ι, ρ, S, s, r, p⟩ := h
  refine ⟨ι, ρ, S, s, r, Po.evL p fun ds S1 ι1 H1 vs hd e1 s1 r1 p1 => ?_⟩
  exact ⟨ι1, S1, ds, s1, r1, p1.noex fun c S' => n ds S1 c S'⟩
theorem ge_callTy {x : Str} {T : String} {p : Pos} {F : Fn} {es : List Expr} {ms : List SE} (n : NoExF F) (hc : CallR X (.type T) (rB X F)) (hg : Gl X x) (hm : X.mg x = none) (hv : bootBuiltins x = some (.type T)) (ha : GA X W (e :: es) ms)
    (hn : x ≠ "__name__" := by decide) (hdb : (x == ("__debug__" : Str)) = false := by decide) (he : starEach (e :: es) X.env = (false, eval e X.env) :: starEach es X.env := by rfl) (hpl : (backTo pos (starEach es X.env)).any (·.1) = false := by rfl) :
    GE X W (.Call (.Name x p) (e :: es) [] pos) (eCall F ms) := (pe_callTy hc hg hm hv ha hn hdb he hpl).imp fun σ H Q h => by
  obtain ⟨ι, ρ, S, s, r, p⟩ := h
  refine ⟨ι, ρ, S, s, r, Po.evL p fun ds S1 ι1 H1 vs hd e1 s1 r1 p1 => ?_⟩
  exact ⟨ι1, S1, ds, s1, r1, p1.noex fun c S' => n ds S1 c S'⟩
theorem ge_one {op} (h : GE X W a ma) : GE X W (.BoolOp op [a] pos) ma := pe_one h
theorem ge_and {rest : List Expr} (ha : GE X W a ma) (hb : GE X W (.BoolOp .And (b :: rest) pos) mb) : GE X W (.BoolOp .And (a :: b :: rest) pos) (eAnd ma mb) := (pe_and ha hb).imp fun σ H Q h => by
  obtain ⟨ι, ρ, S, s, r, p⟩ := h
  refine ⟨ι, ρ, S, s, r, Po.bd p fun d S1 ι1 H1 x e1 s1 r1 p1 => ?_⟩
  cases d with
  | bl k =>
    rw [Rep] at r1
    refine ⟨k, r1, ?_⟩
    cases k with
    | true => rw [if_pos rfl]; exact ⟨ι1, ρ, S1, s1, r.ext e1, p1⟩
    | false => rw [if_neg Bool.false_ne_true]; exact Po.ret p1 s1 (by rw [Rep])
  | _ => exact p1.elim
theorem tVal_read {m : SE} {σ : L2.St} {H : Hp} {Q : Bool → Hp → Prop} (h : tT X.KW X.mg W (tVal m) σ H Q) : tE X.KW X.mg W m σ H fun x H1 => ∃ k, x = .bl k ∧ Q k H1 := by
  obtain ⟨ι, ρ, S, s, r, p⟩ := h
  refine ⟨ι, ρ, S, s, r, Po.bd p fun d S1 ι1 H1 x e1 s1 r1 p1 => ?_⟩
  cases d with
  | bl k =>
    rw [Rep] at r1
    exact ⟨k, r1, Po.ret p1 s1 rfl⟩
  | _ => exact p1.elim
/-- an expression that gives True or False, as a test -/
theorem gt_val {m : SE} (h : GE X W e m) (he : ∀ whole, isTrue e X.env whole = (do let v ← whole; standAt e.pos; holding [v] (truthy v)) := by intro _; rfl) : GT X W e (tVal m) := (pt_val h he).imp fun σ H Q h => tVal_read h
theorem gt_cmp {op : CmpOp} {f : D → D → Store → M D} (n : NoEx f) (ho : OpR X (compareOp op) (r2 X f)) (ha : GE X W a ma) (hb : GE X W b mb) (hm : behindInMarks op b = false := by first | exact nobehind _ (by decide) (by decide) | rfl) :
    GT X W (.Compare a [op] [b] pos) (tVal (e2 f ma mb)) := (pt_cmpR ho ha hb hm).imp fun σ H Q h => e2_read n (tVal_read h)
theorem gt_chain {op op' : CmpOp} {f g : D → D → Store → M D} (n : NoEx f) (n' : NoEx g) (ho : OpR X (compareOp op) (r2 X f)) (ho' : OpR X (compareOp op') (r2 X g)) (ha : GE X W a ma) (hb : GE X W b mb) (hc : GE X W c mc)
    (hm : lastMarks [op, op'] [b, c] = false := by with_unfolding_all rfl) : GT X W (.Compare a [op, op'] [b, c] pos) (tVal (eCh f g ma mb mc)) := (pt_chain ho ho' ha hb hc hm).imp fun σ H Q h => chain_read n n' (tVal_read h)
variable {ta tb : ST}
theorem gw_and1 (ha : GT X W a ta) : GW X W (.BoolOp .And [a] pos) ta := pw_and1 ha
theorem gw_or1 (ha : GT X W a ta) : GW X W (.BoolOp .Or [a] pos) ta := pw_or1 ha
theorem gw_and {rest : List Expr} (ha : GT X W a ta) (hb : GW X W (.BoolOp .And (b :: rest) pos) tb) : GW X W (.BoolOp .And (a :: b :: rest) pos) (tAnd ta tb) := (pw_and ha hb).imp fun σ H Q h => by
  obtain ⟨ι, ρ, S, s, r, p⟩ := h
  refine ⟨ι, ρ, S, s, r, Po.bd p fun d S1 ι1 H1 x e1 s1 r1 p1 => ?_⟩
  obtain rfl : x = d := r1
  cases x with
  | true => rw [if_pos rfl] at p1 ⊢; exact ⟨ι1, ρ, S1, s1, r.ext e1, p1⟩
  | false => rw [if_neg Bool.false_ne_true] at p1 ⊢; exact Po.ret p1 s1 rfl
theorem gw_or {rest : List Expr} (ha : GT X W a ta) (hb : GW X W (.BoolOp .Or (b :: rest) pos) tb) : GW X W (.BoolOp .Or (a :: b :: rest) pos) (tOr ta tb) := (pw_or ha hb).imp fun σ H Q h => by
  obtain ⟨ι, ρ, S, s, r, p⟩ := h
  refine ⟨ι, ρ, S, s, r, Po.bd p fun d S1 ι1 H1 x e1 s1 r1 p1 => ?_⟩
  obtain rfl : x = d := r1
  cases x with
  | true => rw [if_pos rfl] at p1 ⊢; exact Po.ret p1 s1 rfl
  | false => rw [if_neg Bool.false_ne_true] at p1 ⊢; exact ⟨ι1, ρ, S1, s1, r.ext e1, p1⟩
theorem GW.gt (h : GW X W e ta) : GT X W e ta := L2.PW.pt h
theorem gt_not (ha : GT X W a ta) : GT X W (.UnaryOp .Not a pos) (tNot ta) := (pt_not ha).imp fun σ H Q h => by
  obtain ⟨ι, ρ, S, s, r, p⟩ := h
  refine ⟨ι, ρ, S, s, r, Po.bd p fun d S1 ι1 H1 x e1 s1 r1 p1 => ?_⟩
  obtain rfl : x = d := r1
  exact Po.ret p1 s1 rfl
end
end Z
namespace Z
open PySem PySem.Spec PyProof.Rows L2
section
variable {X : Cx} {W : WX} {a b c e : Expr} {ma mb mc : SE} {pos : Pos}
theorem gss_nil : GSs X W [] sNx := pss_nil.imp fun D σ H ⟨ι, ρ, S, s, r, p⟩ => p ι H σ .refl s r
theorem gss_cons {st : Stmt} {rest : List Stmt} {m m' : SS} (h1 : GS X W st m) (h2 : GSs X W rest m') : GSs X W (st :: rest) (sq m m') := (pss_cons h1 h2).imp fun D σ H ⟨ι, ρ, S, s, r, p⟩ => by
  refine ⟨ι, ρ, S, s, r, ?_⟩
  unfold sq at p
  match g : m ρ S, p with
  | none, p => exact p
  | some (.nx ρ1 S1), p => exact fun ι1 H1 σ1 e1 s1 r1 => ⟨ι1, ρ1, S1, s1, r1, PoS.mono e1 p⟩
  | some (.rt d S1), p => exact p
  | some (.bk ρ1 S1), p => exact p
  | some (.ct ρ1 S1), p => exact p
  | some (.ex c ρ1 S1), p => exact p
theorem gss_one {st : Stmt} {m : SS} (h1 : GS X W st m) : GSs X W [st] m := pss_one h1
theorem gs_expr (he : GE X W e ma) (hs : swapsWith e none pos.line X.env = pure false := by rfl) : GS X W (.Expr e pos) (sExp ma) := (ps_expr he hs).imp fun D σ H ⟨ι, ρ, S, s, r, p⟩ =>
  ⟨ι, ρ, S, s, r, PoS.bo r p fun d S1 ι1 H1 x e1 s1 r1 r2 p1 => p1 ι1 H1 σ .refl s1 r2⟩
theorem gs_ret (he : GE X W e ma) : GS X W (.Return (some e) pos) (sRet ma) := (ps_ret he).imp fun D σ H ⟨ι, ρ, S, s, r, p⟩ =>
  ⟨ι, ρ, S, s, r, PoS.bo r p fun d S1 ι1 H1 x e1 s1 r1 r2 p1 => p1 ι1 H1 x .refl s1 r1⟩
theorem gs_if {t : ST} {p q : List Stmt} {m m' : SS} (hc : GT X W c t) (ha : GSs X W p m) (hb : GSs X W q m') : GS X W (.If c p q pos) (sIf t m m') := (ps_if hc ha hb).imp fun D σ H ⟨ι, ρ, S, s, r, p⟩ => by
  refine ⟨ι, ρ, S, s, r, PoS.bo r p fun d S1 ι1 H1 x e1 s1 r1 r2 p1 => ?_⟩
  obtain rfl : x = d := r1
  cases x with
  | true => rw [if_pos rfl] at p1 ⊢; exact ⟨ι1, ρ, S1, s1, r2, p1⟩
  | false => rw [if_neg Bool.false_ne_true] at p1 ⊢; exact ⟨ι1, ρ, S1, s1, r2, p1⟩
/-- σ' is σ but at these places -/
def Off (sl : List Nat) (σ σ' : L2.St) : Prop := σ'.length = σ.length ∧ ∀ i, i ∉ sl → σ'[i]? = σ[i]?
theorem Off.refl {sl : List Nat} {σ : L2.St} : Off sl σ σ := ⟨rfl, fun _ _ => rfl⟩
theorem Off.trans {sl sl' : List Nat} {σ σ' σ'' : L2.St} (a : Off sl σ σ') (b : Off sl' σ' σ'') : Off (sl ++ sl') σ σ'' :=
  ⟨b.1.trans a.1, fun i h => by simp only [List.mem_append, not_or] at h; exact (b.2 i h.2).trans (a.2 i h.1)⟩
theorem wipe_get (σ : L2.St) : ∀ (vs : List Nat) (i : Nat), (L2.wipe σ vs)[i]? = if i ∈ vs ∧ i < σ.length then some none else σ[i]?
  | [], i => by simp [L2.wipe]
  | v :: vs, i => by
    unfold L2.wipe
    by_cases hv : v = i
    · subst hv
      by_cases hl : v < σ.length
      · rw [List.getElem?_set_self (by rw [L2.wipe_length]; exact hl)]
        simp [hl]
      · rw [List.getElem?_eq_none (by simp [L2.wipe_length]; omega)]
        simp [hl]
    · rw [List.getElem?_set_ne hv, wipe_get σ vs i]
      have : (i ∈ v :: vs) ↔ i ∈ vs := by simp [Ne.symm hv]
      simp [this]
theorem Off.wipe {sl own : List Nat} {σ σ' : L2.St} (h : Off sl σ σ') (k : ∀ i ∈ sl, i ∈ own) : L2.wipe σ' own = L2.wipe σ own := by
  apply List.ext_getElem?
  intro i
  rw [wipe_get, wipe_get, h.1]
  by_cases hi : i ∈ own
  · by_cases hl : i < σ.length
    · simp [hi, hl]
    · have h1 : σ[i]? = none := List.getElem?_eq_none (by omega)
      have h2 : σ'[i]? = none := List.getElem?_eq_none (by rw [h.1]; omega)
      simp [hl, h1, h2]
  · simp only [hi, false_and, if_false]
    exact h.2 i fun z => hi (k i z)
def tG (K : KW) (g : SG) (sl : List Nat) : TG := fun v σ H Q => ∃ ι ρ S d ρ' S', Sim K ι S H ∧ EnvR K ι H ρ σ ∧ Rep K ι H d v ∧ g d ρ S = some (ρ', S') ∧
  ∀ ι' H' σ', Ext ι H ι' H' → Sim K ι' S' H' → EnvR K ι' H' ρ' σ' → Off sl σ σ' → Q σ' H'
def tGs (K : KW) (gs : List SG) (sl : List Nat) : TGs := fun vs σ H Q => ∃ ι ρ S ds ρ' S', Sim K ι S H ∧ EnvR K ι H ρ σ ∧ RepL K ι H ds vs ∧ gAll gs ds ρ S = some (ρ', S') ∧
  ∀ ι' H' σ', Ext ι H ι' H' → Sim K ι' S' H' → EnvR K ι' H' ρ' σ' → Off sl σ σ' → Q σ' H'
def GG (X : Cx) (e : Expr) (g : SG) (sl : List Nat) : Prop := PG X e (tG X.KW g sl)
def GGs (X : Cx) (es : List Expr) (gs : List SG) (sl : List Nat) : Prop := PGs X es (tGs X.KW gs sl)
theorem _root_.L2.PG.imp {e : Expr} {t t' : TG} (h : PG X e t) (k : ∀ v σ H Q, t' v σ H Q → t v σ H Q) : PG X e t' := ⟨fun pins s σ H v u Q I r q => h.run pins s σ H v u Q I r (k _ _ _ _ q)⟩
theorem _root_.L2.PGs.imp {es : List Expr} {t t' : TGs} (h : PGs X es t) (k : ∀ v σ H Q, t' v σ H Q → t v σ H Q) : PGs X es t' := ⟨fun pins s σ H v u Q I r q => h.run pins s σ H v u Q I r (k _ _ _ _ q)⟩
theorem gg_name (i : Nat) {x : Str} (hN : X.N.Nodup) (hi : X.N[i]? = some x := by rfl) (hx : Loc X.env.scope x := by first | exact Or.inl rfl | exact Or.inr rfl) (hf : X.fn x = true ∨ X.env.scope.names.lookup x = some .local := by first | exact .inl rfl | exact .inr rfl) : GG X (.Name x pos) (gName i) [i] :=
  (pg_name hN hi hx hf).imp fun v σ H Q ⟨ι, ρ, S, d, ρ', S', s, r, rd, g, k⟩ => by
    unfold Z.gName at g
    cases g
    exact k ι H _ .refl s (r.set rd) ⟨by simp, fun j hj => by rw [List.getElem?_set_ne (by rintro rfl; simp at hj)]⟩
theorem ggs_nil : GGs X [] [] [] := pgs_nil.imp fun vs σ H Q ⟨ι, ρ, S, ds, ρ', S', s, r, rd, g, k⟩ => by
  match ds, g with
  | [], g =>
    unfold gAll at g
    cases g
    rw [RepL] at rd
    exact ⟨rd, k ι H σ .refl s r .refl⟩
  | _ :: _, g => unfold gAll at g; cases g
theorem ggs_cons {es : List Expr} {g : SG} {gs : List SG} {sl sl' : List Nat} (h1 : GG X e g sl) (h2 : GGs X es gs sl')
    (hs : (assignEach (e :: es) X.env).map (·.2) = assign e X.env :: (assignEach es X.env).map (·.2) := by rfl) : GGs X (e :: es) (g :: gs) (sl ++ sl') := (pgs_cons h1 h2 hs).imp fun vs σ H Q ⟨ι, ρ, S, ds, ρ', S', s, r, rd, q, k⟩ => by
  match ds, q with
  | [], q => unfold gAll at q; cases q
  | d :: ds, q =>
    unfold gAll at q
    rw [RepL] at rd
    obtain ⟨v, vr, rfl, rv, rr⟩ := rd
    refine ⟨v, vr, rfl, ?_⟩
    match q1 : g d ρ S, q with
    | some (ρ1, S1), q =>
      refine ⟨ι, ρ, S, d, ρ1, S1, s, r, rv, q1, fun ι1 H1 σ1 e1 s1 r1 o1 => ?_⟩
      exact ⟨ι1, ρ1, S1, ds, ρ', S', s1, r1, RepL.ext e1 _ _ rr, q, fun ι2 H2 σ2 e2 s2 r2 o2 => k ι2 H2 σ2 (e1.trans e2) s2 r2 (o1.trans o2)⟩
theorem gAll_len : ∀ {gs : List SG} {ds : List D} {ρ : Env} {S : Store} {o : Env × Store}, gAll gs ds ρ S = some o → ds.length = gs.length
  | [], [], _, _, _, _ => rfl
  | [], _ :: _, _, _, _, h => by unfold gAll at h; cases h
  | _ :: _, [], _, _, _, h => by unfold gAll at h; cases h
  | g :: gs, d :: ds, ρ, S, o, h => by
    unfold gAll at h
    match q : g d ρ S, h with
    | some (ρ1, S1), h => simp [gAll_len h]
theorem gg_tup {es : List Expr} {k : Nat} {gs : List SG} {sl : List Nat} (hc : X.calm = true) (h : GGs X es gs sl) (hn : (assignEach es X.env).length = gs.length := by rfl) (hst : (assignEach es X.env).findIdx? (·.1) = none := by rfl) : GG X (.Tuple es k pos) (Z.gTup gs) sl :=
  (pg_tup (n := gs.length) hc h hn hst).imp fun v σ H Q ⟨ι, ρ, S, d, ρ', S', s, r, rd, q, k⟩ => by
    match d, q with
    | .tup ds, q =>
      rw [Rep] at rd
      obtain ⟨a, vs, rfl, h1, h2⟩ := rd
      have q' : gAll gs ds ρ S = some (ρ', S') := q
      exact ⟨a, vs, rfl, h1.sq, by rw [h2.length, gAll_len q'], ι, ρ, S, ds, ρ', S', s, r, h2, q', k⟩
theorem gs_asg {tg : Expr} {g : SG} {sl : List Nat} (he : GE X W e ma) (hg : GG X tg g sl) (hs : swapsWithSole [tg] e pos.line X.env = pure false := by rfl) (hw : swappedStores [tg] e X.env = pure none := by rfl)
    (h1 : (assignEach [tg] X.env).map (·.2) = [assign tg X.env] := by rfl) : GS X W (.Assign [tg] e pos) (sAsg ma g) := (ps_asg he hg hs hw h1).imp fun D σ H ⟨ι, ρ, S, s, r, p⟩ => by
  refine ⟨ι, ρ, S, s, r, PoS.bo r p fun d S1 ι1 H1 x e1 s1 r1 r2 p1 => ?_⟩
  match q : g d ρ S1, p1 with
  | some (ρ2, S2), p1 => exact ⟨ι1, ρ, S1, d, ρ2, S2, s1, r2, r1, q, fun ι2 H2 σ2 e2 s2 r3 _ => p1 ι2 H2 σ2 e2 s2 r3⟩
theorem gs_set (i : Nat) {x : Str} {pos' : Pos} (hN : X.N.Nodup) (he : GE X W e ma) (hi : X.N[i]? = some x := by rfl) (hx : Loc X.env.scope x := by first | exact Or.inl rfl | exact Or.inr rfl) (hs : swapsWith e (some (.Name x pos')) pos.line X.env = pure false := by rfl) (hf : X.fn x = true ∨ X.env.scope.names.lookup x = some .local := by first | exact .inl rfl | exact .inr rfl) :
    GS X W (.Assign [.Name x pos'] e pos) (sAsg ma (Z.gName i)) := (ps_set hN hi hx he hs hf).imp fun D σ H ⟨ι, ρ, S, s, r, p⟩ => by
  refine ⟨ι, ρ, S, s, r, PoS.bo r p fun d S1 ι1 H1 x e1 s1 r1 r2 p1 => ?_⟩
  exact p1 ι1 H1 _ .refl s1 (r2.set r1)
/-- the loop ends within n turns, so -/
def whN (t : ST) (b : SS) : Nat → Env → Store → Out → Prop
  | 0, _, _, _ => False
  | n + 1, ρ, S, o => match t ρ S with
    | none => False
    | some (.ex c S1) => o = .ex c ρ S1
    | some (.ok false S1) => o = .nx ρ S1
    | some (.ok true S1) => match b ρ S1 with
      | none => False
      | some (.nx ρ2 S2) => whN t b n ρ2 S2 o
      | some (.ct ρ2 S2) => whN t b n ρ2 S2 o
      | some (.bk ρ2 S2) => o = .nx ρ2 S2
      | some (.rt d S2) => o = .rt d S2
      | some (.ex c ρ2 S2) => o = .ex c ρ2 S2
theorem sWh_ends (t : ST) (b : SS) : ∀ (ρ : Env) (S : Store) (o : Out), sWh t b ρ S = some o → ∃ n, whN t b n ρ S o :=
  sWh.partial_correctness t b (fun ρ S o => ∃ n, whN t b n ρ S o) fun f ih ρ S o h => by
    match g : t ρ S, h with
    | none, h => cases h
    | some (.ex c S1), h => cases h; exact ⟨1, by unfold whN; rw [g]⟩
    | some (.ok false S1), h => cases h; exact ⟨1, by unfold whN; rw [g]⟩
    | some (.ok true S1), h =>
      dsimp only at h
      match g2 : b ρ S1, h with
      | none, h => cases h
      | some (.nx ρ2 S2), h => obtain ⟨n, q⟩ := ih ρ2 S2 o h; exact ⟨n + 1, by unfold whN; rw [g]; simp only [g2]; exact q⟩
      | some (.ct ρ2 S2), h => obtain ⟨n, q⟩ := ih ρ2 S2 o h; exact ⟨n + 1, by unfold whN; rw [g]; simp only [g2]; exact q⟩
      | some (.bk ρ2 S2), h => cases h; exact ⟨1, by unfold whN; rw [g]; simp only [g2]⟩
      | some (.rt d S2), h => cases h; exact ⟨1, by unfold whN; rw [g]; simp only [g2]⟩
      | some (.ex c ρ2 S2), h => cases h; exact ⟨1, by unfold whN; rw [g]; simp only [g2]⟩
theorem gs_while {t : ST} {body : List Stmt} {m : SS} (hp : PassesOwn (model X.prog X.w) X.A X.env X.xe) (hc : GT X W c t) (hb : GSs X W body m) : GS X W (.While c body [] pos) (sWh t m) := (ps_while hp hc hb).imp fun D σ H ⟨ι, ρ, S, s, r, p⟩ => by
  match g : sWh t m ρ S, p with
  | some o, p =>
    obtain ⟨n, hn⟩ := sWh_ends t m ρ S o g
    refine ⟨fun n σ H => ∃ ι ρ S, Sim X.KW ι S H ∧ EnvR X.KW ι H ρ σ ∧ whN t m n ρ S o ∧ PoS X.KW X.mg W ι H D (some o), ⟨n, ι, ρ, S, s, r, hn, p⟩, ?_⟩
    rintro n σ H ⟨ι, ρ, S, s, r, hn, p⟩
    refine ⟨ι, ρ, S, s, r, ?_⟩
    cases n with
    | zero => exact hn.elim
    | succ n =>
      unfold whN at hn
      match g1 : t ρ S, hn with
      | some (.ex c S1), hn => subst hn; exact fun ι1 H1 cls e1 s1 g1 => p ι1 H1 σ cls e1 s1 (r.ext e1) g1
      | some (.ok false S1), hn =>
        subst hn
        intro ι1 H1 x e1 s1 r1
        obtain rfl : x = false := r1
        rw [if_neg Bool.false_ne_true]
        exact p ι1 H1 σ e1 s1 (r.ext e1)
      | some (.ok true S1), hn =>
        intro ι1 H1 x e1 s1 r1
        obtain rfl : x = true := r1
        rw [if_pos rfl]
        refine ⟨fun σ' H' => ∃ ι ρ S, Sim X.KW ι S H' ∧ EnvR X.KW ι H' ρ σ' ∧ whN t m n ρ S o ∧ PoS X.KW X.mg W ι H' D (some o), fun σ' H' h => ⟨n, Nat.lt_succ_self n, h⟩, ι1, ρ, S1, s1, r.ext e1, ?_⟩
        have p := PoS.mono e1 p
        simp only [] at hn
        match g2 : m ρ S1, hn with
        | some (.nx ρ2 S2), hn => exact fun ι2 H2 σ2 e2 s2 r2 => ⟨ι2, ρ2, S2, s2, r2, hn, PoS.mono e2 p⟩
        | some (.ct ρ2 S2), hn => exact fun ι2 H2 σ2 e2 s2 r2 => ⟨ι2, ρ2, S2, s2, r2, hn, PoS.mono e2 p⟩
        | some (.bk ρ2 S2), hn => subst hn; exact fun ι2 H2 σ2 e2 s2 r2 => p ι2 H2 σ2 e2 s2 r2
        | some (.rt d S2), hn => subst hn; exact p
        | some (.ex c ρ2 S2), hn => subst hn; exact p
/-- j walks J -/
def RItm (K : KW) (ι : List Addr) (H : Hp) (J : Itm) (j : It) : Prop := ∀ ι' H' S', Ext ι H ι' H' → Sim K ι' S' H' → J.chk S' →
  (∀ i x, J.xs[i]? = some x → j.go i H' ∧ ∀ v H'', j.yld i H' v H'' → Ext ι' H' ι' H'' ∧ Sim K ι' S' H'' ∧ Rep K ι' H'' x v) ∧ j.stop J.xs.length H'
theorem RItm.ext {K : KW} {ι ι' : List Addr} {H H' : Hp} {J : Itm} {j : It} (e : Ext ι H ι' H') (h : RItm K ι H J j) : RItm K ι' H' J j := fun ι2 H2 S2 e2 s c => h ι2 H2 S2 (e.trans e2) s c
def tI (K : KW) (mg : Mg) (W : WX) (m : SI) : TI := fun σ H R => ∃ ι ρ S, Sim K ι S H ∧ EnvR K ι H ρ σ ∧ Po (RItm K) K mg ι H R (fun cls d H' => W cls d σ H') (m ρ S)
def GI (X : Cx) (W : WX) (tg iter : Expr) (m : SI) : Prop := PI X tg iter (tI X.KW X.mg W m)
theorem _root_.L2.PI.imp {tg iter : Expr} {t t' : TI} (h : PI X tg iter t) (k : ∀ σ H Q, t' σ H Q → t σ H Q) : PI X tg iter t' := ⟨fun pins s σ H R I q => h.run pins s σ H R I (k _ _ _ q)⟩
theorem forL_step {chk : Store → Prop} {g : SG} {m : SS} {x : D} {r : List D} {ρ : Env} {S : Store} (hc : chk S) : forL chk g m (x :: r) ρ S = (match g x ρ S with
      | none => none
      | some (ρ1, S1) => match m ρ1 S1 with
        | some (.nx ρ2 S2) => forL chk g m r ρ2 S2
        | some (.ct ρ2 S2) => forL chk g m r ρ2 S2
        | some (.bk ρ2 S2) => some (.nx ρ2 S2)
        | o => o) := by
  rw [forL, if_pos hc]
  all_goals rfl
theorem gs_for {tg iter : Expr} {it : SI} {g : SG} {sl : List Nat} {body : List Stmt} {m : SS} (hp : PassesOwn (model X.prog X.w) X.A X.env X.xe) (hc : X.calm = true) (hi : GI X W tg iter it) (hg : GG X tg g sl) (hb : GSs X W body m)
    (hs : ∀ x, foldedSetIterable iter X.env x = pure x := by intro _; rfl) : GS X W (.For tg iter body [] pos) (sFor it g m) := (ps_for hp hc hi hg hb hs).imp fun D σ H ⟨ι, ρ, S, s, r, p⟩ => by
  refine ⟨ι, ρ, S, s, r, PoS.bo r p fun J S1 ι1 H1 j e1 s1 r1 r2 p1 => ?_⟩
  refine ⟨fun i n σ' H' => ∃ ι' ρ' S', Ext ι1 H1 ι' H' ∧ Sim X.KW ι' S' H' ∧ EnvR X.KW ι' H' ρ' σ' ∧ n = J.xs.length - i ∧ i ≤ J.xs.length ∧ PoS X.KW X.mg W ι' H' D (forL J.chk g m (J.xs.drop i) ρ' S'), ⟨J.xs.length, ι1, ρ, S1, .refl, s1, r2, rfl, Nat.zero_le _, p1⟩, ?_⟩
  rintro i n σ' H' ⟨ι', ρ', S', e', s', r', hn, hi, p'⟩
  by_cases hck : J.chk S'
  rotate_left
  · exfalso
    cases q : J.xs.drop i with
    | nil => rw [q, forL, if_neg hck] at p'; exact p'
    | cons x t => rw [q, forL, if_neg hck] at p'; exact p'
  obtain ⟨hitem, hstop⟩ := r1 ι' H' S' e' s' hck
  by_cases hlt : i < J.xs.length
  · refine .inr ⟨(hitem i _ (List.getElem?_eq_getElem hlt)).1, ?_⟩
    rw [List.drop_eq_getElem_cons hlt, forL_step hck] at p'
    match q : g J.xs[i] ρ' S', p' with
    | some (ρ2, S2), p' =>
      simp only [] at p'
      refine ⟨fun σ3 H3 => ∃ ι3 ρ3 S3, Ext ι1 H1 ι3 H3 ∧ Sim X.KW ι3 S3 H3 ∧ EnvR X.KW ι3 H3 ρ3 σ3 ∧ PoS X.KW X.mg W ι3 H3 D (forL J.chk g m (J.xs.drop (i + 1)) ρ3 S3), fun σ3 H3 ⟨ι3, ρ3, S3, a1, a2, a3, a4⟩ => ⟨n - 1, by omega, ι3, ρ3, S3, a1, a2, a3, by omega, by omega, a4⟩, fun v H2 y => ?_⟩
      obtain ⟨e2, s2, rv⟩ := (hitem i _ (List.getElem?_eq_getElem hlt)).2 v H2 y
      refine ⟨ι', ρ', S', J.xs[i], ρ2, S2, s2, r'.ext e2, rv, q, fun ι3 H3 σ3 e3 s3 r3 _ => ?_⟩
      have eT : Ext ι1 H1 ι3 H3 := (e'.trans e2).trans e3
      have p' := PoS.mono (e2.trans e3) p'
      refine ⟨ι3, ρ2, S2, s3, r3, ?_⟩
      match q2 : m ρ2 S2, p' with
      | none, p' => exact p'
      | some (.nx ρ4 S4), p' => exact fun ι4 H4 σ4 e4 s4 r4 => ⟨ι4, ρ4, S4, eT.trans e4, s4, r4, PoS.mono e4 p'⟩
      | some (.ct ρ4 S4), p' => exact fun ι4 H4 σ4 e4 s4 r4 => ⟨ι4, ρ4, S4, eT.trans e4, s4, r4, PoS.mono e4 p'⟩
      | some (.bk ρ4 S4), p' => exact p'
      | some (.rt d S4), p' => exact p'
      | some (.ex c ρ4 S4), p' => exact p'
  · have e : i = J.xs.length := by omega
    subst e
    refine .inl ⟨hstop, ?_⟩
    rw [List.drop_length, forL, if_pos hck] at p'
    exact p' ι' H' σ' .refl s' r'
def GTs (X : Cx) (W : WX) (es : List Expr) (m : ST) : Prop := PTs X es (tT X.KW X.mg W m)
theorem _root_.L2.PTs.imp {es : List Expr} {t t' : TT} (h : PTs X es t) (k : ∀ σ H Q, t' σ H Q → t σ H Q) : PTs X es t' := ⟨fun pins s σ H Q I q => h.run pins s σ H Q I (k _ _ _ q)⟩
theorem gts_nil : GTs X W [] Z.tYes := pts_nil.imp fun σ H Q ⟨ι, ρ, S, s, r, p⟩ => Po.ret p s rfl
theorem gts_one {t : ST} (h : GT X W c t) : GTs X W [c] t := pts_one h
abbrev W0 : WX := fun _ _ _ _ => False
theorem lcL_step {chk : Store → Prop} {g : SG} {t : ST} {m : SE} {l : Nat} {x : D} {r : List D} {ρ : Env} {S : Store} (hc : chk S) : lcL chk g t m l (x :: r) ρ S = (match g x ρ S with
      | none => none
      | some (ρ1, S1) => Z.bq (t ρ1 S1) fun b S2 => if b = true then Z.bq (m ρ1 S2) fun y S3 => (match S3[l]? with
            | some (.lst acc) => if acc.length < LINE then lcL chk g t m l r ρ (S3.set l (.lst (acc ++ [y]))) else none
            | _ => none)
          else lcL chk g t m l r ρ S2) := by
  rw [lcL, if_pos hc]
  all_goals rfl
theorem lc_read {it : SI} {g : SG} {t : ST} {m : SE} {own sl : List Nat} {σ : L2.St} {H : Hp} {Q : VK} (hsl : ∀ i ∈ sl, i ∈ own)
    (h : tE X.KW X.mg W (eLc it g t m own) σ H Q) : tLc (tI X.KW X.mg W it) (tG X.KW g sl) (tT X.KW X.mg W0 t) (tE X.KW X.mg W0 m) own σ H Q := by
  obtain ⟨ι, ρ, S, s, r, p⟩ := h
  refine ⟨ι, ρ, S, s, r, ?_⟩
  unfold eLc at p
  match g0 : it ρ S, p with
  | none, p => exact p
  | some (.ex _ _), p => exact p
  | some (.ok J S1), p =>
  rw [bd_ok] at p
  intro ι1 H1 j e1 s1 r1 Da hD
  have p := Po.mono e1 p
  have hl1 : ι1.length = S1.length := s1.len
  have eD : Ext ι1 H1 (ι1 ++ [Da]) (upd H1 Da (.lst [])) := ext_new hD
  have r2 := ((r.ext e1).ext eD).wipe own
  have atD : ∀ {ι' H'}, Ext (ι1 ++ [Da]) (upd H1 Da (.lst [])) ι' H' → ι'[S1.length]? = some Da := fun e => e.at (by rw [← hl1, List.getElem?_append_right (Nat.le_refl _)]; simp)
  refine ⟨fun i n H' => ∃ ι' S', Ext (ι1 ++ [Da]) (upd H1 Da (.lst [])) ι' H' ∧ Sim X.KW ι' S' H' ∧ n = J.xs.length - i ∧ i ≤ J.xs.length ∧ Po (Rep X.KW) X.KW X.mg ι' H' Q (fun cls d H' => W cls d σ H') (lcL J.chk g t m S1.length (J.xs.drop i) (Z.wipe ρ own) S'),
    ⟨J.xs.length, _, _, .refl, s1.newL hD (by rw [RepL]), rfl, Nat.zero_le _, Po.mono eD p⟩, ?_⟩
  rintro i n H' ⟨ι', S', e', s', hn, hi, p'⟩
  by_cases hck : J.chk S'
  rotate_left
  · exfalso
    cases q : J.xs.drop i with
    | nil => rw [q, lcL, if_neg hck] at p'; exact p'
    | cons x t => rw [q, lcL, if_neg hck] at p'; exact p'
  obtain ⟨hitem, hstop⟩ := r1 ι' H' S' (eD.trans e') s' hck
  by_cases hlt : i < J.xs.length
  · refine .inr ⟨(hitem i _ (List.getElem?_eq_getElem hlt)).1, ?_⟩
    rw [List.drop_eq_getElem_cons hlt, lcL_step hck] at p'
    match q : g J.xs[i] (Z.wipe ρ own) S', p' with
    | some (ρ2, S2), p' =>
      dsimp only at p'
      refine ⟨fun H3 => ∃ ι3 S3, Ext (ι1 ++ [Da]) (upd H1 Da (.lst [])) ι3 H3 ∧ Sim X.KW ι3 S3 H3 ∧ Po (Rep X.KW) X.KW X.mg ι3 H3 Q (fun cls d H' => W cls d σ H') (lcL J.chk g t m S1.length (J.xs.drop (i + 1)) (Z.wipe ρ own) S3),
        fun H3 ⟨ι3, S3, a1, a2, a3⟩ => ⟨n - 1, by omega, ι3, S3, a1, a2, by omega, by omega, a3⟩, fun v H2 y => ?_⟩
      obtain ⟨e2, s2, rv⟩ := (hitem i _ (List.getElem?_eq_getElem hlt)).2 v H2 y
      refine ⟨ι', Z.wipe ρ own, S', J.xs[i], ρ2, S2, s2, (r2.ext e').ext e2, rv, q, fun ι3 H3 σ3 e3 s3 r3 o3 => ⟨?_, ?_⟩⟩
      · rw [o3.wipe hsl]
        apply List.ext_getElem?
        intro k
        rw [wipe_get, wipe_get, L2.wipe_length]
        by_cases hk : k ∈ own ∧ k < σ.length <;> simp [hk]
      have p' := Po.mono (e2.trans e3) p'
      have eT := (e'.trans e2).trans e3
      refine ⟨ι3, ρ2, S2, s3, r3, ?_⟩
      match q2 : t ρ2 S2, p' with
      | none, p' => exact p'
      | some (.ex _ _), p' => exact p'.elim
      | some (.ok b S4), p' =>
        rw [bq_ok] at p'
        intro ι4 H4 x e4 s4 r4
        obtain rfl : x = b := r4
        have p' := Po.mono e4 p'
        cases x with
        | false => rw [if_neg Bool.false_ne_true] at p' ⊢; exact ⟨ι4, S4, eT.trans e4, s4, p'⟩
        | true =>
          rw [if_pos rfl] at p' ⊢
          refine ⟨ι4, ρ2, S4, s4, r3.ext e4, ?_⟩
          match q5 : m ρ2 S4, p' with
          | none, p' => exact p'
          | some (.ex _ _), p' => exact p'.elim
          | some (.ok d S5), p' =>
            rw [bq_ok] at p'
            intro ι5 H5 v5 e5 s5 r5
            have p' := Po.mono e5 p'
            have e5T := (eT.trans e4).trans e5
            match q6 : S5[S1.length]?, p' with
            | some (.lst acc), p' =>
              dsimp only at p'
              by_cases hz : acc.length < LINE
              rotate_left
              · rw [if_neg hz] at p'; exact p'.elim
              rw [if_pos hz] at p'
              obtain ⟨vs, hv, hr⟩ := s5.get (atD e5T) q6
              refine ⟨vs, hv, by rw [hr.length]; rw [LINE_eq] at hz; exact hz, ?_⟩
              have em : Ext ι5 H5 ι5 (upd H5 Da (.lst (vs ++ [v5]))) := ext_mut hv trivial
              exact ⟨ι5, S5.set S1.length (.lst (acc ++ [d])), e5T.trans em, s5.put (atD e5T) ⟨_, upd_same, RepL.ext em _ _ (hr.append (RepL.one r5))⟩ ⟨_, hv, trivial⟩, Po.mono em p'⟩
            | some (.dct _), p' => exact p'.elim
            | some (.st _), p' => exact p'.elim
            | some (.ins _ _), p' => exact p'.elim
            | some (.exn _), p' => exact p'.elim
            | some (.dkl _), p' => exact p'.elim
            | some (.dk _), p' => exact p'.elim
            | none, p' => exact p'.elim
  · have e : i = J.xs.length := by omega
    subst e
    refine .inl ⟨hstop, ?_⟩
    rw [List.drop_length, lcL, if_pos hck] at p'
    exact Po.ret p' s' (by rw [Rep]; exact ⟨Da, rfl, atD e'⟩)
end
end Z
namespace Z
open PySem PySem.Spec PyProof.Rows L2
section
variable {K : KW} {mg : Mg} {ι ι' ι'' : List Addr} {H H' : Hp}
theorem EnvR.start {N : List Str} {ds : List D} {vs : List V} (r : RepL K ι H ds vs) (hl : ds.length ≤ N.length) : EnvR K ι H (env0 N.length ds) (L2.start N vs) := by
  unfold env0 L2.start
  refine ⟨by simp [r.length], fun i d h => ?_⟩
  by_cases hi : i < ds.length
  · rw [List.getElem?_append_left (by simpa using hi), List.getElem?_map, List.getElem?_eq_getElem hi] at h
    simp only [Option.map_some, Option.some.injEq] at h
    obtain ⟨v, h1, h2⟩ := r.get (List.getElem?_eq_getElem hi)
    subst h
    refine ⟨v, ?_, h2⟩
    rw [List.getElem?_append_left (by rw [List.length_map, r.length]; exact hi), List.getElem?_map, h1]; rfl
  · rw [List.getElem?_append_right (by simpa using hi), List.getElem?_replicate] at h
    split at h <;> cases h
end
section
variable {P : Program} {w : World} {K : PySem.W.Frag} {mg : Mg} {base : Heap}
abbrev cx (P : Program) (w : World) (K : PySem.W.Frag) (mg : Mg) (base : Heap) (N : List Str) (qual : Str) (st : Stmt) (f : Addr) (cdv : Value) (A : Around) (outer : List PySem.Env) (s : Shared) (H : Hp) (E : XK) : Cx :=
  cxOf (L2.CX P w) P w K mg base N qual (defScope st) f cdv A outer s H E
abbrev wE (E : XK) : WX := fun cls d _ H => E cls d H
theorem gf_of {x : Str} {f : Addr} {fd : FuncData} {ps : List Str} {k : Nat} {F : Fn} (hm : mg x = some (.ref f)) (kp : PySem.W.keepIn K (.ref f) = true) (b : Binds K fd ps []) (h : FnG P w K mg base (L2.CX P w) k f fd ps (spF ⟨K, P, w⟩ mg F)) : GF P w K mg base x k F := ⟨f, fd, ps, hm, kp, b, h⟩
end
section
variable {X : Cx} {W : WX} {pos : Pos}
theorem ge_lc {elt tg iter : Expr} {ifs : List Expr} {scope : Scope} (own : List (Str × Nat)) {it : SI} {g : SG} {sl : List Nat} {t : ST} {m : SE} (hc : X.calm = true) (hN : X.N.Nodup) (hi : GI X W tg iter it) (ok : BlkOk X.N X.env.scope scope own)
    (hg : ∀ (s : Shared) (H : Hp) (C : Addr) (cl : List (Str × Addr)) (fp : List Addr), GG (X.blk s H scope (compEnvC scope cl C X.env) fp) tg g sl)
    (ht : ∀ (s : Shared) (H : Hp) (C : Addr) (cl : List (Str × Addr)) (fp : List Addr), GTs (X.blk s H scope (compEnvC scope cl C X.env) fp) W0 ifs t)
    (he : ∀ (s : Shared) (H : Hp) (C : Addr) (cl : List (Str × Addr)) (fp : List Addr), GE (X.blk s H scope (compEnvC scope cl C X.env) fp) W0 elt m)
    (hsl : ∀ i ∈ sl, i ∈ own.map (·.2) := by decide) (hs : ∀ x, foldedSetIterable iter X.env x = pure x := by intro _; rfl) : GE X W (.ListComp elt [⟨tg, iter, ifs, 0⟩] scope pos) (eLc it g t m (own.map (·.2))) :=
  L2.PE.imp (pe_lc (g := tG X.KW g sl) (tt := tT X.KW X.mg W0 t) (te := tE X.KW X.mg W0 m) hc hN hi ok hg ht he hs) fun σ H Q h => lc_read hsl h
/-- name = [..] on one line -/
theorem gs_setLc (i : Nat) {y : Str} {py : Pos} {elt tg iter : Expr} {ifs : List Expr} {scope : Scope} {spos : Pos} (own : List (Str × Nat)) {it : SI} {g : SG} {sl : List Nat} {t : ST} {m : SE} (hc : X.calm = true) (hN : X.N.Nodup) (hi : GI X W tg iter it) (ok : BlkOk X.N X.env.scope scope own)
    (hg : ∀ (s : Shared) (H : Hp) (C : Addr) (cl : List (Str × Addr)) (fp : List Addr), GG (X.blk s H scope (compEnvC scope cl C X.env) fp) tg g sl)
    (ht : ∀ (s : Shared) (H : Hp) (C : Addr) (cl : List (Str × Addr)) (fp : List Addr), GTs (X.blk s H scope (compEnvC scope cl C X.env) fp) W0 ifs t)
    (he : ∀ (s : Shared) (H : Hp) (C : Addr) (cl : List (Str × Addr)) (fp : List Addr), GE (X.blk s H scope (compEnvC scope cl C X.env) fp) W0 elt m)
    (hy : X.N[i]? = some y := by rfl) (hyl : X.env.scope.names.lookup y = some .local := by rfl)
    (hsw : swapsWith (.ListComp elt [⟨tg, iter, ifs, 0⟩] scope pos) (some (.Name y py)) spos.line X.env = pure true := by exact sw_true rfl rfl rfl (by decide +kernel))
    (hsl : ∀ i ∈ sl, i ∈ own.map (·.2) := by decide) (hs : ∀ x, foldedSetIterable iter X.env x = pure x := by intro _; rfl) : GS X W (.Assign [.Name y py] (.ListComp elt [⟨tg, iter, ifs, 0⟩] scope pos) spos) (sAsg (eLc it g t m (own.map (·.2))) (Z.gName i)) :=
  L2.PS.imp (ps_setLc (g := tG X.KW g sl) (tt := tT X.KW X.mg W0 t) (te := tE X.KW X.mg W0 m) hc hN hy hyl hsw hi ok hg ht he hs) fun D σ H ⟨ι, ρ, S, s, r, p⟩ => by
    have h : tE X.KW X.mg W (eLc it g t m (own.map (·.2))) σ H (fun x H1 => D.nx (σ.set i (some x)) H1) := ⟨ι, ρ, S, s, r, PoS.bo r p fun d S1 ι1 H1 x e1 s1 r1 r2 p1 => p1 ι1 H1 _ .refl s1 (r2.set r1)⟩
    exact lc_read hsl h
end
end Z
namespace Z
open PySem PySem.Spec PyProof.Rows L2
mutual
def PD.py : PD → PyData
  | .non => .none
  | .bl b => .bool b
  | .int i => .int i
  | .str s => .str (Z.str s)
  | .lst xs => .list (pyL xs)
  | .tup xs => .tuple (pyL xs)
def pyL : List PD → List PyData
  | [] => []
  | x :: xs => PD.py x :: pyL xs
end
mutual
def PD.asc : PD → Prop
  | .str s => ∀ c ∈ s, c < 128
  | .lst xs => ascL xs
  | .tup xs => ascL xs
  | _ => True
def ascL : List PD → Prop
  | [] => True
  | x :: xs => PD.asc x ∧ ascL xs
end
theorem str_beq (a b : List Nat) : (Z.str a == Z.str b) = (a == b) := by
  by_cases h : a = b
  · subst h; simp
  · have h' : Z.str a ≠ Z.str b := fun e => h (by have := congrArg (fun z : Str => z.cps.toList) e; simpa using this)
    rw [beq_eq_false_iff_ne.mpr h, beq_eq_false_iff_ne.mpr h']
mutual
theorem py_eqv : ∀ x y : PD, PyData.eqv x.py y.py = x.eqv y
  | .non, y => by cases y <;> simp [PD.py, PyData.eqv, PD.eqv]
  | .bl a, y => by cases y <;> simp [PD.py, PyData.eqv, PD.eqv, b2i]
  | .int i, y => by cases y <;> simp [PD.py, PyData.eqv, PD.eqv, b2i]
  | .str s, y => by cases y <;> simp [PD.py, PyData.eqv, PD.eqv, str_beq]
  | .lst xs, y => by cases y <;> simp [PD.py, PyData.eqv, PD.eqv, py_eqvL xs]
  | .tup xs, y => by cases y <;> simp [PD.py, PyData.eqv, PD.eqv, py_eqvL xs]
theorem py_eqvL : ∀ xs ys : List PD, PyData.eqvAll (pyL xs) (pyL ys) = eqvL xs ys
  | [], ys => by cases ys <;> simp [pyL, PyData.eqvAll, eqvL]
  | x :: xs, ys => by cases ys <;> simp [pyL, PyData.eqvAll, eqvL, py_eqv x, py_eqvL xs]
end
mutual
theorem py_depth : ∀ x : PD, x.py.depth = x.dep
  | .non => rfl
  | .bl _ => rfl
  | .int _ => rfl
  | .str _ => rfl
  | .lst xs => by simp only [PD.py, PyData.depth, PD.dep, py_depthL xs]
  | .tup xs => by simp only [PD.py, PyData.depth, PD.dep, py_depthL xs]
theorem py_depthL : ∀ xs : List PD, PyData.depthAll (pyL xs) = depL xs
  | [] => rfl
  | x :: xs => by simp only [pyL, PyData.depthAll, depL, py_depth x, py_depthL xs]
end
mutual
theorem py_lay : ∀ x : PD, x.asc → x.py.canLay0 = true
  | .non, _ => rfl
  | .bl _, _ => rfl
  | .int _, _ => rfl
  | .str s, h => by
    rw [PD.asc] at h
    rw [PD.py, PyData.canLay0]
    unfold PyData.strOk
    rw [Array.all_eq_true']
    intro c hc
    exact decide_eq_true (Nat.lt_trans (h c (by simpa using hc)) (by decide))
  | .lst xs, h => by rw [PD.asc] at h; rw [PD.py, PyData.canLay0]; exact py_layL xs h
  | .tup xs, h => by rw [PD.asc] at h; rw [PD.py, PyData.canLay0]; exact py_layL xs h
theorem py_layL : ∀ xs : List PD, ascL xs → PyData.canLayAll0 (pyL xs) = true
  | [], _ => rfl
  | x :: xs, h => by rw [ascL] at h; rw [pyL, PyData.canLayAll0, py_lay x h.1, py_layL xs h.2]; rfl
end
theorem py_shaped {x : PD} (h : x.asc) (d : x.dep ≤ 64) : SeqAt.shaped x.py = true := by
  unfold SeqAt.shaped
  rw [py_lay x h, py_depth]
  simpa using d
theorem pyL_map : ∀ xs : List PD, pyL xs = xs.map PD.py
  | [] => rfl
  | x :: xs => by simp [pyL, pyL_map xs]
section
variable {K : KW} {ι : List Addr} {H : Hp}
mutual
theorem pd_ok {g : Nat → Option PD} (hg : ∀ n y a, g n = some y → ι[n]? = some a → Dp K H (.ref a) y.py ∧ y.asc) : ∀ (d : D) (v : V) (x : PD), Rep K ι H d v → d.pd g = some x → Dp K H v x.py ∧ x.asc
  | .non, v, x, r, h => by rw [Rep] at r; rw [D.pd] at h; cases h; subst r; exact ⟨.non, trivial⟩
  | .bl b, v, x, r, h => by rw [Rep] at r; rw [D.pd] at h; cases h; subst r; exact ⟨.bl b, trivial⟩
  | .int i, v, x, r, h => by rw [Rep] at r; rw [D.pd] at h; cases h; subst r; exact ⟨.int i, trivial⟩
  | .str s, v, x, r, h => by rw [Rep] at r; rw [D.pd] at h; cases h; obtain ⟨rfl, r⟩ := r; exact ⟨.str _, r⟩
  | .tup xs, v, x, r, h => by
    rw [Rep] at r
    rw [D.pd] at h
    obtain ⟨a, vs, rfl, r1, r2⟩ := r
    obtain ⟨ys, h1, rfl⟩ := Option.map_eq_some_iff.mp h
    obtain ⟨q1, q2⟩ := pdL_ok hg xs vs ys r2 h1
    exact ⟨.tup r1.sq q1, q2⟩
  | .fl xs, v, x, r, h => by
    rw [Rep] at r
    rw [D.pd] at h
    obtain ⟨a, vs, rfl, r1, r2⟩ := r
    obtain ⟨ys, h1, rfl⟩ := Option.map_eq_some_iff.mp h
    obtain ⟨q1, q2⟩ := pdL_ok hg xs vs ys r2 h1
    exact ⟨.lst r1.seq q1, q2⟩
  | .ref n, v, x, r, h => by
    rw [Rep] at r
    rw [D.pd] at h
    obtain ⟨a, rfl, r1⟩ := r
    exact hg n x a h r1
theorem pdL_ok {g : Nat → Option PD} (hg : ∀ n y a, g n = some y → ι[n]? = some a → Dp K H (.ref a) y.py ∧ y.asc) : ∀ (ds : List D) (vs : List V) (xs : List PD), RepL K ι H ds vs → pdL g ds = some xs → DpAll K H vs (pyL xs) ∧ ascL xs
  | [], vs, xs, r, h => by rw [RepL] at r; rw [pdL] at h; cases h; subst r; exact ⟨.nil, trivial⟩
  | d :: ds, vs, xs, r, h => by
    rw [RepL] at r
    rw [pdL] at h
    obtain ⟨v, t, rfl, r1, r2⟩ := r
    match g1 : d.pd g, g2 : pdL g ds, h with
    | some y, some ys, h =>
      cases h
      obtain ⟨a1, a2⟩ := pd_ok hg d v y r1 g1
      obtain ⟨b1, b2⟩ := pdL_ok hg ds t ys r2 g2
      exact ⟨.cons a1 b1, a2, b2⟩
end
theorem rdR_ok {S : Store} (s : Sim K ι S H) : ∀ (n : Nat) (r : Nat) (y : PD) (a : Addr), rdR n S r = some y → ι[r]? = some a → Dp K H (.ref a) y.py ∧ y.asc
  | 0, _, _, _, h, _ => by cases h
  | n + 1, r, y, a, h, ha => by
    unfold rdR at h
    match g : S[r]?, h with
    | some (.lst xs), h =>
      obtain ⟨ys, h1, rfl⟩ := Option.map_eq_some_iff.mp h
      obtain ⟨vs, e1, e2⟩ := s.get ha g
      obtain ⟨q1, q2⟩ := pdL_ok (rdR_ok s n) xs vs ys e2 h1
      exact ⟨.lst (SqL.of e1) q1, q2⟩
theorem dat_ok {S : Store} (s : Sim K ι S H) {d : D} {v : V} {x : PD} (r : Rep K ι H d v) (h : dat S d = some x) : Dp K H v x.py ∧ x.asc := pd_ok (rdR_ok s 70) d v x r h
theorem seq_ok {S : Store} (s : Sim K ι S H) {d : D} {v : V} {xs : List D} (r : Rep K ι H d v) (h : seqOf S d = some xs) : ∃ a vs, v = .ref a ∧ (SqL K H a vs ∨ TupAt H a vs (xs.all k0)) ∧ RepL K ι H xs vs := by
  cases d with
  | tup ys => rw [Rep] at r; obtain ⟨a, vs, rfl, r1, r2⟩ := r; cases h; exact ⟨a, vs, rfl, .inr r1, r2⟩
  | fl ys => rw [Rep] at r; obtain ⟨a, vs, rfl, r1, r2⟩ := r; cases h; exact ⟨a, vs, rfl, .inl r1.seq, r2⟩
  | ref n =>
    rw [Rep] at r
    obtain ⟨a, rfl, r1⟩ := r
    unfold seqOf at h
    dsimp only at h
    split at h
    · rename_i g
      cases h
      obtain ⟨vs, e1, e2⟩ := s.get r1 g
      exact ⟨a, vs, rfl, .inl (SqL.of e1), e2⟩
    · cases h
  | _ => cases h
theorem lst_ok {S : Store} (s : Sim K ι S H) {n : Nat} {v : V} {xs : List D} (r : Rep K ι H (.ref n) v) (h : S[n]? = some (.lst xs)) : ∃ a vs, v = .ref a ∧ ι[n]? = some a ∧ H a = some (.lst vs) ∧ RepL K ι H xs vs := by
  rw [Rep] at r
  obtain ⟨a, rfl, r1⟩ := r
  obtain ⟨vs, e1, e2⟩ := s.get r1 h
  exact ⟨a, vs, rfl, r1, e1, e2⟩
theorem Rep.str {s : List Nat} {v : V} (r : Rep K ι H (.str s) v) : v = .str (Z.str s) ∧ ∀ c ∈ s, c < 128 := by rw [Rep] at r; exact r
theorem RepL.nil {vs : List V} (r : RepL K ι H [] vs) : vs = [] := by rw [RepL] at r; exact r
theorem RepL.cons {d : D} {ds : List D} {vs : List V} (r : RepL K ι H (d :: ds) vs) : ∃ v r, vs = v :: r ∧ Rep K ι H d v ∧ RepL K ι H ds r := by rw [RepL] at r; exact r
theorem RepL.set {v : V} {d : D} (q : Rep K ι H d v) : ∀ {ds : List D} {vs : List V} (i : Nat), RepL K ι H ds vs → RepL K ι H (ds.set i d) (vs.set i v)
  | [], vs, i, r => by rw [r.nil]; simp [RepL]
  | x :: xs, vs, i, r => by
    obtain ⟨u, t, rfl, r1, r2⟩ := r.cons
    cases i with
    | zero => rw [List.set_cons_zero, List.set_cons_zero, RepL]; exact ⟨v, t, rfl, q, r2⟩
    | succ i => rw [List.set_cons_succ, List.set_cons_succ, RepL]; exact ⟨u, _, rfl, r1, RepL.set q i r2⟩
theorem RepL.sub {ds ds' : List D} {vs vs' : List V} (r : RepL K ι H ds vs) (hl : ds'.length = vs'.length) (h : ∀ (i : Nat) (d : D) (v : V), ds'[i]? = some d → vs'[i]? = some v → ∃ j : Nat, ds[j]? = some d ∧ vs[j]? = some v) : RepL K ι H ds' vs' :=
  .of_get hl.symm fun i d v h1 h2 => by
    obtain ⟨j, a, b⟩ := h i d v h1 h2
    obtain ⟨u, c, e⟩ := r.get a
    rw [b] at c; cases c
    exact e
theorem RepL.drop {ds : List D} {vs : List V} (r : RepL K ι H ds vs) (n : Nat) : RepL K ι H (ds.drop n) (vs.drop n) := r.sub (by simp [r.length]) fun i d v h1 h2 => ⟨n + i, by simpa using h1, by simpa using h2⟩
theorem RepL.take {ds : List D} {vs : List V} (r : RepL K ι H ds vs) (n : Nat) : RepL K ι H (ds.take n) (vs.take n) := r.sub (by simp [r.length]) fun i d v h1 h2 => by
  rw [List.getElem?_take] at h1 h2
  by_cases hi : i < n
  · exact ⟨i, by simpa [hi] using h1, by simpa [hi] using h2⟩
  · simp [hi] at h1
theorem RepL.eraseIdx {ds : List D} {vs : List V} (r : RepL K ι H ds vs) (n : Nat) : RepL K ι H (ds.eraseIdx n) (vs.eraseIdx n) := r.sub (by simp [List.length_eraseIdx, r.length]) fun i d v h1 h2 => by
  rw [List.getElem?_eraseIdx] at h1 h2
  by_cases hi : i < n
  · exact ⟨i, by simpa [hi] using h1, by simpa [hi] using h2⟩
  · exact ⟨i + 1, by simpa [hi] using h1, by simpa [hi] using h2⟩
theorem RepL.flat {ds : List D} {vs : List V} (r : RepL K ι H ds vs) : ∀ n : Nat, RepL K ι H (List.replicate n ds).flatten (List.replicate n vs).flatten
  | 0 => by simp [RepL]
  | n + 1 => by simp only [List.replicate_succ, List.flatten_cons]; exact r.append (RepL.flat r n)
theorem RepL.cut {ds : List D} {vs : List V} (r : RepL K ι H ds vs) (lo hi : Option Int) : RepL K ι H (Z.cut ds lo hi) (cutV vs lo hi) := by
  unfold Z.cut cutV
  have e : ∀ n d o, Z.sIx n d o = HT.sIx n d o := fun n d o => by cases o <;> rfl
  rw [e, e, r.length]
  exact (r.drop _).take _
end
section
variable {X : Cx}
theorem no_add : NoEx addD := by
  intro d e S c S'
  unfold addD
  split <;> (try split) <;> (try split) <;> simp [new1]
theorem zo_add : OpR X (binaryOp .Add) (r2 X addD) := by
  intro pins s σ H x y v u Q I rx ry ⟨ι, S, d, e, sm, rd, re, po⟩
  cases d <;> cases e <;> first
    | exact False.elim po
    | skip
  case int.int i j =>
    rw [Rep] at rd re
    exact op_add pins s σ H _ _ v u Q I rx ry ⟨i, j, rd, re, Po.ret po sm (by rw [Rep])⟩
  case str.str a b =>
    obtain ⟨rfl, h1⟩ := rd.str
    obtain ⟨rfl, h2⟩ := re.str
    dsimp only [addD] at po
    by_cases hl : a.length + b.length ≤ LINE
    · rw [if_pos hl] at po
      refine op_add_str pins s σ H _ _ v u Q I rx ry ⟨_, _, rfl, rfl, by rw [LINE_eq] at hl; simpa [Str.length, sizeLine] using hl, Po.ret po sm ?_⟩
      rw [Rep]
      refine ⟨?_, fun c hc => (List.mem_append.mp hc).elim (h1 c) (h2 c)⟩
      show V.str (⟨a.toArray ++ b.toArray⟩ : Str) = _
      simp
    · rw [if_neg hl] at po; exact po.elim
  case tup.tup a b =>
    rw [Rep] at rd re
    obtain ⟨p, vs, rfl, h1, h2⟩ := rd
    obtain ⟨q, ws, rfl, h3, h4⟩ := re
    dsimp only [addD] at po
    by_cases hl : a.length + b.length ≤ LINE
    · rw [if_pos hl] at po
      refine op_cat2 pins s σ H _ _ v u Q I rx ry ⟨p, q, vs, ws, rfl, rfl, h1.sq, h3.sq, by rw [h2.length, h4.length]; rw [LINE_eq] at hl; exact hl, fun e => ?_, fun _ e => ?_, fun _ _ t ht => ?_⟩
      · subst e
        have : a = [] := List.eq_nil_of_length_eq_zero (by rw [← h2.length]; rfl)
        subst this
        exact Po.ret po sm (by rw [Rep]; exact ⟨q, ws, rfl, h3, by simpa using h4⟩)
      · subst e
        have : b = [] := List.eq_nil_of_length_eq_zero (by rw [← h4.length]; rfl)
        subst this
        exact Po.ret po sm (by rw [Rep, List.append_nil]; exact ⟨p, vs, rfl, h1, h2⟩)
      · exact sm.newTup ht (h2.append h4) po
    · rw [if_neg hl] at po; exact po.elim
  case ref.ref m n =>
    dsimp only [addD] at po
    match g1 : S[m]?, g2 : S[n]?, po with
    | some (.lst a), some (.lst b), po =>
      obtain ⟨p, vs, rfl, i1, e1, r1⟩ := lst_ok sm rd g1
      obtain ⟨q, ws, rfl, i2, e2, r2⟩ := lst_ok sm re g2
      dsimp only at po
      by_cases hl : a.length + b.length ≤ LINE
      · rw [if_pos hl] at po
        refine op_cat pins s σ H _ _ v u Q I rx ry ⟨p, q, vs, ws, rfl, rfl, e1, e2, by rw [r1.length, r2.length]; rw [LINE_eq] at hl; exact hl, fun t ht => ?_⟩
        exact Po.ret (Po.mono (ext_new (t := [t]) (o := .lst (vs ++ ws)) ht) po) (sm.newL ht (r1.append r2)) (Rep.newL sm)
      · rw [if_neg hl] at po; exact po.elim
theorem no_sub : NoEx subD := by intro d e S c S'; unfold subD; split <;> simp
theorem zo_sub : OpR X (binaryOp .Sub) (r2 X subD) := by
  intro pins s σ H x y v u Q I rx ry ⟨ι, S, d, e, sm, rd, re, po⟩
  cases d <;> cases e <;> first
    | exact False.elim po
    | skip
  case int.int i j =>
    rw [Rep] at rd re
    exact op_sub pins s σ H _ _ v u Q I rx ry ⟨i, j, rd, re, Po.ret po sm (by rw [Rep])⟩
theorem no_mul : NoEx mulD := by
  intro d e S c S'
  unfold mulD
  split <;> (try split) <;> (try split) <;> simp [new1]
theorem zo_mul : OpR X (binaryOp .Mult) (r2 X mulD) := by
  intro pins s σ H x y v u Q I rx ry ⟨ι, S, d, e, sm, rd, re, po⟩
  cases d <;> cases e <;> first
    | exact False.elim po
    | skip
  case int.int i j =>
    rw [Rep] at rd re
    dsimp only [mulD] at po
    by_cases hc : (small i ∨ small j) ∨ i.natAbs.log2 + j.natAbs.log2 < 1000000
    · rw [if_pos hc] at po
      have q := Po.ret (x := V.int (i * j)) po sm (by rw [Rep])
      rcases hc with hc | hc
      · exact op_mul pins s σ H _ _ v u Q I rx ry ⟨i, j, rd, re, by rw [small_iff, small_iff] at hc; exact hc, q⟩
      · exact op_mulW pins s σ H _ _ v u Q I rx ry ⟨i, j, rd, re, hc, q⟩
    · rw [if_neg hc] at po; exact po.elim
  case ref.int m k =>
    dsimp only [mulD] at po
    match g1 : S[m]?, po with
    | some (.lst a), po =>
      obtain ⟨p, vs, rfl, i1, e1, r1⟩ := lst_ok sm rd g1
      rw [Rep] at re
      dsimp only at po
      by_cases hl : -9223372036854775808 ≤ k ∧ k < 9223372036854775808 ∧ a.length * k.toNat ≤ LINE
      · rw [if_pos hl] at po
        refine op_rep pins s σ H _ _ v u Q I rx ry ⟨p, k, vs, rfl, re, e1, hl.1, hl.2.1, by rw [r1.length]; have := hl.2.2; rw [LINE_eq] at this; exact this, fun t ht => ?_⟩
        exact Po.ret (Po.mono (ext_new (t := [t]) (o := .lst (List.replicate k.toNat vs).flatten) ht) po) (sm.newL ht (r1.flat _)) (Rep.newL sm)
      · rw [if_neg hl] at po; exact po.elim
  case tup.int a k =>
    dsimp only [mulD] at po
    rw [Rep] at rd
    rw [Rep] at re
    obtain ⟨p, vs, rfl, h1, h2⟩ := rd
    by_cases hc : 0 < a.length ∧ a.length ≤ 1000 ∧ 2 ≤ k ∧ k ≤ 1000
    · rw [if_pos hc] at po
      refine op_rep2 pins s σ H _ _ v u Q I rx ry ⟨p, k, vs, rfl, re, h1.sq, fun e => by rw [← h2.length, e] at hc; exact absurd hc.1 (by decide), hc.2.2.1, hc.2.2.2, by rw [h2.length]; exact hc.2.1, fun t ht => ?_⟩
      exact sm.newTup ht (h2.flat _) po
    · rw [if_neg hc] at po; exact po.elim
theorem no_fdiv : NoEx fdivD := by intro d e S c S'; unfold fdivD; split <;> (try split) <;> simp
theorem zo_fdiv : OpR X (binaryOp .FloorDiv) (r2 X fdivD) := by
  intro pins s σ H x y v u Q I rx ry ⟨ι, S, d, e, sm, rd, re, po⟩
  cases d <;> cases e <;> first
    | exact False.elim po
    | skip
  case int.int i j =>
    rw [Rep] at rd re
    dsimp only [fdivD] at po
    by_cases hc : 0 < j ∧ j.natAbs.log2 < 9000
    · rw [if_pos hc] at po
      exact op_fdivW pins s σ H _ _ v u Q I rx ry ⟨i, j, rd, re, hc, Po.ret po sm (by rw [Rep])⟩
    · rw [if_neg hc] at po; exact po.elim
theorem no_mod : NoEx modD := by intro d e S c S'; unfold modD; split <;> (try split) <;> simp
theorem zo_mod : OpR X (binaryOp .Mod) (r2 X modD) := by
  intro pins s σ H x y v u Q I rx ry ⟨ι, S, d, e, sm, rd, re, po⟩
  cases d <;> cases e <;> first
    | exact False.elim po
    | skip
  case int.int i j =>
    rw [Rep] at rd re
    dsimp only [modD] at po
    by_cases hc : 0 < j
    · rw [if_pos hc] at po
      exact op_mod pins s σ H _ _ v u Q I rx ry ⟨i, j, rd, re, hc, Po.ret po sm (by rw [Rep])⟩
    · rw [if_neg hc] at po; exact po.elim
theorem no_pow : NoEx powD := by intro d e S c S'; unfold powD; split <;> (try split) <;> simp
theorem zo_pow : OpR X (binaryOp .Pow) (r2 X powD) := by
  intro pins s σ H x y v u Q I rx ry ⟨ι, S, d, e, sm, rd, re, po⟩
  cases d <;> cases e <;> first
    | exact False.elim po
    | skip
  case int.int i j =>
    rw [Rep] at rd re
    dsimp only [powD] at po
    by_cases hc : 0 ≤ j ∧ j ≤ 1000000 ∧ small i
    · rw [if_pos hc] at po
      have h3 := hc.2.2
      rw [small_iff] at h3
      exact op_pow pins s σ H _ _ v u Q I rx ry ⟨i, j, rd, re, ⟨hc.1, hc.2.1, by omega⟩, Po.ret po sm (by rw [Rep])⟩
    · rw [if_neg hc] at po; exact po.elim
theorem no_neg : ∀ d S c S', negD d S ≠ some (.ex c S') := by intro d S c S'; unfold negD; split <;> simp
theorem zo_neg : UnR X (unaryOp .USub) (fun x H Q => ∃ ι S d, Sim X.KW ι S H ∧ Rep X.KW ι H d x ∧ Po (Rep X.KW) X.KW X.mg ι H Q (fun _ _ _ => False) (negD d S)) := by
  intro pins s σ H x v Q I rx ⟨ι, S, d, sm, rd, po⟩
  cases d <;> first
    | exact False.elim po
    | skip
  case int i =>
    rw [Rep] at rd
    exact un_neg pins s σ H _ v Q I rx ⟨i, rd, Po.ret po sm (by rw [Rep])⟩
theorem zo_cmp {op : CmpOp} {f : D → D → Store → M D} {p : Int → Int → Bool} (hop : OpR X (compareOp op) (rI0 fun i j => .bl (p i j))) (h : ∀ i j S, f (.int i) (.int j) S = some (.ok (.bl (p i j)) S))
    (h' : ∀ d e S, f d e S ≠ none → ∃ i j, d = .int i ∧ e = .int j) : OpR X (compareOp op) (r2 X f) := by
  intro pins s σ H x y v u Q I rx ry ⟨ι, S, d, e, sm, rd, re, po⟩
  obtain ⟨i, j, rfl, rfl⟩ := h' d e S fun z => by rw [z] at po; exact po
  rw [h] at po
  rw [Rep] at rd re
  exact hop pins s σ H _ _ v u Q I rx ry ⟨i, j, rd, re, Po.ret po sm (by rw [Rep])⟩
theorem no_lt : NoEx ltD := by intro d e S c S'; unfold ltD; split <;> simp
theorem no_le : NoEx leD := by intro d e S c S'; unfold leD; split <;> simp
theorem no_gt : NoEx gtD := by intro d e S c S'; unfold gtD; split <;> simp
theorem no_ge : NoEx geD := by intro d e S c S'; unfold geD; split <;> simp
theorem zo_lt : OpR X (compareOp .Lt) (r2 X ltD) := zo_cmp op_lt (fun _ _ _ => rfl) fun d e S h => by cases d <;> cases e <;> first | exact absurd rfl h | exact ⟨_, _, rfl, rfl⟩
theorem zo_le : OpR X (compareOp .LtE) (r2 X leD) := zo_cmp op_le (fun _ _ _ => rfl) fun d e S h => by cases d <;> cases e <;> first | exact absurd rfl h | exact ⟨_, _, rfl, rfl⟩
theorem zo_gt : OpR X (compareOp .Gt) (r2 X gtD) := zo_cmp op_gt (fun _ _ _ => rfl) fun d e S h => by cases d <;> cases e <;> first | exact absurd rfl h | exact ⟨_, _, rfl, rfl⟩
theorem zo_ge : OpR X (compareOp .GtE) (r2 X geD) := zo_cmp op_ge (fun _ _ _ => rfl) fun d e S h => by cases d <;> cases e <;> first | exact absurd rfl h | exact ⟨_, _, rfl, rfl⟩
theorem no_eq : NoEx eqD := by intro d e S c S'; unfold eqD; split <;> (try split) <;> simp
theorem no_neL : NoEx neL := by
  intro d e S c S' h
  unfold neL at h
  split at h
  · split at h
    · split at h <;> cases h
    · cases h
  · cases h
theorem no_ne : NoEx neD := by
  intro d e S c S' h
  unfold neD at h
  split at h
  · split at h
    · cases h
    · exact no_neL _ _ _ _ _ h
  · cases h
theorem neL_inv {d e : D} {S : Store} (h : neL d e S ≠ none) : ∃ (n m : Nat) (xs ys : List D), d = .ref n ∧ e = .ref m ∧ S[n]? = some (.lst xs) ∧ S[m]? = some (.lst ys) ∧ ¬ xs.length = ys.length ∧ neL d e S = some (.ok (.bl true) S) := by
  unfold neL at h ⊢
  split at h
  · rename_i n m
    split at h
    · rename_i xs ys g1 g2
      split at h
      · exact absurd rfl h
      · rename_i hl
        refine ⟨n, m, xs, ys, rfl, rfl, g1, g2, hl, ?_⟩
        rw [if_neg hl]
    · exact absurd rfl h
  · exact absurd rfl h
theorem zo_eq (hu : X.A.units + 64 < cLine) : OpR X (compareOp .Eq) (r2 X eqD) := by
  intro pins s σ H x y v u Q I rx ry ⟨ι, S, d, e, sm, rd, re, po⟩
  unfold eqD at po
  match g1 : dat S d, g2 : dat S e, po with
  | some a, some b, po =>
    dsimp only at po
    by_cases hc : a.dep ≤ 64 ∧ b.dep ≤ 64
    · rw [if_pos hc] at po
      obtain ⟨q1, q2⟩ := dat_ok sm rd g1
      obtain ⟨q3, q4⟩ := dat_ok sm re g2
      refine op_eqD hu pins s σ H _ _ v u Q I rx ry ⟨_, _, q1, q3, py_shaped q2 hc.1, py_shaped q4 hc.2, ?_⟩
      rw [py_eqv]
      exact Po.ret po sm (by rw [Rep])
    · rw [if_neg hc] at po; exact po.elim
theorem zo_ne (hu : X.A.units + 64 < cLine) : OpR X (compareOp .NotEq) (r2 X neD) := by
  intro pins s σ H x y v u Q I rx ry ⟨ι, S, d, e, sm, rd, re, po⟩
  unfold neD at po
  match g1 : dat S d, g2 : dat S e, po with
  | some a, some b, po =>
    dsimp only at po
    by_cases hc : a.dep ≤ 64 ∧ b.dep ≤ 64
    · rw [if_pos hc] at po
      obtain ⟨q1, q2⟩ := dat_ok sm rd g1
      obtain ⟨q3, q4⟩ := dat_ok sm re g2
      refine op_neD hu pins s σ H _ _ v u Q I rx ry ⟨_, _, q1, q3, py_shaped q2 hc.1, py_shaped q4 hc.2, ?_⟩
      rw [py_eqv]
      exact Po.ret po sm (by rw [Rep])
    · rw [if_neg hc] at po
      obtain ⟨n, m, xs, ys, rfl, rfl, g3, g4, hne, hr⟩ := neL_inv (fun z => by rw [z] at po; exact po)
      rw [hr] at po
      obtain ⟨p1, vs, rfl, i1, e1, r1⟩ := lst_ok sm rd g3
      obtain ⟨p2, us, rfl, i2, e2, r2⟩ := lst_ok sm re g4
      cases rx
      cases ry
      obtain ⟨its, rv, pl, _⟩ := I.list (SqL.of e1)
      obtain ⟨its2, rv2, pl2, _⟩ := I.list (SqL.of e2)
      have hsz : (its.toArray.size != its2.toArray.size) = true := by
        have q1 := rv.length
        have q2 := rv2.length
        have q3 := r1.length
        have q4 := r2.length
        simp
        omega
      exact (SeqAt.RcNeAt.lists_lengths pl.isList pl2.isList hsz (by omega)) _ _ _ _ ⟨.bl true, H, I, rfl, Po.ret po sm (by rw [Rep])⟩
theorem rep_isNon {K : KW} {ι : List Addr} {H : Hp} {d : D} {v : V} (r : Rep K ι H d v) : decide (v = .non) = isNonB d := by
  cases d with
  | non => rw [Rep] at r; subst r; rfl
  | bl _ => rw [Rep] at r; subst r; rfl
  | int _ => rw [Rep] at r; subst r; rfl
  | str _ => rw [Rep] at r; obtain ⟨rfl, _⟩ := r; rfl
  | tup _ => rw [Rep] at r; obtain ⟨_, _, rfl, _⟩ := r; rfl
  | ref _ => rw [Rep] at r; obtain ⟨_, rfl, _⟩ := r; rfl
  | fl _ => rw [Rep] at r; obtain ⟨_, _, rfl, _⟩ := r; rfl
theorem no_is : NoEx isD := by intro d e S c S'; unfold isD; split <;> simp
theorem no_isnt : NoEx isntD := by intro d e S c S'; unfold isntD; split <;> simp
theorem zo_is : OpR X (compareOp .Is) (r2 X isD) := by
  intro pins s σ H x y v u Q I rx ry ⟨ι, S, d, e, sm, rd, re, po⟩
  unfold isD at po
  split at po
  · rw [Rep] at re
    exact op_isN pins s σ H _ _ v u Q I rx ry ⟨re, by rw [rep_isNon rd]; exact Po.ret po sm (by rw [Rep])⟩
  · rename_i a b
    rw [Rep] at rd re
    refine op_isBl pins s σ H _ _ v u Q I rx ry ⟨a, b, rd, re, ?_⟩
    exact Po.ret po sm (by rw [Rep, Bool.beq_eq_decide_eq])
  · exact po.elim
theorem zo_isnt : OpR X (compareOp .IsNot) (r2 X isntD) := by
  intro pins s σ H x y v u Q I rx ry ⟨ι, S, d, e, sm, rd, re, po⟩
  unfold isntD at po
  split at po
  · rw [Rep] at re
    exact op_notN pins s σ H _ _ v u Q I rx ry ⟨re, by rw [rep_isNon rd]; exact Po.ret po sm (by rw [Rep])⟩
  · rename_i a b
    rw [Rep] at rd re
    refine op_notBl pins s σ H _ _ v u Q I rx ry ⟨a, b, rd, re, ?_⟩
    exact Po.ret po sm (by rw [Rep, Bool.beq_eq_decide_eq])
  · exact po.elim
theorem no_nin : NoEx ninD := by intro d e S c S'; unfold ninD; split <;> simp
theorem inB_cases {x c : D} {S : Store} {b : Bool} (h : inB x c S = some b) : (∃ k z, x = .str [k] ∧ c = .str z ∧ b = decide (k ∈ z)) ∨
    (∃ n y ys, c = .ref n ∧ dat S x = some y ∧ dat S (.ref n) = some (.lst ys) ∧ y.dep ≤ 64 ∧ (PD.lst ys).dep ≤ 64 ∧ b = ys.any fun z => z.eqv y) := by
  unfold inB at h
  split at h
  · split at h
    · cases h; exact .inl ⟨_, _, rfl, rfl, rfl⟩
    · cases h
  · split at h
    · split at h
      · cases h; rename_i hc; exact .inr ⟨_, _, _, rfl, by assumption, by assumption, hc.1, hc.2, rfl⟩
      · cases h
    · cases h
  · cases h
theorem any_py (ys : List PD) (y : PD) : ((pyL ys).any fun z => PyData.eqv z y.py) = ys.any fun z => z.eqv y := by
  rw [pyL_map, List.any_map]
  congr 1
  funext z
  exact py_eqv z y
theorem zo_nin (hu : X.A.units + 65 < cLine) : OpR X (compareOp .NotIn) (r2 X ninD) := by
  intro pins s σ H x y v u Q I rx ry ⟨ι, S, d, e, sm, rd, re, po⟩
  unfold ninD at po
  cases g : inB d e S with
  | none => rw [g] at po; exact po.elim
  | some b =>
    rw [g] at po
    have q := Po.ret (x := V.bl (!b)) po sm (by rw [Rep])
    rcases inB_cases g with ⟨k, z, rfl, rfl, rfl⟩ | ⟨n, y, ys, rfl, h1, h2, h3, h4, rfl⟩
    · obtain ⟨rfl, _⟩ := rd.str
      obtain ⟨rfl, _⟩ := re.str
      exact op_notIn_sign pins s σ H _ _ v u Q I rx ry ⟨k, Z.str z, rfl, rfl, by simpa using q⟩
    · obtain ⟨q1, q2⟩ := dat_ok sm rd h1
      obtain ⟨q3, q4⟩ := dat_ok sm re h2
      refine op_notInD hu pins s σ H _ _ v u Q I rx ry ⟨_, _, q1, q3, py_shaped q2 h3, py_shaped q4 h4, ?_⟩
      rw [any_py]
      exact q
end
end Z
namespace Z
open PySem PySem.Spec PyProof.Rows L2
section
variable {X : Cx} {W : WX} {a b c e : Expr} {ma mb mc : SE} {pos : Pos}
theorem atI_eq {α : Type} (xs : List α) (i : Int) : L2.atI xs i = Z.atI xs i := rfl
theorem no_ix : NoEx ixD := by
  intro d e S c S'
  unfold ixD
  split <;> (try split) <;> (try split) <;> (try split) <;> (try split) <;> simp
theorem RepL.atI {K : KW} {ι : List Addr} {H : Hp} {ds : List D} {vs : List V} {i : Int} {d : D} (r : RepL K ι H ds vs) (h : Z.atI ds i = some d) : ∃ v, L2.atI vs i = some v ∧ Rep K ι H d v := by
  unfold Z.atI at h
  obtain ⟨j, h1, h2⟩ := Option.bind_eq_some_iff.mp h
  obtain ⟨v, h3, h4⟩ := r.get h2
  refine ⟨v, ?_, h4⟩
  unfold L2.atI
  rw [r.length]
  show (Z.ixN ds.length i).bind _ = _
  rw [h1]
  exact h3
theorem zx_ix : IxR X (r2 X ixD) := by
  intro value slice pins s σ H x y v u Q I rx ry ⟨ι, S, d, e, sm, rd, re, po⟩ hs
  unfold ixD at po
  split at po
  · rename_i i
    rw [Rep] at re
    split at po
    · rename_i z
      split at po
      · rename_i hl
        split at po
        · rename_i c hc
          obtain ⟨rfl, h2⟩ := rd.str
          have hm : c ∈ z := by
            unfold Z.atI at hc
            obtain ⟨j, _, q⟩ := Option.bind_eq_some_iff.mp hc
            exact List.mem_of_getElem? q
          exact ix_str value slice pins s σ H _ _ v u Q I rx ry ⟨_, i, c, rfl, re, by rw [LINE_eq] at hl; simpa [Str.length, sizeLine] using hl, by simpa [atI_eq] using hc, Po.ret po sm (by rw [Rep]; exact ⟨rfl, fun k hk => by simp at hk; subst hk; exact h2 _ hm⟩)⟩ hs
        · exact po.elim
      · exact po.elim
    · split at po
      · rename_i xs hx
        split at po
        · rename_i w hw
          obtain ⟨p, vs, rfl, h1, h2⟩ := seq_ok sm rd hx
          obtain ⟨t, h3, h4⟩ := h2.atI hw
          rcases h1 with h1 | h1
          · exact ix_list value slice pins s σ H _ _ v u Q I rx ry ⟨p, vs, i, t, rfl, re, h1, h3, Po.ret po sm h4⟩ hs
          · exact ix_tup value slice pins s σ H _ _ v u Q I rx ry ⟨p, vs, i, t, rfl, re, h1.sq, h3, Po.ret po sm h4⟩ hs
        · exact po.elim
      · exact po.elim
  · exact po.elim
theorem ge_ix (ha : GE X W a ma) (hb : GE X W b mb) (hs : PlainIx b := by exact fun _ _ => rfl) : GE X W (.Subscript a b pos) (e2 ixD ma mb) := (pe_ix zx_ix ha hb hs).imp fun σ H Q h => e2_read no_ix h
/-- a slice's part -/
def prt : Option SE → Env → Store → M (Option Int)
  | none, _, S => some (.ok none S)
  | some m, ρ, S => Z.bd (m ρ S) fun x S2 => match x with | .int i => some (.ok (some i) S2) | _ => none
def tO (K : KW) (mg : Mg) (W : WX) (o : Option SE) : TO := fun σ H Q => ∃ ι ρ S, Sim K ι S H ∧ EnvR K ι H ρ σ ∧ Po (fun _ _ a b => b = a) K mg ι H Q (fun cls d H' => W cls d σ H') (prt o ρ S)
def GO (X : Cx) (W : WX) (e : Option Expr) (o : Option SE) : Prop := PO X e (tO X.KW X.mg W o)
theorem go_none : GO X W none none := ⟨fun pins s σ H Q I ⟨ι, ρ, S, sm, r, p⟩ => (po_none (X := X)).run pins s σ H Q I (Po.ret p sm rfl)⟩
theorem go_some (h : GE X W e ma) : GO X W (some e) (some ma) := ⟨fun pins s σ H Q I ⟨ι, ρ, S, sm, r, p⟩ => (po_some h).run pins s σ H Q I ⟨ι, ρ, S, sm, r, Po.bd p fun d S1 ι1 H1 x e1 s1 r1 p1 => by
  cases d with
  | int i => rw [Rep] at r1; exact ⟨i, r1, Po.ret p1 s1 rfl⟩
  | _ => exact p1.elim⟩⟩
theorem zs_sl : SlR X (fun x lo hi H Q => ∃ ι S d, Sim X.KW ι S H ∧ Rep X.KW ι H d x ∧ Po (Rep X.KW) X.KW X.mg ι H Q (fun _ _ _ => False) (slD lo hi d S)) := by
  intro pins s σ H x v vl vu lo hi sl Q I rx hs pl pu ⟨ι, S, d, sm, rd, po⟩
  unfold slD at po
  split at po
  · rename_i z
    split at po
    · rename_i hl
      obtain ⟨rfl, h2⟩ := rd.str
      refine sl_str pins s σ H _ v vl vu lo hi sl Q I rx hs pl pu ⟨_, rfl, by rw [LINE_eq] at hl; simpa [Str.length, sizeLine] using hl, Po.ret po sm ?_⟩
      rw [Rep]
      refine ⟨?_, fun k hk => h2 k ?_⟩
      · unfold cutS cut
        have e : ∀ n d o, Z.sIx n d o = HT.sIx n d o := fun n d o => by cases o <;> rfl
        simp only [e, Str.length]
        simp
      · unfold cut at hk
        exact List.mem_of_mem_drop (List.mem_of_mem_take hk)
    · exact po.elim
  · rename_i xs
    rw [Rep] at rd
    obtain ⟨p, vs, rfl, h1, h2⟩ := rd
    refine sl_tup2 pins s σ H _ v vl vu lo hi sl Q I rx hs pl pu ⟨p, vs, rfl, h1.sq, fun hw => ?_, fun _ t ht => ?_⟩
    · have hc : cutV vs lo hi = vs := by unfold cutV; rw [hw.1, hw.2]; simp
      refine Po.ret po sm ?_
      rw [Rep]
      have hcx : cut xs lo hi = xs := by
        have e : ∀ n d o, Z.sIx n d o = HT.sIx n d o := fun n d o => by cases o <;> rfl
        have hl := h2.length
        unfold cut
        rw [hl] at hw
        rw [e, e, hw.1, hw.2]
        simp
      rw [hcx]
      exact ⟨p, vs, rfl, h1, h2⟩
    · exact sm.newTup ht (h2.cut lo hi) po
  · split at po
    · rename_i g
      obtain ⟨p, vs, rfl, i1, e1, r1⟩ := lst_ok sm rd g
      refine sl_list pins s σ H _ v vl vu lo hi sl Q I rx hs pl pu ⟨p, vs, rfl, SqL.of e1, fun t ht => ?_⟩
      exact Po.ret (Po.mono (ext_new (t := [t]) (o := .lst (cutV vs lo hi)) ht) po) (sm.newL ht (r1.cut lo hi)) (Rep.newL sm)
    · exact po.elim
  · exact po.elim
theorem no_sl (lo hi : Option Int) (d : D) (S : Store) (c : String) (S' : Store) : slD lo hi d S ≠ some (.ex c S') := by
  unfold slD
  split <;> (try split) <;> simp [new1]
theorem ge_sl {lo hi : Option Expr} {ol oh : Option SE} {p2 : Pos} (he : GE X W e ma) (hl : GO X W lo ol) (hh : GO X W hi oh) : GE X W (.Subscript e (.Slice lo hi none p2) pos) (eSl ma ol oh) :=
  (pe_slice zs_sl he hl hh).imp fun σ H Q ⟨ι, ρ, S, s, r, p⟩ => by
    refine ⟨ι, ρ, S, s, r, Po.bd p fun d S1 ι1 H1 x e1 s1 r1 p1 => ?_⟩
    have p1 : Po (Rep X.KW) X.KW X.mg ι1 H1 Q (fun cls d H' => W cls d σ H') (Z.bd (prt ol ρ S1) fun l S3 => Z.bd (prt oh ρ S3) fun h S5 => slD l h d S5) := by
      cases ol <;> cases oh <;> exact p1
    refine ⟨ι1, ρ, S1, s1, r.ext e1, Po.bd p1 fun l S2 ι2 H2 y e2 s2 r2 p2 => ?_⟩
    obtain rfl : y = l := r2
    refine ⟨ι2, ρ, S2, s2, (r.ext e1).ext e2, Po.bd p2 fun h S3 ι3 H3 z e3 s3 r3 p3 => ?_⟩
    obtain rfl : z = h := r3
    exact ⟨ι3, S3, d, s3, Rep.ext e3 _ _ (Rep.ext e2 _ _ r1), p3.noex fun c S' => no_sl _ _ _ _ c S'⟩
theorem one_of {ds : List D} {vs : List V} {d : D} {K : KW} {ι : List Addr} {H : Hp} (r : RepL K ι H [d] vs) : ∃ v, vs = [v] ∧ Rep K ι H d v := by
  obtain ⟨v, t, rfl, h1, h2⟩ := r.cons
  rw [h2.nil]
  exact ⟨v, rfl, h1⟩
theorem no_len : NoExF lenF := by intro ds S c S'; unfold lenF; split <;> (try split) <;> simp
theorem zc_len : CallR X (.builtin "len") (rB X lenF) := by
  intro pins s σ H xs us Q I r ⟨ι, S, ds, sm, rd, po⟩
  unfold lenF at po
  split at po
  · rename_i z
    obtain ⟨v, rfl, h⟩ := one_of (ds := []) rd
    obtain ⟨rfl, _⟩ := h.str
    split at po
    · rename_i hl
      refine call_len_str pins s σ H _ us Q I r ⟨_, rfl, by rw [LINE_eq] at hl; simpa [Str.length, sizeLine] using hl, ?_⟩
      exact Po.ret po sm (by rw [Rep]; simp [Str.length])
    · exact po.elim
  · obtain ⟨v, rfl, h⟩ := one_of (ds := []) rd
    split at po
    · rename_i xs hx
      obtain ⟨p, vs, rfl, h1, h2⟩ := seq_ok sm h hx
      refine call_len_seq pins s σ H _ us Q I r ⟨p, vs, rfl, h1.imp id TupAt.sq, ?_⟩
      exact Po.ret po sm (by rw [Rep, h2.length])
    · exact po.elim
  · exact po.elim
theorem no_abs : NoExF absF := by intro ds S c S'; unfold absF; split <;> simp
theorem zc_abs : CallR X (.builtin "abs") (rB X absF) := by
  intro pins s σ H xs us Q I r ⟨ι, S, ds, sm, rd, po⟩
  unfold absF at po
  split at po
  · obtain ⟨v, rfl, h⟩ := one_of (ds := []) rd
    rw [Rep] at h
    exact call_abs pins s σ H _ us Q I r ⟨_, by rw [h], Po.ret po sm (by rw [Rep])⟩
  · exact po.elim
theorem no_list : NoExF listF := by intro ds S c S'; unfold listF; split <;> (try split) <;> simp [new1]
theorem zc_list : CallR X (.type "list") (rB X listF) := by
  intro pins s σ H xs us Q I r ⟨ι, S, ds, sm, rd, po⟩
  unfold listF at po
  split at po
  · obtain ⟨v, rfl, h⟩ := one_of (ds := []) rd
    split at po
    · rename_i xs hx
      obtain ⟨p, vs, rfl, h1, h2⟩ := seq_ok sm h hx
      refine call_list_of pins s σ H _ us Q I r ⟨p, vs, rfl, h1.imp id TupAt.sq, fun t ht => ?_⟩
      exact Po.ret (Po.mono (ext_new (t := [t]) (o := .lst vs) ht) po) (sm.newL ht h2) (Rep.newL sm)
    · exact po.elim
  · exact po.elim
theorem no_tuple : NoExF tupleF := by intro ds S c S'; unfold tupleF; split <;> (try split) <;> simp
theorem zc_tuple : CallR X (.type "tuple") (rB X tupleF) := by
  intro pins s σ H xs us Q I r ⟨ι, S, ds, sm, rd, po⟩
  unfold tupleF at po
  split at po
  · obtain ⟨v, rfl, h⟩ := one_of (ds := []) rd
    split at po
    · rename_i xs hx
      obtain ⟨p, vs, rfl, h1, h2⟩ := seq_ok sm h hx
      refine call_tuple2 pins s σ H _ us Q I r ⟨p, vs, rfl, ?_⟩
      rcases h1 with h1 | h1
      · refine .inl ⟨h1, fun t ht => ?_⟩
        exact sm.newTup ht h2 po
      · exact .inr ⟨h1.sq, Po.ret po sm (by rw [Rep]; exact ⟨p, vs, rfl, h1, h2⟩)⟩
    · exact po.elim
  · exact po.elim
def Ty.nm : Ty → String
  | .str => "str" | .int => "int" | .bool => "bool" | .tuple => "tuple" | .list => "list"
theorem ty_of {K : KW} {ι : List Addr} {H : Hp} {S : Store} {d : D} {v : V} {t : Ty} {b : Bool} (s : Sim K ι S H) (r : Rep K ι H d v) (h : isiB S t d = some b) : ∃ T : String, TyX K H v (.type T) ∧ PySem.W.kitOne K (.type T) (.type t.nm) = some b := by
  cases d with
  | non => rw [Rep] at r; subst r; cases h; exact ⟨_, .base .non, by cases t <;> exact kit_ty (by decide +kernel)⟩
  | bl x => rw [Rep] at r; subst r; exact ⟨_, .base (.bl x), by cases t <;> (cases h; exact kit_ty (by decide +kernel))⟩
  | int x => rw [Rep] at r; subst r; exact ⟨_, .base (.int x), by cases t <;> (cases h; exact kit_ty (by decide +kernel))⟩
  | str x => obtain ⟨rfl, _⟩ := r.str; exact ⟨_, .base (.str _), by cases t <;> (cases h; exact kit_ty (by decide +kernel))⟩
  | tup xs =>
    rw [Rep] at r
    obtain ⟨a, vs, rfl, h1, _⟩ := r
    refine ⟨"tuple", ?_, by cases t <;> (cases h; exact kit_ty (by decide +kernel))⟩
    cases hb : xs.all k0
    · rw [hb] at h1
      obtain ⟨o, _, h1⟩ := h1
      exact .fTuple h1
    · rw [hb] at h1
      exact .base (.tup h1)
  | fl xs =>
    rw [Rep] at r
    obtain ⟨a, vs, rfl, h1, _⟩ := r
    refine ⟨"list", ?_, by cases t <;> (cases h; exact kit_ty (by decide +kernel))⟩
    rcases h1 with ⟨o, h1⟩ | ⟨o, its, n, h1, h2, _⟩
    · exact .base (.frz h1)
    · exact .kList h1 h2
  | ref n =>
    unfold isiB at h
    dsimp only at h
    split at h
    · rename_i g
      obtain ⟨p, vs, rfl, i1, e1, r1⟩ := lst_ok s r g
      exact ⟨"list", .base (.lst e1), by cases t <;> (cases h; exact kit_ty (by decide +kernel))⟩
    · cases h
/-- isinstance(e, T) -/
theorem ge_isi (t : Ty) {x T : Str} {p p2 : Pos} (he : GE X W e ma) (hg : Gl X x) (hm : X.mg x = none) (hv : bootBuiltins x = some (.builtin "isinstance")) (hg2 : Gl X T) (hm2 : X.mg T = none) (hv2 : bootBuiltins T = some (.type t.nm))
    (hn : x ≠ "__name__" := by decide) (hdb : (x == ("__debug__" : Str)) = false := by decide) (hn2 : T ≠ "__name__" := by decide) (hdb2 : (T == ("__debug__" : Str)) = false := by decide)
    (hs : starEach (e :: [.Name T p2]) X.env = (false, eval e X.env) :: starEach [.Name T p2] X.env := by rfl) (hpl : (backTo pos (starEach [.Name T p2] X.env)).any (·.1) = false := by rfl) : GE X W (.Call (.Name x p) [e, .Name T p2] [] pos) (e1 (isiD t) ma) :=
  (pe_callB call_isi hg hm hv (pa_cons he (pa_cons (pe_bltn (v := .ty t.nm) hg2 hm2 hv2 rfl hn2 hdb2) pa_nil) hs) hn hdb hs hpl).imp fun σ H Q ⟨ι, ρ, S, s, r, p⟩ => by
    refine ⟨ι, ρ, S, s, r, Po.bd p fun d S1 ι1 H1 y e1 s1 r1 p1 => ?_⟩
    unfold isiD at p1
    cases g : isiB S1 t d with
    | none => rw [g] at p1; exact p1.elim
    | some k =>
      rw [g] at p1
      obtain ⟨T, h1, h2⟩ := ty_of s1 r1 g
      exact ⟨y, .ty t.nm, _, _, k, rfl, .ty _, h1, h2, Po.ret p1 s1 (by rw [Rep])⟩
def rM (X : Cx) (F : Fn) : V → List V → Hp → VK → Prop := fun x vs H Q => ∃ ι S d ds, Sim X.KW ι S H ∧ Rep X.KW ι H d x ∧ RepL X.KW ι H ds vs ∧ Po (Rep X.KW) X.KW X.mg ι H Q (fun _ _ _ => False) (F (d :: ds) S)
def Rc.nm : Rc → String
  | .list => "list" | .str => "str" | .dict => "dict"
theorem rc_ok {K : KW} {ι : List Addr} {H : Hp} {S : Store} {d : D} {v : V} {t : Rc} (s : Sim K ι S H) (r : Rep K ι H d v) (h : rcB S t d = true) : tyV K t.nm v H := by
  unfold rcB at h
  split at h
  · obtain ⟨rfl, _⟩ := r.str
    cases t <;> first | rfl | cases h
  · split at h
    · rename_i g
      obtain ⟨p, vs, rfl, i1, e1, r1⟩ := lst_ok s r g
      exact .inl ⟨rfl, _, SqL.of e1⟩
    · rename_i g
      rw [Rep] at r
      obtain ⟨a, rfl, r1⟩ := r
      obtain ⟨ks, e, _⟩ := s.get r1 g
      exact .inr (.inr (.inl ⟨rfl, .inr ⟨ks, e⟩⟩))
    · cases h
  · cases h
theorem ge_mt (t : Rc) {id : String} {F : Fn} {o : Expr} {es : List Expr} {ms : List SE} {name : Str} {apos : Pos} (n : NoExF F) (pa : PlainAttrs t.nm) (slot : Slot t.nm name id) (hty : typeOf (.builtin id) = pure (.type "method_descriptor")) (hm : MtR X id (rM X F)) (ho : GE X W o ma) (ha : GA X W (e :: es) ms)
    (hbase : attributeBase o name X.env (eval o X.env) = eval o X.env := by rfl)
    (hfew : ((backTo pos (starEach (e :: es) X.env)).all (fun x => !x.1) && (backToKw pos (keywordEach [] X.env)).all (fun x => x.1.isSome)
      && decide ((e :: es).length + ([] : List Keyword).length + (if ([] : List Keyword).isEmpty then 0 else 1) < 30)) = true := by rfl)
    (hline : (apos.endLine == pos.line) = true := by rfl) (hs : starEach (e :: es) X.env = (false, eval e X.env) :: starEach es X.env := by rfl) (hplain : (backTo pos (starEach es X.env)).any (·.1) = false := by rfl) :
    GE X W (.Call (.Attribute o name apos) (e :: es) [] pos) (eMt t F ma ms) := (pe_bm pa slot hty hm ho ha hbase hfew hline hs hplain).imp fun σ H Q ⟨ι, ρ, S, s, r, p⟩ => by
  refine ⟨ι, ρ, S, s, r, Po.bd p fun d S1 ι1 H1 x e1 s1 r1 p1 => ?_⟩
  by_cases hr : rcB S1 t d = true
  · rw [if_pos hr] at p1
    refine ⟨rc_ok s1 r1 hr, ι1, ρ, S1, s1, r.ext e1, Po.evL p1 fun ds S2 ι2 H2 vs hd e2 s2 r2 p2 => ?_⟩
    exact ⟨ι2, S2, d, ds, s2, Rep.ext e2 _ _ r1, r2, p2.noex fun c S' => n _ _ _ _⟩
  · rw [if_neg hr] at p1; exact p1.elim
theorem ge_mt0 (t : Rc) {id : String} {F : Fn} {o : Expr} {name : Str} {apos : Pos} (n : NoExF F) (pa : PlainAttrs t.nm) (slot : Slot t.nm name id) (hty : typeOf (.builtin id) = pure (.type "method_descriptor")) (hm : MtR X id (rM X F)) (ho : GE X W o ma)
    (hbase : attributeBase o name X.env (eval o X.env) = eval o X.env := by rfl) (hline : (apos.endLine == pos.line) = true := by rfl) :
    GE X W (.Call (.Attribute o name apos) [] [] pos) (eMt t F ma []) := (pe_bm0 pa slot hty hm ho hbase hline).imp fun σ H Q ⟨ι, ρ, S, s, r, p⟩ => by
  refine ⟨ι, ρ, S, s, r, Po.bd p fun d S1 ι1 H1 x e1 s1 r1 p1 => ?_⟩
  by_cases hr : rcB S1 t d = true
  · rw [if_pos hr] at p1
    exact ⟨rc_ok s1 r1 hr, ι1, S1, d, [], s1, r1, by rw [RepL], Po.noex p1 fun c S' => n _ _ _ _⟩
  · rw [if_neg hr] at p1; exact p1.elim
theorem no_append : NoExF appendF := by intro ds S c S'; unfold appendF; split <;> (try split) <;> (try split) <;> simp
theorem zm_append : MtR X "list.append" (rM X appendF) := by
  intro pins s σ H x xs v us Q I rx r ⟨ι, S, d, ds, sm, rd, rds, po⟩
  unfold appendF at po
  split at po
  · rename_i n y heq
    cases heq
    obtain ⟨w, rfl, hw⟩ := one_of (ds := []) rds
    split at po
    · rename_i ys g
      obtain ⟨p, vs, rfl, i1, e1, r1⟩ := lst_ok sm rd g
      split at po
      · rename_i hl
        have em : Ext ι H ι (upd H p (.lst (vs ++ [w]))) := ext_mut e1 trivial
        refine mt_append pins s σ H _ _ v us Q I rx r ⟨p, vs, w, rfl, rfl, e1, by rw [r1.length]; rw [LINE_eq] at hl; exact hl, ?_⟩
        exact Po.ret (Po.mono em po) (sm.put i1 ⟨_, upd_same, RepL.ext em _ _ (r1.append (RepL.one hw))⟩ ⟨_, e1, trivial⟩) (by rw [Rep])
      · exact po.elim
    · exact po.elim
  · exact po.elim
theorem no_pop : NoExF popF := by intro ds S c S'; unfold popF; split <;> (try split) <;> (try split) <;> (try split) <;> simp
theorem RepL.dropLast {K : KW} {ι : List Addr} {H : Hp} {ds : List D} {vs : List V} (r : RepL K ι H ds vs) : RepL K ι H ds.dropLast vs.dropLast := by
  rw [List.dropLast_eq_take, List.dropLast_eq_take, r.length]
  exact r.take _
theorem zm_pop : MtR X "list.pop" (rM X popF) := by
  intro pins s σ H x xs v us Q I rx r ⟨ι, S, d, ds, sm, rd, rds, po⟩
  unfold popF at po
  split at po
  · rename_i n heq
    cases heq
    have e0 := rds.nil
    subst e0
    split at po
    · rename_i ys g
      obtain ⟨p, vs, rfl, i1, e1, r1⟩ := lst_ok sm rd g
      split at po
      · rename_i z hz
        obtain ⟨w, h1, h2⟩ := r1.get hz
        have em : Ext ι H ι (upd H p (.lst vs.dropLast)) := ext_mut e1 trivial
        refine mt_pop pins s σ H _ _ v us Q I rx r ⟨p, vs, w, rfl, rfl, e1, by rw [r1.length]; exact h1, ?_⟩
        exact Po.ret (Po.mono em po) (sm.put i1 ⟨_, upd_same, RepL.ext em _ _ r1.dropLast⟩ ⟨_, e1, trivial⟩) (Rep.ext em _ _ h2)
      · exact po.elim
    · exact po.elim
  · rename_i n i heq
    cases heq
    obtain ⟨wi, rfl, hwi⟩ := one_of (ds := []) rds
    rw [Rep] at hwi
    subst hwi
    split at po
    · rename_i ys g
      obtain ⟨p, vs, rfl, i1, e1, r1⟩ := lst_ok sm rd g
      split at po
      · rename_i k hk
        split at po
        · rename_i z hz
          obtain ⟨w, h1, h2⟩ := r1.get hz
          have em : Ext ι H ι (upd H p (.lst (vs.eraseIdx k))) := ext_mut e1 trivial
          obtain ⟨q1, q2, q3, q4⟩ := L2.ixN_seq (n := ys.length) (i := i) hk
          have hsz : vs.length ≤ sizeLine := (show ObjOk X.prog X.w H s.heap p (.lst vs) from I.hok p _ e1).1
          have hsz2 : ys.length ≤ 16777216 := by rw [← r1.length]; exact hsz
          refine mt_popAt pins s σ H _ _ v us Q I rx r ⟨p, vs, i, k, w, rfl, rfl, e1, by omega, by omega, by rw [r1.length]; exact q1, h1, ?_⟩
          exact Po.ret (Po.mono em po) (sm.put i1 ⟨_, upd_same, RepL.ext em _ _ (r1.eraseIdx k)⟩ ⟨_, e1, trivial⟩) (Rep.ext em _ _ h2)
        · exact po.elim
      · exact po.elim
    · exact po.elim
  · exact po.elim
theorem Po.ritm {K : KW} {mg : Mg} {ι : List Addr} {H : Hp} {R : It → Hp → Prop} {E : XK} {J : Itm} {S : Store} {j : It} (h : Po (RItm K) K mg ι H R E (some (.ok J S))) (s : Sim K ι S H) (r : RItm K ι H J j) : R j H := h ι H j .refl s r
theorem ritm_seq {K : KW} {ι : List Addr} {H : Hp} {xs : List D} {n : Nat} {a : Addr} (ha : ι[n]? = some a) : RItm K ι H ⟨xs, fun S => S[n]? = some (.lst xs)⟩ (Itl K a) := fun ι' H' S' e s c => by
  obtain ⟨vs, h1, h2⟩ := s.get (e.at ha) c
  refine ⟨fun i x hx => ?_, vs, SqL.of h1, by rw [h2.length]; exact Nat.le_refl _⟩
  obtain ⟨v, h3, h4⟩ := h2.get hx
  refine ⟨⟨vs, v, SqL.of h1, h3⟩, fun w H'' y => ?_⟩
  obtain ⟨rfl, y⟩ := y
  have := y vs (SqL.of h1)
  rw [h3] at this
  cases this
  exact ⟨.refl, s, h4⟩
theorem ritm_tup {K : KW} {ι : List Addr} {H : Hp} {xs : List D} {vs : List V} {a : Addr} (h1 : SqT K H a vs) (h2 : RepL K ι H xs vs) : RItm K ι H ⟨xs, fun _ => True⟩ (Itt K a) := fun ι' H' S' e s c => by
  have h1 := e.sqT h1
  have h2 := RepL.ext e _ _ h2
  refine ⟨fun i x hx => ?_, vs, h1, by rw [h2.length]; exact Nat.le_refl _⟩
  obtain ⟨v, h3, h4⟩ := h2.get hx
  refine ⟨⟨vs, v, h1, h3⟩, fun w H'' y => ?_⟩
  obtain ⟨rfl, y⟩ := y
  have := y vs h1
  rw [h3] at this
  cases this
  exact ⟨.refl, s, h4⟩
theorem ritm_fl {K : KW} {ι : List Addr} {H : Hp} {xs : List D} {vs : List V} {a : Addr} (h1 : FzL K H a vs) (h2 : RepL K ι H xs vs) : RItm K ι H ⟨xs, fun _ => True⟩ (Itl K a) := fun ι' H' S' e s c => by
  have h1 := e.fzL h1
  have h2 := RepL.ext e _ _ h2
  refine ⟨fun i x hx => ?_, vs, h1.seq, by rw [h2.length]; exact Nat.le_refl _⟩
  obtain ⟨v, h3, h4⟩ := h2.get hx
  refine ⟨⟨vs, v, h1.seq, h3⟩, fun w H'' y => ?_⟩
  obtain ⟨rfl, y⟩ := y
  have := y vs h1.seq
  rw [h3] at this
  cases this
  exact ⟨.refl, s, h4⟩
end
end Z
namespace Z
open PySem PySem.Spec PyProof.Rows L2
section
variable {X : Cx} {W : WX} {e tg : Expr} {m : SE} {pos : Pos}
theorem new_it {pins : List (Addr × Obj)} {σ : L2.St} {H : Hp} {sh : Shared} {R : It → Hp → Prop} (J : L2.Inv X pins σ H sh) (ob : Obj) {tn : Nat → Heap → Prop} {j : It}
    (tu : Turn X.prog X.w X.KW tg j [sh.heap.objs.size] sh.heap.objs.size tn) (t0 : tn 0 (sh.heap.push ob)) (q : R j H) : PIE X pins σ tg R (.ref sh.heap.objs.size) { sh with heap := sh.heap.push ob } := by
  refine ⟨_, _, tn, j, H, rfl, J.kept (t' := sh.toks) (fun b o g => Heap.get?_push_of_some _ g), tu, t0, fun b hb => ?_, q⟩
  obtain rfl : b = sh.heap.objs.size := by simpa using hb
  exact J.fpOk (Nat.le_refl _) (J.hok.fresh (Nat.le_refl _))
theorem ritm_str {K : KW} {ι : List Addr} {H : Hp} {s : List Nat} (ha : ∀ c ∈ s, c < 128) : RItm K ι H ⟨s.map fun c => .str [c], fun _ => True⟩ (Its (Z.str s)) := fun ι' H' S' ex sm c => by
  refine ⟨fun i x hx => ?_, by show (Z.str s).cps.size ≤ _; simp⟩
  rw [List.getElem?_map] at hx
  obtain ⟨k, hk, rfl⟩ := Option.map_eq_some_iff.mp hx
  have hi := (List.getElem?_eq_some_iff.mp hk).1
  refine ⟨by show i < (Z.str s).cps.size; simpa using hi, fun v H2 y => ?_⟩
  obtain ⟨rfl, c, h1, rfl⟩ := y
  have h1 : s[i]? = some c := by simpa using h1
  rw [hk] at h1; cases h1
  exact ⟨.refl, sm, by rw [Rep]; exact ⟨rfl, fun d hd => by simp at hd; subst hd; exact ha _ (List.mem_of_getElem? hk)⟩⟩
/-- what is walked, by its value -/
theorem iter_val {pins : List (Addr × Obj)} {σ : L2.St} {H : Hp} {sh : Shared} {R : It → Hp → Prop} {E : XK} {v : Value} {x : V} {ι : List Addr} {S : Store} {d : D} (J : L2.Inv X pins σ H sh) (rx : L2.RelV x v) (sm : Sim X.KW ι S H) (rd : Rep X.KW ι H d x)
    (p : Po (RItm X.KW) X.KW X.mg ι H R E (itmOf d S)) : wpAny (model X.prog X.w) X.A (pyIter v) (PIE X pins σ tg R) X.xe sh := by
  unfold itmOf at p
  split at p
  · split at p
    · rename_i xs g
      obtain ⟨a, vs, rfl, i1, e1, r1⟩ := lst_ok sm rd g
      obtain rfl : v = Value.ref a := rx
      obtain ⟨its, rv, pl, _⟩ := J.list (SqL.of e1)
      exact wpAny_pyIter_list pl.isList (new_it J _ (turn_list a _) ⟨_, Heap.get?_push_size _ rfl, rfl, rfl⟩ (Po.ritm p sm (ritm_seq i1)))
    · exact p.elim
  · rw [Rep] at rd
    obtain ⟨a, vs, rfl, h1, h2⟩ := rd
    obtain rfl : v = Value.ref a := rx
    obtain ⟨its, rv, pl, _⟩ := J.tuple h1.sq
    exact wpAny_pyIter_tuple (show sh.heap.IsTuple a its.toArray from pl) (new_it J _ (turn_tuple a _) ⟨_, Heap.get?_push_size _ rfl, rfl, rfl⟩ (Po.ritm p sm (ritm_tup h1.sq h2)))
  · rw [Rep] at rd
    obtain ⟨a, vs, rfl, h1, h2⟩ := rd
    obtain rfl : v = Value.ref a := rx
    obtain ⟨its, rv, pl, _⟩ := J.list h1.seq
    exact wpAny_pyIter_list pl.isList (new_it J _ (turn_list a _) ⟨_, Heap.get?_push_size _ rfl, rfl, rfl⟩ (Po.ritm p sm (ritm_fl h1 h2)))
  · rename_i s
    obtain ⟨rfl, ha⟩ := rd.str
    obtain ⟨t, rfl⟩ := rx
    have hall : (Z.str s).cps.all (· < 128) = true := by
      rw [Array.all_eq_true']
      intro c hc
      exact decide_eq_true (ha c (by simpa using hc))
    exact wpAny_pyIter_ascii hall (new_it J _ (turn_str _ _ t "str_ascii_iterator" (.inl rfl)) ⟨_, Heap.get?_push_size _ rfl, rfl, rfl⟩ (Po.ritm p sm (ritm_str ha)))
  · exact p.elim
theorem gi_any (h : GE X W e m) : GI X W tg e (iAny m) := by
  refine ⟨fun pins sh σ H R J ⟨ι, ρ, S, sm, r, p⟩ => ?_⟩
  have p : Po (RItm X.KW) X.KW X.mg ι H R (fun cls d H' => W cls d σ H') (Z.bd (m ρ S) itmOf) := p
  refine L2.thn (h.run pins sh σ H (fun x H1 => ∃ ι1 S1 d, Sim X.KW ι1 S1 H1 ∧ Rep X.KW ι1 H1 d x ∧ Po (RItm X.KW) X.KW X.mg ι1 H1 R (fun cls d H' => W cls d σ H') (itmOf d S1)) J ⟨ι, ρ, S, sm, r, Po.bd p fun d S1 ι1 H1 x e1 s1 r1 p1 => ⟨ι1, S1, d, s1, r1, p1⟩⟩) ?_
  rintro v sh1 ⟨x, H1, J1, rx, ι1, S1, d, s1, r1, p1⟩
  exact iter_val J1 rx s1 r1 p1
theorem ritm_range {K : KW} {ι : List Addr} {H : Hp} {lo : Int} {n : Nat} : RItm K ι H ⟨(List.range n).map fun (k : Nat) => .int (lo + k), fun _ => True⟩ (Itr lo n) := fun ι' H' S' ex sm c => by
  refine ⟨fun i x hx => ?_, by show n ≤ _; simp⟩
  rw [List.getElem?_map] at hx
  obtain ⟨k, hk, rfl⟩ := Option.map_eq_some_iff.mp hx
  have hi : i < n := by simpa using (List.getElem?_eq_some_iff.mp hk).1
  rw [List.getElem?_range hi] at hk
  cases hk
  refine ⟨hi, fun v H2 y => ?_⟩
  obtain ⟨rfl, rfl⟩ := y
  exact ⟨.refl, sm, by rw [Rep]⟩
/-- range(n) -/
theorem gi_r1 {a : Expr} {p : Pos} (ha : GE X W a m) (hg : Gl X "range") (hm : X.mg "range" = none) (hs : starEach [a] X.env = [(false, eval a X.env)] := by rfl) (hs2 : starEach [a] X.env = (false, eval a X.env) :: starEach [] X.env := by rfl) :
    GI X W tg (.Call (.Name "range" p) [a] [] pos) (iR1 m) := (pi_range1 hg hm (pa_cons ha pa_nil hs2) hs).imp fun σ H R ⟨ι, ρ, S, sm, r, p⟩ => by
  refine ⟨ι, ρ, S, sm, r, Po.bd p fun d S1 ι1 H1 x e1 s1 r1 p1 => ?_⟩
  cases d with
  | int n =>
    rw [Rep] at r1
    subst r1
    dsimp only at p1
    by_cases hc : r62 n
    · rw [if_pos hc] at p1
      rw [r62_iff] at hc
      refine ⟨n, rfl, by omega, by omega, Po.ritm p1 s1 ?_⟩
      have := ritm_range (K := X.KW) (ι := ι1) (H := H1) (lo := 0) (n := n.toNat)
      simpa using this
    · rw [if_neg hc] at p1; exact p1.elim
  | _ => exact p1.elim
theorem Po.bqb {α β α' : Type} {R : List Addr → Hp → α → β → Prop} {K mg ι H} {Q : β → Hp → Prop} {E : XK} {m : M α} {f : α → Store → M α'} {o : Res α'} (h : Z.bq m f = some o)
    (k : ∀ a S ι1 H1 x, Ext ι H ι1 H1 → Sim K ι1 S H1 → R ι1 H1 a x → f a S = some o → Q x H1) : Po R K mg ι H Q E m := by
  match m, h with
  | some (.ok a S), h => exact fun ι1 H1 x e s r => k a S ι1 H1 x e s r h
theorem gg_sub {o i : Expr} {mo mi : SE} (ho : GE X W o mo) (hi : GE X W i mi)
    (ha : ∀ v, assign (.Subscript o i pos) X.env v = (do
      let ov ← holding [v] (eval o X.env)
      let iv ← holding [v, ov] (eval i X.env)
      standAt pos
      holding [v, ov, iv] (setItem ov iv v)
      release [v, ov, iv] []) := by intro _; rfl) : GG X (.Subscript o i pos) (setF mo mi) [] := (pg_sub ho hi set_list ha).imp fun v σ H Q ⟨ι, ρ, S, d, ρ', S', s, r, rd, g, k⟩ => by
  unfold setF at g
  split at g
  · rename_i u S3 h
    cases g
    refine ⟨ι, ρ, S, s, r, Po.bqb h fun x S1 ι1 H1 y e1 s1 r1 h1 => ?_⟩
    refine ⟨ι1, ρ, S1, s1, r.ext e1, Po.bqb h1 fun z S2 ι2 H2 t e2 s2 r2 h2 => ?_⟩
    split at h2
    · rename_i n q
      split at h2
      · rename_i xs g2
        split at h2
        · rename_i j hj
          cases h2
          obtain ⟨p, vs, rfl, i1, f1, f2⟩ := lst_ok s2 (Rep.ext e2 _ _ r1) g2
          rw [Rep] at r2
          have em : Ext ι2 H2 ι2 (upd H2 p (.lst (vs.set j v))) := ext_mut f1 trivial
          refine ⟨p, vs, q, j, rfl, r2, f1, by rw [f2.length]; exact hj, ?_⟩
          exact k ι2 _ σ ((e1.trans e2).trans em) (s2.put i1 ⟨_, upd_same, RepL.ext em _ _ (RepL.set (Rep.ext e2 _ _ (Rep.ext e1 _ _ rd)) j f2)⟩ ⟨_, f1, trivial⟩) (((r.ext e1).ext e2).ext em) .refl
        · cases h2
      · cases h2
    · cases h2
  · cases g
end
end Z
namespace Z
/-- a def's outcome -/
def endF : Option Out → M D
  | some (.rt d S) => some (.ok d S)
  | some (.nx _ S) => some (.ok .non S)
  | some (.ex c _ S) => some (.ex c S)
  | _ => none
@[simp] theorem endF_rt (d : D) (S : Store) : endF (some (.rt d S)) = some (.ok d S) := rfl
@[simp] theorem endF_nx (ρ : Env) (S : Store) : endF (some (.nx ρ S)) = some (.ok .non S) := rfl
@[simp] theorem endF_ex (c : String) (ρ : Env) (S : Store) : endF (some (.ex c ρ S)) = some (.ex c S) := rfl
/-- a def by its body: n parameters, N names -/
def runF (n N : Nat) (b : SS) : Fn := fun ds S => if ds.length = n then endF (b (env0 N ds) S) else none
theorem runF_len {n N : Nat} {b : SS} {ds : List D} {S : Store} (h : runF n N b ds S ≠ none) : ds.length = n := by
  unfold runF at h
  by_cases e : ds.length = n
  · exact e
  · rw [if_neg e] at h; exact absurd rfl h
theorem run_eq {n : Nat} (N : Nat) {b : SS} {ds : List D} (S : Store) (h : ds.length = n) : runF n N b ds S = endF (b (ds.map some ++ List.replicate (N - n) none) S) := by unfold runF env0; rw [if_pos h, h]
section
variable {f g : D → D → Store → M D} {a b c : SE} {t t' : ST} {A B : SS} {ρ : Env} {S : Store}
@[simp] theorem x_var (i : Nat) : eVar i ρ S = match ρ[i]? with | some (some d) => some (.ok d S) | _ => none := rfl
@[simp] theorem x_c (d : D) : eC d ρ S = some (.ok d S) := rfl
@[simp] theorem x_1 (h : D → Store → M D) : e1 h a ρ S = bd (a ρ S) h := rfl
@[simp] theorem x_2 : e2 f a b ρ S = bd (a ρ S) fun x S1 => bd (b ρ S1) fun y S2 => f x y S2 := rfl
@[simp] theorem x_nil : evL [] ρ S = some (.ok [] S) := rfl
@[simp] theorem x_cons (r : List SE) : evL (a :: r) ρ S = bd (a ρ S) fun x S1 => bd (evL r ρ S1) fun xs S2 => some (.ok (x :: xs) S2) := rfl
@[simp] theorem x_tup (es : List SE) : eTup es ρ S = bd (evL es ρ S) fun xs S1 => some (.ok (.tup xs) S1) := rfl
@[simp] theorem x_lst (es : List SE) : eLst es ρ S = bd (evL es ρ S) fun xs S1 => some (.ok (.ref S1.length) (S1 ++ [.lst xs])) := rfl
@[simp] theorem x_call (F : Fn) (es : List SE) : eCall F es ρ S = bd (evL es ρ S) F := rfl
@[simp] theorem x_and : eAnd a b ρ S = bd (a ρ S) fun x S1 => match x with | .bl true => b ρ S1 | .bl false => some (.ok (.bl false) S1) | _ => none := rfl
@[simp] theorem x_or : eOr a b ρ S = bd (a ρ S) fun x S1 => match x with | .bl false => b ρ S1 | .bl true => some (.ok (.bl true) S1) | _ => none := rfl
@[simp] theorem x_not : eNot a ρ S = bd (a ρ S) fun x S1 => match x with | .bl b => some (.ok (.bl !b) S1) | _ => none := rfl
@[simp] theorem x_ch : eCh f g a b c ρ S = bd (a ρ S) fun x S1 => bd (b ρ S1) fun y S2 => bd (f x y S2) fun z S3 =>
  match z with | .bl true => bd (c ρ S3) fun w S4 => g y w S4 | .bl false => some (.ok (.bl false) S3) | _ => none := rfl
@[simp] theorem x_tval (e : SE) : tVal e ρ S = bd (e ρ S) fun x S1 => match x with | .bl b => some (.ok b S1) | _ => none := rfl
@[simp] theorem x_tand : tAnd t t' ρ S = bd (t ρ S) fun x S1 => if x = true then t' ρ S1 else some (.ok false S1) := rfl
@[simp] theorem x_tor : tOr t t' ρ S = bd (t ρ S) fun x S1 => if x = true then some (.ok true S1) else t' ρ S1 := rfl
@[simp] theorem x_tnot : tNot t ρ S = bd (t ρ S) fun x S1 => some (.ok (!x) S1) := rfl
@[simp] theorem x_tyes : tYes ρ S = some (.ok true S) := rfl
@[simp] theorem x_if : eIf t a b ρ S = bd (t ρ S) fun x S1 => if x = true then a ρ S1 else b ρ S1 := rfl
@[simp] theorem x_name (i : Nat) (d : D) : gName i d ρ S = some (ρ.set i (some d), S) := rfl
@[simp] theorem x_gall : gAll [] [] ρ S = some (ρ, S) := rfl
@[simp] theorem x_gcons (h : SG) (gs : List SG) (d : D) (ds : List D) : gAll (h :: gs) (d :: ds) ρ S = match h d ρ S with | some (ρ1, S1) => gAll gs ds ρ1 S1 | none => none := rfl
@[simp] theorem x_gtup (gs : List SG) (ds : List D) : gTup gs (.tup ds) ρ S = gAll gs ds ρ S := rfl
@[simp] theorem x_sq : sq A B ρ S = match A ρ S with | some (.nx ρ1 S1) => B ρ1 S1 | o => o := rfl
@[simp] theorem x_nx : sNx ρ S = some (.nx ρ S) := rfl
@[simp] theorem x_ct : sCt ρ S = some (.ct ρ S) := rfl
@[simp] theorem x_exp (e : SE) : sExp e ρ S = bo (e ρ S) ρ fun _ S1 => some (.nx ρ S1) := rfl
@[simp] theorem x_ret (e : SE) : sRet e ρ S = bo (e ρ S) ρ fun d S1 => some (.rt d S1) := rfl
@[simp] theorem x_sif : sIf t A B ρ S = bo (t ρ S) ρ fun x S1 => if x = true then A ρ S1 else B ρ S1 := rfl
@[simp] theorem x_asg (e : SE) (h : SG) : sAsg e h ρ S = bo (e ρ S) ρ fun d S1 => match h d ρ S1 with | some (ρ2, S2) => some (.nx ρ2 S2) | none => none := rfl
@[simp] theorem x_aug (i : Nat) (e : SE) : sAug i f e ρ S = bo (e2 f (eVar i) e ρ S) ρ fun d S1 => some (.nx (ρ.set i (some d)) S1) := rfl
@[simp] theorem x_any : iAny a ρ S = bd (a ρ S) itmOf := rfl
@[simp] theorem x_r1 : iR1 a ρ S = bd (a ρ S) fun d S1 => match d with
  | .int n => if r62 n then some (.ok ⟨(List.range n.toNat).map fun (k : Nat) => .int k, fun _ => True⟩ S1) else none
  | _ => none := rfl
@[simp] theorem x_for (it : SI) (h : SG) : sFor it h A ρ S = bo (it ρ S) ρ fun J S1 => forL J.chk h A J.xs ρ S1 := rfl
@[simp] theorem x_set (o i : SE) (d : D) : setF o i d ρ S = match bq (o ρ S) fun x S1 => bq (i ρ S1) fun y S2 => (match x, y with
    | .ref n, .int k => (match S2[n]? with
      | some (.lst xs) => (match ixN xs.length k with
        | some j => some (.ok () (S2.set n (.lst (xs.set j d))))
        | none => none)
      | _ => none)
    | _, _ => none) with
  | some (.ok _ S3) => some (ρ, S3)
  | _ => none := rfl
@[simp] theorem x_mt (ty : Rc) (F : Fn) (o : SE) (es : List SE) : eMt ty F o es ρ S = bd (o ρ S) fun d S1 => if rcB S1 ty d = true then bd (evL es ρ S1) fun ds S2 => F (d :: ds) S2 else none := rfl
@[simp] theorem x_sl (lo hi : Option SE) : eSl a lo hi ρ S = bd (a ρ S) fun d S1 =>
  bd (match lo with | none => some (.ok none S1) | some m => bd (m ρ S1) fun x S2 => match x with | .int i => some (.ok (some i) S2) | _ => none) fun l S3 =>
  bd (match hi with | none => some (.ok none S3) | some m => bd (m ρ S3) fun x S4 => match x with | .int i => some (.ok (some i) S4) | _ => none) fun h S5 => slD l h d S5 := rfl
end
section
variable {S : Store}
@[simp] theorem o_add (i j : Int) : addD (.int i) (.int j) S = some (.ok (.int (i + j)) S) := rfl
@[simp] theorem o_adds (a b : List Nat) : addD (.str a) (.str b) S = if a.length + b.length ≤ LINE then some (.ok (.str (a ++ b)) S) else none := rfl
@[simp] theorem o_addt (a b : List D) : addD (.tup a) (.tup b) S = if a.length + b.length ≤ LINE then some (.ok (.tup (a ++ b)) S) else none := rfl
@[simp] theorem o_addr (m n : Nat) : addD (.ref m) (.ref n) S = match S[m]?, S[n]? with
    | some (.lst a), some (.lst b) => if a.length + b.length ≤ LINE then some (.ok (.ref S.length) (S ++ [.lst (a ++ b)])) else none
    | _, _ => none := rfl
@[simp] theorem o_mult (a : List D) (k : Int) : mulD (.tup a) (.int k) S = if 0 < a.length ∧ a.length ≤ 1000 ∧ 2 ≤ k ∧ k ≤ 1000 then some (.ok (.tup (List.replicate k.toNat a).flatten) S) else none := rfl
@[simp] theorem o_mulr (m : Nat) (k : Int) : mulD (.ref m) (.int k) S = match S[m]? with
    | some (.lst a) => if -9223372036854775808 ≤ k ∧ k < 9223372036854775808 ∧ a.length * k.toNat ≤ LINE then some (.ok (.ref S.length) (S ++ [.lst (List.replicate k.toNat a).flatten])) else none
    | _ => none := rfl
@[simp] theorem o_sub (i j : Int) : subD (.int i) (.int j) S = some (.ok (.int (i - j)) S) := rfl
@[simp] theorem o_mul (i j : Int) : mulD (.int i) (.int j) S = if (small i ∨ small j) ∨ i.natAbs.log2 + j.natAbs.log2 < 1000000 then some (.ok (.int (i * j)) S) else none := rfl
@[simp] theorem o_fdiv (i j : Int) : fdivD (.int i) (.int j) S = if 0 < j ∧ j.natAbs.log2 < 9000 then some (.ok (.int (i / j)) S) else none := rfl
@[simp] theorem o_mod (i j : Int) : modD (.int i) (.int j) S = if 0 < j then some (.ok (.int (i % j)) S) else none := rfl
@[simp] theorem o_pow (i j : Int) : powD (.int i) (.int j) S = if 0 ≤ j ∧ j ≤ 1000000 ∧ small i then some (.ok (.int (i ^ j.toNat)) S) else none := rfl
@[simp] theorem o_neg (i : Int) : negD (.int i) S = some (.ok (.int (-i)) S) := rfl
@[simp] theorem o_lt (i j : Int) : ltD (.int i) (.int j) S = some (.ok (.bl (decide (i < j))) S) := rfl
@[simp] theorem o_le (i j : Int) : leD (.int i) (.int j) S = some (.ok (.bl (decide (i ≤ j))) S) := rfl
@[simp] theorem o_gt (i j : Int) : gtD (.int i) (.int j) S = some (.ok (.bl (decide (j < i))) S) := rfl
@[simp] theorem o_ge (i j : Int) : geD (.int i) (.int j) S = some (.ok (.bl (decide (j ≤ i))) S) := rfl
@[simp] theorem o_eq (i j : Int) : eqD (.int i) (.int j) S = some (.ok (.bl (decide (i = j))) S) := by
  unfold eqD dat
  simp [D.pd, PD.dep, PD.eqv]
  rfl
@[simp] theorem o_eqs (a b : List Nat) : eqD (.str a) (.str b) S = some (.ok (.bl (decide (a = b))) S) := by
  unfold eqD dat
  simp [D.pd, PD.dep, PD.eqv]
  exact Bool.eq_iff_iff.mpr (by simp)
@[simp] theorem o_eqb (a b : Bool) : eqD (.bl a) (.bl b) S = some (.ok (.bl (decide (a = b))) S) := by
  unfold eqD dat
  simp [D.pd, PD.dep, PD.eqv]
  rfl
@[simp] theorem o_ne (i j : Int) : neD (.int i) (.int j) S = some (.ok (.bl (!decide (i = j))) S) := by
  unfold neD dat
  simp [D.pd, PD.dep, PD.eqv]
  rfl
@[simp] theorem o_nes (a b : List Nat) : neD (.str a) (.str b) S = some (.ok (.bl (!decide (a = b))) S) := by
  unfold neD dat
  simp [D.pd, PD.dep, PD.eqv]
  exact Bool.eq_iff_iff.mpr (by simp)
@[simp] theorem o_neb (a b : Bool) : neD (.bl a) (.bl b) S = some (.ok (.bl (!decide (a = b))) S) := by
  unfold neD dat
  simp [D.pd, PD.dep, PD.eqv]
  rfl
@[simp] theorem o_ixs (s : List Nat) (i : Int) : ixD (.str s) (.int i) S = if s.length ≤ LINE then (match atI s i with | some c => some (.ok (.str [c]) S) | none => none) else none := rfl
@[simp] theorem o_ixt (xs : List D) (i : Int) : ixD (.tup xs) (.int i) S = match atI xs i with | some x => some (.ok x S) | none => none := rfl
@[simp] theorem o_ixf (xs : List D) (i : Int) : ixD (.fl xs) (.int i) S = match atI xs i with | some x => some (.ok x S) | none => none := rfl
@[simp] theorem o_ixr (n : Nat) (i : Int) : ixD (.ref n) (.int i) S = match seqOf S (.ref n) with | some xs => (match atI xs i with | some x => some (.ok x S) | none => none) | none => none := rfl
@[simp] theorem o_sqt (xs : List D) : seqOf S (.tup xs) = some xs := rfl
@[simp] theorem o_sqf (xs : List D) : seqOf S (.fl xs) = some xs := rfl
@[simp] theorem o_sqr (n : Nat) : seqOf S (.ref n) = match S[n]? with | some (.lst xs) => some xs | _ => none := rfl
@[simp] theorem o_lens (s : List Nat) : lenF [.str s] S = if s.length ≤ LINE then some (.ok (.int s.length) S) else none := rfl
@[simp] theorem o_lent (xs : List D) : lenF [.tup xs] S = some (.ok (.int xs.length) S) := rfl
@[simp] theorem o_lenf (xs : List D) : lenF [.fl xs] S = some (.ok (.int xs.length) S) := rfl
@[simp] theorem o_lenr (n : Nat) : lenF [.ref n] S = match seqOf S (.ref n) with | some xs => some (.ok (.int xs.length) S) | none => none := rfl
@[simp] theorem o_abs (i : Int) : absF [.int i] S = some (.ok (.int (if i < 0 then -i else i)) S) := rfl
@[simp] theorem o_max (i j : Int) : maxF [.int i, .int j] S = some (.ok (.int (if j > i then j else i)) S) := rfl
@[simp] theorem o_min (i j : Int) : minF [.int i, .int j] S = some (.ok (.int (if j < i then j else i)) S) := rfl
@[simp] theorem o_list (d : D) : listF [d] S = match seqOf S d with | some xs => some (.ok (.ref S.length) (S ++ [.lst xs])) | none => none := rfl
@[simp] theorem o_tuple (d : D) : tupleF [d] S = match seqOf S d with | some xs => some (.ok (.tup xs) S) | none => none := rfl
@[simp] theorem o_app (n : Nat) (x : D) : appendF [.ref n, x] S = match S[n]? with
    | some (.lst xs) => if xs.length < LINE then some (.ok .non (S.set n (.lst (xs ++ [x])))) else none
    | _ => none := rfl
@[simp] theorem o_pop (n : Nat) (i : Int) : popF [.ref n, .int i] S = match S[n]? with
    | some (.lst xs) => (match ixN xs.length i with
      | some k => (match xs[k]? with | some x => some (.ok x (S.set n (.lst (xs.eraseIdx k)))) | none => none)
      | none => none)
    | _ => none := rfl
@[simp] theorem o_rcr (n : Nat) (t : Rc) : rcB S t (.ref n) = match S[n]?, t with | some (.lst _), .list => true | some (.st _), .dict => true | _, _ => false := rfl
@[simp] theorem o_rcs (s : List Nat) (t : Rc) : rcB S t (.str s) = match t with | .str => true | _ => false := rfl
@[simp] theorem o_itr (n : Nat) : itmOf (.ref n) S = match S[n]? with
    | some (.lst xs) => some (.ok ⟨xs, fun S => S[n]? = some (.lst xs)⟩ S)
    | _ => none := rfl
@[simp] theorem o_itt (xs : List D) : itmOf (.tup xs) S = some (.ok ⟨xs, fun _ => True⟩ S) := rfl
@[simp] theorem o_itf (xs : List D) : itmOf (.fl xs) S = some (.ok ⟨xs, fun _ => True⟩ S) := rfl
@[simp] theorem o_its (s : List Nat) : itmOf (.str s) S = some (.ok ⟨s.map fun c => .str [c], fun _ => True⟩ S) := rfl
@[simp] theorem lg_lt {n : Nat} (h : n < 18446744073709551616) : n.log2 < 9000 := by
  by_cases h0 : n = 0
  · subst h0; decide
  · exact Nat.lt_of_lt_of_le ((Nat.log2_lt h0).mpr (show n < 2 ^ 64 from h)) (by decide)
@[simp] theorem leLINE {n : Nat} (h : n ≤ 16777216) : n ≤ LINE := by rw [LINE_eq]; exact h
@[simp] theorem ltLINE {n : Nat} (h : n < 16777216) : n < LINE := by rw [LINE_eq]; exact h
@[simp] theorem r62_nat {n : Nat} (h : n ≤ 1000000000) : r62 (n : Int) := (r62_iff _).mpr (by omega)
@[simp] theorem r62_lit {i : Int} (h0 : -1000000000 ≤ i) (h1 : i ≤ 1000000000) : r62 i := (r62_iff _).mpr (by omega)
theorem r62_of {i : Int} (h0 : -1000000000 ≤ i) (h1 : i ≤ 1000000000) : r62 i := (r62_iff _).mpr (by omega)
@[simp] theorem r62_0 : r62 0 := r62_of (by decide) (by decide)
@[simp] theorem r62_1 : r62 1 := r62_of (by decide) (by decide)
@[simp] theorem small_0 : small 0 := (small_iff _).mpr (by decide)
@[simp] theorem small_1 : small 1 := (small_iff _).mpr (by decide)
@[simp] theorem small_nat {n : Nat} (h : n < 18446744073709551616) : small (n : Int) := (small_iff _).mpr (by omega)
@[simp] theorem small_lit {i : Int} (h0 : -1000000000000000000 ≤ i) (h1 : i ≤ 1000000000000000000) : small i := (small_iff _).mpr (by omega)
theorem at0 {α : Type} (x : α) (xs : List α) : atI (x :: xs) 0 = some x := by simp [atI, ixN]
@[simp] theorem ixN_lit (n : Nat) (k : Nat) : ixN n (OfNat.ofNat k) = if k < n then some k else none := by
  unfold ixN
  rw [if_pos (by exact Int.natCast_nonneg k)]
  by_cases h : k < n
  · rw [if_pos h, if_pos (by exact Int.ofNat_lt.mpr h)]; rfl
  · rw [if_neg h, if_neg (by exact fun g => h (Int.ofNat_lt.mp g))]
end
end Z
namespace Z
open PySem PySem.Spec PyProof.Rows L2
theorem _root_.L2.Room.u65 {k : Nat} {A : Around} (r : Room k A) : A.units + 65 < cLine := by have := r.un; omega
theorem _root_.L2.RoomG.u65 {k : Nat} {A : Around} (h : RoomG k A) : A.units + 65 < cLine := h.r.u65
theorem _root_.L2.RoomG.units {k : Nat} {A : Around} (h : RoomG k A) : A.units + 64 < cLine := h.r.units
section
variable {P : Program} {w : World} {K : PySem.W.Frag} {mg : Mg} {base : Heap}
/-- THE RULE for a def that is taken by its body -/
theorem fn_run {x qual : Str} {st : Stmt} {f : Addr} {fd : FuncData} {N ps : List Str} {k n : Nat} {b : SS} (Fu : Fun K x qual st f fd) (S : FnScope N ps (defScope st)) (hn : n = ps.length)
    (der : ∀ (cdv : Value) (A : Around) (outer : List PySem.Env) (s : Shared) (H : Hp) (E : XK), RoomG k (A.deeper (envOfC qual (defScope st) s.heap.objs.size f cdv)) → GSs (cx P w K mg base N qual st f cdv A outer s H E) (wE E) (defBody st) b) :
    FnG P w K mg base (L2.CX P w) (k + 1) f fd ps (spF ⟨K, P, w⟩ mg (runF n N.length b)) := by
  subst hn
  have hpl : ps.length ≤ N.length := by have := congrArg List.length S.pre; rw [List.length_take] at this; omega
  refine Fu.okG S (fun vs H Q E h => ?_) (fun cdv A outer s H vs Q E hr h => ?_)
  · obtain ⟨ι, S, ds, s, r, p⟩ := h
    rw [r.length]
    exact runF_len fun e => by rw [e] at p; exact p
  · refine ⟨_, der cdv A outer s H E hr, ?_⟩
    obtain ⟨ι, S0, ds, s0, r, p⟩ := h
    have hl : ds.length = ps.length := runF_len (fun e => by rw [e] at p; exact p)
    refine ⟨ι, env0 N.length ds, S0, s0, .start r (by rw [hl]; exact hpl), ?_⟩
    unfold runF at p
    rw [if_pos hl] at p
    match g : b (env0 N.length ds) S0, p with
    | none, p => exact p.elim
    | some (.rt d S'), p => exact fun ι1 H1 v e1 s1 r1 => p ι1 H1 v e1 s1 r1
    | some (.nx ρ S'), p => exact fun ι1 H1 σ1 e1 s1 r1 => p ι1 H1 .non e1 s1 (by rw [Rep])
    | some (.ex c ρ S'), p => exact fun ι1 H1 σ1 cls e1 s1 r1 g1 => p ι1 H1 cls e1 s1 g1
    | some (.bk ρ S'), p => exact p.elim
    | some (.ct ρ S'), p => exact p.elim
/-- the law's own promise -/
def spL (K : PySem.W.Frag) (R : Fn) : Sp := fun vs H Q _ => ∃ (a : Addr) (ns : List Int), vs = [.ref a] ∧ FzL K H a (ns.map V.int) ∧ Only H ∧ (∃ S', R [.fl (ns.map .int)] [] = some (.ok (.bl true) S')) ∧ ∀ H', Q (.bl true) H'
theorem repL_ints {K : KW} {ι : List Addr} {H : Hp} : ∀ ns : List Int, RepL K ι H (ns.map .int) (ns.map V.int)
  | [] => by rw [List.map_nil, RepL]; rfl
  | n :: r => by rw [List.map_cons, RepL]; exact ⟨_, _, rfl, by rw [Rep], repL_ints r⟩
theorem sim_nil {K : KW} {H : Hp} : Sim K [] [] H := ⟨rfl, List.Pairwise.nil, fun i o a h _ => by simp at h⟩
theorem law_ok {f : Addr} {fd : FuncData} {ps : List Str} {k : Nat} {R : Fn} (h : FnG P w K mg base (L2.CX P w) k f fd ps (spF ⟨K, P, w⟩ mg R)) : FnG P w K mg base (L2.CX P w) k f fd ps (spL K R) :=
  h.imp fun vs H Q E ⟨a, ns, e, hz, ho, ⟨S', hR⟩, q⟩ => by
    subst e
    refine ⟨[], [], [.fl (ns.map .int)], sim_nil, ?_, ?_⟩
    · rw [RepL]
      exact ⟨_, _, rfl, by rw [Rep]; exact ⟨a, _, rfl, hz, repL_ints ns⟩, by rw [RepL]⟩
    · rw [hR]
      intro ι' H' v e1 s1 r1
      rw [Rep] at r1
      subst r1
      exact q H'
theorem fz_only {H : Hp} {a : Addr} {xs : List V} (ho : Only H) (h : SqL K H a xs) : FzL K H a xs := by
  rcases h with (h | h) | h
  · rcases ho a with e | ⟨o, ys, e⟩
    · rw [e] at h; cases h
    · rw [e] at h; cases h
  · exact .inl h
  · exact .inr h
end
/-- THE END: R answers True at every script of at most n numbers -/
theorem walkZ {l : PySem.W.OpenLaw} {n k : Nat} {q : Program} {loose : List Str} {XP : (Str → Option Value) → Heap → Prop} {YP : World → Heap → Prop} {d : DefRec} {K : Params → PySem.W.Frag} {R : Fn}
    (hn : l.most = some n) (hn2 : n ≤ sizeLine) (hr : RoomG k callerA) (hdf : d.params.defaults = [])
    (hY : ∀ (w : World) (h : Heap), YP w h → (K w.params).In h)
    (hR : ∀ ns : List Int, ns.length ≤ n → (∀ z ∈ ns, Builtin.Int.intBits z ≤ 1048576) → ∃ S', R [.fl (ns.map .int)] [] = some (.ok (.bl true) S'))
    (F : ∀ (w : World) (mg : Str → Option Value) (fa : Addr) (h : Heap), (K w.params).In h → h.Ns mainGlobals mg → mg d.name = some (.ref fa) →
      ∃ fd : FuncData, (∀ (s : Shared) (u : Value), BindsTo s fd ⟨[u], []⟩ [("script", u)]) ∧ ∀ base : Heap, (K w.params).In base → base.Ns mainGlobals mg → FnG l.prog w (K w.params) mg base (L2.CX l.prog w) k fa fd ["script"] (spF ⟨K w.params, l.prog, w⟩ mg R)) :
    PySem.W.WalkO q loose XP YP l.row.toRowW d [] (fun f vs => PySem.call f vs) :=
  L2.walk_ofG (x := "script") (CX := fun w => L2.CX l.prog w) (sp := fun w => spL (K w.params) R) hn hn2 hdf hr hY
    (fun w mg fa h X G hm => let ⟨fd, hb, hF⟩ := F w mg fa h X G hm; ⟨fd, hb, fun base X' G' => law_ok (hF base X' G')⟩)
    (fun w H a ns hl hb hO hS => ⟨a, ns, rfl, fz_only hO hS, hO, hR ns hl hb, fun _ => rfl⟩)
    (fun w H s e s' ⟨_, _, _, _, _, _, _, _, _, _, _, _, h⟩ => h)
end Z
namespace Z
open PySem PySem.Spec PyProof.Rows L2
theorem fnok_none {P : Program} {w : World} {K : PySem.W.Frag} {mg : Mg} {base : Heap} {f : Addr} {fd : FuncData} {ps : List Str} {k : Nat} : FnG P w K mg base (L2.CX P w) k f fd ps (spF ⟨K, P, w⟩ mg fun _ _ => none) :=
  ⟨fun _ _ _ _ ⟨_, _, _, _, _, p⟩ => False.elim p, fun _ _ _ _ _ _ _ _ _ _ _ _ _ ⟨_, _, _, _, _, p⟩ => False.elim p⟩
end Z
namespace Z
def intsL : List D → Option (List Int)
  | [] => some []
  | .int i :: r => (intsL r).map (i :: ·)
  | _ :: _ => none
def strsL : List D → Option (List (List Nat))
  | [] => some []
  | .str s :: r => (strsL r).map (s :: ·)
  | _ :: _ => none
def intF : Fn := fun ds S => match ds with
  | [.int i] => some (.ok (.int i) S)
  | [.bl b] => some (.ok (.int (if b = true then 1 else 0)) S)
  | _ => none
/-- a number's figures -/
def dec (i : Int) : List Nat := (toString i).toList.map Char.toNat
def strF : Fn := fun ds S => match ds with
  | [.int i] => if i.natAbs.log2 < 1920 then some (.ok (.str (dec i)) S) else none
  | [.str s] => some (.ok (.str s) S)
  | _ => none
def joinS (sep : List Nat) : List (List Nat) → List Nat
  | [] => []
  | [x] => x
  | x :: y :: r => x ++ sep ++ joinS sep (y :: r)
def joinF : Fn := fun ds S => match ds with
  | [.str sep, .ref n] => (match S[n]? with
    | some (.lst xs) => (match strsL xs with
      | some ys => if (ys.map List.length).sum + ys.length * sep.length ≤ 16777216 then some (.ok (.str (joinS sep ys)) S) else none
      | none => none)
    | _ => none)
  | _ => none
def sumF : Fn := fun ds S => match ds with
  | [.ref n] => (match S[n]? with
    | some (.lst xs) => (match intsL xs with
      | some ys => some (.ok (.int ys.sum) S)
      | none => none)
    | _ => none)
  | _ => none
def maxI : List Int → Option Int
  | [] => none
  | x :: r => some (r.foldl max x)
def maxLF : Fn := fun ds S => match ds with
  | [.ref n] => (match S[n]? with
    | some (.lst xs) => (match (intsL xs).bind maxI with
      | some y => some (.ok (.int y) S)
      | none => none)
    | _ => none)
  | _ => none
/-- the numbers lo, lo + c, .., n of them -/
def stepsL (lo c : Int) (n : Nat) : List D := (List.range n).map fun (k : Nat) => .int (lo + (k : Int) * c)
/-- range(a, b) -/
noncomputable def iR2 (a b : SE) : SI := fun ρ S => bd (a ρ S) fun d S1 => bd (b ρ S1) fun e S2 => match d, e with
  | .int i, .int j => if r62 i ∧ r62 j then some (.ok ⟨(List.range (j - i).toNat).map fun (k : Nat) => .int (i + k), fun _ => True⟩ S2) else none
  | _, _ => none
@[irreducible] def r24 (i j k : Int) : Prop := (0 ≤ i ∧ i < 16777216) ∧ (0 ≤ j ∧ j < 16777216) ∧ 0 < k ∧ k < 16777216
noncomputable instance (i j k : Int) : Decidable (r24 i j k) := Classical.propDecidable _
/-- range(a, b, c), c above 0 -/
noncomputable def iR3 (a b c : SE) : SI := fun ρ S => bd (a ρ S) fun d S1 => bd (b ρ S1) fun e S2 => bd (c ρ S2) fun f S3 => match d, e, f with
  | .int i, .int j, .int k => if r24 i j k then some (.ok ⟨stepsL i k (if i < j then ((j - i - 1) / k + 1).toNat else 0), fun _ => True⟩ S3) else none
  | _, _, _ => none
/-- list(range(n)) -/
noncomputable def eLR (a : SE) : SE := fun ρ S => bd (a ρ S) fun d S1 => match d with
  | .int n => if r62 n ∧ n.toNat ≤ LINE then new1 (.lst ((List.range n.toNat).map fun (k : Nat) => .int k)) S1 else none
  | _ => none
section
variable {S : Store} {ρ : Env}
@[simp] theorem o_int (i : Int) : intF [.int i] S = some (.ok (.int i) S) := rfl
@[simp] theorem o_intb (b : Bool) : intF [.bl b] S = some (.ok (.int (if b = true then 1 else 0)) S) := rfl
@[simp] theorem o_str (i : Int) : strF [.int i] S = if i.natAbs.log2 < 1920 then some (.ok (.str (dec i)) S) else none := rfl
@[simp] theorem o_join (sep : List Nat) (n : Nat) : joinF [.str sep, .ref n] S = match S[n]? with
    | some (.lst xs) => (match strsL xs with
      | some ys => if (ys.map List.length).sum + ys.length * sep.length ≤ 16777216 then some (.ok (.str (joinS sep ys)) S) else none
      | none => none)
    | _ => none := rfl
@[simp] theorem o_sum (n : Nat) : sumF [.ref n] S = match S[n]? with
    | some (.lst xs) => (match intsL xs with
      | some ys => some (.ok (.int ys.sum) S)
      | none => none)
    | _ => none := rfl
@[simp] theorem o_maxL (n : Nat) : maxLF [.ref n] S = match S[n]? with
    | some (.lst xs) => (match (intsL xs).bind maxI with
      | some y => some (.ok (.int y) S)
      | none => none)
    | _ => none := rfl
@[simp] theorem x_r2 (a b : SE) : iR2 a b ρ S = bd (a ρ S) fun d S1 => bd (b ρ S1) fun e S2 => match d, e with
  | .int i, .int j => if r62 i ∧ r62 j then some (.ok ⟨(List.range (j - i).toNat).map fun (k : Nat) => .int (i + k), fun _ => True⟩ S2) else none
  | _, _ => none := rfl
@[simp] theorem x_r3 (a b c : SE) : iR3 a b c ρ S = bd (a ρ S) fun d S1 => bd (b ρ S1) fun e S2 => bd (c ρ S2) fun f S3 => match d, e, f with
  | .int i, .int j, .int k => if r24 i j k then some (.ok ⟨stepsL i k (if i < j then ((j - i - 1) / k + 1).toNat else 0), fun _ => True⟩ S3) else none
  | _, _, _ => none := rfl
@[simp] theorem x_lr (a : SE) : eLR a ρ S = bd (a ρ S) fun d S1 => match d with
  | .int n => if r62 n ∧ n.toNat ≤ LINE then some (.ok (.ref S1.length) (S1 ++ [.lst ((List.range n.toNat).map fun (k : Nat) => .int k)])) else none
  | _ => none := rfl
end
end Z
namespace Z
/-- d[::-1] -/
def revD : D → Store → M D := fun d S => match d with
  | .ref n => (match S[n]? with
    | some (.lst xs) => new1 (.lst xs.reverse) S
    | _ => none)
  | _ => none
end Z
namespace Z
/-- text.split(c): cur, what stands ahead -/
def splitA (c : Nat) : List Nat → List Nat → List (List Nat)
  | cur, [] => [cur]
  | cur, x :: r => if x = c then cur :: splitA c [] r else splitA c (cur ++ [x]) r
def splitF : Fn := fun ds S => match ds with
  | [.str s, .str [c]] => if s.length + 2 ≤ 16777216 then new1 (.lst ((splitA c [] s).map .str)) S else none
  | _ => none
end Z
namespace Z
/-- int(word), a figure's too -/
def intTF : Fn := fun ds S => match ds with
  | [.str [k]] => if 48 ≤ k ∧ k ≤ 57 then some (.ok (.int ((k : Int) - 48)) S) else none
  | ds => intF ds S
@[simp] theorem o_intT (k : Nat) (S : Store) : intTF [.str [k]] S = if 48 ≤ k ∧ k ≤ 57 then some (.ok (.int ((k : Int) - 48)) S) else none := rfl
@[simp] theorem o_split (s : List Nat) (c : Nat) (S : Store) : splitF [.str s, .str [c]] S = if s.length + 2 ≤ 16777216 then some (.ok (.ref S.length) (S ++ [.lst ((splitA c [] s).map .str)])) else none := rfl
@[simp] theorem o_rev (n : Nat) (S : Store) : revD (.ref n) S = match S[n]? with
    | some (.lst xs) => some (.ok (.ref S.length) (S ++ [.lst xs.reverse]))
    | _ => none := rfl
end Z
namespace Z
/-- try: b, except the class x: h -/
def sTry (x : String) (b h : SS) : SS := fun ρ S => match b ρ S with
  | some (.ex c ρ1 S1) => if c = x then h ρ1 S1 else none
  | o => o
@[simp] theorem x_raise (c : String) (ρ : Env) (S : Store) : sRaise c ρ S = some (.ex c ρ S) := rfl
@[simp] theorem x_try (x : String) (b h : SS) (ρ : Env) (S : Store) : sTry x b h ρ S = match b ρ S with
    | some (.ex c ρ1 S1) => if c = x then h ρ1 S1 else none
    | o => o := rfl
end Z
namespace Z
def kEq0 : D → D → Bool
  | .int i, .int j => decide (i = j)
  | .str s, .str t => decide (s = t)
  | _, _ => false
def kEqL : List D → List D → Bool
  | [], [] => true
  | x :: xs, y :: ys => kEq0 x y && kEqL xs ys
  | _, _ => false
def tget (kvs : List (List D × D)) (k : List D) : Option D := (kvs.find? fun p => kEqL p.1 k).map (·.2)
def tput (kvs : List (List D × D)) (k : List D) (v : D) : List (List D × D) :=
  if (kvs.any fun p => kEqL p.1 k) = true then kvs.map (fun p => if kEqL p.1 k = true then (p.1, v) else p) else kvs ++ [(k, v)]
def eDctT : SE := fun _ S => new1 (.st []) S
/-- (a, ..) not in d -/
def eTNi (es : List SE) (d : SE) : SE := fun ρ S => bd (evL es ρ S) fun ks S1 => bd (d ρ S1) fun x S2 => match x with
  | .ref n => (match S2[n]? with
    | some (.st kvs) => if ks.all k0 = true then some (.ok (.bl (!(tget kvs ks).isSome)) S2) else none
    | _ => none)
  | _ => none
/-- d[a, ..] -/
def eTGet (d : SE) (es : List SE) : SE := fun ρ S => bd (d ρ S) fun x S1 => bd (evL es ρ S1) fun ks S2 => match x with
  | .ref n => (match S2[n]? with
    | some (.st kvs) => if ks.all k0 = true then (match tget kvs ks with | some v => some (.ok v S2) | none => none) else none
    | _ => none)
  | _ => none
/-- d[a, ..] = v -/
def sTPut (d : SE) (es : List SE) (v : SE) : SS := fun ρ S => bo (v ρ S) ρ fun w S1 => bo (d ρ S1) ρ fun x S2 => bo (evL es ρ S2) ρ fun ks S3 => match x with
  | .ref n => (match S3[n]? with
    | some (.st kvs) => if ks.all k0 = true ∧ ks.length ≤ 1000 ∧ kvs.length < 16000000 then some (.nx ρ (S3.set n (.st (tput kvs ks w)))) else none
    | _ => none)
  | _ => none
section
variable {ρ : Env} {S : Store}
@[simp] theorem x_dctT : eDctT ρ S = some (.ok (.ref S.length) (S ++ [.st []])) := rfl
@[simp] theorem x_tni (es : List SE) (d : SE) : eTNi es d ρ S = bd (evL es ρ S) fun ks S1 => bd (d ρ S1) fun x S2 => match x with
  | .ref n => (match S2[n]? with
    | some (.st kvs) => if ks.all k0 = true then some (.ok (.bl (!(tget kvs ks).isSome)) S2) else none
    | _ => none)
  | _ => none := rfl
@[simp] theorem x_tget (es : List SE) (d : SE) : eTGet d es ρ S = bd (d ρ S) fun x S1 => bd (evL es ρ S1) fun ks S2 => match x with
  | .ref n => (match S2[n]? with
    | some (.st kvs) => if ks.all k0 = true then (match tget kvs ks with | some v => some (.ok v S2) | none => none) else none
    | _ => none)
  | _ => none := rfl
@[simp] theorem x_tput (es : List SE) (d v : SE) : sTPut d es v ρ S = bo (v ρ S) ρ fun w S1 => bo (d ρ S1) ρ fun x S2 => bo (evL es ρ S2) ρ fun ks S3 => match x with
  | .ref n => (match S3[n]? with
    | some (.st kvs) => if ks.all k0 = true ∧ ks.length ≤ 1000 ∧ kvs.length < 16000000 then some (.nx ρ (S3.set n (.st (tput kvs ks w)))) else none
    | _ => none)
  | _ => none := rfl
end
end Z
namespace Z
/-- repr(i) -/
def reprIF : Fn := fun ds S => match ds with
  | [.int i] => if i.natAbs.log2 < 1920 then some (.ok (.str (dec i)) S) else none
  | _ => none
@[simp] theorem o_reprI (i : Int) (S : Store) : reprIF [.int i] S = if i.natAbs.log2 < 1920 then some (.ok (.str (dec i)) S) else none := rfl
end Z
namespace Z
def kvL : D → Option (List D)
  | .tup ks => if ks.all k0 = true then some ks else none
  | _ => none
/-- a dict as it is read: it may be locked by a walk -/
def stAt (S : Store) : D → Option (List (List D × D))
  | .ref n => (match S[n]? with | some (.st kvs) => some kvs | some (.dct kvs) => some kvs | _ => none)
  | _ => none
def kIn (x y : D) (S : Store) : M D := match kvL x, stAt S y with
  | some ks, some kvs => some (.ok (.bl (tget kvs ks).isSome) S)
  | _, _ => none
def kNi (x y : D) (S : Store) : M D := match kvL x, stAt S y with
  | some ks, some kvs => some (.ok (.bl (!(tget kvs ks).isSome)) S)
  | _, _ => none
def kGet (y x : D) (S : Store) : M D := match kvL x, stAt S y with
  | some ks, some kvs => (match tget kvs ks with | some v => some (.ok v S) | none => none)
  | _, _ => none
/-- d[k] = v -/
def sKPut (d k v : SE) : SS := fun ρ S => bo (v ρ S) ρ fun w S1 => bo (d ρ S1) ρ fun y S2 => bo (k ρ S2) ρ fun x S3 => match y, kvL x with
  | .ref n, some ks => (match S3[n]? with
    | some (.st kvs) => if kvs.length < 16000000 then some (.nx ρ (S3.set n (.st (tput kvs ks w)))) else none
    | _ => none)
  | _, _ => none
/-- {k: v} -/
def eDct1 (k v : SE) : SE := fun ρ S => bd (k ρ (S ++ [.st []])) fun x S1 => bd (v ρ S1) fun w S2 => match kvL x, S2[S.length]? with
  | some ks, some (.st []) => some (.ok (.ref S.length) (S2.set S.length (.st [(ks, w)])))
  | _, _ => none
def prOf : List D → Option (List (List D × D))
  | [] => some []
  | .tup [k, v] :: r => (match kvL k, prOf r with | some ks, some t => some ((ks, v) :: t) | _, _ => none)
  | _ => none
/-- dict(xs), of a list of pairs -/
def dictF : Fn := fun ds S => match ds with
  | [.ref n] => (match S[n]? with
    | some (.lst xs) => (match prOf xs with
      | some kvs => if kvs.length < 16000000 then new1 (.st (kvs.foldl (fun acc p => tput acc p.1 p.2) [])) S else none
      | none => none)
    | _ => none)
  | _ => none
def i0 : D → Bool
  | .int _ => true
  | _ => false
/-- what is walked: the keys of a dict that is locked -/
def iKeyD (d : SE) : SI := fun ρ S => bd (d ρ S) fun y S1 => match y with
  | .ref n => (match S1[n]? with
    | some (.dct kvs) => if (kvs.all fun p => p.1.all i0) = true then some (.ok ⟨kvs.map fun p => .tup p.1, fun S => S[n]? = some (.dct kvs)⟩ S1) else none
    | _ => none)
  | _ => none
section
variable {ρ : Env} {S : Store}
@[simp] theorem x_kput (d k v : SE) : sKPut d k v ρ S = bo (v ρ S) ρ fun w S1 => bo (d ρ S1) ρ fun y S2 => bo (k ρ S2) ρ fun x S3 => match y, kvL x with
  | .ref n, some ks => (match S3[n]? with
    | some (.st kvs) => if kvs.length < 16000000 then some (.nx ρ (S3.set n (.st (tput kvs ks w)))) else none
    | _ => none)
  | _, _ => none := rfl
@[simp] theorem x_dct1 (k v : SE) : eDct1 k v ρ S = bd (k ρ (S ++ [.st []])) fun x S1 => bd (v ρ S1) fun w S2 => match kvL x, S2[S.length]? with
  | some ks, some (.st []) => some (.ok (.ref S.length) (S2.set S.length (.st [(ks, w)])))
  | _, _ => none := rfl
@[simp] theorem x_keyD (d : SE) : iKeyD d ρ S = bd (d ρ S) fun y S1 => match y with
  | .ref n => (match S1[n]? with
    | some (.dct kvs) => if (kvs.all fun p => p.1.all i0) = true then some (.ok ⟨kvs.map fun p => .tup p.1, fun S => S[n]? = some (.dct kvs)⟩ S1) else none
    | _ => none)
  | _ => none := rfl
@[simp] theorem o_kvL (ks : List D) : kvL (.tup ks) = if ks.all k0 = true then some ks else none := rfl
@[simp] theorem o_stAt (n : Nat) : stAt S (.ref n) = (match S[n]? with | some (.st kvs) => some kvs | some (.dct kvs) => some kvs | _ => none) := rfl
@[simp] theorem o_kIn (x y : D) : kIn x y S = match kvL x, stAt S y with
  | some ks, some kvs => some (.ok (.bl (tget kvs ks).isSome) S)
  | _, _ => none := rfl
@[simp] theorem o_kNi (x y : D) : kNi x y S = match kvL x, stAt S y with
  | some ks, some kvs => some (.ok (.bl (!(tget kvs ks).isSome)) S)
  | _, _ => none := rfl
@[simp] theorem o_kGet (x y : D) : kGet y x S = match kvL x, stAt S y with
  | some ks, some kvs => (match tget kvs ks with | some v => some (.ok v S) | none => none)
  | _, _ => none := rfl
@[simp] theorem o_dictF (n : Nat) : dictF [.ref n] S = (match S[n]? with
    | some (.lst xs) => (match prOf xs with
      | some kvs => if kvs.length < 16000000 then some (.ok (.ref S.length) (S ++ [.st (kvs.foldl (fun acc p => tput acc p.1 p.2) [])])) else none
      | none => none)
    | _ => none) := rfl
end
end Z
namespace Z
def fget (kvs : List (D × D)) (k : D) : Option D := (kvs.find? fun p => kEq0 p.1 k).map (·.2)
def fput (kvs : List (D × D)) (k v : D) : List (D × D) :=
  if (kvs.any fun p => kEq0 p.1 k) = true then kvs.map (fun p => if kEq0 p.1 k = true then (p.1, v) else p) else kvs ++ [(k, v)]
def dkAt (S : Store) : D → Option (List (D × D))
  | .ref n => (match S[n]? with | some (.dk kvs) => some kvs | some (.dkl kvs) => some kvs | _ => none)
  | _ => none
def fIn (x y : D) (S : Store) : M D := match dkAt S y with
  | some kvs => if k0 x = true then some (.ok (.bl (fget kvs x).isSome) S) else none
  | none => none
def fNi (x y : D) (S : Store) : M D := match dkAt S y with
  | some kvs => if k0 x = true then some (.ok (.bl (!(fget kvs x).isSome)) S) else none
  | none => none
def fGet (y x : D) (S : Store) : M D := match dkAt S y with
  | some kvs => if k0 x = true then (match fget kvs x with | some v => some (.ok v S) | none => none) else none
  | none => none
/-- d[k] = v -/
def sFPut (d k v : SE) : SS := fun ρ S => bo (v ρ S) ρ fun w S1 => bo (d ρ S1) ρ fun y S2 => bo (k ρ S2) ρ fun x S3 => match y with
  | .ref n => (match S3[n]? with
    | some (.dk kvs) => if kvs.length < 16000000 ∧ k0 x = true then some (.nx ρ (S3.set n (.dk (fput kvs x w)))) else none
    | _ => none)
  | _ => none
/-- {} -/
def eDctF : SE := fun _ S => new1 (.dk []) S
/-- {k: v} -/
def eFDct1 (k v : SE) : SE := fun ρ S => bd (k ρ (S ++ [.dk []])) fun x S1 => bd (v ρ S1) fun w S2 => match S2[S.length]? with
  | some (.dk []) => if k0 x = true then some (.ok (.ref S.length) (S2.set S.length (.dk [(x, w)]))) else none
  | _ => none
/-- d.get(k, v) -/
def eFGet2 (d k v : SE) : SE := fun ρ S => bd (d ρ S) fun y S1 => match dkAt S1 y with
  | some _ => bd (k ρ S1) fun x S2 => bd (v ρ S2) fun w S3 => (match dkAt S3 y with
    | some kvs => if k0 x = true then some (.ok ((fget kvs x).getD w) S3) else none
    | none => none)
  | none => none
/-- len(d), d a dict -/
def dlenF : Fn := fun ds S => match ds with
  | [.ref n] => (match S[n]? with
    | some (.st kvs) => if kvs.length < 16000000 then some (.ok (.int kvs.length) S) else none
    | some (.dk kvs) => if kvs.length < 16000000 then some (.ok (.int kvs.length) S) else none
    | _ => none)
  | _ => none
@[simp] theorem o_dlen (n : Nat) (S : Store) : dlenF [.ref n] S = (match S[n]? with
    | some (.st kvs) => if kvs.length < 16000000 then some (.ok (.int kvs.length) S) else none
    | some (.dk kvs) => if kvs.length < 16000000 then some (.ok (.int kvs.length) S) else none
    | _ => none) := rfl
/-- enumerate(t), t a tuple -/
def enumL : Nat → List D → List D
  | _, [] => []
  | k, d :: ds => .tup [.int (k : Nat), d] :: enumL (k + 1) ds
def iEnum1 (a : SE) : SI := fun ρ S => bd (a ρ S) fun d S1 => match d with
  | .tup ds => some (.ok ⟨enumL 0 ds, fun _ => True⟩ S1)
  | _ => none
/-- t[::-1], a tuple -/
def revTD : D → Store → M D := fun d S => match d with
  | .tup xs => some (.ok (.tup xs.reverse) S)
  | _ => none
section
variable {ρ : Env} {S : Store}
@[simp] theorem x_enum1 (a : SE) : iEnum1 a ρ S = bd (a ρ S) fun d S1 => match d with
  | .tup ds => some (.ok ⟨enumL 0 ds, fun _ => True⟩ S1)
  | _ => none := rfl
@[simp] theorem o_revT (xs : List D) : revTD (.tup xs) S = some (.ok (.tup xs.reverse) S) := rfl
@[simp] theorem x_dctF : eDctF ρ S = some (.ok (.ref S.length) (S ++ [.dk []])) := rfl
@[simp] theorem o_dkAt (n : Nat) : dkAt S (.ref n) = (match S[n]? with | some (.dk kvs) => some kvs | some (.dkl kvs) => some kvs | _ => none) := rfl
@[simp] theorem o_fIn (x y : D) : fIn x y S = match dkAt S y with
  | some kvs => if k0 x = true then some (.ok (.bl (fget kvs x).isSome) S) else none
  | none => none := rfl
@[simp] theorem o_fNi (x y : D) : fNi x y S = match dkAt S y with
  | some kvs => if k0 x = true then some (.ok (.bl (!(fget kvs x).isSome)) S) else none
  | none => none := rfl
@[simp] theorem o_fGet (x y : D) : fGet y x S = match dkAt S y with
  | some kvs => if k0 x = true then (match fget kvs x with | some v => some (.ok v S) | none => none) else none
  | none => none := rfl
@[simp] theorem x_fput (d k v : SE) : sFPut d k v ρ S = bo (v ρ S) ρ fun w S1 => bo (d ρ S1) ρ fun y S2 => bo (k ρ S2) ρ fun x S3 => match y with
  | .ref n => (match S3[n]? with
    | some (.dk kvs) => if kvs.length < 16000000 ∧ k0 x = true then some (.nx ρ (S3.set n (.dk (fput kvs x w)))) else none
    | _ => none)
  | _ => none := rfl
@[simp] theorem x_fdct1 (k v : SE) : eFDct1 k v ρ S = bd (k ρ (S ++ [.dk []])) fun x S1 => bd (v ρ S1) fun w S2 => match S2[S.length]? with
  | some (.dk []) => if k0 x = true then some (.ok (.ref S.length) (S2.set S.length (.dk [(x, w)]))) else none
  | _ => none := rfl
@[simp] theorem x_fget2 (d k v : SE) : eFGet2 d k v ρ S = bd (d ρ S) fun y S1 => match dkAt S1 y with
  | some _ => bd (k ρ S1) fun x S2 => bd (v ρ S2) fun w S3 => (match dkAt S3 y with
    | some kvs => if k0 x = true then some (.ok ((fget kvs x).getD w) S3) else none
    | none => none)
  | none => none := rfl
@[simp] theorem o_k0i (i : Int) : k0 (.int i) = true := rfl
@[simp] theorem o_k0s (s : List Nat) : k0 (.str s) = true := rfl
end
end Z
namespace Z
open PySem PySem.Spec PyProof.Rows L2
section
variable {X : Cx} {W : WX} {a b c e tg : Expr} {ma mb mc m : SE} {pos : Pos}
theorem no_int : NoExF intF := by intro ds S c S'; unfold intF; split <;> simp
theorem zc_int : CallR X (.type "int") (rB X intF) := by
  intro pins s σ H xs us Q I r ⟨ι, S, ds, sm, rd, po⟩
  unfold intF at po
  split at po
  · obtain ⟨v, rfl, h⟩ := one_of (ds := []) rd
    rw [Rep] at h
    exact call_int1 pins s σ H _ us Q I r (.inl ⟨_, by rw [h], Po.ret po sm (by rw [Rep])⟩)
  · obtain ⟨v, rfl, h⟩ := one_of (ds := []) rd
    rw [Rep] at h
    exact call_int1 pins s σ H _ us Q I r (.inr ⟨_, by rw [h], Po.ret po sm (by rw [Rep])⟩)
  · exact po.elim
theorem dec_eq (i : Int) : Str.ofString (toString i) = str (dec i) := Str.ofString_eq_toList _
theorem dec_asc (i : Int) : ∀ c ∈ dec i, c < 128 := fun c h => by
  obtain ⟨k, h1, rfl⟩ := List.mem_map.mp h
  exact int_ascii i k h1
end
end Z
namespace Z
open PySem PySem.Spec PyProof.Rows L2
section
variable {X : Cx} {W : WX} {pos p pos2 : Pos}
theorem RepL.rev {K : KW} {ι : List Addr} {H : Hp} : ∀ {ds : List D} {vs : List V}, RepL K ι H ds vs → RepL K ι H ds.reverse vs.reverse
  | [], vs, r => by rw [r.nil]; show RepL K ι H [] []; rw [RepL]
  | d :: ds, vs, r => by
    obtain ⟨v, t, rfl, h1, h2⟩ := r.cons
    rw [List.reverse_cons, List.reverse_cons]
    exact (RepL.rev h2).append (RepL.one h1)
theorem no_rev : ∀ d S c S', revD d S ≠ some (.ex c S') := by intro d S c S'; unfold revD; split <;> (try split) <;> simp [new1]
theorem ge_rev {e : Expr} {m : SE} {k : Nat} {p1 p2 p3 : Pos} (he : GE X W e m) : GE X W (.Subscript e (.Slice none none (some (.UnaryOp .USub (.Constant (.int 1) k p1) p2)) p3) pos) (e1 revD m) :=
  (pe_revL he).imp fun σ H Q ⟨ι, ρ, S, s, r, p⟩ => by
    refine ⟨ι, ρ, S, s, r, Po.bd p fun d S1 ι1 H1 x e1 s1 r1 p1 => ?_⟩
    have p1 := p1.noex (E' := fun _ _ _ => False) fun c S' => no_rev d S1 c S'
    unfold revD at p1
    cases d with
    | ref n =>
      dsimp only at p1
      split at p1
      · rename_i xs g
        obtain ⟨a, vs, rfl, i1, e2, r2⟩ := lst_ok s1 r1 g
        refine ⟨a, vs, rfl, SqL.of e2, fun t ht => ?_⟩
        have r3 : RepL X.KW ι1 H1 xs.reverse vs.reverse := RepL.rev r2
        exact Po.ret (Po.mono (ext_new (t := [t]) (o := .lst vs.reverse) ht) p1) (s1.newL ht r3) (Rep.newL s1)
      · exact p1.elim
    | _ => exact p1.elim
end
end Z
namespace Z
open PySem PySem.Spec PyProof.Rows L2
section
variable {K : KW} {ι : List Addr} {H : Hp}
theorem KsR.snoc {α κ : Type} {key : α → Option κ} {x : α} {d : D} {k : κ} {v : V} (hk : key x = some k) (r : Rep K ι H d v) : ∀ {kvs : List (α × D)} {es : List (κ × V)}, KsR key K ι H kvs es → KsR key K ι H (kvs ++ [(x, d)]) (es ++ [(k, v)])
  | [], es, h => by rw [KsR] at h; subst h; exact ⟨k, v, [], rfl, hk, r, rfl⟩
  | p :: q, es, h => by
    rw [KsR] at h
    obtain ⟨k', v', t, rfl, h1, h2, h3⟩ := h
    rw [List.cons_append, KsR]
    exact ⟨k', v', _, rfl, h1, h2, KsR.snoc hk r h3⟩
end
end Z
namespace L2
open PySem PySem.Spec PyProof.Rows
end L2
namespace Z
open PySem PySem.Spec PyProof.Rows L2
section
variable {X : Cx} {W : WX} {e k v : Expr} {m mk mv : SE} {pos : Pos}
/-- what stays when a dict is unlocked -/
structure Wk (H H' : Hp) : Prop where
  tup : ∀ a xs, H a = some (.tup xs) → H' a = some (.tup xs)
  frz : ∀ a o xs, H a = some (.frz o (.lst xs)) → H' a = some (.frz o (.lst xs))
  frzT : ∀ a o xs, H a = some (.frz o (.tup xs)) → H' a = some (.frz o (.tup xs))
theorem Wk.tupAt {H H' : Hp} (e : Wk H H') {a : Addr} {xs : List V} : ∀ {b : Bool}, TupAt H a xs b → TupAt H' a xs b
  | true, h => e.tup _ _ h
  | false, ⟨o, h1, h2⟩ => ⟨o, h1, e.frzT _ _ _ h2⟩
section
variable {K : KW} {ι : List Addr} {H H' : Hp}
mutual
theorem Rep.wk (e : Wk H H') : ∀ (d : D) (v : V), Rep K ι H d v → Rep K ι H' d v
  | .non, _, h => h
  | .bl _, _, h => h
  | .int _, _, h => h
  | .str _, _, h => h
  | .tup xs, _, h => by
    rw [Rep] at h ⊢
    obtain ⟨a, vs, e1, h1, h2⟩ := h
    exact ⟨a, vs, e1, e.tupAt h1, RepL.wk e xs vs h2⟩
  | .ref n, _, h => h
  | .fl xs, _, h => by
    rw [Rep] at h ⊢
    obtain ⟨a, vs, e1, h1, h2⟩ := h
    refine ⟨a, vs, e1, ?_, RepL.wk e xs vs h2⟩
    rcases h1 with ⟨o, h1⟩ | h1
    · exact .inl ⟨o, e.frz _ _ _ h1⟩
    · exact .inr h1
theorem RepL.wk (e : Wk H H') : ∀ (ds : List D) (vs : List V), RepL K ι H ds vs → RepL K ι H' ds vs
  | [], _, h => h
  | x :: xs, _, h => by
    rw [RepL] at h ⊢
    obtain ⟨v, r, e1, h1, h2⟩ := h
    exact ⟨v, r, e1, Rep.wk e x v h1, RepL.wk e xs r h2⟩
end
theorem KsR.wk (e : Wk H H') : ∀ (kvs : List (List D × D)) (ks : List (List Key × V)), KsR keysD K ι H kvs ks → KsR keysD K ι H' kvs ks
  | [], ks, h => h
  | p :: r, ks, h => by
    rw [KsR] at h ⊢
    obtain ⟨k, v, t, e1, e2, e3, e4⟩ := h
    exact ⟨k, v, t, e1, e2, Rep.wk e _ _ e3, KsR.wk e r t e4⟩
theorem KsR.wkF (e : Wk H H') : ∀ (kvs : List (String × D)) (ks : List (Str × V)), KsR keyF K ι H kvs ks → KsR keyF K ι H' kvs ks
  | [], ks, h => h
  | p :: r, ks, h => by
    rw [KsR] at h ⊢
    obtain ⟨k, v, t, e1, e2, e3, e4⟩ := h
    exact ⟨k, v, t, e1, e2, Rep.wk e _ _ e3, KsR.wkF e r t e4⟩
theorem KsR.wkK (e : Wk H H') : ∀ (kvs : List (D × D)) (ks : List (Key × V)), KsR keyD K ι H kvs ks → KsR keyD K ι H' kvs ks
  | [], ks, h => h
  | p :: r, ks, h => by
    rw [KsR] at h ⊢
    obtain ⟨k, v, t, e1, e2, e3, e4⟩ := h
    exact ⟨k, v, t, e1, e2, Rep.wk e _ _ e3, KsR.wkK e r t e4⟩
theorem NkR.wk (e : Wk H H') : ∀ (kvs : List (D × D)) (xs : List NEnt), NkR K ι H kvs xs → NkR K ι H' kvs xs
  | [], xs, h => h
  | p :: r, xs, h => by
    rw [NkR] at h ⊢
    obtain ⟨k, b, u, v, t, e1, e2, e3, e4, e5, e6, e7⟩ := h
    exact ⟨k, b, u, v, t, e1, e2, e3, Rep.wk e _ _ e4, Rep.wk e _ _ e5, e6, NkR.wk e r t e7⟩
theorem ObjR.wk {a : Addr} {o : MO} (h : ObjR K ι H a o) (e : Wk H H') (k : H' a = H a) : ObjR K ι H' a o := by
  cases o with
  | lst xs => obtain ⟨vs, e1, h1⟩ := h; exact ⟨vs, k.trans e1, RepL.wk e _ _ h1⟩
  | dct _ => obtain ⟨q, ks, e1, h1⟩ := h; exact ⟨q, ks, k.trans e1, KsR.wk e _ _ h1⟩
  | st _ => obtain ⟨ks, e1, h1⟩ := h; exact ⟨ks, k.trans e1, KsR.wk e _ _ h1⟩
  | dk _ => obtain ⟨ks, e1, h1⟩ := h; exact ⟨ks, k.trans e1, KsR.wkK e _ _ h1⟩
  | dkl _ => obtain ⟨q, ks, e1, h1⟩ := h; exact ⟨q, ks, k.trans e1, KsR.wkK e _ _ h1⟩
  | nk _ => obtain ⟨ks, e1, h1⟩ := h; exact ⟨ks, k.trans e1, NkR.wk e _ _ h1⟩
  | nkl _ => obtain ⟨q, ks, e1, h1⟩ := h; exact ⟨q, ks, k.trans e1, NkR.wk e _ _ h1⟩
  | ins _ _ => obtain ⟨C, dx, fvs, n, e1, h1⟩ := h; exact ⟨C, dx, fvs, n, k.trans e1, KsR.wkF e _ _ h1⟩
  | exn _ => obtain ⟨C, n, e1⟩ := h; exact ⟨C, n, k.trans e1⟩
end
end
end Z
namespace L2
open PySem PySem.Spec PyProof.Rows
def wOf (e : Int × Value) : Str := match e.2 with | .str s _ => s | _ => Str.empty
def GoodW (P : Program) (w : World) (e : Int × Value) : Prop := ∃ s t, e.2 = Value.str s t ∧ e.1 = (strKind P w).hash s
def SetW (P : Program) (w : World) (h : Heap) (a : Addr) (L : List Str) : Prop :=
  ∃ o es ep t, h.get? a = some o ∧ o.ExactSet ∧ o.data = .set es ep t ∧ (∀ e ∈ es.toList, GoodW P w e) ∧ es.toList.map wOf = L ∧ L.Nodup ∧ es.size < scanBound ∧ t.fits es.size = true ∧ Ris t.place.toList ∧ (w.params.followText "set-order" = true ∨ t.led = true)
section
variable {P : Program} {w : World} {A : Around} {E : Value → Shared → Prop} {s : Shared} {a : Addr} {L : List Str}
theorem SetW.keep {h h' : Heap} (R : SetW P w h a L) (k : ∀ o, h.get? a = some o → h'.get? a = some o) : SetW P w h' a L := by
  obtain ⟨o, es, ep, t, ho, r⟩ := R
  exact ⟨o, es, ep, t, k o ho, r⟩
end
end L2
namespace Z
open PySem PySem.Spec PyProof.Rows L2
def un (y : Str) : List Nat := y.cps.toList
end Z
namespace L2
open PySem PySem.Spec PyProof.Rows
end L2
namespace PySem
end PySem
namespace L2
open PySem PySem.Spec PyProof.Rows
def flatW : V → Bool
  | .int _ => true
  | .str _ => true
  | _ => false
end L2
namespace Z
open PySem PySem.Spec PyProof.Rows L2
theorem flat_k0 {K : KW} {ι : List Addr} {H : Hp} {d : D} {v : V} (r : Rep K ι H d v) : flatW v = k0 d := by
  cases d <;> rw [Rep] at r
  case tup => obtain ⟨a, _, rfl, _⟩ := r; rfl
  case fl => obtain ⟨a, _, rfl, _⟩ := r; rfl
  case ref => obtain ⟨a, rfl, _⟩ := r; rfl
  case str => rw [r.1]; rfl
  all_goals (rw [r]; rfl)
end Z
namespace Z
open PySem PySem.Spec PyProof.Rows L2
mutual
/-- how many signs and things, by the kit's count -/
def PD.wgt : PD → Nat
  | .str s => s.length
  | .int i => i.natAbs.log2 + 1
  | .lst xs => wgtL xs
  | .tup xs => wgtL xs
  | _ => 0
def wgtL : List PD → Nat
  | [] => 0
  | x :: xs => PD.wgt x + 1 + wgtL xs
end
mutual
/-- no number in it is long -/
def PD.sml (B : Nat) : PD → Bool
  | .int i => decide (i.natAbs.log2 < B)
  | .lst xs => smlL B xs
  | .tup xs => smlL B xs
  | _ => true
def smlL (B : Nat) : List PD → Bool
  | [] => true
  | x :: xs => PD.sml B x && smlL B xs
end
def PD.rok (B : Nat) (x : PD) : Prop := x.sml B = true ∧ (B + 3) * x.wgt + (B + 1) ≤ 16777216
/-- the text -/
noncomputable def rtext (x : PD) : List Nat := x.py.shown.cps.toList
open Classical in
noncomputable def reprD : Fn := fun ds S => match ds with
  | [d] => (match dat S d with
    | some x => if x.dep ≤ 60 ∧ (x.rok 20 ∨ x.rok 302) then some (.ok (.str (rtext x)) S) else none
    | none => none)
  | _ => none
theorem o_reprD {d : D} {S : Store} {x : PD} (h : dat S d = some x) (hd : x.dep ≤ 60) (hr : x.rok 20 ∨ x.rok 302) : reprD [d] S = some (.ok (.str (rtext x)) S) := by
  unfold reprD
  dsimp only
  rw [h]
  dsimp only
  rw [if_pos ⟨hd, hr⟩]
def Asc (s : Str) : Prop := ∀ c ∈ s.cps.toList, c < 128
theorem Asc.add {a b : Str} (ha : Asc a) (hb : Asc b) : Asc (a ++ b) := fun c hc => by
  have : c ∈ a.cps.toList ++ b.cps.toList := by
    have e : (a ++ b).cps = a.cps ++ b.cps := rfl
    rw [e] at hc
    simpa using hc
  rcases List.mem_append.mp this with h | h
  · exact ha c h
  · exact hb c h
theorem asc_lit (s : String) (h : (s.toList.all fun c => decide (c.toNat < 128)) = true) : Asc (Str.ofString s) := by
  intro c hc
  rw [Str.ofString_eq_toList] at hc
  simp only [List.toList_toArray] at hc
  obtain ⟨k, hk, rfl⟩ := List.mem_map.mp hc
  exact of_decide_eq_true (List.all_eq_true.mp h k hk)
theorem asc_reprChar : ∀ c, c < 128 → ∀ k ∈ Builtin.Str.reprChar 34 c, k < 128 := by decide +kernel
theorem asc_reprChar' : ∀ c, c < 128 → ∀ k ∈ Builtin.Str.reprChar 39 c, k < 128 := by decide +kernel
theorem asc_fold {q : Nat} (hq : ∀ c, c < 128 → ∀ k ∈ Builtin.Str.reprChar q c, k < 128) : ∀ (l : List Nat) (acc : Array Nat), (∀ c ∈ l, c < 128) → (∀ k ∈ acc.toList, k < 128) → ∀ k ∈ (l.foldl (fun out c => out ++ (Builtin.Str.reprChar q c).toArray) acc).toList, k < 128
  | [], acc, _, h => h
  | c :: r, acc, hl, h => by
    rw [List.foldl_cons]
    refine asc_fold hq r _ (fun x hx => hl x (List.mem_cons_of_mem _ hx)) fun k hk => ?_
    simp only [Array.toList_append, List.toList_toArray] at hk
    rcases List.mem_append.mp hk with hk | hk
    · exact h k hk
    · exact hq c (hl c (by simp)) k hk
theorem asc_reprText {x : Str} (h : Asc x) : Asc (reprText x) := by
  intro k hk
  unfold reprText at hk
  rw [Array.toList_push] at hk
  have hq : reprQuote x = 34 ∨ reprQuote x = 39 := by unfold reprQuote; split <;> simp
  have hf : ∀ c, c < 128 → ∀ k ∈ Builtin.Str.reprChar (reprQuote x) c, k < 128 := by
    rcases hq with e | e <;> rw [e]
    · exact asc_reprChar
    · exact asc_reprChar'
  rw [← Array.foldl_toList] at hk
  rcases List.mem_append.mp hk with hk | hk
  · refine asc_fold hf _ _ h (fun k hk => ?_) k hk
    simp at hk
    subst hk
    rcases hq with e | e <;> rw [e] <;> decide
  · simp at hk
    subst hk
    rcases hq with e | e <;> rw [e] <;> decide
theorem asc_textFrom : ∀ (ts : List Str) (k : Nat) (acc : Str), Asc acc → (∀ t ∈ ts, Asc t) → Asc (textFrom k acc ts)
  | [], _, acc, h, _ => h
  | t :: ts, k, acc, h, ht => by
    rw [textFrom]
    refine asc_textFrom ts (k + 1) _ ((h.add ?_).add (ht t (by simp))) fun x hx => ht x (List.mem_cons_of_mem _ hx)
    split
    · exact asc_lit ", " (by decide)
    · exact asc_lit "" (by decide)
theorem asc_join : ∀ ts : List Str, (∀ t ∈ ts, Asc t) → Asc (Str.join ", " ts)
  | [], _ => fun c hc => by cases hc
  | [x], h => h x (by simp)
  | x :: y :: r, h => by
    have ih := asc_join (y :: r) fun t ht => h t (List.mem_cons_of_mem _ ht)
    show Asc (x ++ ", " ++ Str.join ", " (y :: r))
    exact ((h x (by simp)).add (asc_lit ", " (by decide))).add ih
mutual
theorem asc_shown : ∀ x : PD, x.asc → Asc x.py.shown
  | .non, _ => asc_lit "None" (by decide)
  | .bl b, _ => by
    cases b
    · exact asc_lit "False" (by decide)
    · exact asc_lit "True" (by decide)
  | .int i, _ => fun c hc => by
    have e : (PD.int i).py.shown = str (dec i) := dec_eq i
    rw [e] at hc
    exact dec_asc i c (by simpa using hc)
  | .str s, h => by
    rw [PD.asc] at h
    exact asc_reprText (x := Z.str s) fun c hc => h c (by simpa using hc)
  | .lst xs, h => by
    rw [PD.asc] at h
    show Asc (listText (PyData.shownAll (pyL xs)))
    unfold listText
    exact (asc_textFrom _ _ _ (asc_lit "[" (by decide)) (asc_shownL xs h)).add (asc_lit "]" (by decide))
  | .tup xs, h => by
    rw [PD.asc] at h
    show Asc (tupleText (PyData.shownAll (pyL xs)))
    unfold tupleText
    refine ((asc_lit "(" (by decide)).add (asc_join _ (asc_shownL xs h))).add ?_
    split
    · exact asc_lit ",)" (by decide)
    · exact asc_lit ")" (by decide)
theorem asc_shownL : ∀ xs : List PD, ascL xs → ∀ t ∈ PyData.shownAll (pyL xs), Asc t
  | [], _, t, h => by cases h
  | x :: xs, h, t, ht => by
    rw [ascL] at h
    rw [pyL, PyData.shownAll] at ht
    rcases List.mem_cons.mp ht with rfl | ht
    · exact asc_shown x h.1
    · exact asc_shownL xs h.2 t ht
end
mutual
theorem py_wgt : ∀ x : PD, x.py.weight ≤ x.wgt
  | .non => Nat.le_refl _
  | .bl _ => Nat.le_refl _
  | .int i => by
    show (if i == 0 then 0 else i.natAbs.log2 + 1) ≤ i.natAbs.log2 + 1
    split <;> omega
  | .str s => by
    show (Z.str s).cps.size ≤ s.length
    simp
  | .lst xs => by simp only [PD.py, PyData.weight, PD.wgt]; exact py_wgtL xs
  | .tup xs => by simp only [PD.py, PyData.weight, PD.wgt]; exact py_wgtL xs
theorem py_wgtL : ∀ xs : List PD, PyData.weightAll (pyL xs) ≤ wgtL xs
  | [] => Nat.le_refl _
  | x :: xs => by
    have h1 := py_wgt x
    have h2 := py_wgtL xs
    simp only [pyL, PyData.weightAll, wgtL]
    omega
end
theorem len_ofString (s : String) : (Str.ofString s).length = s.length := by
  exact PySem.ofString_length s
mutual
theorem py_leaves (B : Nat) (hB : 0 < B) : ∀ x : PD, x.asc → x.sml B = true → x.py.leavesShort (B + 1) = true
  | .non, _, _ => rfl
  | .bl _, _, _ => rfl
  | .int i, _, h => by
    have h' : i.natAbs.log2 < B := by simpa [PD.sml] using h
    show decide ((Str.ofString (toString i)).length ≤ B + 1) = true
    rw [len_ofString]
    exact decide_eq_true (int_text_length_le hB h')
  | .str s, h, _ => by
    rw [PD.asc] at h
    show ((Z.str s).cps.toList.all fun c => decide (c < 16 ^ 8)) = true
    refine List.all_eq_true.mpr fun c hc => decide_eq_true ?_
    have := h c (by simpa using hc)
    exact Nat.lt_trans this (by decide)
  | .lst xs, h, g => by
    rw [PD.asc] at h
    simp only [PD.sml] at g
    simp only [PD.py, PyData.leavesShort]
    exact py_leavesL B hB xs h g
  | .tup xs, h, g => by
    rw [PD.asc] at h
    simp only [PD.sml] at g
    simp only [PD.py, PyData.leavesShort]
    exact py_leavesL B hB xs h g
theorem py_leavesL (B : Nat) (hB : 0 < B) : ∀ xs : List PD, ascL xs → smlL B xs = true → PyData.leavesShortAll (B + 1) (pyL xs) = true
  | [], _, _ => rfl
  | x :: xs, h, g => by
    rw [ascL] at h
    rw [smlL, Bool.and_eq_true] at g
    rw [pyL, PyData.leavesShortAll, py_leaves B hB x h.1 g.1, py_leavesL B hB xs h.2 g.2]
    rfl
end
mutual
theorem py_showable (B : Nat) (hB : B ≤ 1920) : ∀ x : PD, x.sml B = true → x.py.showable = true
  | .non, _ => rfl
  | .bl _, _ => rfl
  | .int i, h => by
    have h' : i.natAbs.log2 < B := by simpa [PD.sml] using h
    exact decide_eq_true (show i.natAbs.log2 < 1920 by omega)
  | .str s, _ => rfl
  | .lst xs, g => by simp only [PD.sml] at g; simp only [PD.py, PyData.showable]; exact py_showableL B hB xs g
  | .tup xs, g => by simp only [PD.sml] at g; simp only [PD.py, PyData.showable]; exact py_showableL B hB xs g
theorem py_showableL (B : Nat) (hB : B ≤ 1920) : ∀ xs : List PD, smlL B xs = true → PyData.showableAll (pyL xs) = true
  | [], _ => rfl
  | x :: xs, g => by
    rw [smlL, Bool.and_eq_true] at g
    rw [pyL, PyData.showableAll, py_showable B hB x g.1, py_showableL B hB xs g.2]
    rfl
end
theorem rok_len {x : PD} (ha : x.asc) {B : Nat} (h8 : 8 ≤ B) (h : x.rok B) : x.py.shown.length ≤ sizeLine := by
  have h1 := PyData.shown_le (B + 1) (by omega) x.py (py_leaves B (by omega) x ha h.1)
  have h2 := py_wgt x
  have h3 := h.2
  have h4 : (B + 1 + 2) * x.py.weight ≤ (B + 3) * x.wgt := Nat.mul_le_mul (by omega) h2
  rw [sizeLine_eq]
  omega
section
variable {X : Cx}
theorem no_reprD : NoExF reprD := by
  intro ds S c S'
  unfold reprD
  split
  · split
    · split <;> simp
    · simp
  · simp
theorem zc_reprD (hg : X.A.guards = some []) (hu : X.A.units + 65 < cLine) : CallR X (.builtin "repr") (rB X reprD) := by
  intro pins s σ H xs us Q I r ⟨ι, S, ds, sm, rd, po⟩
  unfold reprD at po
  split at po
  · rename_i d
    obtain ⟨v, rfl, h⟩ := one_of (ds := []) rd
    obtain ⟨u, rfl, ru⟩ := vals1 r
    split at po
    · rename_i x hx
      split at po
      · rename_i hc
        obtain ⟨dp, ha⟩ := dat_ok sm h hx
        obtain ⟨as, rr⟩ := Dp.reads I x.py v u dp ru
        have hsz : x.py.shown.length ≤ sizeLine := hc.2.elim (fun q => rok_len ha (by decide) q) (fun q => rok_len ha (by decide) q)
        have hs : x.py.showable = true := hc.2.elim (fun q => py_showable 20 (by decide) x q.1) (fun q => py_showable 302 (by decide) x q.1)
        have hnd := PyData.hasDict_of_canLay x.py (py_lay x ha)
        have hasc := asc_shown x ha
        have fin : ∀ (h' : Heap) (t t' : Tok), (∀ b o, s.heap.get? b = some o → h'.get? b = some o) → EP X pins σ Q (.str x.py.shown t) { s with heap := h', toks := t' } := fun h' t t' hk =>
          ⟨.str x.py.shown, H, I.kept (t' := t') hk, ⟨t, rfl⟩, Po.ret po sm (by
            rw [Rep]
            refine ⟨?_, fun c hc => hasc c hc⟩
            show V.str x.py.shown = V.str (Z.str (rtext x))
            simp [rtext, Z.str])⟩
        have hdep := py_depth x
        have hcd := hc.1
        cases x with
        | non =>
          cases dp
          cases ru
          exact PySem.P.repr_of_none (fin s.heap s.toks (s.toks + 1) fun _ _ e => e)
        | bl b =>
          cases dp
          cases ru
          exact PySem.P.repr_of_bool (by
            have := fin s.heap s.toks (s.toks + 1) fun _ _ e => e
            cases b <;> exact this)
        | int i =>
          cases dp
          obtain ⟨t', rfl⟩ := ru
          exact PySem.P.repr_of_int (of_decide_eq_true hs) (fin s.heap s.toks (s.toks + 1) fun _ _ e => e)
        | str z =>
          cases dp
          obtain ⟨t', rfl⟩ := ru
          exact PySem.P.repr_of_str (fin s.heap s.toks (s.toks + 1) fun _ _ e => e) hsz
        | lst zs =>
          cases dp
          cases ru
          exact repr_of_reads' rr hs (fun e => by rw [hnd] at e; cases e) hg (by rw [hdep]; omega) (fun _ _ e => e) (fun h' t tk hk => fin h' t tk hk) hsz
        | tup zs =>
          cases dp
          cases ru
          exact repr_of_reads' rr hs (fun e => by rw [hnd] at e; cases e) hg (by rw [hdep]; omega) (fun _ _ e => e) (fun h' t tk hk => fin h' t tk hk) hsz
      · exact po.elim
    · exact po.elim
  · exact po.elim
end
end Z
namespace Z
open PySem PySem.Spec PyProof.Rows L2
section
variable {X : Cx} {W : WX} {i : Nat} {a : Addr} {e : Expr} {es : List Expr} {ma : SE} {ms : List SE} {pos : Pos}
/-- the name goes -/
def unI (i : Nat) : Option Out → Option Out
  | some (.nx ρ S) => some (.nx (ρ.set i none) S)
  | some (.bk ρ S) => some (.bk (ρ.set i none) S)
  | some (.ct ρ S) => some (.ct (ρ.set i none) S)
  | some (.rt d S) => some (.rt d S)
  | _ => none
def pickH (c : String) : List (String × SS) → Option SS
  | [] => none
  | (x, h) :: r => if c = x then some h else pickH c r
def sTryAs (i : Nat) (hs : List (String × SS)) (b : SS) : SS := fun ρ S => match b ρ S with
  | some (.ex c ρ1 S1) => (match pickH c hs with
    | some h => if i < ρ1.length then unI i (h (ρ1.set i none) S1) else none
    | none => none)
  | r => r
end
end Z
namespace Z
open PySem PySem.Spec PyProof.Rows L2
@[simp] theorem x_tryas (i : Nat) (hs : List (String × SS)) (b : SS) (ρ : Env) (S : Store) : sTryAs i hs b ρ S = match b ρ S with
  | some (.ex c ρ1 S1) => (match pickH c hs with
    | some h => if i < ρ1.length then unI i (h (ρ1.set i none) S1) else none
    | none => none)
  | r => r := rfl
end Z
namespace L2
open PySem PySem.Spec PyProof.Rows
end L2
namespace Z
open PySem PySem.Spec PyProof.Rows L2
/-- the exception is kept in slot k -/
def sTryK (i k : Nat) (cs : List String) (b : SS) : SS := fun ρ S => match b ρ S with
  | some (.ex c ρ1 S1) => if c ∈ cs ∧ i < ρ1.length ∧ k < ρ1.length then some (.nx ((ρ1.set i none).set k (some (.ref S1.length))) (S1 ++ [.exn c])) else none
  | r => r
@[simp] theorem x_tryk (i k : Nat) (cs : List String) (b : SS) (ρ : Env) (S : Store) : sTryK i k cs b ρ S = match b ρ S with
  | some (.ex c ρ1 S1) => if c ∈ cs ∧ i < ρ1.length ∧ k < ρ1.length then some (.nx ((ρ1.set i none).set k (some (.ref S1.length))) (S1 ++ [.exn c])) else none
  | r => r := rfl
end Z
namespace L2
open PySem PySem.Spec PyProof.Rows RZ
/-- the tuples at a and b as they stand at each turn, the items in new pairs; a pair that bears more than numbers and texts is held as it is -/
def Itz2 (K : PySem.W.Frag) (a b : Addr) : It :=
  ⟨fun i H => ∃ (xs ys : List V) (x y : V), SqT K H a xs ∧ SqT K H b ys ∧ xs[i]? = some x ∧ ys[i]? = some y,
    fun i H v H' => ∃ T x y, v = .ref T ∧ H T = none ∧ ((flatW x && flatW y) = true ∧ H' = upd H T (.tup [x, y]) ∨ (flatW x && flatW y) = false ∧ ∃ o : Obj, o.dict = none ∧ H' = upd H T (.frz o (.tup [x, y]))) ∧ (∀ xs, SqT K H a xs → xs[i]? = some x) ∧ ∀ ys, SqT K H b ys → ys[i]? = some y,
    fun i H => ∃ xs ys : List V, SqT K H a xs ∧ SqT K H b ys ∧ (xs.length ≤ i ∨ ys.length ≤ i)⟩
def iZip2 (K : PySem.W.Frag) (ta : TA) : TI := fun σ H R => ta σ H fun vs H1 => ∃ a b xs ys, vs = [.ref a, .ref b] ∧ SqT K H1 a xs ∧ SqT K H1 b ys ∧ R (Itz2 K a b) H1
end L2
namespace Z
open PySem PySem.Spec PyProof.Rows L2
/-- pairs of the items of two tuples -/
def zipL : List D → List D → List D
  | d :: ds, e :: es => .tup [d, e] :: zipL ds es
  | _, _ => []
def iZip (a b : SE) : SI := fun ρ S => bd (a ρ S) fun d S1 => bd (b ρ S1) fun e S2 => match d, e with
  | .tup ds, .tup es => some (.ok ⟨zipL ds es, fun _ => True⟩ S2)
  | _, _ => none
@[simp] theorem x_zip (a b : SE) (ρ : Env) (S : Store) : iZip a b ρ S = bd (a ρ S) fun d S1 => bd (b ρ S1) fun e S2 => match d, e with
  | .tup ds, .tup es => some (.ok ⟨zipL ds es, fun _ => True⟩ S2)
  | _, _ => none := rfl
theorem zipL_len : ∀ (ds es : List D), (zipL ds es).length = min ds.length es.length
  | [], es => by cases es <;> simp [zipL]
  | d :: ds, [] => by simp [zipL]
  | d :: ds, e :: es => by rw [zipL, List.length_cons, List.length_cons, List.length_cons, zipL_len ds es]; omega
theorem zipL_get : ∀ (ds es : List D) (i : Nat) (x : D), (zipL ds es)[i]? = some x → ∃ d e, ds[i]? = some d ∧ es[i]? = some e ∧ x = .tup [d, e]
  | [], es, i, x, h => by cases es <;> simp [zipL] at h
  | d :: ds, [], i, x, h => by simp [zipL] at h
  | d :: ds, e :: es, 0, x, h => by simp [zipL] at h; exact ⟨d, e, rfl, rfl, h.symm⟩
  | d :: ds, e :: es, i + 1, x, h => by
    rw [zipL, List.getElem?_cons_succ] at h
    obtain ⟨d', e', h1, h2, h3⟩ := zipL_get ds es i x h
    exact ⟨d', e', by rw [List.getElem?_cons_succ]; exact h1, by rw [List.getElem?_cons_succ]; exact h2, h3⟩
theorem ritm_zip {K : KW} {ι : List Addr} {H : Hp} {a b : Addr} {ds es : List D} {vs us : List V} (h1 : SqT K H a vs) (h2 : RepL K ι H ds vs) (g1 : SqT K H b us) (g2 : RepL K ι H es us) : RItm K ι H ⟨zipL ds es, fun _ => True⟩ (Itz2 K a b) := fun ι' H' S' e s c => by
  have h1' := e.sqT h1
  have h2' := RepL.ext e _ _ h2
  have g1' := e.sqT g1
  have g2' := RepL.ext e _ _ g2
  refine ⟨fun i x hx => ?_, vs, us, h1', g1', ?_⟩
  rotate_left
  · have q1 := h2.length
    have q2 := g2.length
    show vs.length ≤ (zipL ds es).length ∨ us.length ≤ (zipL ds es).length
    rw [zipL_len]
    by_cases q : vs.length ≤ us.length
    · exact .inl (by omega)
    · exact .inr (by omega)
  obtain ⟨d, d2, hd, hd2, rfl⟩ := zipL_get _ _ _ _ hx
  obtain ⟨v, hv, rd⟩ := h2'.get hd
  obtain ⟨v2, hv2, rd2⟩ := g2'.get hd2
  refine ⟨⟨vs, us, v, v2, h1', g1', hv, hv2⟩, fun u H'' y => ?_⟩
  obtain ⟨T, x', y', rfl, hT, hor, hall, hall2⟩ := y
  have ex : v = x' := Option.some.inj (hv.symm.trans (hall vs h1'))
  have ey : v2 = y' := Option.some.inj (hv2.symm.trans (hall2 us g1'))
  subst ex ey
  have hk := flat_k0 rd
  have hk2 := flat_k0 rd2
  rcases hor with ⟨hf, rfl⟩ | ⟨hf, o, ho, rfl⟩
  · have e2 := ext_tup (ι := ι') (o := .tup [v, v2]) hT
    refine ⟨e2, s.tup hT, ?_⟩
    rw [Rep]
    have hfl : [d, d2].all k0 = true := by simpa [← hk, ← hk2] using hf
    refine ⟨T, _, rfl, by rw [hfl]; exact upd_same, ?_⟩
    rw [RepL]
    exact ⟨_, _, rfl, Rep.ext e2 _ _ rd, RepL.one (Rep.ext e2 _ _ rd2)⟩
  · have e2 := ext_tup (ι := ι') (o := .frz o (.tup [v, v2])) hT
    refine ⟨e2, s.tup hT, ?_⟩
    rw [Rep]
    have hfl : [d, d2].all k0 = false := by simpa [← hk, ← hk2] using hf
    refine ⟨T, _, rfl, by rw [hfl]; exact ⟨o, ho, upd_same⟩, ?_⟩
    rw [RepL]
    exact ⟨_, _, rfl, Rep.ext e2 _ _ rd, RepL.one (Rep.ext e2 _ _ rd2)⟩
def smulD : D → D → Store → M D
  | .str s, .int k, S => if 2 ≤ k ∧ k ≤ 100000 ∧ 0 < s.length ∧ s.length ≤ 100 then some (.ok (.str (List.replicate k.toNat s).flatten) S) else none
  | _, _, _ => none
@[simp] theorem o_smul (s : List Nat) (k : Int) (S : Store) : smulD (.str s) (.int k) S = if 2 ≤ k ∧ k ≤ 100000 ∧ 0 < s.length ∧ s.length ≤ 100 then some (.ok (.str (List.replicate k.toNat s).flatten) S) else none := rfl
end Z
namespace L2
open PySem PySem.Spec PyProof.Rows
end L2
namespace Z
open PySem PySem.Spec PyProof.Rows L2
def insAt (c : String) (S : Store) (d : D) : Option (List (String × D)) := match d with
  | .ref n => (match S[n]? with | some (.ins c' fs) => if c' = c then some fs else none | _ => none)
  | _ => none
/-- o.f -/
def eFld (c f : String) (o : SE) : SE := fun ρ S => bd (o ρ S) fun d S1 => match insAt c S1 d with
  | some fs => (match fs.lookup f with | some v => some (.ok v S1) | none => none)
  | none => none
def putA (f : String) (v : D) : List (String × D) → List (String × D)
  | [] => [(f, v)]
  | (g, x) :: r => if g = f then (g, v) :: r else (g, x) :: putA f v r
/-- o.f = v -/
def sFld (c f : String) (o v : SE) : SS := fun ρ S => bo (v ρ S) ρ fun w S1 => bo (o ρ S1) ρ fun d S2 => match d with
  | .ref n => (match S2[n]? with | some (.ins c' fs) => if c' = c ∧ fs.length < 1000 then some (.nx ρ (S2.set n (.ins c (putA f w fs)))) else none | _ => none)
  | _ => none
/-- o.m(..) -/
def eMeth (c m : String) (F : Fn) (o : SE) (es : List SE) : SE := fun ρ S => bd (o ρ S) fun d S1 => match insAt c S1 d with
  | some fs => if (fs.lookup m).isNone = true then bd (evL es ρ S1) fun ds S2 => F (d :: ds) S2 else none
  | none => none
/-- C() -/
def eMake0 (c : String) (F : Fn) : SE := fun ρ S => match F [.ref S.length] (S ++ [.ins c []]) with
  | some (.ok .non S2) => some (.ok (.ref S.length) S2)
  | some (.ex x S2) => some (.ex x S2)
  | _ => none
section
variable {ρ : Env} {S : Store}
@[simp] theorem o_insAt (c : String) (n : Nat) : insAt c S (.ref n) = (match S[n]? with | some (.ins c' fs) => if c' = c then some fs else none | _ => none) := rfl
@[simp] theorem x_fld (c f : String) (o : SE) : eFld c f o ρ S = bd (o ρ S) fun d S1 => match insAt c S1 d with
  | some fs => (match fs.lookup f with | some v => some (.ok v S1) | none => none)
  | none => none := rfl
@[simp] theorem x_sfld (c f : String) (o v : SE) : Z.sFld c f o v ρ S = bo (v ρ S) ρ fun w S1 => bo (o ρ S1) ρ fun d S2 => match d with
  | .ref n => (match S2[n]? with | some (.ins c' fs) => if c' = c ∧ fs.length < 1000 then some (.nx ρ (S2.set n (.ins c (putA f w fs)))) else none | _ => none)
  | _ => none := rfl
@[simp] theorem x_meth (c m : String) (F : Fn) (o : SE) (es : List SE) : eMeth c m F o es ρ S = bd (o ρ S) fun d S1 => match insAt c S1 d with
  | some fs => if (fs.lookup m).isNone = true then bd (evL es ρ S1) fun ds S2 => F (d :: ds) S2 else none
  | none => none := rfl
@[simp] theorem x_make0 (c : String) (F : Fn) : eMake0 c F ρ S = match F [.ref S.length] (S ++ [.ins c []]) with
  | some (.ok .non S2) => some (.ok (.ref S.length) S2)
  | some (.ex x S2) => some (.ex x S2)
  | _ => none := rfl
end
def kOk : D → Bool
  | .int _ => true
  | .str s => s.all fun c => decide (c < 128)
  | _ => false
def lkVar (i : Nat) : Env → Store → Option Nat := fun ρ _ => match ρ[i]? with
  | some (some (.ref n)) => some n
  | _ => none
section
variable {X : Cx} {W : WX} {e : Expr} {m : SE}
/-- what is not told -/
def eNo : SE := fun _ _ => none
@[simp] theorem x_no (ρ : Env) (S : Store) : eNo ρ S = none := rfl
end
end Z
namespace L2
open PySem PySem.Spec PyProof.Rows
end L2
namespace Z
open PySem PySem.Spec PyProof.Rows L2
def joinTF : Fn := fun ds S => match ds with
  | [.str sep, .tup ds] => (match strsL ds with
    | some zs => if (zs.map List.length).sum + zs.length * sep.length ≤ 16777216 then some (.ok (.str (joinS sep zs)) S) else none
    | none => none)
  | _ => none
@[simp] theorem o_joinT (sep : List Nat) (ds : List D) (S : Store) : joinTF [.str sep, .tup ds] S = (match strsL ds with
    | some zs => if (zs.map List.length).sum + zs.length * sep.length ≤ 16777216 then some (.ok (.str (joinS sep zs)) S) else none
    | none => none) := rfl
def digV (cs : List Nat) : Nat := cs.foldl (fun acc c => acc * 10 + (c - 48)) 0
def digW (w : List Nat) : Bool := !w.isEmpty && (w.all fun c => decide (48 ≤ c) && decide (c ≤ 57)) && decide (w.length ≤ 600)
def intNF : Fn := fun ds S => match ds with
  | [.str w] => if digW w = true then some (.ok (.int (digV w : Nat)) S) else none
  | _ => none
@[simp] theorem o_intN (w : List Nat) (S : Store) : intNF [.str w] S = if digW w = true then some (.ok (.int (digV w : Nat)) S) else none := rfl
/-- x in (a, ..), texts -/
def inTD (x c : D) (S : Store) : M D := match x, c with
  | .str z, .tup ds => (match strsL ds with
    | some zs => some (.ok (.bl (decide (z ∈ zs))) S)
    | none => none)
  | _, _ => none
@[simp] theorem o_inT (z : List Nat) (ds : List D) (S : Store) : inTD (.str z) (.tup ds) S = (match strsL ds with
    | some zs => some (.ok (.bl (decide (z ∈ zs))) S)
    | none => none) := rfl
abbrev Tab := List (List Nat × List (List Nat))
def tabAt : Tab → List Nat → Option (List (List Nat))
  | [], _ => none
  | p :: r, z => if p.1 = z then some p.2 else tabAt r z
def rowAt (tab : Tab) : D → Option (List (List Nat))
  | .str z => tabAt tab z
  | _ => none
/-- e not in ROWS -/
def eRowsNi (tab : Tab) (e : SE) : SE := fun ρ S => bd (e ρ S) fun d S1 => match d with
  | .str z => some (.ok (.bl (!(tabAt tab z).isSome)) S1)
  | _ => none
/-- len(ROWS[e]) -/
def eRowsLen (tab : Tab) (e : SE) : SE := fun ρ S => bd (e ρ S) fun d S1 => match rowAt tab d with
  | some ks => some (.ok (.int ks.length) S1)
  | none => none
/-- zip(ROWS[e], l) -/
def iZipRows (tab : Tab) (e l : SE) : SI := fun ρ S => bd (e ρ S) fun d S1 => match rowAt tab d with
  | some ks => bd (l ρ S1) fun y S2 => (match y with
    | .ref n => (match S2[n]? with
      | some (.lst ds) => if ds.all k0 = true then some (.ok ⟨zipL (ks.map .str) ds, fun S => S[n]? = some (.lst ds)⟩ S2) else none
      | _ => none)
    | _ => none)
  | none => none
/-- a tuple of texts among what stands -/
def KT (K : PySem.W.Frag) (t : Addr) (ks : List (List Nat)) : Prop :=
  (∃ (o : Obj) (its : Array Value) (n : Nat), K.lookup t = some o ∧ o.cls = .type "tuple" ∧ o.data = .seq its n ∧ its.size ≤ sizeLine ∧ Vals (ks.map fun k => V.str (str k)) its.toList) ∧ ∀ k ∈ ks, ∀ c ∈ k, c < 128
inductive RowsL (K : PySem.W.Frag) : Tab → List (Str × Value) → Prop
  | nil : RowsL K [] []
  | cons {cs : List Nat} {ks : List (List Nat)} {t : Addr} {x : Str} {tab : Tab} {kvs : List (Str × Value)} (hx : x = str cs) (h : KT K t ks) (r : RowsL K tab kvs) : RowsL K ((cs, ks) :: tab) ((x, .ref t) :: kvs)
theorem str_injR {a b : List Nat} (h : str a = str b) : a = b := by
  injection h with h
  simpa using congrArg Array.toList h
theorem RowsL.at {K : PySem.W.Frag} (z : List Nat) : ∀ {tab : Tab} {kvs : List (Str × Value)}, RowsL K tab kvs → match tabAt tab z with
    | some ks => ∃ t, kvs.lookup (str z) = some (.ref t) ∧ KT K t ks
    | none => kvs.lookup (str z) = none
  | _, _, .nil => rfl
  | _, _, .cons (cs := cs) (ks := ks) (t := t) (x := x) hx h r => by
    subst hx
    have ih := RowsL.at z r
    rw [tabAt]
    by_cases c : cs = z
    · subst c
      rw [if_pos rfl]
      exact ⟨t, by simp [List.lookup], h⟩
    · rw [if_neg c]
      have hb : (str z == str cs) = false := by
        rw [Bool.eq_false_iff]
        intro q
        exact c (str_injR (beq_iff_eq.mp q)).symm
      simp only [List.lookup, hb]
      exact ih
theorem KT.sqT {K : PySem.W.Frag} {H : Hp} {t : Addr} {ks : List (List Nat)} (h : KT K t ks) : SqT K H t (ks.map fun k => V.str (str k)) := .inr h.1
section
variable {ρ : Env} {S : Store} {tab : Tab}
@[simp] theorem x_rowsni (e : SE) : eRowsNi tab e ρ S = bd (e ρ S) fun d S1 => match d with
  | .str z => some (.ok (.bl (!(tabAt tab z).isSome)) S1)
  | _ => none := rfl
@[simp] theorem x_rowslen (e : SE) : eRowsLen tab e ρ S = bd (e ρ S) fun d S1 => match rowAt tab d with
  | some ks => some (.ok (.int ks.length) S1)
  | none => none := rfl
@[simp] theorem x_ziprows (e l : SE) : iZipRows tab e l ρ S = bd (e ρ S) fun d S1 => match rowAt tab d with
  | some ks => bd (l ρ S1) fun y S2 => (match y with
    | .ref n => (match S2[n]? with
      | some (.lst ds) => if ds.all k0 = true then some (.ok ⟨zipL (ks.map .str) ds, fun S => S[n]? = some (.lst ds)⟩ S2) else none
      | _ => none)
    | _ => none)
  | none => none := rfl
@[simp] theorem o_rowAt (z : List Nat) : rowAt tab (.str z) = tabAt tab z := rfl
end
end Z
namespace L2
open PySem PySem.Spec PyProof.Rows
end L2
namespace Z
open PySem PySem.Spec PyProof.Rows L2
/-- which of two, by a key -/
def byK (x : M D) (a b : M D) : M D := match x with
  | some (.ok (.tup _) _) => a
  | some (.ok _ _) => b
  | _ => none
@[simp] theorem byK_tup (ks : List D) (S : Store) (a b : M D) : byK (some (.ok (.tup ks) S)) a b = a := rfl
@[simp] theorem byK_int (i : Int) (S : Store) (a b : M D) : byK (some (.ok (.int i) S)) a b = b := rfl
@[simp] theorem byK_str (s : List Nat) (S : Store) (a b : M D) : byK (some (.ok (.str s) S)) a b = b := rfl
end Z
namespace L2
namespace DT
open PySem PySem.SetTable
def tab (m mask finger moves : Nat) (led plain : Bool) : SetTable := { mask, place := Array.range m, dummies := #[], finger, led, moves, plain }
section
variable {m mask finger moves : Nat} {led plain : Bool}
theorem fits_tab (h : m ≤ mask) : (tab m mask finger moves led plain).fits m = true := by
  unfold fits tab fill
  simp [h]
end
/-- not too full -/
structure Tb (t : SetTable) (m : Nat) : Prop where
  eq : t = tab m t.mask t.finger t.moves t.led t.plain
  odd : t.mask % 2 = 1
  room : m * 5 < t.mask * 3
theorem Tb.fresh (finger moves : Nat) (led : Bool) : Tb (SetTable.fresh finger moves led) 0 := ⟨by unfold SetTable.fresh tab; rfl, by show 7 % 2 = 1; decide, by show 0 * 5 < 7 * 3; decide⟩
theorem Tb.fits {t : SetTable} {m : Nat} (h : Tb t m) : t.fits m = true := by
  have := h.room
  rw [h.eq]
  exact fits_tab (by omega)
end DT
end L2
namespace L2
open PySem PySem.Spec PyProof.Rows
/-- the entries: 0, 1, .. -/
structure DEs (es : Array (Int × Value)) (m : Nat) : Prop where
  size : es.size = m
  at' : ∀ i, i < m → ∃ tk, es[i]? = some ((i : Int), .int i tk)
theorem DEs.push {es : Array (Int × Value)} {m : Nat} (h : DEs es m) (tk : Tok) : DEs (es.push ((m : Int), .int m tk)) (m + 1) := by
  refine ⟨by simp [h.size], fun i hi => ?_⟩
  rw [Array.getElem?_push, h.size]
  by_cases c : i = m
  · subst c
    exact ⟨tk, by simp⟩
  · rw [if_neg c]
    exact h.at' i (by omega)
theorem DEs.hash {es : Array (Int × Value)} {m : Nat} (h : DEs es m) {i : Nat} (hi : i < m) : (es[i]?.map (·.1)).getD 0 = (i : Int) := by
  obtain ⟨tk, e⟩ := h.at' i hi
  rw [e]
  rfl
end L2
namespace L2
open PySem PySem.Spec PyProof.Rows
end L2
namespace PyProof.Rows
open PySem PySem.Spec L2
end PyProof.Rows
namespace PySem
open PyProof.Rows
end PySem
namespace L2
open PySem PySem.Spec PyProof.Rows
/-- as met: each number is one met already, or the next -/
def dnc : Nat → List Int → Option Nat
  | c, [] => some c
  | c, x :: r => if 0 ≤ x ∧ x ≤ c then dnc (if x = c then c + 1 else c) r else none
def okSet (ns : List Int) : Prop := (ns.foldl step_dedup []).length ≤ 4000 ∨ (ns.length ≤ 8000000 ∧ ∃ c, dnc 0 ns = some c)
end L2
namespace L2
open PySem PySem.Spec PyProof.Rows
end L2
namespace Z
open PySem PySem.Spec PyProof.Rows L2
def intsD : List D → Option (List Int)
  | [] => some []
  | .int i :: r => (match intsD r with | some t => some (i :: t) | none => none)
  | _ => none
/-- each once, as first met -/
def onceI (ns : List Int) : List Int := ns.foldl step_dedup []
open Classical in
/-- len(set(xs)) -/
noncomputable def lsetIF : Fn := fun ds S => match ds with
  | [.ref n] => (match S[n]? with
    | some (.lst xs) => (match intsD xs with
      | some ns => if okSet ns then some (.ok (.int (onceI ns).length) S) else none
      | none => none)
    | _ => none)
  | _ => none
open Classical in
@[simp] theorem o_lsetI (n : Nat) (S : Store) : lsetIF [.ref n] S = (match S[n]? with
    | some (.lst xs) => (match intsD xs with
      | some ns => if okSet ns then some (.ok (.int (onceI ns).length) S) else none
      | none => none)
    | _ => none) := rfl
end Z
namespace Z
open PySem PySem.Spec PyProof.Rows L2
def iEnL (a : SE) : SI := fun ρ S => bd (a ρ S) fun d S1 => match d with
  | .ref n => (match S1[n]? with
    | some (.lst ds) => if ds.all k0 = true then some (.ok ⟨enumL 0 ds, fun S => S[n]? = some (.lst ds)⟩ S1) else none
    | _ => none)
  | _ => none
@[simp] theorem x_enL (a : SE) (ρ : Env) (S : Store) : iEnL a ρ S = bd (a ρ S) fun d S1 => match d with
  | .ref n => (match S1[n]? with
    | some (.lst ds) => if ds.all k0 = true then some (.ok ⟨enumL 0 ds, fun S => S[n]? = some (.lst ds)⟩ S1) else none
    | _ => none)
  | _ => none := rfl
def tmerge (kvs more : List (List D × D)) : List (List D × D) := more.foldl (fun acc p => tput acc p.1 p.2) kvs
def updF : Fn := fun ds S => match ds with
  | [.ref n, .ref m] => (match S[n]?, S[m]? with
    | some (.st (p :: kvs)), some (.st more) => if n ≠ m ∧ (p :: kvs).length + more.length < 16000000 then some (.ok .non (S.set n (.st (tmerge (p :: kvs) more)))) else none
    | _, _ => none)
  | _ => none
@[simp] theorem o_upd (n m : Nat) (S : Store) : updF [.ref n, .ref m] S = (match S[n]?, S[m]? with
    | some (.st (p :: kvs)), some (.st more) => if n ≠ m ∧ (p :: kvs).length + more.length < 16000000 then some (.ok .non (S.set n (.st (tmerge (p :: kvs) more)))) else none
    | _, _ => none) := rfl
def countIF : Fn := fun ds S => match ds with
  | [.ref n, .int k] => (match S[n]? with
    | some (.lst xs) => (match intsD xs with
      | some ns => some (.ok (.int (ns.count k : Nat)) S)
      | none => none)
    | _ => none)
  | _ => none
@[simp] theorem o_countI (n : Nat) (k : Int) (S : Store) : countIF [.ref n, .int k] S = (match S[n]? with
    | some (.lst xs) => (match intsD xs with
      | some ns => some (.ok (.int (ns.count k : Nat)) S)
      | none => none)
    | _ => none) := rfl
end Z
namespace PySem
end PySem
namespace L2
open PySem PySem.Spec PyProof.Rows
end L2
namespace Z
open PySem PySem.Spec PyProof.Rows L2
/-- the items of a tuple by their places -/
def numT : Nat → List D → List (D × D)
  | _, [] => []
  | i, x :: r => (.int (i : Int), x) :: numT (i + 1) r
/-- dict(enumerate(xs)) -/
def dictEnF : Fn := fun ds S => match ds with
  | [.tup xs] => if xs.length < 16000000 then new1 (.dk ((numT 0 xs).foldl (fun acc p => fput acc p.1 p.2) [])) S else none
  | _ => none
@[simp] theorem o_dictEn (xs : List D) (S : Store) : dictEnF [.tup xs] S = if xs.length < 16000000 then some (.ok (.ref S.length) (S ++ [.dk ((numT 0 xs).foldl (fun acc p => fput acc p.1 p.2) [])])) else none := rfl
end Z
namespace Z
open PySem PySem.Spec PyProof.Rows L2
def indexIF : Fn := fun ds S => match ds with
  | [.ref n, .int k] => (match S[n]? with
    | some (.lst xs) => (match intsD xs with
      | some ns => if k ∈ ns then some (.ok (.int (ns.idxOf k : Nat)) S) else none
      | none => none)
    | _ => none)
  | _ => none
@[simp] theorem o_indexI (n : Nat) (k : Int) (S : Store) : indexIF [.ref n, .int k] S = (match S[n]? with
    | some (.lst xs) => (match intsD xs with
      | some ns => if k ∈ ns then some (.ok (.int (ns.idxOf k : Nat)) S) else none
      | none => none)
    | _ => none) := rfl
end Z
namespace Z
open PySem PySem.Spec PyProof.Rows L2
open Classical in
noncomputable def dget {β : Type} (kvs : List (D × β)) (k : D) : Option β := (kvs.find? fun p => decide (p.1 = k)).map (·.2)
open Classical in
noncomputable def dput (kvs : List (D × D)) (k v : D) : List (D × D) :=
  if (kvs.any fun p => decide (p.1 = k)) = true then kvs.map (fun p => if p.1 = k then (p.1, v) else p) else kvs ++ [(k, v)]
/-- a nested key: a tuple of numbers, texts, None and such tuples, at most eight deep -/
def nkOk : D → Bool
  | .tup xs => (match nkD (.tup xs) with | some k => decide (k.depth ≤ 8) | none => false)
  | _ => false
def nkAt (S : Store) : D → Option (List (D × D))
  | .ref n => (match S[n]? with | some (.nk kvs) => some kvs | some (.nkl kvs) => some kvs | _ => none)
  | _ => none
noncomputable def nIn (x y : D) (S : Store) : M D := match nkAt S y with
  | some kvs => if nkOk x = true then some (.ok (.bl (dget kvs x).isSome) S) else none
  | none => none
noncomputable def nNi (x y : D) (S : Store) : M D := match nkAt S y with
  | some kvs => if nkOk x = true then some (.ok (.bl (!(dget kvs x).isSome)) S) else none
  | none => none
noncomputable def nGet (y x : D) (S : Store) : M D := match nkAt S y with
  | some kvs => if nkOk x = true then (match dget kvs x with | some v => some (.ok v S) | none => none) else none
  | none => none
noncomputable def eNGet1 (d k : SE) : SE := fun ρ S => bd (d ρ S) fun y S1 => match nkAt S1 y with
  | some _ => bd (k ρ S1) fun x S2 => (match nkAt S2 y with
    | some kvs => if nkOk x = true then some (.ok ((dget kvs x).getD .non) S2) else none
    | none => none)
  | none => none
noncomputable def eNGet2 (d k v : SE) : SE := fun ρ S => bd (d ρ S) fun y S1 => match nkAt S1 y with
  | some _ => bd (k ρ S1) fun x S2 => bd (v ρ S2) fun w S3 => (match nkAt S3 y with
    | some kvs => if nkOk x = true then some (.ok ((dget kvs x).getD w) S3) else none
    | none => none)
  | none => none
noncomputable def sNPut (d k v : SE) : SS := fun ρ S => bo (v ρ S) ρ fun w S1 => bo (d ρ S1) ρ fun y S2 => bo (k ρ S2) ρ fun x S3 => match y with
  | .ref n => (match S3[n]? with
    | some (.nk kvs) => if nkOk x = true ∧ kvs.length < 16000000 then some (.nx ρ (S3.set n (.nk (dput kvs x w)))) else none
    | _ => none)
  | _ => none
def eDctN : SE := fun _ S => new1 (.nk []) S
/-- {k: v} -/
def eNDct1 (k v : SE) : SE := fun ρ S => bd (k ρ (S ++ [.nk []])) fun x S1 => bd (v ρ S1) fun w S2 => match S2[S.length]? with
  | some (.nk []) => if nkOk x = true then some (.ok (.ref S.length) (S2.set S.length (.nk [(x, w)]))) else none
  | _ => none
/-- pairs -/
def nOf : List D → Option (List (D × D))
  | [] => some []
  | .tup [k, v] :: r => (match nOf r with | some t => if nkOk k = true then some ((k, v) :: t) else none | none => none)
  | _ => none
noncomputable def dictNF : Fn := fun ds S => match ds with
  | [.ref n] => (match S[n]? with
    | some (.lst xs) => (match nOf xs with
      | some kvs => if kvs.length < 16000000 then new1 (.nk (kvs.foldl (fun acc p => dput acc p.1 p.2) [])) S else none
      | none => none)
    | _ => none)
  | _ => none
/-- the keys of a locked dict -/
def iKeyN (d : SE) : SI := fun ρ S => bd (d ρ S) fun y S1 => match y with
  | .ref n => (match S1[n]? with
    | some (.nkl kvs) => some (.ok ⟨kvs.map (·.1), fun S => S[n]? = some (.nkl kvs)⟩ S1)
    | _ => none)
  | _ => none
open Classical in
noncomputable def sLockN (lk : Env → Store → Option Nat) (m : SS) : SS := fun ρ S => match lk ρ S with
  | some n => (match S[n]? with
    | some (.nk kvs) => (match m ρ (S.set n (.nkl kvs)) with
      | some (.nx ρ1 S1) => if S1[n]? = some (.nkl kvs) then some (.nx ρ1 (S1.set n (.nk kvs))) else none
      | some (.rt d S1) => if S1[n]? = some (.nkl kvs) then some (.rt d (S1.set n (.nk kvs))) else none
      | _ => none)
    | _ => none)
  | none => none
theorem nkOk_some {x : D} (h : nkOk x = true) : ∃ xs k, x = .tup xs ∧ nkD x = some k ∧ k.depth ≤ 8 := by
  unfold nkOk at h
  split at h
  · rename_i xs
    split at h
    · rename_i k hk
      exact ⟨xs, k, rfl, hk, of_decide_eq_true h⟩
    · cases h
  · cases h
theorem str_inj {a b : List Nat} (h : Z.str a = Z.str b) : a = b := by
  unfold Z.str at h
  have := Str.mk.inj h
  simpa using this
mutual
theorem nkD_inj : ∀ (a b : D) (k : NestedKey), nkD a = some k → nkD b = some k → a = b
  | .non, b, k, h, g => by
    rw [nkD] at h
    cases h
    cases b with
    | non => rfl
    | int _ => rw [nkD] at g; cases g
    | str _ => rw [nkD] at g; cases g
    | tup _ => rw [nkD, Option.map_eq_some_iff] at g; obtain ⟨_, _, g⟩ := g; cases g
    | bl _ => rw [nkD] at g; cases g
    | ref _ => rw [nkD] at g; cases g
    | fl _ => rw [nkD] at g; cases g
  | .int i, b, k, h, g => by
    rw [nkD] at h
    cases h
    cases b with
    | non => rw [nkD] at g; cases g
    | int _ => rw [nkD] at g; cases g; rfl
    | str _ => rw [nkD] at g; cases g
    | tup _ => rw [nkD, Option.map_eq_some_iff] at g; obtain ⟨_, _, g⟩ := g; cases g
    | bl _ => rw [nkD] at g; cases g
    | ref _ => rw [nkD] at g; cases g
    | fl _ => rw [nkD] at g; cases g
  | .str s, b, k, h, g => by
    rw [nkD] at h
    cases h
    cases b with
    | non => rw [nkD] at g; cases g
    | int _ => rw [nkD] at g; cases g
    | str t =>
      rw [nkD] at g
      have := str_inj (NestedKey.text.inj (Option.some.inj g))
      rw [this]
    | tup _ => rw [nkD, Option.map_eq_some_iff] at g; obtain ⟨_, _, g⟩ := g; cases g
    | bl _ => rw [nkD] at g; cases g
    | ref _ => rw [nkD] at g; cases g
    | fl _ => rw [nkD] at g; cases g
  | .tup xs, b, k, h, g => by
    rw [nkD, Option.map_eq_some_iff] at h
    obtain ⟨ks, h1, rfl⟩ := h
    cases b with
    | non => rw [nkD] at g; cases g
    | int _ => rw [nkD] at g; cases g
    | str t => rw [nkD] at g; cases g
    | tup ys =>
      rw [nkD, Option.map_eq_some_iff] at g
      obtain ⟨js, g1, g2⟩ := g
      cases g2
      rw [nkL_inj xs ys ks h1 g1]
    | bl _ => rw [nkD] at g; cases g
    | ref _ => rw [nkD] at g; cases g
    | fl _ => rw [nkD] at g; cases g
  | .bl _, b, k, h, g => by rw [nkD] at h; cases h
  | .ref _, b, k, h, g => by rw [nkD] at h; cases h
  | .fl _, b, k, h, g => by rw [nkD] at h; cases h
theorem nkL_inj : ∀ (xs ys : List D) (ks : List NestedKey), nkL xs = some ks → nkL ys = some ks → xs = ys
  | [], ys, ks, h, g => by
    rw [nkL] at h
    cases h
    cases ys with
    | nil => rfl
    | cons y ys =>
      rw [nkL] at g
      split at g <;> cases g
  | x :: xs, ys, ks, h, g => by
    rw [nkL] at h
    split at h
    · rename_i k1 ks1 h1 h2
      cases h
      cases ys with
      | nil => rw [nkL] at g; cases g
      | cons y ys =>
        rw [nkL] at g
        split at g
        · rename_i k2 ks2 g1 g2
          cases g
          rw [nkD_inj x y k1 h1 g1, nkL_inj xs ys ks1 h2 g2]
        · cases g
    · cases h
end
section
variable {K : KW} {ι : List Addr} {H : Hp}
mutual
theorem rep_nk : ∀ (d : D) (v : V) (k : NestedKey), Rep K ι H d v → nkD d = some k → NK H k v
  | .non, v, k, r, h => by
    rw [nkD] at h
    cases h
    rw [Rep] at r
    rw [NK]
    exact r
  | .int i, v, k, r, h => by
    rw [nkD] at h
    cases h
    rw [Rep] at r
    rw [NK]
    exact r
  | .str s, v, k, r, h => by
    rw [nkD] at h
    cases h
    rw [Rep] at r
    rw [NK]
    exact r.1
  | .tup xs, v, k, r, h => by
    rw [nkD, Option.map_eq_some_iff] at h
    obtain ⟨ks, h1, rfl⟩ := h
    rw [Rep] at r
    obtain ⟨a, vs, e, h2, h3⟩ := r
    rw [NK]
    refine ⟨a, vs, e, ?_, repL_nk xs vs ks h3 h1⟩
    revert h2
    cases xs.all k0 with
    | true => exact fun h2 => .inl h2
    | false => exact fun ⟨o, _, h2⟩ => .inr ⟨o, h2⟩
  | .bl _, v, k, r, h => by rw [nkD] at h; cases h
  | .ref _, v, k, r, h => by rw [nkD] at h; cases h
  | .fl _, v, k, r, h => by rw [nkD] at h; cases h
theorem repL_nk : ∀ (xs : List D) (vs : List V) (ks : List NestedKey), RepL K ι H xs vs → nkL xs = some ks → NKL H ks vs
  | [], vs, ks, r, h => by
    rw [nkL] at h
    cases h
    rw [RepL] at r
    rw [NKL]
    exact r
  | x :: xs, vs, ks, r, h => by
    rw [nkL] at h
    split at h
    · rename_i k1 ks1 h1 h2
      cases h
      rw [RepL] at r
      obtain ⟨v, t, e, r1, r2⟩ := r
      rw [NKL]
      exact ⟨v, t, e, rep_nk x v k1 r1 h1, repL_nk xs t ks1 r2 h2⟩
    · cases h
end
theorem NkR.ks : ∀ {kvs : List (D × D)} {xs : List NEnt}, NkR K ι H kvs xs → NKs H xs
  | [], xs, h => by rw [NkR] at h; subst h; exact fun x hx => by cases hx
  | p :: r, xs, h => by
    rw [NkR] at h
    obtain ⟨k, b, u, v, t, rfl, e2, e3, e4, e5, e6, e7⟩ := h
    intro x hx
    rcases List.mem_cons.mp hx with rfl | hx
    · exact ⟨rep_nk _ _ _ e4 e2, e3⟩
    · exact NkR.ks e7 x hx
/-- what is found, both ways -/
theorem nk_find {x : D} {k : NestedKey} (hk : nkD x = some k) : ∀ {kvs : List (D × D)} {xs : List NEnt}, NkR K ι H kvs xs → match dget kvs x with
    | none => atKey xs k = none
    | some w => ∃ p v, atKey xs k = some p ∧ Rep K ι H w v ∧ RelV v p.2
  | [], xs, h => by rw [NkR] at h; subst h; rfl
  | q :: r, xs, h => by
    rw [NkR] at h
    obtain ⟨k', b, u, v, t, rfl, e2, e3, e4, e5, e6, e7⟩ := h
    have ih := nk_find hk e7
    unfold dget atKey
    rw [List.find?_cons, List.find?_cons]
    by_cases c : q.1 = x
    · have ck : k' = k := by rw [c, hk] at e2; exact (Option.some.inj e2).symm
      simp only [c, ck, decide_true, Option.map_some]
      exact ⟨(b, u), v, rfl, e5, e6⟩
    · have ck : ¬ k' = k := fun e => c (nkD_inj _ _ k' e2 (by rw [e]; exact hk))
      simp only [c, ck, decide_false]
      exact ih
theorem nk_isSome {x : D} {k : NestedKey} (hk : nkD x = some k) {kvs : List (D × D)} {xs : List NEnt} (h : NkR K ι H kvs xs) : (atKey xs k).isSome = (dget kvs x).isSome := by
  have := nk_find hk h
  cases c : dget kvs x with
  | none => rw [c] at this; rw [this]; rfl
  | some w => rw [c] at this; obtain ⟨p, v, e, _⟩ := this; rw [e]; rfl
theorem any_find {kvs : List (D × D)} {x : D} : ((kvs.any fun p => @decide (p.1 = x) (Classical.propDecidable _)) = true) ↔ (dget kvs x).isSome = true := by
  unfold dget
  rw [Option.isSome_map, List.find?_isSome, List.any_eq_true]
/-- what is stored, both ways -/
theorem nk_put {x w : D} {k : NestedKey} {b : Addr} {v : V} {u : Value} (hk : nkD x = some k) (hd : k.depth ≤ 8) (rx : Rep K ι H x (.ref b)) (rw' : Rep K ι H w v) (ru : RelV v u) {kvs : List (D × D)} {xs : List NEnt} (h : NkR K ι H kvs xs) : NkR K ι H (dput kvs x w) (storedH xs k b u) := by
  have repl : ∀ {kvs : List (D × D)} {xs : List NEnt}, NkR K ι H kvs xs → NkR K ι H (kvs.map fun p => @ite _ (p.1 = x) (Classical.propDecidable _) (p.1, w) p) (xs.map (putAt k u)) := by
    intro kvs
    induction kvs with
    | nil => intro xs h; rw [NkR] at h; subst h; rw [List.map_nil, List.map_nil, NkR]
    | cons q r ih =>
      intro xs h
      rw [NkR] at h
      obtain ⟨k', b', u', v', t, rfl, e2, e3, e4, e5, e6, e7⟩ := h
      rw [List.map_cons, List.map_cons, NkR]
      by_cases c : q.1 = x
      · have ck : k' = k := by rw [c, hk] at e2; exact (Option.some.inj e2).symm
        simp only [c, if_true]
        refine ⟨k, b', u, v, _, ?_, hk, hd, by rw [← c]; exact e4, rw', ru, ih e7⟩
        unfold putAt
        simp [ck]
      · have ck : ¬ k' = k := fun e => c (nkD_inj _ _ k' e2 (by rw [e]; exact hk))
        simp only [c, if_false]
        refine ⟨k', b', u', v', _, ?_, e2, e3, e4, e5, e6, ih e7⟩
        unfold putAt
        simp [ck]
  have snoc : ∀ {kvs : List (D × D)} {xs : List NEnt}, NkR K ι H kvs xs → NkR K ι H (kvs ++ [(x, w)]) (xs ++ [(k, b, u)]) := by
    intro kvs
    induction kvs with
    | nil => intro xs h; rw [NkR] at h; subst h; rw [List.nil_append, List.nil_append, NkR]; exact ⟨k, b, u, v, [], rfl, hk, hd, rx, rw', ru, by rw [NkR]⟩
    | cons q r ih =>
      intro xs h
      rw [NkR] at h
      obtain ⟨k', b', u', v', t, rfl, e2, e3, e4, e5, e6, e7⟩ := h
      rw [List.cons_append, List.cons_append, NkR]
      exact ⟨k', b', u', v', _, rfl, e2, e3, e4, e5, e6, ih e7⟩
  have hs := nk_isSome hk h
  unfold dput storedH
  by_cases c : (dget kvs x).isSome = true
  · rw [if_pos (any_find.mpr c), if_pos (by rw [hs]; exact c)]
    exact repl h
  · rw [if_neg (fun e => c (any_find.mp e)), if_neg (by rw [hs]; exact c)]
    exact snoc h
theorem nkAt_ok {S : Store} (s : Sim K ι S H) {x : D} {y : V} {kvs : List (D × D)} (r : Rep K ι H x y) (h : nkAt S x = some kvs) : ∃ a xs, y = .ref a ∧ Rd H a (.ext (NkO K.P K.w a xs)) ∧ NkR K ι H kvs xs := by
  unfold nkAt at h
  split at h
  · rename_i n
    rw [Rep] at r
    obtain ⟨a, rfl, ha⟩ := r
    split at h
    · rename_i g
      cases h
      obtain ⟨xs, e1, e2⟩ := s.get ha g
      exact ⟨a, xs, rfl, .inl e1, e2⟩
    · rename_i g
      cases h
      obtain ⟨o, xs, e1, e2⟩ := s.get ha g
      exact ⟨a, xs, rfl, .inr ⟨o, e1⟩, e2⟩
    · cases h
  · cases h
end
section
variable {X : Cx} {W : WX} {a b d k v e value : Expr} {ma mb md mk mv m : SE} {pos pos' apos : Pos}
theorem nref {X : Cx} {ι : List Addr} {H : Hp} {x : D} {y : V} {a : Addr} {xs : List NEnt} {kvs : List (D × D)} (hx : nkOk x = true) (r : Rep X.KW ι H x y) (h1 : Rd H a (.ext (NkO X.prog X.w a xs))) (h2 : NkR X.KW ι H kvs xs) : ∃ b k, y = .ref b ∧ nkD x = some k ∧ k.depth ≤ 8 ∧ NRef X H a xs b k := by
  obtain ⟨zs, k, rfl, hk, hd⟩ := nkOk_some hx
  have r' := r
  rw [Rep] at r
  obtain ⟨b, vs, rfl, _, _⟩ := r
  exact ⟨b, k, rfl, hk, hd, h1, h2.ks, rep_nk _ _ _ r' hk, hd⟩
theorem gt_nin (hu : X.A.units + 9 < cLine) (ha : GE X W a ma) (hb : GE X W b mb) (hm : behindInMarks .In b = false := by first | exact nobehind _ (by decide) (by decide) | rfl) : GT X W (.Compare a [.In] [b] pos) (tVal (e2 nIn ma mb)) :=
  (pt_cmp (pc_nin hu ha hb) hm).imp fun σ H Q h => by
    obtain ⟨ι, ρ, S, s, r, p⟩ := tVal_read h
    refine ⟨ι, ρ, S, s, r, Po.bd p fun x S1 ι1 H1 y e1 s1 r1 p1 => ?_⟩
    refine ⟨ι1, ρ, S1, s1, r.ext e1, Po.bd p1 fun z S2 ι2 H2 w e2 s2 r2 p2 => ?_⟩
    have r1 := Rep.ext e2 _ _ r1
    unfold nIn at p2
    split at p2
    · rename_i kvs g
      split at p2
      · rename_i hx
        obtain ⟨a, xs, rfl, h1, h2⟩ := nkAt_ok s2 r2 g
        obtain ⟨b, k, rfl, hk, hd, g2⟩ := nref hx r1 h1 h2
        refine ⟨a, b, xs, k, rfl, rfl, g2, ?_⟩
        rw [id, nk_isSome hk h2]
        exact Po.ret p2 s2 (by rw [Rep])
      · exact p2.elim
    · exact p2.elim
theorem gt_nni (hu : X.A.units + 9 < cLine) (ha : GE X W a ma) (hb : GE X W b mb) (hm : behindInMarks .NotIn b = false := by first | exact nobehind _ (by decide) (by decide) | rfl) : GT X W (.Compare a [.NotIn] [b] pos) (tVal (e2 nNi ma mb)) :=
  (pt_cmp (pc_nnotin hu ha hb) hm).imp fun σ H Q h => by
    obtain ⟨ι, ρ, S, s, r, p⟩ := tVal_read h
    refine ⟨ι, ρ, S, s, r, Po.bd p fun x S1 ι1 H1 y e1 s1 r1 p1 => ?_⟩
    refine ⟨ι1, ρ, S1, s1, r.ext e1, Po.bd p1 fun z S2 ι2 H2 w e2 s2 r2 p2 => ?_⟩
    have r1 := Rep.ext e2 _ _ r1
    unfold nNi at p2
    split at p2
    · rename_i kvs g
      split at p2
      · rename_i hx
        obtain ⟨a, xs, rfl, h1, h2⟩ := nkAt_ok s2 r2 g
        obtain ⟨b, k, rfl, hk, hd, g2⟩ := nref hx r1 h1 h2
        refine ⟨a, b, xs, k, rfl, rfl, g2, ?_⟩
        rw [nk_isSome hk h2]
        exact Po.ret p2 s2 (by rw [Rep])
      · exact p2.elim
    · exact p2.elim
theorem ge_nget (hu : X.A.units + 9 < cLine) (hd : GE X W d md) (hk : GE X W k mk) (hs : NoSl k := by exact fun _ _ => rfl) : GE X W (.Subscript d k pos) (e2 nGet md mk) := (pe_nget hu hd hk hs).imp fun σ H Q ⟨ι, ρ, S, s, r, p⟩ => by
  refine ⟨ι, ρ, S, s, r, Po.bd p fun x S1 ι1 H1 y e1 s1 r1 p1 => ?_⟩
  refine ⟨ι1, ρ, S1, s1, r.ext e1, Po.bd p1 fun z S2 ι2 H2 w e2 s2 r2 p2 => ?_⟩
  have r1 := Rep.ext e2 _ _ r1
  unfold nGet at p2
  split at p2
  · rename_i kvs g
    split at p2
    · rename_i hx
      obtain ⟨a, xs, rfl, h1, h2⟩ := nkAt_ok s2 r1 g
      obtain ⟨b, k, rfl, hk, hd, g2⟩ := nref hx r2 h1 h2
      have t := nk_find hk h2
      cases c : dget kvs z with
      | none => rw [c] at p2; exact p2.elim
      | some u =>
        rw [c] at p2 t
        obtain ⟨p, v, hp, rv, ru⟩ := t
        exact ⟨a, b, xs, k, p, v, rfl, rfl, g2, hp, ru, Po.ret p2 s2 rv⟩
    · exact p2.elim
  · exact p2.elim
theorem ge_nget1 (hu : X.A.units + 9 < cLine) (hd : GE X W d md) (hk : GE X W k mk) (m : M1 X d "get" apos k pos := by exact ⟨rfl, rfl, rfl, rfl⟩) : GE X W (.Call (.Attribute d "get" apos) [k] [] pos) (eNGet1 md mk) := (pe_nget1 hu hd hk m).imp fun σ H Q ⟨ι, ρ, S, s, r, p⟩ => by
  refine ⟨ι, ρ, S, s, r, Po.bd p fun y S1 ι1 H1 yv e1 s1 r1 p1 => ?_⟩
  split at p1
  · rename_i kvs0 g0
    obtain ⟨a, xs0, rfl, h0, hr0⟩ := nkAt_ok s1 r1 g0
    refine ⟨a, xs0, rfl, h0, ι1, ρ, S1, s1, r.ext e1, Po.bd p1 fun x S2 ι2 H2 xv e2 s2 r2 p2 => ?_⟩
    have r1 := Rep.ext e2 _ _ r1
    split at p2
    · rename_i kvs g
      split at p2
      · rename_i hx
        obtain ⟨a', xs, ea, h1, h2⟩ := nkAt_ok s2 r1 g
        cases ea
        obtain ⟨b, k, rfl, hk, hd, g2⟩ := nref hx r2 h1 h2
        have t := nk_find hk h2
        cases c : dget kvs x with
        | none =>
          rw [c] at p2 t
          exact ⟨b, xs, k, .non, rfl, g2, by rw [t]; rfl, Po.ret p2 s2 (by rw [Option.getD_none, Rep])⟩
        | some u =>
          rw [c] at p2 t
          obtain ⟨p, v, hp, rv, ru⟩ := t
          exact ⟨b, xs, k, v, rfl, g2, by rw [hp]; exact ru, Po.ret p2 s2 rv⟩
      · exact p2.elim
    · exact p2.elim
  · exact p1.elim
theorem ge_nget2 (hu : X.A.units + 9 < cLine) (hd : GE X W d md) (hk : GE X W k mk) (hv : GE X W v mv) (m : M2 X d "get" apos k v pos := by exact ⟨rfl, rfl, rfl, rfl⟩) : GE X W (.Call (.Attribute d "get" apos) [k, v] [] pos) (eNGet2 md mk mv) := (pe_nget2 hu hd hk hv m).imp fun σ H Q ⟨ι, ρ, S, s, r, p⟩ => by
  refine ⟨ι, ρ, S, s, r, Po.bd p fun y S1 ι1 H1 yv e1 s1 r1 p1 => ?_⟩
  split at p1
  · rename_i kvs0 g0
    obtain ⟨a, xs0, rfl, h0, hr0⟩ := nkAt_ok s1 r1 g0
    refine ⟨a, xs0, rfl, h0, ι1, ρ, S1, s1, r.ext e1, Po.bd p1 fun x S2 ι2 H2 xv e2 s2 r2 p2 => ?_⟩
    refine ⟨ι2, ρ, S2, s2, (r.ext e1).ext e2, Po.bd p2 fun w S3 ι3 H3 wv e3 s3 r3 p3 => ?_⟩
    have r1 := Rep.ext e3 _ _ (Rep.ext e2 _ _ r1)
    have r2 := Rep.ext e3 _ _ r2
    split at p3
    · rename_i kvs g
      split at p3
      · rename_i hx
        obtain ⟨a', xs, ea, h1, h2⟩ := nkAt_ok s3 r1 g
        cases ea
        obtain ⟨b, k, rfl, hk, hd, g2⟩ := nref hx r2 h1 h2
        have t := nk_find hk h2
        refine ⟨b, xs, k, rfl, g2, fun r rr => ?_⟩
        cases c : dget kvs x with
        | none =>
          rw [c] at p3 t
          exact ⟨wv, by rw [t]; exact rr, Po.ret p3 s3 r3⟩
        | some u =>
          rw [c] at p3 t
          obtain ⟨p, v, hp, rv, ru⟩ := t
          exact ⟨v, by rw [hp]; exact ru, Po.ret p3 s3 rv⟩
      · exact p3.elim
    · exact p3.elim
  · exact p1.elim
theorem gs_nput (hu : X.A.units + 9 < cLine) (hv : GE X W value mv) (hd : GE X W d md) (hk : GE X W k mk)
    (hs : swapsWith value (some (.Subscript d k pos')) pos.line X.env = pure false := by rfl) : GS X W (.Assign [.Subscript d k pos'] value pos) (sNPut md mk mv) := (ps_nput hu hd hk hv hs).imp fun En σ H ⟨ι, ρ, S, s, r, p⟩ => by
  unfold sNPut at p
  refine ⟨ι, ρ, S, s, r, PoS.bo r p fun w S1 ι1 H1 v e1 s1 r1 rr1 p1 => ?_⟩
  refine ⟨ι1, ρ, S1, s1, rr1, PoS.bo rr1 p1 fun x S2 ι2 H2 y e2 s2 r2 rr2 p2 => ?_⟩
  refine ⟨ι2, ρ, S2, s2, rr2, PoS.bo rr2 p2 fun z S3 ι3 H3 t e3 s3 r3 rr3 p3 => ?_⟩
  split at p3
  · rename_i n
    split at p3
    · rename_i kvs g
      split at p3
      · rename_i hx
        obtain ⟨hx, hl⟩ := hx
        have r2 := Rep.ext e3 _ _ r2
        rw [Rep] at r2
        obtain ⟨a, rfl, ha⟩ := r2
        obtain ⟨xs, he, h2⟩ := s3.get ha g
        have rw3 : Rep X.KW ι3 H3 w v := Rep.ext e3 _ _ (Rep.ext e2 _ _ r1)
        obtain ⟨b, k, rfl, hk, hd, g2⟩ := nref hx r3 (.inl he) h2
        refine ⟨a, b, xs, k, rfl, rfl, g2, he, by rw [h2.length, sizeLine_eq]; omega, fun r rr => ?_⟩
        have em : Ext ι3 H3 ι3 (upd H3 a (.ext (NkO X.prog X.w a (storedH xs k b r)))) := ext_mut he trivial
        exact p3 ι3 _ σ em (s3.put ha ⟨_, upd_same, NkR.ext em _ _ (nk_put hk hd r3 rw3 rr h2)⟩ ⟨_, he, trivial⟩) (rr3.ext em)
      · exact p3.elim
    · exact p3.elim
  · exact p3.elim
end
end Z
namespace L2
open PySem PySem.Spec PyProof.Rows
mutual
theorem NK.mono {H H' : Hp} (e : ∀ b xs, Rd H b (.tup xs) → Rd H' b (.tup xs)) : ∀ (k : NestedKey) (v : V), NK H k v → NK H' k v
  | .none, v, h => by rw [NK] at h ⊢; exact h
  | .num i, v, h => by rw [NK] at h ⊢; exact h
  | .text x, v, h => by rw [NK] at h ⊢; exact h
  | .tup ks, v, h => by
    rw [NK] at h ⊢
    obtain ⟨a, vs, e1, h1, h2⟩ := h
    exact ⟨a, vs, e1, e _ _ h1, NKL.mono e ks vs h2⟩
theorem NKL.mono {H H' : Hp} (e : ∀ b xs, Rd H b (.tup xs) → Rd H' b (.tup xs)) : ∀ (ks : List NestedKey) (vs : List V), NKL H ks vs → NKL H' ks vs
  | [], vs, h => by rw [NKL] at h ⊢; exact h
  | k :: ks, vs, h => by
    rw [NKL] at h ⊢
    obtain ⟨v, r, e1, h1, h2⟩ := h
    exact ⟨v, r, e1, NK.mono e k v h1, NKL.mono e ks r h2⟩
end
end L2
namespace Z
open PySem PySem.Spec PyProof.Rows L2
section
variable {X : Cx} {W : WX} {a b d k v e value : Expr} {ma mb md mk mv m : SE} {pos pos' apos : Pos}
theorem ge_dctN : GE X W (.Dict [] [] pos) eDctN := pe_dnewN.imp fun σ H Q ⟨ι, ρ, S, s, r, p⟩ q hq => by
  have e0 : Ext ι H (ι ++ [q]) (upd H q (.ext (NkO X.prog X.w q []))) := ext_new hq
  have s0 : Sim X.KW (ι ++ [q]) (S ++ [.nk []]) (upd H q (.ext (NkO X.prog X.w q []))) := s.new hq ⟨[], upd_same, by rw [NkR]⟩
  exact Po.ret (Po.mono e0 p) s0 (Rep.newL s)
theorem ge_nct1 (hu : X.A.units + 9 < cLine) (hk : GE X W k mk) (hv : GE X W v mv) : GE X W (.Dict [some k] [v] pos) (eNDct1 mk mv) := (pe_nct1 hu hk hv).imp fun σ H Q ⟨ι, ρ, S, s, r, p⟩ => by
  intro pA hp
  have e0 : Ext ι H (ι ++ [pA]) (upd H pA (.ext (NkO X.prog X.w pA []))) := ext_new hp
  have s0 : Sim X.KW (ι ++ [pA]) (S ++ [.nk []]) (upd H pA (.ext (NkO X.prog X.w pA []))) := s.new hp ⟨[], upd_same, by rw [NkR]⟩
  have ha : (ι ++ [pA])[S.length]? = some pA := by rw [← s.len, List.getElem?_append_right (Nat.le_refl _)]; simp
  refine ⟨_, ρ, _, s0, r.ext e0, Po.bd (Po.mono e0 p) fun x S1 ι1 H1 y e1 s1 r1 p1 => ?_⟩
  refine ⟨ι1, ρ, S1, s1, (r.ext e0).ext e1, Po.bd p1 fun z S2 ι2 H2 w e2 s2 r2 p2 => ?_⟩
  split at p2
  · rename_i g
    split at p2
    · rename_i hx
      have r1 := Rep.ext e2 _ _ r1
      obtain ⟨zs, kk, rfl, hk, hdp⟩ := nkOk_some hx
      have r1' := r1
      rw [Rep] at r1
      obtain ⟨b, vs, rfl, _, _⟩ := r1
      have ha2 := (e1.trans e2).at ha
      obtain ⟨xs, he, hr⟩ := s2.get ha2 g
      rw [NkR] at hr
      subst hr
      refine ⟨b, kk, w, rfl, he, rep_nk _ _ _ r1' hk, hdp, fun rr hrr => ?_⟩
      have em : Ext ι2 H2 ι2 (upd H2 pA (.ext (NkO X.prog X.w pA [(kk, b, rr)]))) := ext_mut he trivial
      exact Po.ret (Po.mono em p2) (s2.put ha2 ⟨_, upd_same, by
        rw [NkR]
        exact ⟨kk, b, rr, w, [], rfl, hk, hdp, Rep.ext em _ _ r1', Rep.ext em _ _ r2, hrr, by rw [NkR]⟩⟩ ⟨_, he, trivial⟩) (by rw [Rep]; exact ⟨pA, rfl, ha2⟩)
    · exact p2.elim
  · exact p2.elim
end
section
variable {K : KW} {ι : List Addr} {H : Hp}
theorem nOf_ok : ∀ {xs : List D} {vs : List V} {kvs : List (D × D)}, RepL K ι H xs vs → nOf xs = some kvs →
    ∃ (ps : List Addr) (es : List (NestedKey × Addr × V)), vs = ps.map V.ref ∧ NPairs K.K H ps es ∧ ∀ rs, NVals es rs → NkR K ι H kvs rs
  | [], vs, kvs, r, h => by
    cases h
    refine ⟨[], [], r.nil, .nil, fun rs hr => ?_⟩
    cases hr
    rw [NkR]
  | x :: xs, vs, kvs, r, h => by
    obtain ⟨y, t, rfl, r1, r2⟩ := r.cons
    unfold nOf at h
    split at h
    · rename_i hh; cases hh
    · rename_i k' v' r' hh
      cases hh
      split at h
      · rename_i tl g2
        split at h
        · rename_i hx
          cases h
          obtain ⟨ps, es, e1, e2, e3⟩ := nOf_ok r2 g2
          rw [Rep] at r1
          obtain ⟨a, ws, rfl, h1, h2⟩ := r1
          obtain ⟨y1, t1, rfl, q1, q2⟩ := h2.cons
          obtain ⟨y2, t2, rfl, q3, q4⟩ := q2.cons
          have := q4.nil
          subst this
          obtain ⟨zs, kk, rfl, hk, hdp⟩ := nkOk_some hx
          have q1' := q1
          rw [Rep] at q1
          obtain ⟨b, ys, rfl, _, _⟩ := q1
          refine ⟨a :: ps, (kk, b, y2) :: es, by rw [e1]; rfl, .cons ⟨h1.sq, rep_nk _ _ _ q1' hk, hdp⟩ e2, fun rs hr => ?_⟩
          cases hr with
          | @cons _ x _ rs h t =>
            obtain ⟨k1, b1, u1⟩ := x
            obtain ⟨p1, p2, p3⟩ := h
            simp only at p1 p2 p3
            subst p1 p2
            rw [NkR]
            exact ⟨kk, b, u1, y2, rs, rfl, hk, hdp, q1', q3, p3, e3 rs t⟩
        · cases h
      · cases h
    · cases h
theorem nfold_ok : ∀ {kvs acc : List (D × D)} {xs ac : List NEnt}, NkR K ι H kvs xs → NkR K ι H acc ac → NkR K ι H (kvs.foldl (fun acc p => dput acc p.1 p.2) acc) (storedAllH ac xs)
  | [], acc, xs, ac, h, g => by rw [NkR] at h; subst h; exact g
  | p :: kvs, acc, xs, ac, h, g => by
    rw [NkR] at h
    obtain ⟨k, b, u, v, t, rfl, e2, e3, e4, e5, e6, e7⟩ := h
    have := nfold_ok e7 (nk_put e2 e3 e4 e5 e6 g)
    exact this
end
theorem no_dictN : NoExF dictNF := by
  intro ds S c S'
  unfold dictNF
  split <;> (try split) <;> (try split) <;> (try split) <;> simp [new1]
theorem zc_dictN {X : Cx} (hc : X.calm = true) (hu : X.A.units + 10 < cLine) : CallR X (.type "dict") (rB X dictNF) := by
  intro pins s σ H xs us Q I r ⟨ι, S, ds, sm, rd, po⟩
  unfold dictNF at po
  split at po
  · obtain ⟨v, rfl, h⟩ := one_of (ds := []) rd
    split at po
    · rename_i xs g
      split at po
      · rename_i kvs hk
        split at po
        · rename_i hl
          obtain ⟨p, vs, rfl, i1, e1, r1⟩ := lst_ok sm h g
          obtain ⟨ps, es, rfl, e2, e3⟩ := nOf_ok r1 hk
          refine call_dictN hc hu pins s σ H _ us Q I r ⟨p, ps, es, rfl, e1, e2, fun rs hrs _ t ht => ?_⟩
          have ex : Ext ι H (ι ++ [t]) (upd H t (.ext (NkO X.prog X.w t (storedAllH [] rs)))) := ext_new ht
          exact Po.ret (Po.mono ex po) (sm.new ht ⟨_, upd_same, NkR.ext ex _ _ (nfold_ok (e3 rs hrs) (by rw [NkR]))⟩) (Rep.newL sm)
        · exact po.elim
      · exact po.elim
    · exact po.elim
  · exact po.elim
theorem NkR.get {K : KW} {ι : List Addr} {H : Hp} : ∀ {kvs : List (D × D)} {xs : List NEnt} {i : Nat} {p : D × D} {x : NEnt}, NkR K ι H kvs xs → kvs[i]? = some p → xs[i]? = some x → Rep K ι H p.1 (.ref x.2.1)
  | [], _, _, _, _, _, h, _ => by simp at h
  | q :: r, xs, i, p, x, h, h1, h2 => by
    rw [NkR] at h
    obtain ⟨k, b, u, v, t, rfl, _, _, e4, _, _, e7⟩ := h
    cases i with
    | zero => simp at h1 h2; subst h1 h2; exact e4
    | succ i => exact NkR.get e7 (by simpa using h1) (by simpa using h2)
theorem ritm_keyN {K : KW} {ι : List Addr} {H : Hp} {n : Nat} {a : Addr} {o : Obj} {kvs : List (D × D)} {xs : List NEnt} (ha : ι[n]? = some a) (he : H a = some (.frz o (.ext (NkO K.P K.w a xs)))) (hr : NkR K ι H kvs xs) :
    RItm K ι H ⟨kvs.map (·.1), fun S => S[n]? = some (.nkl kvs)⟩ (Itkn K.P K.w a o xs) := fun ι' H' S' e s c => by
  have he' := e.frz _ _ _ he
  have hr' := NkR.ext e _ _ hr
  refine ⟨fun i x hx => ?_, he', by simp [hr.length]⟩
  rw [List.getElem?_map] at hx
  obtain ⟨p, hp, rfl⟩ := Option.map_eq_some_iff.mp hx
  have hil : i < kvs.length := (List.getElem?_eq_some_iff.mp hp).1
  refine ⟨⟨he', by rw [hr.length]; exact hil⟩, fun v H'' y => ?_⟩
  obtain ⟨rfl, q, h1, rfl⟩ := y
  exact ⟨.refl, s, hr'.get hp h1⟩
section
variable {X : Cx} {W : WX} {e : Expr} {m : SE}
theorem gi_keyN {tg : Expr} (h : GE X W e m) : GI X W tg e (iKeyN m) := (pi_keysN h).imp fun σ H R ⟨ι, ρ, S, sm, r, p⟩ => by
  refine ⟨ι, ρ, S, sm, r, Po.bd p fun y S1 ι1 H1 x e1 s1 r1 p1 => ?_⟩
  split at p1
  · rename_i n
    split at p1
    · rename_i kvs g
      rw [Rep] at r1
      obtain ⟨a, rfl, ha⟩ := r1
      obtain ⟨o, xs, he, hr⟩ := s1.get ha g
      exact ⟨a, o, xs, rfl, he, Po.ritm p1 s1 (ritm_keyN ha he hr)⟩
    · exact p1.elim
  · exact p1.elim
/-- unlocked again -/
theorem nk_back {ι : List Addr} {S : Store} {H : Hp} {n : Nat} {a : Addr} {kvs : List (D × D)} {xs : List NEnt} {od : Obj} (s : Sim X.KW ι S H) (ha : ι[n]? = some a) (he : H a = some (.ext (NkO X.prog X.w a xs))) (hr : NkR X.KW ι H kvs xs) 
    {ι' : List Addr} {H' : Hp} {S1 : Store} (e1 : Ext ι (upd H a (.frz od (.ext (NkO X.prog X.w a xs)))) ι' H') (s1 : Sim X.KW ι' S1 H') (g3 : S1[n]? = some (.nkl kvs)) :
    H' a = some (.frz od (.ext (NkO X.prog X.w a xs))) ∧ Ext ι H ι' (upd H' a (.ext (NkO X.prog X.w a xs))) ∧ Sim X.KW ι' (S1.set n (.nk kvs)) (upd H' a (.ext (NkO X.prog X.w a xs))) ∧
      (∀ d v, Rep X.KW ι' H' d v → Rep X.KW ι' (upd H' a (.ext (NkO X.prog X.w a xs))) d v) := by
  have hf : upd H a (.frz od (.ext (NkO X.prog X.w a xs))) a = some (.frz od (.ext (NkO X.prog X.w a xs))) := upd_same
  have hfa := e1.frz _ _ _ hf
  have wk : Wk H' (upd H' a (.ext (NkO X.prog X.w a xs))) := by
    refine ⟨fun b xs hb => ?_, fun b q u hb => ?_, fun b q u hb => ?_⟩
    · rw [upd_ne (by rintro rfl; rw [hfa] at hb; cases hb)]; exact hb
    · rw [upd_ne (by rintro rfl; rw [hfa] at hb; cases hb)]; exact hb
    · rw [upd_ne (by rintro rfl; rw [hfa] at hb; cases hb)]; exact hb
  have eT : Ext ι H ι' (upd H' a (.ext (NkO X.prog X.w a xs))) := by
    refine ⟨e1.pre, fun b xs hb => ?_, fun b q u hb => ?_⟩
    · have hne : b ≠ a := by rintro rfl; rw [he] at hb; cases hb
      rw [upd_ne hne]
      exact e1.tup _ _ (by rw [upd_ne hne]; exact hb)
    · have hne : b ≠ a := by rintro rfl; rw [he] at hb; cases hb
      rw [upd_ne hne]
      exact e1.frz _ _ _ (by rw [upd_ne hne]; exact hb)
  have ha1 := e1.at ha
  have hn1 := (List.getElem?_eq_some_iff.mp g3).1
  refine ⟨hfa, eT, ⟨by simp [s1.len], s1.nd, fun j o b h1 h2 => ?_⟩, fun d v => Rep.wk wk d v⟩
  by_cases hj : n = j
  · subst hj
    rw [List.getElem?_set_self hn1] at h1
    cases h1
    rw [ha1] at h2; cases h2
    obtain ⟨q, xs', k1, k2⟩ := s1.get ha1 g3
    rw [hfa] at k1
    have hxs : NkO X.prog X.w a xs = NkO X.prog X.w a xs' := by
      have := Option.some.inj k1
      injection this with _ h
      injection h
    refine ⟨xs', ?_, NkR.wk wk _ _ k2⟩
    rw [upd_same, hxs]
  · rw [List.getElem?_set_ne hj] at h1
    refine (s1.obj j o b h1 h2).wk wk ?_
    rw [upd_ne]
    rintro rfl
    obtain ⟨l1, q1⟩ := List.getElem?_eq_some_iff.mp ha1
    obtain ⟨l2, q2⟩ := List.getElem?_eq_some_iff.mp h2
    exact hj ((List.getElem_inj s1.nd).mp (q1.trans q2.symm))
theorem gs_lockN {st : Stmt} {mm : SS} (lk : Env → Store → Option Nat) (h : GS X W st mm) : GS X W st (sLockN lk mm) := (ps_lock h).imp fun D σ H ⟨ι, ρ, S, s, r, p⟩ => by
  unfold sLockN at p
  split at p
  · rename_i n g
    split at p
    · rename_i kvs g2
      have hnl : n < ι.length := by rw [s.len]; exact (List.getElem?_eq_some_iff.mp g2).1
      obtain ⟨a, ha⟩ : ∃ a, ι[n]? = some a := ⟨_, List.getElem?_eq_getElem hnl⟩
      obtain ⟨xs, he, hr⟩ := s.get ha g2
      refine ⟨a, .ext (NkO X.prog X.w a xs), he, trivial, fun od => ?_⟩
      have e0 : Ext ι H ι (upd H a (.frz od (.ext (NkO X.prog X.w a xs)))) := ext_mut he trivial
      refine ⟨ι, ρ, S.set n (.nkl kvs), s.put ha ⟨od, xs, upd_same, NkR.ext e0 _ _ hr⟩ ⟨_, he, trivial⟩, r.ext e0, ?_⟩
      match q : mm ρ (S.set n (.nkl kvs)), p with
      | none, p => exact p
      | some (.nx ρ1 S1), p =>
        dsimp only at p
        split at p
        · rename_i g3
          intro ι' H' σ' e1 s1 r1
          obtain ⟨b1, b2, b3, b4⟩ := nk_back s ha he hr e1 s1 g3
          exact ⟨b1, p ι' _ σ' b2 b3 ⟨r1.1, fun j d hj => let ⟨v, x1, x2⟩ := r1.2 j d hj; ⟨v, x1, b4 _ _ x2⟩⟩⟩
        · exact p.elim
      | some (.rt d S1), p =>
        dsimp only at p
        split at p
        · rename_i g3
          intro ι' H' v e1 s1 r1
          obtain ⟨b1, b2, b3, b4⟩ := nk_back s ha he hr e1 s1 g3
          exact ⟨b1, p ι' _ v b2 b3 (b4 _ _ r1)⟩
        · exact p.elim
      | some (.bk _ _), p => exact p.elim
      | some (.ct _ _), p => exact p.elim
      | some (.ex _ _ _), p => exact p.elim
    · exact p.elim
  · exact p.elim
end
end Z
namespace L2
open PySem PySem.Spec PyProof.Rows
/-- every second one, from the first on -/
def evL {α : Type} : List α → List α
  | [] => []
  | [x] => [x]
  | x :: _ :: r => x :: evL r
theorem Vals.evL : ∀ {xs : List V} {us : List Value}, Vals xs us → Vals (L2.evL xs) (L2.evL us)
  | _, _, .nil => .nil
  | _, _, .cons h .nil => .cons h .nil
  | _, _, .cons h (.cons _ t) => .cons h (Vals.evL t)
end L2
namespace Z
open PySem PySem.Spec PyProof.Rows L2
/-- t[::2], t[1::2] -/
def stepTD (lo : Nat) (d : D) (S : Store) : M D := match d with
  | .tup xs => some (.ok (.tup (L2.evL (xs.drop lo))) S)
  | _ => none
@[simp] theorem o_stepT (lo : Nat) (xs : List D) (S : Store) : stepTD lo (.tup xs) S = some (.ok (.tup (L2.evL (xs.drop lo))) S) := rfl
def eMake (c : String) (F : Fn) (es : List SE) : SE := fun ρ S => bd (evL es ρ S) fun ds S1 => match F (.ref S1.length :: ds) (S1 ++ [.ins c []]) with
  | some (.ok .non S2) => some (.ok (.ref S1.length) S2)
  | some (.ex x S2) => some (.ex x S2)
  | _ => none
@[simp] theorem x_make (c : String) (F : Fn) (es : List SE) (ρ : Env) (S : Store) : eMake c F es ρ S = bd (evL es ρ S) fun ds S1 => match F (.ref S1.length :: ds) (S1 ++ [.ins c []]) with
  | some (.ok .non S2) => some (.ok (.ref S1.length) S2)
  | some (.ex x S2) => some (.ex x S2)
  | _ => none := rfl
end Z
theorem _root_.L2.Room.u10 {k : Nat} {A : PySem.Around} (r : L2.Room k A) : A.units + 10 < PySem.cLine := by have := r.u65; omega
theorem _root_.L2.Room.u9 {k : Nat} {A : PySem.Around} (r : L2.Room k A) : A.units + 9 < PySem.cLine := by have := r.u65; omega
theorem _root_.L2.RoomG.u10 {k : Nat} {A : PySem.Around} (h : L2.RoomG k A) : A.units + 10 < PySem.cLine := h.r.u10
theorem _root_.L2.RoomG.u9 {k : Nat} {A : PySem.Around} (h : L2.RoomG k A) : A.units + 9 < PySem.cLine := h.r.u9
namespace Z
open PySem PySem.Spec PyProof.Rows L2
def nlenF : Fn := fun ds S => match ds with
  | [.ref n] => (match S[n]? with
    | some (.nk kvs) => if kvs.length < 16000000 then some (.ok (.int kvs.length) S) else none
    | _ => none)
  | _ => none
@[simp] theorem o_nlen (n : Nat) (S : Store) : nlenF [.ref n] S = (match S[n]? with
    | some (.nk kvs) => if kvs.length < 16000000 then some (.ok (.int kvs.length) S) else none
    | _ => none) := rfl
noncomputable def nupdF : Fn := fun ds S => match ds with
  | [.ref n, .ref m] => (match S[n]?, S[m]? with
    | some (.nk (p :: kvs)), some (.nk more) => if n ≠ m ∧ (p :: kvs).length + more.length < 16000000 then some (.ok .non (S.set n (.nk (more.foldl (fun acc p => dput acc p.1 p.2) (p :: kvs))))) else none
    | _, _ => none)
  | _ => none
@[simp] theorem o_nupd (n m : Nat) (S : Store) : nupdF [.ref n, .ref m] S = (match S[n]?, S[m]? with
    | some (.nk (p :: kvs)), some (.nk more) => if n ≠ m ∧ (p :: kvs).length + more.length < 16000000 then some (.ok .non (S.set n (.nk (more.foldl (fun acc p => dput acc p.1 p.2) (p :: kvs))))) else none
    | _, _ => none) := rfl
end Z
namespace L2
open PySem PySem.Spec PyProof.Rows
end L2
namespace Z
open PySem PySem.Spec PyProof.Rows L2
noncomputable def eNUpd (d e : SE) : SE := fun ρ S => bd (d ρ S) fun y S1 => match nkAt S1 y with
  | some _ => bd (e ρ S1) fun z S2 => nupdF [y, z] S2
  | none => none
@[simp] theorem x_nupd (d e : SE) (ρ : Env) (S : Store) : eNUpd d e ρ S = bd (d ρ S) fun y S1 => match nkAt S1 y with
  | some _ => bd (e ρ S1) fun z S2 => nupdF [y, z] S2
  | none => none := rfl
def sPar (i j : Nat) (x y : SE) : SS := fun ρ S => bo (evL [x, y] ρ S) ρ fun ds S1 => match ds with
  | [d, e] => some (.nx ((ρ.set i (some d)).set j (some e)) S1)
  | _ => none
@[simp] theorem x_par (i j : Nat) (x y : SE) (ρ : Env) (S : Store) : sPar i j x y ρ S = bo (evL [x, y] ρ S) ρ fun ds S1 => match ds with
  | [d, e] => some (.nx ((ρ.set i (some d)).set j (some e)) S1)
  | _ => none := rfl
end Z
namespace PySem
theorem ext_lt (l : Addr) (items : Array Value) (n : Nat) (b : Addr) (items2 : Array Value) (n2 : Nat) (dd : Option Addr) (sl : Array (Option Value)) (hs0 : ¬(!items.isEmpty && Builtin.List.listTooLong (items.size + items2.size)) = true) (hs1 : items.size ≤ sizeLine) (hs2 : items.size + items2.size ≤ sizeLine + 1) :
    Meets (Builtin.«list.extend» ⟨[.ref l, .ref b], []⟩) (fun _ R s => s.heap.get? l = some { cls := .type "list", dict := none, data := .seq items n, slots := #[] } ∧ s.heap.get? b = some { cls := .type "tuple", dict := dd, data := .seq items2 n2, slots := sl } ∧ R (.ok (.ret Value.none)) { s with heap := s.heap.update l (Obj.mapSeq fun x => x ++ items2), toks := s.toks }) :=
  .of_wp fun prog w A R s h => by
    obtain ⟨hp, g, d, tk, os⟩ := s; obtain ⟨hl, hb, h⟩ := h; have f1 := AutoSeq1.idx_int; have f2 := AutoSeq1.sub_tuple_tuple; have f3 := AutoSeq1.sub_list_list; have f4 := AutoSeq1.sub_tuple_list; have f5 := AutoSeq1.sub_list_tuple;
    have hz' : (items ++ items2).size ≤ sizeLine + 1 := by rw [Array.size_append]; exact hs2
    wp_walk using (wpAny_updateSeq hl rfl (hz := hs1) (_hz' := hz')), AutoSeq1.wpAny_loadPart' hl, AutoSeq1.wpAny_loadPart' hb; exact ⟨_, rfl, h⟩
end PySem
namespace L2
open PySem PySem.Spec PyProof.Rows
section
variable {X : Cx}
/-- xs.extend(t), t a tuple -/
def rExtendT (K : PySem.W.Frag) : V → List V → Hp → VK → Prop := fun x vs H Q => ∃ l b xs zs, x = .ref l ∧ vs = [.ref b] ∧ H l = some (.lst xs) ∧ SqT K H b zs ∧ xs.length + zs.length ≤ sizeLine ∧ Q .non (upd H l (.lst (xs ++ zs)))
theorem mt_extendT : MtM X "list.extend" (rExtendT X.K) := by
  intro pins s σ H x vs v us Q I rx rv h
  obtain ⟨l, b, xs, zs, rfl, rfl, hH, hB, hz, q⟩ := h
  cases rx
  obtain ⟨u, rfl, ru⟩ := rv.one
  cases ru
  obtain ⟨z, its, n, r, hl, e⟩ := I.lstM hH
  obtain ⟨its2, r2, ⟨o, ho, hc, n2, hd⟩, z2⟩ := I.tuple hB
  obtain ⟨c, dd, da, sl⟩ := o
  cases hc
  cases hd
  have l1 := r.length
  have l2 := r2.length
  have hsz : its.toArray.size + its2.toArray.size ≤ sizeLine := by rw [List.size_toArray, List.size_toArray]; omega
  have hlong : ¬ (!its.toArray.isEmpty && Builtin.List.listTooLong (its.toArray.size + its2.toArray.size)) = true := by
    have : Builtin.List.listTooLong (its.toArray.size + its2.toArray.size) = false := by
      unfold Builtin.List.listTooLong
      have : sizeLine = 16777216 := rfl
      exact decide_eq_false (by omega)
    rw [this, Bool.and_false]
    exact Bool.false_ne_true
  refine call_meets F.slot_list_extend ⟨_, e, rfl⟩ F.entry_list_extend (F.args_list_extend_2 _ _)
    (PySem.ext_lt l its.toArray n b its2.toArray n2 dd sl hlong (by rw [List.size_toArray]; omega) (by omega)) ⟨e, ho, ?_⟩
  refine ⟨.non, _, I.lset (its' := its ++ its2) hH e (by simp) (r.append r2) ?_, rfl, q⟩
  rw [List.length_append]
  omega
end
end L2
namespace Z
open PySem PySem.Spec PyProof.Rows L2
section
variable {X : Cx}
def extendTF : Fn := fun ds S => match ds with
  | [.ref n, .tup ys] => (match S[n]? with
    | some (.lst xs) => if xs.length + ys.length ≤ LINE then some (.ok .non (S.set n (.lst (xs ++ ys)))) else none
    | _ => none)
  | _ => none
theorem no_extendT : NoExF extendTF := by intro ds S c S'; unfold extendTF; split <;> (try split) <;> (try split) <;> simp
theorem zm_extendT : MtR X "list.extend" (rM X extendTF) := by
  intro pins s σ H x xs v us Q I rx r ⟨ι, S, d, ds, sm, rd, rds, po⟩
  unfold extendTF at po
  split at po
  · rename_i n ys heq
    cases heq
    obtain ⟨w, rfl, hw⟩ := one_of (ds := []) rds
    split at po
    · rename_i zs g
      obtain ⟨p, vs, rfl, i1, e1, r1⟩ := lst_ok sm rd g
      rw [Rep] at hw
      obtain ⟨q, ws, rfl, h3, h4⟩ := hw
      split at po
      · rename_i hl
        have em : Ext ι H ι (upd H p (.lst (vs ++ ws))) := ext_mut e1 trivial
        refine mt_extendT pins s σ H _ _ v us Q I rx r ⟨p, q, vs, ws, rfl, rfl, e1, h3.sq, by rw [r1.length, h4.length]; rw [LINE_eq] at hl; exact hl, ?_⟩
        exact Po.ret (Po.mono em po) (sm.put i1 ⟨_, upd_same, RepL.ext em _ _ (r1.append h4)⟩ ⟨_, e1, trivial⟩) (by rw [Rep])
      · exact po.elim
    · exact po.elim
  · exact po.elim
end
end Z
namespace Z
open PySem PySem.Spec PyProof.Rows L2
def gSeq (gs : List SG) : SG := fun d ρ S => match d with
  | .tup ds => gAll gs ds ρ S
  | .ref n => (match S[n]? with
    | some (.lst ds) => gAll gs ds ρ S
    | _ => none)
  | _ => none
@[simp] theorem x_gseqT (gs : List SG) (ds : List D) (ρ : Env) (S : Store) : gSeq gs (.tup ds) ρ S = gAll gs ds ρ S := rfl
@[simp] theorem x_gseqL (gs : List SG) (n : Nat) (ρ : Env) (S : Store) : gSeq gs (.ref n) ρ S = (match S[n]? with
    | some (.lst ds) => gAll gs ds ρ S
    | _ => none) := rfl
end Z
namespace Z
open PySem PySem.Spec PyProof.Rows L2
def subW (w z : List Nat) : Bool := (List.range (z.length + 1)).any fun i => decide (i + w.length ≤ z.length) && ((z.drop i).take w.length == w)
def inSD (x c : D) (S : Store) : M D := match x, c with
  | .str w, .str z => some (.ok (.bl (subW w z)) S)
  | _, _ => inD x c S
@[simp] theorem o_inS (w z : List Nat) (S : Store) : inSD (.str w) (.str z) S = some (.ok (.bl (subW w z)) S) := rfl
@[simp] theorem o_inSr (x : D) (n : Nat) (S : Store) : inSD x (.ref n) S = inD x (.ref n) S := by
  unfold inSD
  cases x <;> rfl
end Z
namespace L2
open PySem PySem.Spec PyProof.Rows
end L2
namespace L2
open PySem PySem.Spec PyProof.Rows
end L2
namespace Z
open PySem PySem.Spec PyProof.Rows L2
def isBD (x y : D) (S : Store) : M D := match x, y with
  | .non, .bl _ => some (.ok (.bl false) S)
  | x, y => isD x y S
@[simp] theorem o_isBN (b : Bool) (S : Store) : isBD .non (.bl b) S = some (.ok (.bl false) S) := rfl
@[simp] theorem o_isBB (a b : Bool) (S : Store) : isBD (.bl a) (.bl b) S = some (.ok (.bl (a == b)) S) := rfl
end Z
namespace RZ
open PySem
open PySem.Sem (wp)
abbrev IsZipF (h : Heap) (z TI TO : Addr) (f0 : Value) (b : Bool) : Prop :=
  h.get? z = some { cls := .type "zip", dict := none, data := .fields #[f0, .bool b, .bool false, .ref TI, .ref TO], slots := #[] }
/-- no pair has been handed out, or one has -/
def FreeV (f0 : Value) : Prop := f0 = .none ∨ ∃ T : Nat, f0 = rawInt T
def ZipSt (h : Heap) (z TI TO : Addr) : Prop := ∃ f0 b, IsZipF h z TI TO f0 b ∧ FreeV f0
section
variable {prog : Program} {w : World} {A : Around} {E : Value → Shared → Prop} {s : Shared}
theorem gone_none {a : Addr} {Q : Option Obj → Shared → Prop} (ho : s.heap.get? a = none) (h : Q none s) : wpAny (model prog w) A (loadIfAlive a) Q E s := by
  have h' : Q (s.heap.get? a) s := by rw [ho]; exact h
  exact fun _ _ _ => h'
theorem owned_any {z TI TO : Addr} {f0 : Value} {b : Bool} {Q : Bool → Shared → Prop} (hz : IsZipF s.heap z TI TO f0 b) (hf : FreeV f0)
    (h : ∀ r h' b', IsZipF h' z TI TO f0 b' → Heap.SameBut z s.heap h' → Q r { s with heap := h' }) : wpAny (model prog w) A (Builtin.SmallTypes.ownedTupleIsFree (.ref z)) Q E s := by
  unfold Builtin.SmallTypes.ownedTupleIsFree
  rcases hf with rfl | ⟨T, rfl⟩
  · exact wpAny_bind (wpAny_field hz rfl (x := .none) rfl (wpAny_pure (h true s.heap b hz (Heap.SameBut.refl _ _))))
  · refine wpAny_bind (wpAny_field hz rfl (x := rawInt T) rfl ?_)
    show wpAny _ _ (loadIfAlive ((T : Int).toNat) >>= _) _ _ _
    rw [Int.toNat_natCast]
    cases hT : s.heap.get? T with
    | none =>
      refine wpAny_bind (gone_none hT ?_)
      simp only [Option.isNone_none, if_true]
      exact wpAny_pure (h true s.heap b hz (Heap.SameBut.refl _ _))
    | some oT =>
      refine wpAny_bind (PySem.W.kdx_alive hT ?_)
      simp only [Option.isNone_some, Bool.false_eq_true, if_false]
      refine wpAny_bind (wpAny_field hz rfl (x := .bool b) rfl ?_)
      cases b with
      | true =>
        rw [if_neg (show ¬ ((Value.bool true != Value.bool true) = true) from Bool.false_ne_true)]
        exact wpAny_pure (h false s.heap true hz (Heap.SameBut.refl _ _))
      | false =>
        rw [if_pos (show (Value.bool false != Value.bool true) = true from rfl)]
        exact wpAny_bind (wpAny_setField_rec hz (by simp) fun h₁ hz₁ hs₁ => wpAny_pure (h false h₁ true hz₁ hs₁))
theorem zipN_next_item {z TI TO i1 i2 l1 l2 : Addr} {k1 k2 : Nat} {xs ys : Array Value} {x y a b : Value} {Q : Value → Shared → Prop} (D : ZipApart z TI TO i1 i2 l1 l2)
    (hz0 : ZipSt s.heap z TI TO) (hTI : IsPair s.heap TI (.ref i1) (.ref i2)) (hTO : IsPair s.heap TO a b)
    (h1 : s.heap.IsTupleIter i1 l1 k1) (h2 : s.heap.IsTupleIter i2 l2 k2) (hl1 : s.heap.IsTuple l1 xs) (hl2 : s.heap.IsTuple l2 ys) (hx : xs[k1]? = some x) (hy : ys[k2]? = some y)
    (hQ : ∀ h', ZipSt h' z TI TO → (∃ x y, IsPair h' TO x y) → h'.IsTupleIter i1 l1 (k1 + 1) → h'.IsTupleIter i2 l2 (k2 + 1) → IsPair h' s.heap.objs.size x y → h'.objs.size = s.heap.objs.size + 1 →
      (∀ c o, c ≠ z → c ≠ TO → c ≠ i1 → c ≠ i2 → s.heap.get? c = some o → h'.get? c = some o) → Q (.ref s.heap.objs.size) { s with heap := h' }) :
    wpAny (model prog w) A (Builtin.«zip.__next__» ⟨[.ref z], []⟩) (fun fin s' => ∃ v, fin = .done (.ret v) ∧ Q v s') E s := by
  obtain ⟨f0, fb, hz, hf⟩ := hz0
  show wpAny _ _ (field (.ref z) 2 >>= _) _ _ _
  refine wpAny_bind (wpAny_field hz rfl (x := .bool false) rfl ?_)
  show wpAny _ _ (field (.ref z) 3 >>= _) _ _ _
  refine wpAny_bind (wpAny_field hz rfl (x := .ref TI) rfl ?_)
  refine wpAny_bind (wpAny_seqItems hTI rfl ?_)
  show wpAny _ _ (Builtin.SmallTypes.ownedTupleIsFree (.ref z) >>= _) _ _ _
  refine wpAny_bind (owned_any hz hf fun r h₀ fb' hz₀ hs₀ => ?_)
  replace h1 : h₀.IsTupleIter i1 l1 k1 := h1.extBut hs₀.extBut D.i1z
  replace h2 : h₀.IsTupleIter i2 l2 k2 := h2.extBut hs₀.extBut D.i2z
  replace hl1 : h₀.IsTuple l1 xs := hl1.extBut hs₀.extBut D.l1z
  replace hl2 : h₀.IsTuple l2 ys := hl2.extBut hs₀.extBut D.l2z
  replace hTO : IsPair h₀ TO a b := hs₀.extBut _ _ D.TOz hTO
  cases r with
  | false =>
    simp only [Bool.false_eq_true, if_false]
    refine wpAny_bind ?_
    rw [← Array.forIn_toList]
    simp only [List.forIn_cons, List.forIn_nil]
    refine wpAny_bind (wpAny_bind (wpAny_holding ?_))
    show wpAny _ _ (Builtin.SmallTypes.nextOf (.ref i1) >>= _) _ _ _
    refine wpAny_bind (nextOf_tuple_item (s := { s with heap := h₀ }) h1 hl1 hx fun h₂ h1₂ hs₂ => wpAny_pure ?_)
    refine wpAny_pure ?_
    refine wpAny_bind (wpAny_bind (wpAny_holding ?_))
    show wpAny _ _ (Builtin.SmallTypes.nextOf (.ref i2) >>= _) _ _ _
    refine wpAny_bind (nextOf_tuple_item (s := { s with heap := h₂ }) (h2.extBut hs₂.extBut D.i12.symm) (hl2.extBut hs₂.extBut D.l2i1) hy fun h₃ h2₃ hs₃ => wpAny_pure ?_)
    refine wpAny_pure (wpAny_pure ?_)
    show wpAny _ _ (newTuple [x, y] >>= _) _ _ _
    refine wpAny_bind (wpAny_newTuple ?_)
    have hsz : h₃.objs.size = s.heap.objs.size := by rw [hs₃.1, hs₂.1, hs₀.1]
    have hz₃ : IsZipF h₃ z TI TO f0 fb' := hs₃.extBut _ _ D.i2z.symm (hs₂.extBut _ _ D.i1z.symm hz₀)
    have hTO₃ : IsPair h₃ TO a b := hs₃.extBut _ _ D.TOi2 (hs₂.extBut _ _ D.TOi1 hTO)
    have hk : ∀ c o, c ≠ z → c ≠ i1 → c ≠ i2 → s.heap.get? c = some o → h₃.get? c = some o := fun c o c1 c2 c3 e => hs₃.extBut _ _ c3 (hs₂.extBut _ _ c2 (hs₀.extBut _ _ c1 e))
    have h1₃ : h₃.IsTupleIter i1 l1 (k1 + 1) := h1₂.extBut hs₃.extBut D.i12
    refine wpAny_pure ⟨_, rfl, ?_⟩
    show Q (.ref h₃.objs.size) _
    have hp : IsPair (h₃.push { cls := .type "tuple", data := .seq #[x, y] }) h₃.objs.size x y := Heap.get?_push_size _ rfl
    have hz4 : (h₃.push { cls := .type "tuple", data := .seq #[x, y] }).objs.size = h₃.objs.size + 1 := Heap.size_push ..
    rw [hsz] at hp hz4 ⊢
    exact hQ _ ⟨f0, fb', Heap.get?_push_of_some _ hz₃, hf⟩ ⟨a, b, Heap.get?_push_of_some _ hTO₃⟩ (h1₃.at fun o e => Heap.get?_push_of_some _ e) (h2₃.at fun o e => Heap.get?_push_of_some _ e) hp hz4 fun c o c1 _ c2 c3 e => Heap.get?_push_of_some _ (hk c o c1 c2 c3 e)
  | true =>
    simp only [if_true]
    refine wpAny_bind (wpAny_rule ?_)
    refine wpAny_bind (wpAny_field hz₀ rfl (x := .ref TO) rfl ?_)
    refine wpAny_bind (wpAny_setField_rec hz₀ (by simp) fun h₁ hz₁ hs₁ => ?_)
    replace hz₁ : IsZipF h₁ z TI TO .ellipsis fb' := hz₁
    refine wpAny_bind ?_
    simp only [List.zipIdx_cons, List.zipIdx_nil, List.forIn_cons, List.forIn_nil]
    refine wpAny_bind (wpAny_bind (wpAny_onRaise ?_))
    show wpAny _ _ (Builtin.SmallTypes.nextOf (.ref i1) >>= _) _ _ _
    refine wpAny_bind (nextOf_tuple_item (h1.extBut hs₁.extBut D.i1z) (hl1.extBut hs₁.extBut D.l1z) hx fun h₂ h1₂ hs₂ => wpAny_pure ?_)
    have hTO₂ : IsPair h₂ TO a b := hs₂.extBut _ _ D.TOi1 (hs₁.extBut _ _ D.TOz hTO)
    refine wpAny_bind (wpAny_seqItems hTO₂ rfl ?_)
    refine wpAny_bind (wpAny_updateSeq_pair hTO₂ fun h₃ hTO₃ hs₃ => ?_)
    replace hTO₃ : IsPair h₃ TO x b := hTO₃
    refine wpAny_bind (wpAny_letGo (wpAny_pure ?_))
    refine wpAny_bind (wpAny_bind (wpAny_onRaise ?_))
    show wpAny _ _ (Builtin.SmallTypes.nextOf (.ref i2) >>= _) _ _ _
    refine wpAny_bind (nextOf_tuple_item (((h2.extBut hs₁.extBut D.i2z).extBut hs₂.extBut D.i12.symm).extBut hs₃.extBut D.TOi2.symm)
      (((hl2.extBut hs₁.extBut D.l2z).extBut hs₂.extBut D.l2i1).extBut hs₃.extBut D.l2TO) hy fun h₄ h2₄ hs₄ => wpAny_pure ?_)
    have hTO₄ : IsPair h₄ TO x b := hs₄.extBut _ _ D.TOi2 hTO₃
    refine wpAny_bind (wpAny_seqItems hTO₄ rfl ?_)
    refine wpAny_bind (wpAny_updateSeq_pair hTO₄ fun h₅ hTO₅ hs₅ => ?_)
    replace hTO₅ : IsPair h₅ TO x y := hTO₅
    refine wpAny_bind (wpAny_letGo (wpAny_pure (wpAny_pure ?_)))
    refine wpAny_bind (wpAny_seqItems hTO₅ rfl ?_)
    refine wpAny_bind (wpAny_newTuple ?_)
    have hsz : h₅.objs.size = s.heap.objs.size := by rw [hs₅.1, hs₄.1, hs₃.1, hs₂.1, hs₁.1, hs₀.1]
    have hz₅ : IsZipF h₅ z TI TO .ellipsis fb' := hs₅.extBut _ _ D.TOz.symm (hs₄.extBut _ _ D.i2z.symm (hs₃.extBut _ _ D.TOz.symm (hs₂.extBut _ _ D.i1z.symm hz₁)))
    have hk₅ : ∀ c o, c ≠ z → c ≠ TO → c ≠ i1 → c ≠ i2 → s.heap.get? c = some o → h₅.get? c = some o := fun c o c1 c2 c3 c4 e =>
      hs₅.extBut _ _ c2 (hs₄.extBut _ _ c4 (hs₃.extBut _ _ c2 (hs₂.extBut _ _ c3 (hs₁.extBut _ _ c1 (hs₀.extBut _ _ c1 e)))))
    have h1₅ : h₅.IsTupleIter i1 l1 (k1 + 1) := ((h1₂.extBut hs₃.extBut D.TOi1.symm).extBut hs₄.extBut D.i12).extBut hs₅.extBut D.TOi1.symm
    have h2₅ : h₅.IsTupleIter i2 l2 (k2 + 1) := h2₄.extBut hs₅.extBut D.TOi2.symm
    have hzlt : z < h₅.objs.size := Heap.lt_size hz₅
    show wpAny _ _ (Builtin.SmallTypes.ownedTupleHandOut (.ref z) (.ref h₅.objs.size) >>= _) _ _ _
    refine wpAny_bind ?_
    unfold Builtin.SmallTypes.ownedTupleHandOut
    have hz₆ : IsZipF (h₅.push { cls := .type "tuple", data := .seq #[x, y] }) z TI TO .ellipsis fb' := Heap.get?_push_of_some _ hz₅
    refine wpAny_bind (wpAny_setField_rec hz₆ (by simp) fun h₇ hz₇ hs₇ => ?_)
    replace hz₇ : IsZipF h₇ z TI TO (rawInt h₅.objs.size) fb' := hz₇
    refine wpAny_setField_rec hz₇ (by simp) fun h₈ hz₈ hs₈ => ?_
    replace hz₈ : IsZipF h₈ z TI TO (rawInt h₅.objs.size) false := hz₈
    have up : ∀ c o, c ≠ z → h₅.get? c = some o → h₈.get? c = some o := fun c o c1 e => hs₈.extBut _ _ c1 (hs₇.extBut _ _ c1 (Heap.get?_push_of_some _ e))
    have hT₈ : IsPair h₈ h₅.objs.size x y := hs₈.extBut _ _ (Nat.ne_of_gt hzlt) (hs₇.extBut _ _ (Nat.ne_of_gt hzlt) (Heap.get?_push_size _ rfl))
    have hz8 : h₈.objs.size = h₅.objs.size + 1 := by rw [hs₈.1, hs₇.1, Heap.size_push]
    rw [hsz] at hz₈ hT₈ hz8
    refine wpAny_pure ⟨_, rfl, ?_⟩
    show Q (.ref h₅.objs.size) _
    rw [hsz]
    exact hQ h₈ ⟨_, _, hz₈, .inr ⟨_, rfl⟩⟩ ⟨x, y, up _ _ D.TOz hTO₅⟩ (h1₅.at fun o e => up _ o D.i1z e) (h2₅.at fun o e => up _ o D.i2z e) hT₈ hz8 fun c o c1 c2 c3 c4 e => up c o c1 (hk₅ c o c1 c2 c3 c4 e)
theorem zipN_next_end {z TI TO i1 i2 l1 l2 : Addr} {k1 k2 : Nat} {xs ys : Array Value} {a b : Value} {Q : Fin → Shared → Prop} (hh : A.handled = none) (D : ZipApart z TI TO i1 i2 l1 l2)
    (hz0 : ZipSt s.heap z TI TO) (hTI : IsPair s.heap TI (.ref i1) (.ref i2)) (hTO : IsPair s.heap TO a b)
    (h1 : s.heap.IsTupleIter i1 l1 k1) (h2 : s.heap.IsTupleIter i2 l2 k2) (hl1 : s.heap.IsTuple l1 xs) (hl2 : s.heap.IsTuple l2 ys) (hend : xs[k1]? = none ∨ ys[k2]? = none)
    (hE : ∀ h' e, (∀ c o, c ≠ z → c ≠ TO → c ≠ i1 → c ≠ i2 → s.heap.get? c = some o → h'.get? c = some o) → (∃ o, h'.get? e = some o ∧ o.cls = .type "StopIteration") → E (.ref e) { s with heap := h' }) :
    wpAny (model prog w) A (Builtin.«zip.__next__» ⟨[.ref z], []⟩) Q E s := by
  obtain ⟨f0, fb, hz, hf⟩ := hz0
  show wpAny _ _ (field (.ref z) 2 >>= _) _ _ _
  refine wpAny_bind (wpAny_field hz rfl (x := .bool false) rfl ?_)
  show wpAny _ _ (field (.ref z) 3 >>= _) _ _ _
  refine wpAny_bind (wpAny_field hz rfl (x := .ref TI) rfl ?_)
  refine wpAny_bind (wpAny_seqItems hTI rfl ?_)
  show wpAny _ _ (Builtin.SmallTypes.ownedTupleIsFree (.ref z) >>= _) _ _ _
  refine wpAny_bind (owned_any hz hf fun r h₀ fb' hz₀ hs₀ => ?_)
  replace h1 : h₀.IsTupleIter i1 l1 k1 := h1.extBut hs₀.extBut D.i1z
  replace h2 : h₀.IsTupleIter i2 l2 k2 := h2.extBut hs₀.extBut D.i2z
  replace hl1 : h₀.IsTuple l1 xs := hl1.extBut hs₀.extBut D.l1z
  replace hl2 : h₀.IsTuple l2 ys := hl2.extBut hs₀.extBut D.l2z
  replace hTO : IsPair h₀ TO a b := hs₀.extBut _ _ D.TOz hTO
  cases r with
  | false =>
    simp only [Bool.false_eq_true, if_false]
    refine wpAny_bind ?_
    rw [← Array.forIn_toList]
    simp only [List.forIn_cons, List.forIn_nil]
    refine wpAny_bind (wpAny_bind (wpAny_holding ?_))
    show wpAny _ _ (Builtin.SmallTypes.nextOf (.ref i1) >>= _) _ _ _
    cases hx : xs[k1]? with
    | none =>
      refine wpAny_bind (nextOf_tuple_end (s := { s with heap := h₀ }) hh h1 hl1 hx fun h₂ e hs₂ he => ?_)
      exact hE h₂ e (fun c o c1 _ c2 _ x => hs₂ _ _ c2 (hs₀.extBut _ _ c1 x)) he
    | some x =>
      have hy : ys[k2]? = none := by rcases hend with h | h; rw [hx] at h; cases h; exact h
      refine wpAny_bind (nextOf_tuple_item (s := { s with heap := h₀ }) h1 hl1 hx fun h₂ h1₂ hs₂ => wpAny_pure ?_)
      refine wpAny_pure ?_
      refine wpAny_bind (wpAny_bind (wpAny_holding ?_))
      show wpAny _ _ (Builtin.SmallTypes.nextOf (.ref i2) >>= _) _ _ _
      refine wpAny_bind (nextOf_tuple_end (s := { s with heap := h₂ }) hh (h2.extBut hs₂.extBut D.i12.symm) (hl2.extBut hs₂.extBut D.l2i1) hy fun h₃ e hs₃ he => ?_)
      exact hE h₃ e (fun c o c1 _ c2 c3 x => hs₃ _ _ c3 (hs₂.extBut _ _ c2 (hs₀.extBut _ _ c1 x))) he
  | true =>
    simp only [if_true]
    refine wpAny_bind (wpAny_rule ?_)
    refine wpAny_bind (wpAny_field hz₀ rfl (x := .ref TO) rfl ?_)
    refine wpAny_bind (wpAny_setField_rec hz₀ (by simp) fun h₁ hz₁ hs₁ => ?_)
    replace hz₁ : IsZipF h₁ z TI TO .ellipsis fb' := hz₁
    refine wpAny_bind ?_
    simp only [List.zipIdx_cons, List.zipIdx_nil, List.forIn_cons, List.forIn_nil]
    refine wpAny_bind (wpAny_bind (wpAny_onRaise ?_))
    show wpAny _ _ (Builtin.SmallTypes.nextOf (.ref i1) >>= _) _ _ _
    cases hx : xs[k1]? with
    | none =>
      refine wpAny_bind (nextOf_tuple_end hh (h1.extBut hs₁.extBut D.i1z) (hl1.extBut hs₁.extBut D.l1z) hx fun h₂ e hs₂ he => ?_)
      obtain ⟨oe, hoe, hce⟩ := he
      have hz₂ : IsZipF h₂ z TI TO .ellipsis fb' := hs₂ _ _ D.i1z.symm hz₁
      have hez : e ≠ z := fun x => by subst x; rw [hz₂] at hoe; cases hoe; simp at hce
      refine wpAny_setField_rec hz₂ (by simp) fun h₃ _ hs₃ => hE h₃ e (fun c o c1 _ c3 _ x => hs₃.extBut _ _ c1 (hs₂ _ _ c3 (hs₁.extBut _ _ c1 (hs₀.extBut _ _ c1 x)))) ⟨oe, hs₃.extBut _ _ hez hoe, hce⟩
    | some x =>
      have hy : ys[k2]? = none := by rcases hend with h | h; rw [hx] at h; cases h; exact h
      refine wpAny_bind (nextOf_tuple_item (h1.extBut hs₁.extBut D.i1z) (hl1.extBut hs₁.extBut D.l1z) hx fun h₂ h1₂ hs₂ => wpAny_pure ?_)
      have hTO₂ : IsPair h₂ TO a b := hs₂.extBut _ _ D.TOi1 (hs₁.extBut _ _ D.TOz hTO)
      refine wpAny_bind (wpAny_seqItems hTO₂ rfl ?_)
      refine wpAny_bind (wpAny_updateSeq_pair hTO₂ fun h₃ hTO₃ hs₃ => ?_)
      refine wpAny_bind (wpAny_letGo (wpAny_pure ?_))
      refine wpAny_bind (wpAny_bind (wpAny_onRaise ?_))
      show wpAny _ _ (Builtin.SmallTypes.nextOf (.ref i2) >>= _) _ _ _
      refine wpAny_bind (nextOf_tuple_end hh (((h2.extBut hs₁.extBut D.i2z).extBut hs₂.extBut D.i12.symm).extBut hs₃.extBut D.TOi2.symm)
        (((hl2.extBut hs₁.extBut D.l2z).extBut hs₂.extBut D.l2i1).extBut hs₃.extBut D.l2TO) hy fun h₄ e hs₄ he => ?_)
      obtain ⟨oe, hoe, hce⟩ := he
      have hz₄ : IsZipF h₄ z TI TO .ellipsis fb' := hs₄ _ _ D.i2z.symm (hs₃.extBut _ _ D.TOz.symm (hs₂.extBut _ _ D.i1z.symm hz₁))
      have hez : e ≠ z := fun x => by subst x; rw [hz₄] at hoe; cases hoe; simp at hce
      refine wpAny_setField_rec hz₄ (by simp) fun h₅ _ hs₅ => hE h₅ e (fun c o c1 c2 c3 c4 x => hs₅.extBut _ _ c1 (hs₄ _ _ c4 (hs₃.extBut _ _ c2 (hs₂.extBut _ _ c3 (hs₁.extBut _ _ c1 (hs₀.extBut _ _ c1 x)))))) ⟨oe, hs₅.extBut _ _ hez hoe, hce⟩
theorem pyNext_zipN_item {z TI TO i1 i2 l1 l2 : Addr} {k1 k2 : Nat} {xs ys : Array Value} {x y a b : Value} {Q : Option Value → Shared → Prop} (D : ZipApart z TI TO i1 i2 l1 l2)
    (hz : ZipSt s.heap z TI TO) (hTI : IsPair s.heap TI (.ref i1) (.ref i2)) (hTO : IsPair s.heap TO a b)
    (h1 : s.heap.IsTupleIter i1 l1 k1) (h2 : s.heap.IsTupleIter i2 l2 k2) (hl1 : s.heap.IsTuple l1 xs) (hl2 : s.heap.IsTuple l2 ys) (hx : xs[k1]? = some x) (hy : ys[k2]? = some y)
    (hQ : ∀ h', ZipSt h' z TI TO → (∃ x y, IsPair h' TO x y) → h'.IsTupleIter i1 l1 (k1 + 1) → h'.IsTupleIter i2 l2 (k2 + 1) → IsPair h' s.heap.objs.size x y → h'.objs.size = s.heap.objs.size + 1 →
      (∀ c o, c ≠ z → c ≠ TO → c ≠ i1 → c ≠ i2 → s.heap.get? c = some o → h'.get? c = some o) → Q (some (.ref s.heap.objs.size)) { s with heap := h' }) :
    wpAny (model prog w) A (pyNext (.ref z)) Q E s := by
  have hT : s.TypeIs (.ref z) "zip" := by obtain ⟨f0, fb, hz, _⟩ := hz; exact ⟨_, hz, rfl⟩
  unfold pyNext
  exact wpAny_bind (wpAny_attempt (wpAny_callSpecial?_slot (name := Str.ofString "__next__") hT F.slot_zip_next
    (wpAny_call_entry F.slot_zip_next hT F.entry_zip_next
      (zipN_next_item D hz hTI hTO h1 h2 hl1 hl2 hx hy fun h' a1 a2 a3 a4 a5 a6 a7 => wpAny_pure (hQ h' a1 a2 a3 a4 a5 a6 a7)) (F.args_zip_next_1 _))))
theorem pyNext_zipN_end {z TI TO i1 i2 l1 l2 : Addr} {k1 k2 : Nat} {xs ys : Array Value} {a b : Value} {Q : Option Value → Shared → Prop} (hh : A.handled = none) (D : ZipApart z TI TO i1 i2 l1 l2)
    (hz : ZipSt s.heap z TI TO) (hTI : IsPair s.heap TI (.ref i1) (.ref i2)) (hTO : IsPair s.heap TO a b)
    (h1 : s.heap.IsTupleIter i1 l1 k1) (h2 : s.heap.IsTupleIter i2 l2 k2) (hl1 : s.heap.IsTuple l1 xs) (hl2 : s.heap.IsTuple l2 ys) (hend : xs[k1]? = none ∨ ys[k2]? = none)
    (hQ : ∀ h', (∀ c o, c ≠ z → c ≠ TO → c ≠ i1 → c ≠ i2 → s.heap.get? c = some o → h'.get? c = some o) → Q none { s with heap := h' }) : wpAny (model prog w) A (pyNext (.ref z)) Q E s := by
  have hT : s.TypeIs (.ref z) "zip" := by obtain ⟨f0, fb, hz, _⟩ := hz; exact ⟨_, hz, rfl⟩
  unfold pyNext
  refine wpAny_bind (wpAny_attempt (wpAny_callSpecial?_slot (name := Str.ofString "__next__") hT F.slot_zip_next
    (wpAny_call_entry F.slot_zip_next hT F.entry_zip_next (zipN_next_end hh D hz hTI hTO h1 h2 hl1 hl2 hend fun h' e hk he => ?_) (F.args_zip_next_1 _))))
  obtain ⟨o, ho, hc⟩ := he
  refine wpAny_bind (wpAny_isInstance (T := "StopIteration") (b := true) ⟨o, ho, hc⟩ isSubtype_stop ?_)
  exact wpAny_pure (hQ _ hk)
end
end RZ
namespace L2
open PySem PySem.Spec PyProof.Rows RZ
theorem pyIter_zipN {prog : Program} {w : World} {A : Around} {E : Value → Shared → Prop} {s : Shared} {z TI TO : Addr} {Q : Value → Shared → Prop} (hz : ZipSt s.heap z TI TO) (h : Q (.ref z) s) : wpAny (model prog w) A (pyIter (.ref z)) Q E s := by
  obtain ⟨f0, fb, hz, _⟩ := hz
  have hT : s.TypeIs (.ref z) "zip" := ⟨_, hz, rfl⟩
  refine wpAny_pyIter_slot hT F.slot_zip_iter (wpAny_call_entry F.slot_zip_iter hT F.entry_zip_iter ?_ (F.args_zip_iter_1 _))
  show wpAny _ _ (ret (.ref z)) _ _ s
  exact wpAny_pure ⟨_, rfl, "zip", _, hT, F.slot_zip_next.lookup, h⟩
theorem turn_zipN {P : Program} {w : World} {K : PySem.W.Frag} {nm : String} {tpos : Pos} {a b z TI TO i1 i2 : Addr} (D : ZipApart z TI TO i1 i2 a b) :
    Turn P w K (.Name nm tpos) (Itz2 K a b) [z, TI, TO, i1, i2] z (fun i h => ZipSt h z TI TO ∧ IsPair h TI (.ref i1) (.ref i2) ∧ (∃ x y, IsPair h TO x y) ∧ h.IsTupleIter i1 a i ∧ h.IsTupleIter i2 b i) where
  mem := by simp
  obj := fun i h st c hc => by
    obtain ⟨⟨f0, fb, hz, _⟩, hTI, ⟨x, y, hTO⟩, ⟨o1, e1, _, d1⟩, ⟨o2, e2, _, d2⟩⟩ := st
    have e' : c = z ∨ c = TI ∨ c = TO ∨ c = i1 ∨ c = i2 := by simpa using hc
    rcases e' with q | q | q | q | q
    · rw [q]; exact ⟨_, hz, fun v q => nomatch q⟩
    · rw [q]; exact ⟨_, hTI, fun v q => nomatch q⟩
    · rw [q]; exact ⟨_, hTO, fun v q => nomatch q⟩
    · rw [q]; exact ⟨o1, e1, fun v q => by rw [d1] at q; cases q⟩
    · rw [q]; exact ⟨o2, e2, fun v q => by rw [d2] at q; cases q⟩
  keep := fun i h h' st k => by
    obtain ⟨⟨f0, fb, hz, hf⟩, hTI, ⟨x, y, hTO⟩, h1, h2⟩ := st
    exact ⟨⟨f0, fb, k z (by simp) _ hz, hf⟩, k TI (by simp) _ hTI, ⟨x, y, k TO (by simp) _ hTO⟩, h1.at fun o q => k i1 (by simp) o q, h2.at fun o q => k i2 (by simp) o q⟩
  item := by
    intro X hP hw hK hc i pins s σ H E I hf st hg
    subst hP hw hK
    obtain ⟨hz, hTI, ⟨x0, y0, hTO⟩, h1, h2⟩ := st
    obtain ⟨xs, ys, x, y, hqx, hqy, hx, hy⟩ := hg
    obtain ⟨its, rv, p, _⟩ := I.tuple hqx
    obtain ⟨its2, rv2, p2, _⟩ := I.tuple hqy
    obtain ⟨u, hu, ru⟩ := rv.get hx
    obtain ⟨u2, hu2, ru2⟩ := rv2.get hy
    have hzl : z < s.heap.objs.size := by obtain ⟨_, _, hz, _⟩ := hz; exact Heap.lt_size hz
    refine pyNext_zipN_item D hz hTI hTO h1 h2 p p2 (x := u) (y := u2) (by simpa using hu) (by simpa using hu2) fun h' z' TO' h1' h2' hT hsz hk => ?_
    refine ⟨_, rfl, wpAny_pure ?_⟩
    have newT : ∀ G : Hp, ObjOk X.prog X.w G h' s.heap.objs.size (.tup [x, y]) := fun G =>
      ⟨by show 2 ≤ sizeLine; decide, [u, u2], .cons ru (.cons ru2 .nil), ⟨_, hT, rfl, _, rfl⟩⟩
    have fin : ∀ (u0 : HO), ObjOk X.prog X.w (upd H s.heap.objs.size u0) h' s.heap.objs.size u0 → ((flatW x && flatW y) = true ∧ u0 = .tup [x, y] ∨ (flatW x && flatW y) = false ∧ ∃ o : Obj, o.dict = none ∧ u0 = .frz o (.tup [x, y])) →
        ∃ x' H', Inv X pins σ H' { s with heap := h' } ∧ RelV x' (.ref s.heap.objs.size) ∧ (Itz2 X.KW a b).yld i H x' H' ∧ (ZipSt h' z TI TO ∧ IsPair h' TI (.ref i1) (.ref i2) ∧ (∃ x y, IsPair h' TO x y) ∧ h'.IsTupleIter i1 a (i + 1) ∧ h'.IsTupleIter i2 b (i + 1)) ∧ ∀ c ∈ [z, TI, TO, i1, i2], H' c = none := by
      intro u0 new hh
      have I1 : Inv X pins σ (upd H s.heap.objs.size u0) { s with heap := h' } :=
        I.turnedNew (t' := s.toks) (ch := [z, TI, TO, i1, i2]) (fun c o hb q => hk c o (fun q' => hb (by simp [q'])) (fun q' => hb (by simp [q'])) (fun q' => hb (by simp [q'])) (fun q' => hb (by simp [q'])) q) hf (Nat.le_refl _) new
      refine ⟨.ref s.heap.objs.size, _, I1, rfl, ⟨_, x, y, rfl, I.hok.fresh (Nat.le_refl _), ?_, fun l hl => by rw [I.tuple_inj hl hqx]; exact hx, fun l hl => by rw [I.tuple_inj hl hqy]; exact hy⟩, ⟨z', ?_, TO', h1', h2'⟩, fun c hcm => ?_⟩
      · rcases hh with ⟨h1, rfl⟩ | ⟨h1, o, h2, rfl⟩
        · exact .inl ⟨h1, rfl⟩
        · exact .inr ⟨h1, o, h2, rfl⟩
      · exact hk _ _ D.TIz D.TITO D.TIi1 D.TIi2 hTI
      · have hlt : c < s.heap.objs.size := by
          have e' : c = z ∨ c = TI ∨ c = TO ∨ c = i1 ∨ c = i2 := by simpa using hcm
          rcases e' with q | q | q | q | q
          · rw [q]; exact hzl
          · rw [q]; exact Heap.lt_size hTI
          · rw [q]; exact Heap.lt_size hTO
          · rw [q]; obtain ⟨_, e1, _⟩ := h1; exact Heap.lt_size e1
          · rw [q]; obtain ⟨_, e2, _⟩ := h2; exact Heap.lt_size e2
        rw [upd_ne (Nat.ne_of_lt hlt)]
        exact (hf c hcm).1
    cases hfl : (flatW x && flatW y)
    · exact fin (.frz { cls := .type "tuple", data := .seq #[u, u2] } (.tup [x, y])) ⟨hT, newT _⟩ (.inr ⟨hfl, _, rfl, rfl⟩)
    · exact fin (.tup [x, y]) (newT _) (.inl ⟨hfl, rfl⟩)
  done := by
    intro X hP hw hK hc i pins s σ H E I hf st hg
    subst hP hw hK
    obtain ⟨hz, hTI, ⟨x0, y0, hTO⟩, h1, h2⟩ := st
    obtain ⟨xs, ys, hqx, hqy, hend⟩ := hg
    obtain ⟨its, rv, p, _⟩ := I.tuple hqx
    obtain ⟨its2, rv2, p2, _⟩ := I.tuple hqy
    have l1 := rv.length
    have l2 := rv2.length
    have he : its.toArray[i]? = none ∨ its2.toArray[i]? = none := by
      rcases hend with q | q
      · exact .inl (by simp; omega)
      · exact .inr (by simp; omega)
    exact pyNext_zipN_end (I.ok.hd hc) D hz hTI hTO h1 h2 p p2 he fun h' hk => ⟨rfl, I.turnedL (t' := s.toks) (ch := [z, TI, TO, i1, i2]) (fun c o hb q =>
      hk c o (fun q' => hb (by simp [q'])) (fun q' => hb (by simp [q'])) (fun q' => hb (by simp [q'])) (fun q' => hb (by simp [q'])) q) hf⟩
  self := fun A i s Q E st h => pyIter_zipN st.1 h
theorem pi_zipN {X : Cx} {e e2 : Expr} {ta : TA} {p pos tpos : Pos} {nm : String} (hg : Gl X "zip") (hm : X.mg "zip" = none) (ha : PA X [e, e2] ta)
    (hs : starEach [e, e2] X.env = (false, eval e X.env) :: starEach [e2] X.env := by rfl) (hpl : (backTo pos (starEach [e2] X.env)).any (·.1) = false := by rfl) :
    PI X (.Name nm tpos) (.Call (.Name "zip" p) [e, e2] [] pos) (iZip2 X.KW ta) := by
  refine ⟨fun pins s σ H R I h => ?_⟩
  refine Call_ (ld_blt I hg hm PyProof.Rows.boot_zip (PyProof.Rows.callWith_type1 (thn (ha.run pos pins s σ H _ I h) fun us s1 ⟨vs, H1, I1, r1, q1⟩ => ?_) hs hpl))
  obtain ⟨a, b, xs, ys, ex, hqx, hqy, q⟩ := q1
  subst ex
  cases r1 with
  | cons r rr =>
    cases rr with
    | cons r' rr =>
      cases rr
      cases r
      cases r'
      have fresh5 : ∀ c, c ∈ [s1.heap.objs.size + 4, s1.heap.objs.size + 2, s1.heap.objs.size + 3, s1.heap.objs.size, s1.heap.objs.size + 1] → FpOk X pins H1 c := fun c hcm => by
        have e' : c = s1.heap.objs.size + 4 ∨ c = s1.heap.objs.size + 2 ∨ c = s1.heap.objs.size + 3 ∨ c = s1.heap.objs.size ∨ c = s1.heap.objs.size + 1 := by simpa using hcm
        have hle : s1.heap.objs.size ≤ c := by
          rcases e' with z | z | z | z | z
          · rw [z]; exact Nat.le_add_right _ _
          · rw [z]; exact Nat.le_add_right _ _
          · rw [z]; exact Nat.le_add_right _ _
          · rw [z]; exact Nat.le_refl _
          · rw [z]; exact Nat.le_add_right _ _
        exact I1.fpOk hle (I1.hok.fresh hle)
      obtain ⟨its, rv, p1, _⟩ := I1.tuple hqx
      obtain ⟨its2, rv2, p2, _⟩ := I1.tuple hqy
      obtain ⟨o1, ho1, _⟩ := id p1
      obtain ⟨o2, ho2, _⟩ := id p2
      refine call_zipT (show s1.heap.IsTuple a its.toArray from p1) (show s1.heap.IsTuple b its2.toArray from p2) fun h' hz hTI hTO h1 h2 hsz hk => wpAny_pyIter_zip hz ?_
      have I2 : Inv X pins σ H1 { s1 with heap := h' } := I1.kept (t' := s1.toks) hk
      refine ⟨s1.heap.objs.size + 4, [s1.heap.objs.size + 4, s1.heap.objs.size + 2, s1.heap.objs.size + 3, s1.heap.objs.size, s1.heap.objs.size + 1], _, _, H1, rfl, I2, turn_zipN (PySem.W.ktu_apart s1.heap.objs.size a b (Heap.lt_size ho1) (Heap.lt_size ho2)), ⟨⟨.none, false, hz, .inl rfl⟩, hTI, ⟨_, _, hTO⟩, h1, h2⟩, fresh5, q⟩
end L2
namespace Z
open PySem PySem.Spec PyProof.Rows L2
theorem gi_zipN {X : Cx} {W : WX} {e e2 : Expr} {m m2 : SE} {p pos tpos : Pos} {nm : String} (hg : Gl X "zip") (hm : X.mg "zip" = none) (he : GE X W e m) (he2 : GE X W e2 m2)
    (hs : starEach [e, e2] X.env = (false, eval e X.env) :: starEach [e2] X.env := by rfl) (hs2 : starEach [e2] X.env = (false, eval e2 X.env) :: starEach [] X.env := by rfl) (hpl : (backTo pos (starEach [e2] X.env)).any (·.1) = false := by rfl) :
    GI X W (.Name nm tpos) (.Call (.Name "zip" p) [e, e2] [] pos) (iZip m m2) := (pi_zipN hg hm (pa_cons he (pa_cons he2 pa_nil hs2) hs) hs hpl).imp fun σ H R ⟨ι, ρ, S, sm, r, p⟩ => by
  refine ⟨ι, ρ, S, sm, r, Po.bd p fun d S1 ι1 H1 x e1 s1 r1 p1 => ?_⟩
  refine ⟨ι1, ρ, S1, s1, r.ext e1, Po.bd p1 fun d2 S2 ι2 H2 y e3 s2 r2 p2 => ?_⟩
  split at p2
  · have r1' := Rep.ext e3 _ _ r1
    rw [Rep] at r1' r2
    obtain ⟨a, vs, rfl, h1, h2⟩ := r1'
    obtain ⟨b, us, rfl, g1, g2⟩ := r2
    exact ⟨a, b, vs, us, rfl, h1.sq, g1.sq, Po.ritm p2 s2 (ritm_zip h1.sq h2 g1.sq g2)⟩
  · exact p2.elim
def reverseF : Fn := fun ds S => match ds with
  | [.ref n] => (match S[n]? with | some (.lst xs) => some (.ok .non (S.set n (.lst xs.reverse))) | _ => none)
  | _ => none
def clearF : Fn := fun ds S => match ds with
  | [.ref n] => (match S[n]? with | some (.lst _) => some (.ok .non (S.set n (.lst []))) | _ => none)
  | _ => none
@[simp] theorem o_reverse (n : Nat) (S : Store) : reverseF [.ref n] S = match S[n]? with | some (.lst xs) => some (.ok .non (S.set n (.lst xs.reverse))) | _ => none := rfl
@[simp] theorem o_clear (n : Nat) (S : Store) : clearF [.ref n] S = match S[n]? with | some (.lst _) => some (.ok .non (S.set n (.lst []))) | _ => none := rfl
end Z
namespace Z
noncomputable def lb_pairs_met_n_1 : SS :=
  sIf (tVal (e2 nNi (eVar 7) (eVar 2))) (sq (sNPut (eVar 2) (eVar 7) (eC (.bl true))) (sExp (eMt .list appendF (eVar 3) [eVar 7]))) (sNx)
noncomputable def lb_pairs_met_n_2 : SS :=
  sq (sAsg (e2 ixD (eVar 0) (e2 ixD (e2 ixD (eVar 3) (eVar 4)) (eC (.int 0)))) (gName 5)) (sq (sAsg (e2 ixD (eVar 1) (e2 ixD (e2 ixD (eVar 3) (eVar 4)) (eC (.int 1)))) (gName 6)) (sq (sFor (iAny (eLst [eTup [e2 ixD (eVar 5) (eC (.int 1)), e2 ixD (eVar 6) (eC (.int 1))], eTup [e2 ixD (eVar 5) (eC (.int 2)), e2 ixD (eVar 6) (eC (.int 2))]])) (gName 7) (lb_pairs_met_n_1)) (sAsg (e2 addD (eVar 4) (eC (.int 1))) (gName 4))))
noncomputable def b_pairs_met_n : SS :=
  sq (sAsg (eNDct1 (eTup [eC (.int 0), eC (.int 0)]) (eC (.bl true))) (gName 2)) (sq (sAsg (eLst [eTup [eC (.int 0), eC (.int 0)]]) (gName 3)) (sq (sAsg (eC (.int 0)) (gName 4)) (sq (sWh (tVal (e2 ltD (eVar 4) (eCall lenF [eVar 3]))) (lb_pairs_met_n_2)) (sRet (eVar 3)))))
noncomputable def R_pairs_met_n : Fn := runF 2 8 (b_pairs_met_n)
noncomputable def lb_least_places_n_1 : SS :=
  sIf (tVal (e2 nIn (eVar 7) (eVar 2))) (sq (sAsg (e2 addD (e2 mulD (eC (.int 2)) (e2 nGet (eVar 2) (eVar 7))) (eVar 8)) (gName 9)) (sIf (tOr (tVal (e2 nNi (eVar 4) (eVar 2))) (tVal (e2 ltD (eVar 9) (e2 nGet (eVar 2) (eVar 4))))) (sq (sNPut (eVar 2) (eVar 4) (eVar 9)) (sAsg (eC (.bl true)) (gName 3))) (sNx))) (sNx)
noncomputable def lb_least_places_n_2 : SS :=
  sq (sAsg (e2 nGet (eVar 0) (eVar 4)) (gTup [gName 5, gName 6])) (sFor (iAny (eLst [eTup [eVar 5, eC (.int 0)], eTup [eVar 6, eC (.int 1)]])) (gTup [gName 7, gName 8]) (lb_least_places_n_1))
noncomputable def lb_least_places_n_3 : SS :=
  sq (sAsg (eC (.bl false)) (gName 3)) (sLockN (lkVar 0) (sFor (iKeyN (eVar 0)) (gName 4) (lb_least_places_n_2)))
noncomputable def b_least_places_n : SS :=
  sq (sAsg (eCall dictNF [eLc (iAny (eVar 1)) (gName 4) (tYes) (eTup [eVar 4, eC (.int 0)]) [4]]) (gName 2)) (sq (sAsg (eC (.bl true)) (gName 3)) (sq (sWh (tVal (eVar 3)) (lb_least_places_n_3)) (sRet (eVar 2))))
noncomputable def R_least_places_n : Fn := runF 2 10 (b_least_places_n)
noncomputable def lb_shows_alike_1 : SS :=
  sq (sIf (tOr (tVal (e2 geD (eVar 3) (eCall lenF [eVar 0]))) (tOr (tVal (e2 geD (eVar 4) (eCall lenF [eVar 1]))) (tVal (e2 neD (e2 ixD (e2 ixD (eVar 0) (eVar 3)) (eC (.int 0))) (e2 ixD (e2 ixD (eVar 1) (eVar 4)) (eC (.int 0))))))) (sRet (eC (.bl false))) (sNx)) (sIf (tOr (tVal (e2 ninD (eTup [e2 ixD (e2 ixD (eVar 0) (eVar 3)) (eC (.int 1)), e2 ixD (e2 ixD (eVar 1) (eVar 4)) (eC (.int 1))]) (eVar 2))) (tVal (e2 ninD (eTup [e2 ixD (e2 ixD (eVar 0) (eVar 3)) (eC (.int 2)), e2 ixD (e2 ixD (eVar 1) (eVar 4)) (eC (.int 2))]) (eVar 2)))) (sRet (eC (.bl false))) (sNx))
noncomputable def b_shows_alike : SS :=
  sq (sIf (tVal (e2 ninD (eTup [eC (.int 0), eC (.int 0)]) (eVar 2))) (sRet (eC (.bl false))) (sNx)) (sq (sFor (iAny (eVar 2)) (gTup [gName 3, gName 4]) (lb_shows_alike_1)) (sRet (eC (.bl true))))
noncomputable def R_shows_alike : Fn := runF 3 5 (b_shows_alike)
noncomputable def lb_law_spring_1 : SS :=
  sAsg (e2 modD (e2 addD (e2 mulD (eVar 1) (eC (.int 69621))) (eVar 2)) (eC (.int 2147483647))) (gName 1)
noncomputable def b_law_spring : SS :=
  sq (sAsg (eC (.int 987654321)) (gName 1)) (sq (sFor (iAny (eVar 0)) (gName 2) (lb_law_spring_1)) (sRet (eLst [eCall listF [eVar 0], eC (.int 0), eVar 1])))
noncomputable def R_law_spring : Fn := runF 1 3 (b_law_spring)
noncomputable def b_law_drop : SS :=
  sq (sIf (tAnd (tVal (e2 eqD (e2 ixD (eVar 0) (eC (.int 1))) (eC (.int 0)))) (tVal (e2 gtD (eCall lenF [e2 ixD (eVar 0) (eC (.int 0))]) (eC (.int 0))))) (sq (sAsg (eMt .list popF (e2 ixD (eVar 0) (eC (.int 0))) [eC (.int 0)]) (gName 2)) (sq (sIf (tVal (e2 ltD (eCall absF [eVar 2]) (e2 powD (eC (.int 10)) (eC (.int 18))))) (sRet (e2 modD (eVar 2) (eVar 1))) (sNx)) (sAsg (eCall absF [eVar 2]) (setF (eVar 0) (eC (.int 1)))))) (sNx)) (sq (sIf (tVal (e2 gtD (e2 ixD (eVar 0) (eC (.int 1))) (eC (.int 0)))) (sq (sAsg (e2 modD (e2 ixD (eVar 0) (eC (.int 1))) (eVar 1)) (gName 3)) (sq (sAsg (e2 fdivD (e2 ixD (eVar 0) (eC (.int 1))) (eVar 1)) (setF (eVar 0) (eC (.int 1)))) (sRet (eVar 3)))) (sNx)) (sq (sAsg (e2 modD (e2 addD (e2 mulD (e2 ixD (eVar 0) (eC (.int 2))) (e2 ixD (eVar 0) (eC (.int 2)))) (eC (.int 7919))) (eC (.int 2147483647))) (setF (eVar 0) (eC (.int 2)))) (sRet (e2 modD (e2 fdivD (e2 ixD (eVar 0) (eC (.int 2))) (eC (.int 8))) (eVar 1)))))
noncomputable def R_law_drop : Fn := runF 2 4 (b_law_drop)
noncomputable def lb_law_both_met_1 : SS :=
  sIf (tVal (e2 nNi (eVar 8) (eVar 4))) (sq (sNPut (eVar 4) (eVar 8) (eC (.bl true))) (sExp (eMt .list appendF (eVar 3) [eVar 8]))) (sNx)
noncomputable def lb_law_both_met_2 : SS :=
  sq (sAsg (e2 ixD (eVar 3) (eVar 5)) (gTup [gName 6, gName 7])) (sq (sFor (iZip (eSl (e2 nGet (eVar 0) (eVar 6)) (some (eC (.int 1))) none) (eSl (e2 nGet (eVar 0) (eVar 7)) (some (eC (.int 1))) none)) (gName 8) (lb_law_both_met_1)) (sAsg (e2 addD (eVar 5) (eC (.int 1))) (gName 5)))
noncomputable def b_law_both_met : SS :=
  sq (sAsg (eLst [eTup [eVar 1, eVar 2]]) (gName 3)) (sq (sAsg (eNDct1 (eTup [eVar 1, eVar 2]) (eC (.bl true))) (gName 4)) (sq (sAsg (eC (.int 0)) (gName 5)) (sq (sWh (tVal (e2 ltD (eVar 5) (eCall lenF [eVar 3]))) (lb_law_both_met_2)) (sRet (eVar 3)))))
noncomputable def R_law_both_met : Fn := runF 3 9 (b_law_both_met)
noncomputable def lb_law_pairing_1 : SS :=
  sq (sIf (tVal (e2 neD (e2 ixD (e2 ixD (eVar 0) (eVar 3)) (eC (.int 0))) (e2 ixD (e2 ixD (eVar 1) (eVar 4)) (eC (.int 0))))) (sRet (eC (.bl false))) (sNx)) (sIf (tOr (tVal (e2 ninD (eTup [e2 ixD (e2 ixD (eVar 0) (eVar 3)) (eC (.int 1)), e2 ixD (e2 ixD (eVar 1) (eVar 4)) (eC (.int 1))]) (eVar 2))) (tVal (e2 ninD (eTup [e2 ixD (e2 ixD (eVar 0) (eVar 3)) (eC (.int 2)), e2 ixD (e2 ixD (eVar 1) (eVar 4)) (eC (.int 2))]) (eVar 2)))) (sRet (eC (.bl false))) (sNx))
noncomputable def b_law_pairing : SS :=
  sq (sIf (tOr (tNot (tVal (e1 (isiD .list) (eVar 2)))) (tVal (e2 ninD (eTup [eC (.int 0), eC (.int 0)]) (eVar 2)))) (sRet (eC (.bl false))) (sNx)) (sq (sFor (iAny (eVar 2)) (gTup [gName 3, gName 4]) (lb_law_pairing_1)) (sRet (eC (.bl true))))
noncomputable def R_law_pairing : Fn := runF 3 5 (b_law_pairing)
noncomputable def lb_law_due_v7_1 : SS :=
  sIf (tVal (e2 ninD (eTup [e2 ixD (e2 ixD (eVar 0) (eVar 3)) (eVar 5), e2 ixD (e2 ixD (eVar 1) (eVar 4)) (eVar 5)]) (eVar 2))) (sRet (eC (.bl false))) (sNx)
noncomputable def lb_law_due_v7_2 : SS :=
  sq (sIf (tOr (tNot (tVal (eCh leD ltD (eC (.int 0)) (eVar 3) (eCall lenF [eVar 0])))) (tOr (tNot (tVal (eCh leD ltD (eC (.int 0)) (eVar 4) (eCall lenF [eVar 1])))) (tVal (e2 neD (e2 ixD (e2 ixD (eVar 0) (eVar 3)) (eC (.int 0))) (e2 ixD (e2 ixD (eVar 1) (eVar 4)) (eC (.int 0))))))) (sRet (eC (.bl false))) (sNx)) (sFor (iAny (eTup [eC (.int 1), eC (.int 2)])) (gName 5) (lb_law_due_v7_1))
noncomputable def b_law_due_v7 : SS :=
  sq (sIf (tVal (e2 ninD (eTup [eC (.int 0), eC (.int 0)]) (eVar 2))) (sRet (eC (.bl false))) (sNx)) (sq (sFor (iAny (eVar 2)) (gTup [gName 3, gName 4]) (lb_law_due_v7_2)) (sRet (eC (.bl true))))
noncomputable def R_law_due_v7 : Fn := runF 3 6 (b_law_due_v7)
noncomputable def lb_alike_n_1 : SS :=
  sNPut (eVar 3) (eTup [eVar 4, eVar 5]) (eTup [eTup [e2 ixD (e2 ixD (eVar 0) (eVar 4)) (eC (.int 1)), e2 ixD (e2 ixD (eVar 1) (eVar 5)) (eC (.int 1))], eTup [e2 ixD (e2 ixD (eVar 0) (eVar 4)) (eC (.int 2)), e2 ixD (e2 ixD (eVar 1) (eVar 5)) (eC (.int 2))]])
noncomputable def b_alike_n (F_pairs_met : Fn) (F_least_places : Fn) : SS :=
  sq (sAsg (eCall F_pairs_met [eVar 0, eVar 1]) (gName 2)) (sq (sAsg (eDctN) (gName 3)) (sq (sFor (iAny (eVar 2)) (gTup [gName 4, gName 5]) (lb_alike_n_1)) (sq (sAsg (eLc (iAny (eVar 2)) (gName 8) (tVal (e2 neD (e2 ixD (e2 ixD (eVar 0) (e2 ixD (eVar 8) (eC (.int 0)))) (eC (.int 0))) (e2 ixD (e2 ixD (eVar 1) (e2 ixD (eVar 8) (eC (.int 1)))) (eC (.int 0))))) (eVar 8) [8]) (gName 6)) (sq (sAsg (eCall F_least_places [eVar 3, eVar 6]) (gName 7)) (sq (sIf (tVal (e2 nIn (eTup [eC (.int 0), eC (.int 0)]) (eVar 7))) (sRet (eTup [eC (.str [117, 110, 108, 105, 107, 101]), e2 nGet (eVar 7) (eTup [eC (.int 0), eC (.int 0)])])) (sNx)) (sRet (eTup [eC (.str [97, 108, 105, 107, 101]), eVar 2])))))))
noncomputable def R_alike_n : Fn := runF 2 9 (b_alike_n R_pairs_met_n R_least_places_n)
noncomputable def lb_law_any_machine_1 (F_law_drop : Fn) : SS :=
  sq (sAsg (eLc (iR1 (eVar 2)) (gName 9) (tVal (e2 eqD (e2 ixD (eVar 5) (eVar 9)) (eVar 7))) (eVar 9) [9]) (gName 8)) (sExp (eMt .list appendF (eVar 6) [eTup [eVar 7, e2 ixD (eVar 8) (eCall F_law_drop [eVar 0, eCall lenF [eVar 8]]), eCall F_law_drop [eVar 0, eVar 2]]]))
noncomputable def b_law_any_machine (F_law_drop : Fn) : SS :=
  sq (sAsg (e2 addD (eC (.int 1)) (eCall F_law_drop [eVar 0, eVar 1])) (gName 2)) (sq (sAsg (e2 addD (eC (.int 1)) (eCall F_law_drop [eVar 0, eC (.int 3)])) (gName 3)) (sq (sAsg (eCall F_law_drop [eVar 0, eC (.int 10)]) (gName 4)) (sq (sAsg (eLc (iR1 (eVar 2)) (gName 9) (tYes) (e2 modD (e2 addD (eVar 4) (eCall F_law_drop [eVar 0, eVar 3])) (eC (.int 10))) [9]) (gName 5)) (sq (sAsg (eLst []) (gName 6)) (sq (sFor (iAny (eVar 5)) (gName 7) (lb_law_any_machine_1 F_law_drop)) (sRet (eCall tupleF [eVar 6])))))))
noncomputable def R_law_any_machine : Fn := runF 2 10 (b_law_any_machine R_law_drop)
noncomputable def lb_law_parts_1 : SS :=
  sq (sAsg (eNGet1 (eVar 4) (eTup [e2 ixD (e2 nGet (eVar 0) (eVar 6)) (eVar 8), e2 ixD (e2 nGet (eVar 0) (eVar 7)) (eVar 8)])) (gName 9)) (sIf (tVal (e2 isntD (eVar 9) (eC .non))) (sq (sAsg (e2 subD (e2 addD (e2 mulD (eC (.int 2)) (eVar 9)) (eVar 8)) (eC (.int 1))) (gName 10)) (sIf (tVal (e2 gtD (eNGet2 (eVar 4) (eTup [eVar 6, eVar 7]) (e2 addD (eVar 10) (eC (.int 1)))) (eVar 10))) (sq (sNPut (eVar 4) (eTup [eVar 6, eVar 7]) (eVar 10)) (sAsg (eC (.bl true)) (gName 5))) (sNx))) (sNx))
noncomputable def lb_law_parts_2 : SS :=
  sFor (iAny (eTup [eC (.int 1), eC (.int 2)])) (gName 8) (lb_law_parts_1)
noncomputable def lb_law_parts_3 : SS :=
  sq (sAsg (eC (.bl false)) (gName 5)) (sFor (iAny (eVar 3)) (gTup [gName 6, gName 7]) (lb_law_parts_2))
noncomputable def b_law_parts (F_law_both_met : Fn) : SS :=
  sq (sAsg (eCall F_law_both_met [eVar 0, eVar 1, eVar 2]) (gName 3)) (sq (sAsg (eCall dictNF [eLc (iAny (eVar 3)) (gName 11) (tVal (e2 neD (e2 ixD (e2 nGet (eVar 0) (e2 ixD (eVar 11) (eC (.int 0)))) (eC (.int 0))) (e2 ixD (e2 nGet (eVar 0) (e2 ixD (eVar 11) (eC (.int 1)))) (eC (.int 0))))) (eTup [eVar 11, eC (.int 0)]) [11]]) (gName 4)) (sq (sAsg (eC (.bl true)) (gName 5)) (sq (sWh (tVal (eVar 5)) (lb_law_parts_3)) (sRet (eNGet1 (eVar 4) (eTup [eVar 1, eVar 2]))))))
noncomputable def R_law_parts : Fn := runF 3 12 (b_law_parts R_law_both_met)
noncomputable def lb_law_twins_1 (F_law_drop : Fn) : SS :=
  sq (sAsg (e2 ixD (eVar 1) (e2 modD (eVar 4) (eVar 2))) (gTup [gName 5, gName 6, gName 7])) (sExp (eMt .list appendF (eVar 3) [eTup [eVar 5, e2 addD (eVar 6) (e2 mulD (eVar 2) (eCall F_law_drop [eVar 0, eC (.int 2)])), e2 addD (eVar 7) (e2 mulD (eVar 2) (eCall F_law_drop [eVar 0, eC (.int 2)]))]]))
noncomputable def b_law_twins (F_law_drop : Fn) : SS :=
  sq (sAsg (eCall lenF [eVar 1]) (gName 2)) (sq (sAsg (eLst []) (gName 3)) (sq (sFor (iR1 (e2 mulD (eC (.int 2)) (eVar 2))) (gName 4) (lb_law_twins_1 F_law_drop)) (sq (sIf (tVal (e2 eqD (eCall F_law_drop [eVar 0, eC (.int 3)]) (eC (.int 0)))) (sq (sAsg (eCall F_law_drop [eVar 0, e2 mulD (eC (.int 2)) (eVar 2)]) (gName 8)) (sAsg (e2 addD (eSl (e2 ixD (eVar 3) (eVar 8)) none (some (eC (.int 2)))) (eTup [eCall F_law_drop [eVar 0, e2 mulD (eC (.int 2)) (eVar 2)]])) (setF (eVar 3) (eVar 8)))) (sNx)) (sRet (eCall tupleF [eVar 3])))))
noncomputable def R_law_twins : Fn := runF 2 9 (b_law_twins R_law_drop)
noncomputable def lb_law_bent_v7_1 (F_law_drop : Fn) : SS :=
  sq (sAsg (eCall F_law_drop [eVar 0, eC (.int 7)]) (gName 5)) (sq (sAsg (eCall F_law_drop [eVar 0, e2 addD (eCall lenF [eVar 3]) (eC (.int 1))]) (gName 6)) (sq (sAsg (eTup [eC (.int 0), eC (.int 0)]) (gName 7)) (sq (sIf (tVal (e2 ltD (eVar 5) (eC (.int 4)))) (sAsg (eTup [eCall F_law_drop [eVar 0, e2 addD (eCall lenF [eVar 1]) (eC (.int 1))], eCall F_law_drop [eVar 0, e2 addD (eCall lenF [eVar 2]) (eC (.int 1))]]) (gName 7)) (sNx)) (sq (sIf (tVal (e2 eqD (eVar 5) (eC (.int 3)))) (sAsg (e2 ixD (eLst [eTup [e2 ixD (eVar 7) (eC (.int 0)), e2 addD (e2 powD (eC (.int 10)) (eC (.int 59))) (e2 ixD (eVar 7) (eC (.int 1)))], eTup [e2 addD (e2 powD (eC (.int 10)) (eC (.int 59))) (e2 ixD (eVar 7) (eC (.int 0))), e2 ixD (eVar 7) (eC (.int 1))]]) (eCall F_law_drop [eVar 0, eC (.int 2)])) (gName 7)) (sNx)) (sIf (tVal (e2 eqD (eVar 5) (eC (.int 4)))) (sAsg (e2 addD (eSl (eVar 3) none (some (eVar 6))) (eSl (eVar 3) (some (e2 addD (eVar 6) (eC (.int 1)))) none)) (gName 3)) (sIf (tVal (e2 eqD (eVar 5) (eC (.int 5)))) (sAsg (e2 addD (eVar 3) (eSl (eVar 3) (some (eVar 6)) (some (e2 addD (eVar 6) (eC (.int 2)))))) (gName 3)) (sIf (tVal (e2 eqD (eVar 5) (eC (.int 6)))) (sAsg (e1 revD (eVar 3)) (gName 3)) (sIf (tVal (e2 eqD (eVar 5) (eC (.int 0)))) (sAsg (e2 addD (e2 addD (eSl (eVar 3) none (some (eVar 6))) (eLst [eVar 7])) (eSl (eVar 3) (some (e2 addD (eVar 6) (eC (.int 1)))) none)) (gName 3)) (sAsg (e2 addD (e2 addD (eSl (eVar 3) none (some (eVar 6))) (eLst [eVar 7])) (eSl (eVar 3) (some (eVar 6)) none)) (gName 3))))))))))
noncomputable def b_law_bent_v7 (F_law_drop : Fn) : SS :=
  sq (sFor (iR1 (e2 addD (eC (.int 1)) (eCall F_law_drop [eVar 0, eC (.int 2)]))) (gName 4) (lb_law_bent_v7_1 F_law_drop)) (sRet (eVar 3))
noncomputable def R_law_bent_v7 : Fn := runF 4 8 (b_law_bent_v7 R_law_drop)
noncomputable def b_law_alike_right_n (F_alike : Fn) (F_law_pairing : Fn) (F_shows_alike : Fn) : SS :=
  sq (sAsg (eCall F_alike [eVar 0, eVar 1]) (gName 3)) (sq (sIf (tOr (tNot (tVal (e1 (isiD .tuple) (eVar 3)))) (tOr (tVal (e2 neD (eCall lenF [eVar 3]) (eC (.int 2)))) (tVal (e2 neD (e2 ixD (eVar 3) (eC (.int 0))) (e2 ixD (eLst [eC (.str [117, 110, 108, 105, 107, 101]), eC (.str [97, 108, 105, 107, 101])]) (eCall intF [e2 isD (eVar 2) (eC .non)])))))) (sRet (eC (.bl false))) (sNx)) (sq (sIf (tVal (e2 isD (eVar 2) (eC .non))) (sRet (eAnd (eCall F_law_pairing [eVar 0, eVar 1, e2 ixD (eVar 3) (eC (.int 1))]) (e2 isD (eCall F_shows_alike [eVar 0, eVar 1, e2 ixD (eVar 3) (eC (.int 1))]) (eC (.bl true))))) (sNx)) (sRet (e2 eqD (eCall reprD [e2 ixD (eVar 3) (eC (.int 1))]) (eCall reprD [eVar 2])))))
noncomputable def R_law_alike_right_n : Fn := runF 3 4 (b_law_alike_right_n R_alike_n R_law_pairing R_shows_alike)
noncomputable def b_law_opened (F_law_opened : Fn) : SS :=
  sq (sIf (tVal (e2 eqD (e2 ixD (eVar 1) (eC (.int 0))) (eC (.str [109])))) (sq (sAsg (e2 ixD (e2 ixD (eVar 0) (e2 ixD (eVar 1) (eC (.int 1)))) (e2 ixD (eVar 1) (eC (.int 2)))) (gTup [gName 2, gName 3, gName 4])) (sRet (eTup [eVar 2, eTup [eC (.str [109]), e2 ixD (eVar 1) (eC (.int 1)), eVar 3], eTup [eC (.str [109]), e2 ixD (eVar 1) (eC (.int 1)), eVar 4]]))) (sNx)) (sq (sIf (tVal (e2 eqD (e2 ixD (eVar 1) (eC (.int 0))) (eC (.str [122])))) (sRet (eTup [e2 ixD (eCall F_law_opened [eVar 0, e2 ixD (eVar 1) (eC (.int 1))]) (eC (.int 0)), e2 ixD (eVar 1) (eC (.int 1)), e2 ixD (eVar 1) (eC (.int 2))])) (sNx)) (sq (sAsg (eCall F_law_opened [eVar 0, e2 ixD (eVar 1) (e1 negD (eC (.int 1)))]) (gTup [gName 2, gName 3, gName 4])) (sq (sIf (tVal (e2 eqD (e2 ixD (eVar 1) (eC (.int 0))) (eC (.str [115])))) (sRet (eTup [e2 ixD (eVar 1) (eC (.int 1)), eTup [eC (.str [115]), e2 ixD (eVar 1) (eC (.int 1)), eVar 4], eVar 3])) (sNx)) (sRet (eTup [e2 ixD (eCall F_law_opened [eVar 0, eVar 4]) (eC (.int 0)), eVar 4, eTup [eC (.str [98]), eVar 3]])))))
noncomputable def R_law_opened : Nat → Fn
  | 0 => fun _ _ => none
  | d + 1 => runF 2 5 (b_law_opened (R_law_opened d))
noncomputable def lb_law_states_1 (F_law_opened : Fn) : SS :=
  sq (sAsg (eMt .list popF (eVar 3) []) (gName 4)) (sIf (tVal (e2 nNi (eVar 4) (eVar 2))) (sq (sNPut (eVar 2) (eVar 4) (eCall F_law_opened [eVar 0, eVar 4])) (sExp (eMt .list extendTF (eVar 3) [eSl (e2 nGet (eVar 2) (eVar 4)) (some (eC (.int 1))) none]))) (sNx))
noncomputable def b_law_states (F_law_opened : Fn) : SS :=
  sq (sAsg (eDctN) (gName 2)) (sq (sAsg (eCall listF [eVar 1]) (gName 3)) (sq (sWh (tVal (e2 neD (eVar 3) (eLst []))) (lb_law_states_1 F_law_opened)) (sRet (eVar 2))))
noncomputable def R_law_states : Fn := runF 2 5 (b_law_states (R_law_opened 24))
noncomputable def lb_law_v24_n_1 (F_law_bent : Fn) (F_shows_alike : Fn) (F_law_due : Fn) : SS :=
  sq (sAsg (eVar 8) (gName 10)) (sq (sIf (tVal (e2 gtD (eVar 9) (eC (.int 0)))) (sAsg (eCall F_law_bent [eVar 1, eVar 2, eVar 3, eVar 8]) (gName 10)) (sNx)) (sq (sAsg (eCall listF [eVar 10]) (gName 11)) (sq (sAsg (eCall F_shows_alike [eVar 2, eVar 3, eVar 10]) (gName 12)) (sIf (tOr (tNot (tVal (e1 (isiD .bool) (eVar 12)))) (tOr (tVal (e2 neD (eVar 12) (eCall F_law_due [eVar 2, eVar 3, eVar 11]))) (tVal (e2 neD (eVar 11) (eVar 10))))) (sRet (eC (.bl false))) (sNx)))))
noncomputable def b_law_v24_n (F_law_spring : Fn) (F_law_any_machine : Fn) (F_law_drop : Fn) (F_law_twins : Fn) (F_law_states : Fn) (F_law_parts : Fn) (F_law_alike_right : Fn) (F_law_both_met : Fn) (F_law_bent : Fn) (F_shows_alike : Fn) (F_law_due : Fn) : SS :=
  sq (sAsg (eCall F_law_spring [eVar 0]) (gName 1)) (sq (sAsg (eCall F_law_any_machine [eVar 1, eC (.int 6)]) (gName 2)) (sq (sAsg (eCall F_law_any_machine [eVar 1, eC (.int 6)]) (gName 3)) (sq (sIf (tVal (e2 eqD (eCall F_law_drop [eVar 1, eC (.int 2)]) (eC (.int 0)))) (sAsg (eCall F_law_twins [eVar 1, eVar 2]) (gName 3)) (sNx)) (sq (sAsg (eTup [eC (.str [109]), eC (.int 0), eC (.int 0)]) (gName 4)) (sq (sAsg (eTup [eC (.str [109]), eC (.int 1), eC (.int 0)]) (gName 5)) (sq (sAsg (eCall F_law_states [eLst [eVar 2, eVar 3], eLst [eVar 4, eVar 5]]) (gName 6)) (sq (sAsg (eCall F_law_parts [eVar 6, eVar 4, eVar 5]) (gName 7)) (sq (sIf (tOr (tNot (tVal (eCall F_law_alike_right [eVar 2, eVar 3, eVar 7]))) (tNot (tVal (eCall F_law_alike_right [eVar 3, eVar 2, eVar 7])))) (sRet (eC (.bl false))) (sNx)) (sq (sIf (tNot (tVal (eCall F_law_alike_right [eVar 2, eVar 2, eC .non]))) (sRet (eC (.bl false))) (sNx)) (sq (sAsg (eLc (iAny (eCall F_law_both_met [eVar 6, eVar 4, eVar 5])) (gTup [gName 13, gName 14]) (tYes) (eTup [e2 ixD (eVar 13) (eC (.int 2)), e2 ixD (eVar 14) (eC (.int 2))]) [13, 14]) (gName 8)) (sq (sFor (iR1 (eC (.int 9))) (gName 9) (lb_law_v24_n_1 F_law_bent F_shows_alike F_law_due)) (sRet (eC (.bl true))))))))))))))
noncomputable def R_law_v24_n : Fn := runF 1 15 (b_law_v24_n R_law_spring R_law_any_machine R_law_drop R_law_twins R_law_states R_law_parts R_law_alike_right_n R_law_both_met R_law_bent_v7 R_shows_alike R_law_due_v7)
noncomputable def b_split : SS :=
  sRet (eTup [e1 (stepTD 0) (eVar 0), e1 (stepTD 1) (eVar 0)])
noncomputable def R_split : Fn := runF 1 1 (b_split)
noncomputable def lb_shortest_turn_1 : SS :=
  sIf (tAnd (tVal (e2 eqD (e2 modD (eCall lenF [eVar 0]) (eVar 1)) (eC (.int 0)))) (tVal (e2 eqD (e2 mulD (eSl (eVar 0) none (some (eVar 1))) (e2 fdivD (eCall lenF [eVar 0]) (eVar 1))) (eVar 0)))) (sRet (eSl (eVar 0) none (some (eVar 1)))) (sNx)
noncomputable def b_shortest_turn : SS :=
  sq (sFor (iR2 (eC (.int 1)) (eCall lenF [eVar 0])) (gName 1) (lb_shortest_turn_1)) (sRet (eVar 0))
noncomputable def R_shortest_turn : Fn := runF 1 2 (b_shortest_turn)
noncomputable def b_past_zip : SS :=
  sq (sAsg (e2 fdivD (eVar 1) (eC (.int 2))) (gName 2)) (sq (sIf (tVal (e2 eqD (e2 modD (eVar 1) (eC (.int 2))) (eC (.int 0)))) (sRet (eTup [eTup [eVar 2, e2 ixD (eVar 0) (eC (.int 1))], eTup [eVar 2, e2 ixD (eVar 0) (eC (.int 2))]])) (sNx)) (sRet (eTup [eTup [eVar 2, e2 ixD (eVar 0) (eC (.int 2))], eTup [e2 addD (eVar 2) (eC (.int 1)), e2 ixD (eVar 0) (eC (.int 1))]])))
noncomputable def R_past_zip : Fn := runF 2 3 (b_past_zip)
noncomputable def b_first_sign : SS :=
  sq (sIf (tVal (e2 eqD (e2 ixD (eVar 0) (eC (.int 0))) (eC (.str [119, 104, 101, 101, 108])))) (sRet (e2 ixD (e2 addD (e2 ixD (eVar 0) (eC (.int 1))) (e2 ixD (eVar 0) (eC (.int 2)))) (eC (.int 0)))) (sNx)) (sq (sIf (tVal (e2 neD (e2 ixD (eVar 0) (eC (.int 1))) (eTup []))) (sRet (e2 ixD (e2 ixD (eVar 0) (eC (.int 1))) (eC (.int 0)))) (sNx)) (sRet (eC .non)))
noncomputable def R_first_sign : Fn := runF 1 1 (b_first_sign)
noncomputable def b_Opening_step : SS :=
  sIf (tVal (e2 eqD (e2 ixD (eFld "Opening" "form" (eVar 0)) (eC (.int 0))) (eC (.str [98, 101, 104, 105, 110, 100])))) (sq (Z.sFld "Opening" "drop" (eVar 0) (e2 addD (eFld "Opening" "drop" (eVar 0)) (eC (.int 1)))) (Z.sFld "Opening" "form" (eVar 0) (e2 ixD (eVar 1) (e2 ixD (eFld "Opening" "form" (eVar 0)) (eC (.int 1)))))) (sq (sIf (tVal (e2 gtD (eFld "Opening" "drop" (eVar 0)) (eC (.int 0)))) (Z.sFld "Opening" "drop" (eVar 0) (e2 subD (eFld "Opening" "drop" (eVar 0)) (eC (.int 1)))) (sExp (eMt .list appendF (eFld "Opening" "word" (eVar 0)) [e2 ixD (eFld "Opening" "form" (eVar 0)) (eC (.int 1))]))) (Z.sFld "Opening" "form" (eVar 0) (e2 ixD (eVar 1) (e2 ixD (eFld "Opening" "form" (eVar 0)) (eC (.int 2))))))
noncomputable def R_Opening_step : Fn := runF 2 2 (b_Opening_step)
noncomputable def lb_wheel_1 : SS :=
  sq (sAsg (eSl (eVar 0) none (some (e1 negD (eC (.int 1))))) (gName 0)) (sAsg (e2 addD (eSl (eVar 1) (some (e1 negD (eC (.int 1)))) none) (eSl (eVar 1) none (some (e1 negD (eC (.int 1)))))) (gName 1))
noncomputable def b_wheel (F_shortest_turn : Fn) : SS :=
  sq (sAsg (eCall F_shortest_turn [eVar 1]) (gName 1)) (sq (sWh (tAnd (tVal (e2 neD (eVar 0) (eTup []))) (tVal (e2 eqD (e2 ixD (eVar 0) (e1 negD (eC (.int 1)))) (e2 ixD (eVar 1) (e1 negD (eC (.int 1))))))) (lb_wheel_1)) (sRet (eTup [eC (.str [119, 104, 101, 101, 108]), eVar 0, eVar 1])))
noncomputable def R_wheel : Fn := runF 2 2 (b_wheel R_shortest_turn)
noncomputable def b_halves (F_split : Fn) (F_wheel : Fn) : SS :=
  sq (sIf (tVal (e2 eqD (e2 ixD (eVar 0) (eC (.int 0))) (eC (.str [119, 104, 101, 101, 108])))) (sq (sAsg (eSl (eVar 0) (some (eC (.int 1))) none) (gTup [gName 1, gName 2])) (sq (sIf (tVal (e2 eqD (e2 modD (eCall lenF [eVar 1]) (eC (.int 2))) (eC (.int 1)))) (sq (sAsg (e2 addD (eVar 1) (eSl (eVar 2) none (some (eC (.int 1))))) (gName 1)) (sAsg (e2 addD (eSl (eVar 2) (some (eC (.int 1))) none) (eSl (eVar 2) none (some (eC (.int 1))))) (gName 2))) (sNx)) (sq (sAsg (e2 addD (eVar 2) (eVar 2)) (gName 2)) (sq (sAsg (eCall F_split [eVar 1]) (gTup [gName 3, gName 4])) (sRet (eTup [eCall F_wheel [eVar 3, e1 (stepTD 0) (eVar 2)], eCall F_wheel [eVar 4, e1 (stepTD 1) (eVar 2)]])))))) (sNx)) (sq (sAsg (eCall F_split [e2 ixD (eVar 0) (eC (.int 1))]) (gTup [gName 3, gName 4])) (sq (sAsg (e2 ixD (eVar 0) (eC (.int 2))) (gTup [gName 5, gName 6])) (sq (sIf (tVal (e2 eqD (e2 modD (eCall lenF [e2 ixD (eVar 0) (eC (.int 1))]) (eC (.int 2))) (eC (.int 1)))) (sPar 5 6 (eVar 6) (eVar 5)) (sNx)) (sRet (eTup [e2 addD (eTup [eC (.str [114, 111, 112, 101]), eVar 3]) (eVar 5), e2 addD (eTup [eC (.str [114, 111, 112, 101]), eVar 4]) (eVar 6)])))))
noncomputable def R_halves : Fn := runF 1 7 (b_halves R_split R_wheel)
noncomputable def b_Opening___init___n : SS :=
  sq (Z.sFld "Opening" "word" (eVar 0) (eCall listF [eVar 1])) (sq (Z.sFld "Opening" "drop" (eVar 0) (eVar 2)) (sq (Z.sFld "Opening" "form" (eVar 0) (eVar 3)) (sq (Z.sFld "Opening" "seen" (eVar 0) (eDctN)) (Z.sFld "Opening" "lows" (eVar 0) (eDctN)))))
noncomputable def R_Opening___init___n : Fn := runF 4 4 (b_Opening___init___n)
noncomputable def b_Opening_come_again_n (F_wheel : Fn) : SS :=
  sq (sAsg (e2 ixD (eFld "Opening" "form" (eVar 0)) (eC (.int 1))) (gName 1)) (sq (sAsg (eCall lenF [eFld "Opening" "word" (eVar 0)]) (gName 2)) (sq (sAsg (eNGet2 (eFld "Opening" "seen" (eVar 0)) (eTup [eVar 1, eFld "Opening" "drop" (eVar 0)]) (eVar 2)) (gName 3)) (sq (sIf (tVal (e2 ltD (eVar 3) (eVar 2))) (sRet (eCall F_wheel [eCall tupleF [eSl (eFld "Opening" "word" (eVar 0)) none (some (eVar 3))], eCall tupleF [eSl (eFld "Opening" "word" (eVar 0)) (some (eVar 3)) none]])) (sNx)) (sq (sIf (tVal (e2 leD (eNGet2 (eFld "Opening" "lows" (eVar 0)) (eTup [eVar 1, eVar 2]) (e2 addD (eFld "Opening" "drop" (eVar 0)) (eC (.int 1)))) (eFld "Opening" "drop" (eVar 0)))) (sRet (eCall F_wheel [eCall tupleF [eFld "Opening" "word" (eVar 0)], eTup [eC .non]])) (sNx)) (sq (sNPut (eFld "Opening" "seen" (eVar 0)) (eTup [eVar 1, eFld "Opening" "drop" (eVar 0)]) (eVar 2)) (sq (sNPut (eFld "Opening" "lows" (eVar 0)) (eTup [eVar 1, eVar 2]) (eFld "Opening" "drop" (eVar 0))) (sRet (eC .non))))))))
noncomputable def R_Opening_come_again_n : Fn := runF 1 4 (b_Opening_come_again_n R_wheel)
noncomputable def lb_opened_n_1 (F_Opening_come_again : Fn) (F_Opening_step : Fn) : SS :=
  sIf (tVal (e2 eqD (e2 ixD (eFld "Opening" "form" (eVar 3)) (eC (.int 0))) (eC (.str [114, 111, 119])))) (sq (sAsg (eMeth "Opening" "come_again" F_Opening_come_again (eVar 3) []) (gName 4)) (sq (sIf (tVal (e2 isntD (eVar 4) (eC .non))) (sRet (eVar 4)) (sNx)) (Z.sFld "Opening" "form" (eVar 3) (e2 ixD (eVar 0) (e2 fGet (eVar 1) (e2 ixD (eFld "Opening" "form" (eVar 3)) (eC (.int 1)))))))) (sExp (eMeth "Opening" "step" F_Opening_step (eVar 3) [eVar 0]))
noncomputable def b_opened_n (F_Opening___init__ : Fn) (F_Opening_come_again : Fn) (F_Opening_step : Fn) (F_past_zip : Fn) : SS :=
  sq (sIf (tVal (e2 eqD (e2 ixD (eVar 2) (eC (.int 0))) (eC (.str [119, 104, 101, 101, 108])))) (sRet (eVar 2)) (sNx)) (sq (sAsg (eMake "Opening" F_Opening___init__ [e2 ixD (eVar 2) (eC (.int 1)), e2 ixD (eVar 2) (eC (.int 2)), e2 ixD (eVar 0) (e2 ixD (eVar 2) (eC (.int 3)))]) (gName 3)) (sq (sWh (tVal (e2 neD (e2 ixD (eFld "Opening" "form" (eVar 3)) (eC (.int 0))) (eC (.str [122, 105, 112])))) (lb_opened_n_1 F_Opening_come_again F_Opening_step)) (sRet (eTup [eC (.str [122, 105, 112]), eCall tupleF [eFld "Opening" "word" (eVar 3)], eCall F_past_zip [eFld "Opening" "form" (eVar 3), eFld "Opening" "drop" (eVar 3)]]))))
noncomputable def R_opened_n : Fn := runF 3 5 (b_opened_n R_Opening___init___n R_Opening_come_again_n R_Opening_step R_past_zip)
end Z
namespace Z
theorem forL_nil {chk : Store → Prop} {g : SG} {b : SS} {ρ : Env} {S : Store} (h : chk S) : forL chk g b [] ρ S = some (.nx ρ S) := by rw [forL, if_pos h]
theorem forL_cons {chk : Store → Prop} {g : SG} {b : SS} {x : D} {r : List D} {ρ ρ1 ρ2 : Env} {S S1 S2 : Store} (h : chk S) (hg : g x ρ S = some (ρ1, S1)) (hb : b ρ1 S1 = some (.nx ρ2 S2)) : forL chk g b (x :: r) ρ S = forL chk g b r ρ2 S2 := by
  rw [forL, if_pos h, hg]
  dsimp only
  rw [hb]
theorem forL_rt {chk : Store → Prop} {g : SG} {b : SS} {x : D} {r : List D} {ρ ρ1 : Env} {S S1 S2 : Store} {d : D} (h : chk S) (hg : g x ρ S = some (ρ1, S1)) (hb : b ρ1 S1 = some (.rt d S2)) : forL chk g b (x :: r) ρ S = some (.rt d S2) := by
  rw [forL, if_pos h, hg]
  dsimp only
  rw [hb]
theorem lcL_map {chk : Store → Prop} {g : SG} {t : ST} {e : SE} {S : Store} {ρ : Env} (f : D → D) : ∀ (xs acc : List D), acc.length + xs.length ≤ LINE →
    (∀ acc, chk (S ++ [.lst acc])) →
    (∀ x ∈ xs, ∀ acc, ∃ ρ1, g x ρ (S ++ [.lst acc]) = some (ρ1, S ++ [.lst acc]) ∧ t ρ1 (S ++ [.lst acc]) = some (.ok true (S ++ [.lst acc])) ∧ e ρ1 (S ++ [.lst acc]) = some (.ok (f x) (S ++ [.lst acc]))) →
    lcL chk g t e S.length xs ρ (S ++ [.lst acc]) = some (.ok (.ref S.length) (S ++ [.lst (acc ++ xs.map f)]))
  | [], acc, _, hc, _ => by rw [lcL, if_pos (hc acc)]; simp
  | x :: xs, acc, hl, hc, h => by
    obtain ⟨ρ1, h1, h2, h3⟩ := h x (by simp) acc
    rw [List.length_cons] at hl
    rw [lcL, if_pos (hc acc), h1]
    dsimp only
    rw [h2, bq_ok, if_pos rfl, h3, bq_ok]
    have hlt : acc.length < LINE := by omega
    simp only [List.getElem?_append_right (Nat.le_refl _), Nat.sub_self, List.getElem?_cons_zero, if_pos hlt]
    have e : (S ++ [MO.lst acc]).set S.length (.lst (acc ++ [f x])) = S ++ [.lst (acc ++ [f x])] := by simp
    rw [e, lcL_map f xs (acc ++ [f x]) (by simp; omega) hc fun y hy => h y (List.mem_cons_of_mem _ hy)]
    simp
theorem lcL_filter {chk : Store → Prop} {g : SG} {t : ST} {e : SE} {S : Store} {ρ : Env} (q : D → Bool) (f : D → D) : ∀ (xs acc : List D), acc.length + xs.length ≤ LINE →
    (∀ acc, chk (S ++ [.lst acc])) →
    (∀ x ∈ xs, ∀ acc, ∃ ρ1, g x ρ (S ++ [.lst acc]) = some (ρ1, S ++ [.lst acc]) ∧ t ρ1 (S ++ [.lst acc]) = some (.ok (q x) (S ++ [.lst acc])) ∧ (q x = true → e ρ1 (S ++ [.lst acc]) = some (.ok (f x) (S ++ [.lst acc])))) →
    lcL chk g t e S.length xs ρ (S ++ [.lst acc]) = some (.ok (.ref S.length) (S ++ [.lst (acc ++ (xs.filter q).map f)]))
  | [], acc, _, hc, _ => by rw [lcL, if_pos (hc acc)]; simp
  | x :: xs, acc, hl, hc, h => by
    obtain ⟨ρ1, h1, h2, h3⟩ := h x (by simp) acc
    rw [List.length_cons] at hl
    rw [lcL, if_pos (hc acc), h1]
    dsimp only
    rw [h2, bq_ok]
    by_cases hq : q x = true
    · rw [if_pos hq, h3 hq, bq_ok]
      have hlt : acc.length < LINE := by omega
      simp only [List.getElem?_append_right (Nat.le_refl _), Nat.sub_self, List.getElem?_cons_zero, if_pos hlt]
      have e : (S ++ [MO.lst acc]).set S.length (.lst (acc ++ [f x])) = S ++ [.lst (acc ++ [f x])] := by simp
      rw [e, lcL_filter q f xs (acc ++ [f x]) (by simp; omega) hc fun y hy => h y (List.mem_cons_of_mem _ hy)]
      simp [hq]
    · rw [if_neg hq, lcL_filter q f xs acc (by omega) hc fun y hy => h y (List.mem_cons_of_mem _ hy)]
      simp [hq]
@[simp] theorem x_lc (it : SI) (g : SG) (t : ST) (e : SE) (own : List Nat) (ρ : Env) (S : Store) : eLc it g t e own ρ S = bd (it ρ S) fun J S1 => lcL J.chk g t e S1.length J.xs (wipe ρ own) (S1 ++ [.lst []]) := rfl
@[simp] theorem isi_str (s : List Nat) (S : Store) (t : Ty) : isiD t (.str s) S = some (.ok (.bl (match t with | .str => true | _ => false)) S) := rfl
@[simp] theorem isi_non (S : Store) (t : Ty) : isiD t .non S = some (.ok (.bl false) S) := rfl
@[simp] theorem isi_bl (b : Bool) (S : Store) (t : Ty) : isiD t (.bl b) S = some (.ok (.bl (match t with | .int => true | .bool => true | _ => false)) S) := rfl
@[simp] theorem isi_int (i : Int) (S : Store) (t : Ty) : isiD t (.int i) S = some (.ok (.bl (match t with | .int => true | _ => false)) S) := rfl
@[simp] theorem isi_tup (xs : List D) (S : Store) (t : Ty) : isiD t (.tup xs) S = some (.ok (.bl (match t with | .tuple => true | _ => false)) S) := rfl
theorem isi_ref {n : Nat} {xs : List D} {S : Store} (h : S[n]? = some (.lst xs)) (t : Ty) : isiD t (.ref n) S = some (.ok (.bl (match t with | .list => true | _ => false)) S) := by cases t <;> simp [isiD, isiB, h]
@[simp] theorem in_str (k : Nat) (z : List Nat) (S : Store) : inD (.str [k]) (.str z) S = some (.ok (.bl (decide (k ∈ z))) S) := rfl
@[simp] theorem nin_str (k : Nat) (z : List Nat) (S : Store) : ninD (.str [k]) (.str z) S = some (.ok (.bl (!decide (k ∈ z))) S) := rfl
theorem cut_len {α : Type} (xs : List α) (lo hi : Option Int) : (cut xs lo hi).length ≤ xs.length := by
  unfold cut
  simp
  omega
/-- what each round keeps -/
theorem forL_inv {chk : Store → Prop} {g : SG} {b : SS} (I : Env → Store → Prop) (hc : ∀ ρ S, I ρ S → chk S) : ∀ (l : List D), (∀ x ∈ l, ∀ ρ S, I ρ S → ∃ ρ1 S1, g x ρ S = some (ρ1, S1) ∧ ∃ ρ2 S2, b ρ1 S1 = some (.nx ρ2 S2) ∧ I ρ2 S2) → ∀ ρ S, I ρ S → ∃ ρ' S', forL chk g b l ρ S = some (.nx ρ' S') ∧ I ρ' S'
  | [], _, ρ, S, i => ⟨ρ, S, forL_nil (hc ρ S i), i⟩
  | x :: l, h, ρ, S, i => by
    obtain ⟨ρ1, S1, h1, ρ2, S2, h2, h3⟩ := h x (by simp) ρ S i
    rw [forL_cons (hc ρ S i) h1 h2]
    exact forL_inv I hc l (fun y hy => h y (List.mem_cons_of_mem _ hy)) ρ2 S2 h3
theorem set_self {S : Store} {i : Nat} {o : MO} (h : S[i]? = some o) : S.set i o = S := by
  apply List.ext_getElem?
  intro j
  by_cases hj : i = j
  · subst hj; rw [List.getElem?_set_self (List.getElem?_eq_some_iff.mp h).1, h]
  · rw [List.getElem?_set_ne hj]
theorem forL_ct {chk : Store → Prop} {g : SG} {b : SS} {x : D} {r : List D} {ρ ρ1 ρ2 : Env} {S S1 S2 : Store} (h : chk S) (hg : g x ρ S = some (ρ1, S1)) (hb : b ρ1 S1 = some (.ct ρ2 S2)) : forL chk g b (x :: r) ρ S = forL chk g b r ρ2 S2 := by
  rw [forL, if_pos h, hg]
  dsimp only
  rw [hb]
/-- rounds by their number -/
theorem forL_idx {chk : Store → Prop} {g : SG} {b : SS} (I : Nat → Env → Store → Prop) (hc : ∀ i ρ S, I i ρ S → chk S) : ∀ (l : List D) (n : Nat), (∀ i x, l[i]? = some x → ∀ ρ S, I (n + i) ρ S → ∃ ρ1 S1, g x ρ S = some (ρ1, S1) ∧ ∃ ρ2 S2, (b ρ1 S1 = some (.nx ρ2 S2) ∨ b ρ1 S1 = some (.ct ρ2 S2)) ∧ I (n + i + 1) ρ2 S2) →
    ∀ ρ S, I n ρ S → ∃ ρ' S', forL chk g b l ρ S = some (.nx ρ' S') ∧ I (n + l.length) ρ' S'
  | [], n, _, ρ, S, i => ⟨ρ, S, forL_nil (hc n ρ S i), i⟩
  | x :: l, n, h, ρ, S, i => by
    obtain ⟨ρ1, S1, h1, ρ2, S2, h2, h3⟩ := h 0 x rfl ρ S i
    obtain ⟨ρ', S', h4, h5⟩ := forL_idx I hc l (n + 1) (fun j y hy ρ S i' => by
      have := h (j + 1) y (by simpa using hy) ρ S (by rw [show n + (j + 1) = n + 1 + j by omega]; exact i')
      rw [show n + (j + 1) + 1 = n + 1 + j + 1 by omega] at this
      exact this) ρ2 S2 h3
    refine ⟨ρ', S', ?_, by rw [List.length_cons, show n + (l.length + 1) = n + 1 + l.length by omega]; exact h5⟩
    rcases h2 with h2 | h2
    · rw [forL_cons (hc n ρ S i) h1 h2, h4]
    · rw [forL_ct (hc n ρ S i) h1 h2, h4]
/-- rounds of range(n) -/
theorem forL_range {g : SG} {b : SS} {n : Nat} (I : Nat → Env → Store → Prop) (h : ∀ k, k < n → ∀ ρ S, I k ρ S → ∃ ρ1 S1, g (.int (k : Nat)) ρ S = some (ρ1, S1) ∧ ∃ ρ2 S2, (b ρ1 S1 = some (.nx ρ2 S2) ∨ b ρ1 S1 = some (.ct ρ2 S2)) ∧ I (k + 1) ρ2 S2) (ρ : Env) (S : Store) (i : I 0 ρ S) :
    ∃ ρ' S', forL (fun _ => True) g b ((List.range n).map fun (k : Nat) => .int k) ρ S = some (.nx ρ' S') ∧ I n ρ' S' := by
  have := forL_idx (chk := fun _ => True) (g := g) (b := b) I (fun _ _ _ _ => trivial) ((List.range n).map fun (k : Nat) => .int k) 0 (fun i x hx ρ S j => by
    rw [List.getElem?_map] at hx
    obtain ⟨k, hk, rfl⟩ := Option.map_eq_some_iff.mp hx
    have hi : i < n := by simpa using (List.getElem?_eq_some_iff.mp hk).1
    rw [List.getElem?_range hi] at hk
    cases hk
    rw [Nat.zero_add] at j ⊢
    exact h i hi ρ S j) ρ S i
  simpa using this
theorem get_app {S : Store} {i : Nat} {o : MO} (h : S[i]? = some o) (T : Store) : (S ++ T)[i]? = some o := by rw [List.getElem?_append_left (List.getElem?_eq_some_iff.mp h).1]; exact h
theorem atI_nat {α : Type} {xs : List α} {k : Nat} {x : α} (h : xs[k]? = some x) : atI xs (k : Int) = some x := by
  have hk := (List.getElem?_eq_some_iff.mp h).1
  have := (List.getElem?_eq_some_iff.mp h).2
  simp [atI, ixN, hk, this]
theorem sWh_go {t : ST} {b : SS} {ρ ρ2 : Env} {S S1 S2 : Store} (h : t ρ S = some (.ok true S1)) (hb : b ρ S1 = some (.nx ρ2 S2)) : sWh t b ρ S = sWh t b ρ2 S2 := by
  conv => lhs; rw [sWh]
  rw [h]
  dsimp only
  rw [hb]
theorem sWh_stop {t : ST} {b : SS} {ρ : Env} {S S1 : Store} (h : t ρ S = some (.ok false S1)) : sWh t b ρ S = some (.nx ρ S1) := by
  rw [sWh, h]
theorem cut_map {α β : Type} (f : α → β) (xs : List α) (lo hi : Option Int) : cut (xs.map f) lo hi = (cut xs lo hi).map f := by
  unfold cut; simp [List.map_drop, List.map_take]
end Z
namespace Z
structure Spr where
  cells : List Int
  carry : Int
  mixed : Int
def Spr.ok (s : Spr) : Prop := 0 ≤ s.carry ∧ 0 ≤ s.mixed ∧ s.mixed < 2147483647
/-- the spring's next number below many -/
def Spr.drop (s : Spr) (many : Int) : Int × Spr :=
  match s.carry == 0, s.cells with
  | true, cell :: r =>
    let a := if cell < 0 then -cell else cell
    if a < 1000000000000000000 then (cell % many, ⟨r, 0, s.mixed⟩)
    else (a % many, ⟨r, a / many, s.mixed⟩)
  | true, [] => let m := (s.mixed * s.mixed + 7919) % 2147483647; (m / 8 % many, ⟨[], 0, m⟩)
  | false, cs => (s.carry % many, ⟨cs, s.carry / many, s.mixed⟩)
/-- a spring stands at p, its cells at c -/
structure SprAt (S : Store) (p c : Nat) (s : Spr) : Prop where
  ne : p ≠ c
  hp : S[p]? = some (.lst [.ref c, .int s.carry, .int s.mixed])
  hc : S[c]? = some (.lst (s.cells.map .int))
  ok : s.ok
def putSpr (S : Store) (p c : Nat) (s : Spr) : Store := (S.set c (.lst (s.cells.map .int))).set p (.lst [.ref c, .int s.carry, .int s.mixed])
instance (s : Spr) : Decidable s.ok := by unfold Spr.ok; infer_instance
theorem SprAt.lt {S : Store} {p c : Nat} {s : Spr} (h : SprAt S p c s) : p < S.length ∧ c < S.length := ⟨(List.getElem?_eq_some_iff.mp h.hp).1, (List.getElem?_eq_some_iff.mp h.hc).1⟩
theorem SprAt.put {S : Store} {p c : Nat} {s s' : Spr} (h : SprAt S p c s) (o : s'.ok) : SprAt (putSpr S p c s') p c s' := by
  obtain ⟨l1, l2⟩ := h.lt
  refine ⟨h.ne, ?_, ?_, o⟩
  · unfold putSpr; rw [List.getElem?_set_self (by simpa using l1)]
  · unfold putSpr; rw [List.getElem?_set_ne h.ne, List.getElem?_set_self l2]
theorem drop_ok {s : Spr} (h : s.ok) {many : Int} (h1 : 0 < many) : (s.drop many).2.ok := by
  obtain ⟨a, b, c⟩ := h
  have hm : 0 ≤ (s.mixed * s.mixed + 7919) % 2147483647 ∧ (s.mixed * s.mixed + 7919) % 2147483647 < 2147483647 := ⟨Int.emod_nonneg _ (by decide), Int.emod_lt_of_pos _ (by decide)⟩
  unfold Spr.drop
  split
  · rename_i cell r _ _
    by_cases hz : (if cell < 0 then -cell else cell) < 1000000000000000000
    · simp only [hz, if_true]; exact ⟨Int.le_refl 0, b, c⟩
    · simp only [hz, if_false]; exact ⟨Int.ediv_nonneg (by show 0 ≤ (if cell < 0 then -cell else cell); split <;> omega) (by omega), b, c⟩
  · exact ⟨Int.le_refl 0, hm.1, hm.2⟩
  · exact ⟨Int.ediv_nonneg a (by omega), b, c⟩
theorem s_law_drop {S : Store} {p c : Nat} {s : Spr} (h : SprAt S p c s) {many : Int} (h1 : 0 < many) (h2 : many.natAbs.log2 < 9000) : R_law_drop [.ref p, .int many] S = some (.ok (.int (s.drop many).1) (putSpr S p c (s.drop many).2)) := by
  obtain ⟨lp, lc⟩ := h.lt
  have hne := h.ne
  have hne' := h.ne.symm
  obtain ⟨cells, carry, mixed⟩ := s
  have hk : 0 ≤ carry := h.ok.1
  have hp : S[p] = .lst [.ref c, .int carry, .int mixed] := by have := h.hp; rw [List.getElem?_eq_getElem lp] at this; simpa using this
  have hc : S[c] = .lst (cells.map .int) := by have := h.hc; rw [List.getElem?_eq_getElem lc] at this; simpa using this
  have hm : small mixed := (small_iff mixed).mpr (by have := h.ok; have h4 := this.2.1; have h5 := this.2.2; dsimp only at h4 h5; omega)
  have e1 : ∀ X, (S.set c X).set p (.lst [.ref c, .int carry, .int mixed]) = S.set c X := fun X => set_self (by rw [List.getElem?_set_ne hne']; exact h.hp)
  have e2 : ∀ Y, (S.set c (.lst (cells.map .int))).set p Y = S.set p Y := fun Y => by rw [set_self h.hc]
  unfold R_law_drop
  rw [run_eq (n := 2) _ _ rfl]
  unfold b_law_drop
  by_cases c0 : carry = 0
  · subst c0
    cases cells with
    | nil => simp at e2; simp [e2, h.hp, h.hc, hp, hc, lp, lc, hne, hne', atI, ixN, h1, h2, hm, Spr.drop, putSpr]
    | cons x xs =>
      by_cases hx : (if x < 0 then -x else x) < 1000000000000000000
      · simp [h.hp, h.hc, hp, hc, lp, lc, hne, hne', atI, ixN, h1, h2, hm, Spr.drop, putSpr, small_iff (10 : Int), hx, e1]
      · by_cases hy : 0 < (if x < 0 then -x else x)
        · simp [h.hp, h.hc, hp, hc, lp, lc, hne, hne', atI, ixN, h1, h2, hm, Spr.drop, putSpr, small_iff (10 : Int), hx, hy]
        · exfalso; omega
  · have h0 : 0 < carry := by omega
    have hb : (carry == 0) = false := by simp [c0]
    simp [h.hp, h.hc, hp, hc, lp, lc, hne, hne', atI, ixN, h1, h2, hm, Spr.drop, putSpr, c0, h0, hb, e2]
def Sp (S : Store) (p c : Nat) : Prop := ∃ s, SprAt S p c s
theorem Sp.ne {S : Store} {p c : Nat} (h : Sp S p c) : p ≠ c := let ⟨_, h⟩ := h; h.ne
theorem Sp.lt {S : Store} {p c : Nat} (h : Sp S p c) : p < S.length ∧ c < S.length := let ⟨_, h⟩ := h; h.lt
/-- all old objects but the spring stand -/
structure Fr (p c : Nat) (S S' : Store) : Prop where
  le : S.length ≤ S'.length
  old : ∀ i, i < S.length → i ≠ p → i ≠ c → S'[i]? = S[i]?
theorem Fr.refl {p c : Nat} {S : Store} : Fr p c S S := ⟨Nat.le_refl _, fun _ _ _ _ => rfl⟩
theorem Fr.trans {p c : Nat} {S S' S'' : Store} (a : Fr p c S S') (b : Fr p c S' S'') : Fr p c S S'' := ⟨Nat.le_trans a.le b.le, fun i h1 h2 h3 => by rw [b.old i (Nat.lt_of_lt_of_le h1 a.le) h2 h3, a.old i h1 h2 h3]⟩
theorem Fr.app {p c : Nat} {S G : Store} : Fr p c S (S ++ G) := ⟨by simp, fun i h _ _ => List.getElem?_append_left h⟩
theorem Sp.app {p c : Nat} {S G : Store} (h : Sp S p c) : Sp (S ++ G) p c := by
  obtain ⟨s, h⟩ := h
  obtain ⟨h1, h2⟩ := h.lt
  exact ⟨s, h.ne, by rw [List.getElem?_append_left h1]; exact h.hp, by rw [List.getElem?_append_left h2]; exact h.hc, h.ok⟩
theorem drop_lt {s : Spr} (h : s.ok) {many : Int} (h1 : 0 < many) : 0 ≤ (s.drop many).1 ∧ (s.drop many).1 < many := by
  have k : ∀ x : Int, 0 ≤ x % many ∧ x % many < many := fun x => ⟨Int.emod_nonneg _ (by omega), Int.emod_lt_of_pos _ h1⟩
  unfold Spr.drop
  split
  · rename_i cell _ _ _
    by_cases hz : (if cell < 0 then -cell else cell) < 1000000000000000000
    · simp only [hz, if_true]; exact k _
    · simp only [hz, if_false]; exact k _
  · exact k _
  · exact k _
theorem s_drop {S : Store} {p c : Nat} (h : Sp S p c) (many : Int) (h1 : 0 < many) (h2 : many < 18446744073709551616) : ∃ v S', R_law_drop [.ref p, .int many] S = some (.ok (.int v) S') ∧ 0 ≤ v ∧ v < many ∧ Sp S' p c ∧ S'.length = S.length ∧ Fr p c S S' := by
  obtain ⟨s, h⟩ := h
  obtain ⟨a, b⟩ := drop_lt h.ok h1
  have hl : (putSpr S p c (s.drop many).2).length = S.length := by unfold putSpr; simp
  exact ⟨_, _, s_law_drop h h1 (lg_lt (by omega)), a, b, ⟨_, h.put (drop_ok h.ok h1)⟩, hl, Nat.le_of_eq hl.symm, fun i _ g1 g2 => by unfold putSpr; rw [List.getElem?_set_ne (Ne.symm g1), List.getElem?_set_ne (Ne.symm g2)]⟩
def mixL : List Int → Int → Int
  | [], m => m
  | n :: r, m => mixL r ((m * 69621 + n) % 2147483647)
theorem mixL_ok : ∀ (ns : List Int) (m : Int), 0 ≤ m → m < 2147483647 → 0 ≤ mixL ns m ∧ mixL ns m < 2147483647
  | [], m, a, b => ⟨a, b⟩
  | n :: r, m, a, b => mixL_ok r _ (Int.emod_nonneg _ (by decide)) (Int.emod_lt_of_pos _ (by decide))
theorem spring_loop {A : SS} (hA : ∀ d m n S, small m → A [some d, some (.int m), some (.int n)] S = some (.nx [some d, some (.int ((m * 69621 + n) % 2147483647)), some (.int n)] S)) {S : Store} {d : D} : ∀ (ns : List Int) (m : Int) (o : Option D), 0 ≤ m → m < 2147483647 →
    ∃ o', forL (fun _ => True) (gName 2) A (ns.map .int) [some d, some (.int m), o] S = some (.nx [some d, some (.int (mixL ns m)), o'] S)
  | [], m, o, a, b => ⟨o, by rw [List.map_nil, forL_nil trivial]; rfl⟩
  | n :: r, m, o, a, b => by
    obtain ⟨o', h⟩ := spring_loop hA r _ (some (.int n)) (Int.emod_nonneg (m * 69621 + n) (by decide)) (Int.emod_lt_of_pos (m * 69621 + n) (by decide : (0:Int) < 2147483647))
    refine ⟨o', ?_⟩
    rw [List.map_cons, forL_cons (ρ1 := [some d, some (.int m), some (.int n)]) trivial rfl (hA d m n S ((small_iff m).mpr (by omega)))]
    exact h
theorem s_law_spring (ns : List Int) (S : Store) : ∃ S', R_law_spring [.fl (ns.map .int)] S = some (.ok (.ref (S.length + 1)) S') ∧ SprAt S' (S.length + 1) S.length ⟨ns, 0, mixL ns 987654321⟩ ∧ S'.length = S.length + 2 ∧ Fr (S.length + 1) S.length S S' := by
  obtain ⟨o', h⟩ := spring_loop (A := lb_law_spring_1) (fun d m n S h => by simp [lb_law_spring_1, h]) (S := S) (d := .fl (ns.map .int)) ns 987654321 none (by decide) (by decide)
  obtain ⟨m1, m2⟩ := mixL_ok ns 987654321 (by decide) (by decide)
  refine ⟨S ++ [.lst (ns.map .int), .lst [.ref S.length, .int 0, .int (mixL ns 987654321)]], ?_, ⟨by simp, by simp, by simp, by simp, m1, m2⟩, by simp, Fr.app⟩
  unfold R_law_spring
  rw [run_eq (n := 1) _ _ rfl]
  unfold b_law_spring
  simp [h]
end Z
namespace Z
inductive Tm where
  | row (s : List Nat) | sign (i : Nat) (t : Tm) | beh (t : Tm) | zip (a b : Tm)
abbrev wRow : List Nat := [114, 111, 119]
abbrev wSign : List Nat := [115, 105, 103, 110]
abbrev wBeh : List Nat := [98, 101, 104, 105, 110, 100]
abbrev wZip : List Nat := [122, 105, 112]
def Tm.d : Tm → D
  | .row s => .tup [.str wRow, .str s]
  | .sign i t => .tup [.str wSign, .int i, t.d]
  | .beh t => .tup [.str wBeh, t.d]
  | .zip a b => .tup [.str wZip, a.d, b.d]
def Tm.depth : Tm → Nat
  | .row _ => 1
  | .sign _ t => t.depth + 1
  | .beh t => t.depth + 1
  | .zip a b => max a.depth b.depth + 1
def Tm.pd : Tm → PD
  | .row s => .tup [.str wRow, .str s]
  | .sign i t => .tup [.str wSign, .int i, t.pd]
  | .beh t => .tup [.str wBeh, t.pd]
  | .zip a b => .tup [.str wZip, a.pd, b.pd]
def ent (e : List Nat × Tm) : D := .tup [.str e.1, e.2.d]
end Z
namespace Z
structure Nm (S : Store) (p c l : Nat) (names : List (List Nat)) : Prop where
  at' : S[l]? = some (.lst (names.map .str))
  np : l ≠ p
  nc : l ≠ c
  pos : 0 < names.length
  few : names.length ≤ 100
theorem Nm.fr {S S' : Store} {p c l : Nat} {names : List (List Nat)} (h : Nm S p c l names) (f : Fr p c S S') : Nm S' p c l names := ⟨by rw [f.old l (List.getElem?_eq_some_iff.mp h.at').1 h.np h.nc]; exact h.at', h.np, h.nc, h.pos, h.few⟩
/-- signs below 10, names of the given ones -/
def Tm.In (ns : List (List Nat)) : Tm → Prop
  | .row s => s ∈ ns
  | .sign i t => i < 10 ∧ t.In ns
  | .beh t => t.In ns
  | .zip a b => a.In ns ∧ b.In ns
theorem drop_nat {S : Store} {p c : Nat} (h : Sp S p c) (many : Nat) (h1 : 0 < many) (h2 : many < 1000000000) : ∃ (v : Nat) (S' : Store), R_law_drop [.ref p, .int many] S = some (.ok (.int v) S') ∧ v < many ∧ Sp S' p c ∧ S'.length = S.length ∧ Fr p c S S' := by
  obtain ⟨v, S', e, v0, v1, hs, hl, hf⟩ := s_drop h many (by omega) (by omega)
  exact ⟨v.toNat, S', by rw [Int.toNat_of_nonneg v0]; exact e, by omega, hs, hl, hf⟩
/-- a comprehension whose items change what stands -/
theorem lcL_run {chk : Store → Prop} {g : SG} {t : ST} {e : SE} {l : Nat} {ρ : Env} (J : Store → Prop) (P : D → Prop) (hset : ∀ S acc acc', J S → S[l]? = some (.lst acc) → J (S.set l (.lst acc'))) (hc : ∀ S, J S → chk S) :
    ∀ (xs acc : List D) (S : Store), J S → S[l]? = some (.lst acc) → acc.length + xs.length ≤ LINE →
    (∀ x ∈ xs, ∀ S acc, J S → S[l]? = some (.lst acc) → ∃ ρ1 y S', g x ρ S = some (ρ1, S) ∧ t ρ1 S = some (.ok true S) ∧ e ρ1 S = some (.ok y S') ∧ S'[l]? = some (.lst acc) ∧ J S' ∧ P y) →
    ∃ ys S', lcL chk g t e l xs ρ S = some (.ok (.ref l) S') ∧ S'[l]? = some (.lst (acc ++ ys)) ∧ J S' ∧ ys.length = xs.length ∧ ∀ y ∈ ys, P y
  | [], acc, S, j, hl, _, _ => ⟨[], S, by rw [lcL, if_pos (hc S j)], by simpa using hl, j, rfl, fun y h => by cases h⟩
  | x :: xs, acc, S, j, hl, hn, h => by
    obtain ⟨ρ1, y, S1, h1, h2, h3, h4, h5, h6⟩ := h x (by simp) S acc j hl
    rw [List.length_cons] at hn
    have hlt : acc.length < LINE := by omega
    have hl1 : l < S1.length := (List.getElem?_eq_some_iff.mp h4).1
    obtain ⟨ys, S2, h7, h8, h9, h10, h11⟩ := lcL_run J P hset hc xs (acc ++ [y]) (S1.set l (.lst (acc ++ [y]))) (hset S1 acc _ h5 h4) (by rw [List.getElem?_set_self hl1]) (by simp; omega) fun z hz => h z (List.mem_cons_of_mem _ hz)
    refine ⟨y :: ys, S2, ?_, by simpa using h8, h9, by simp [h10], fun z hz => ?_⟩
    · rw [lcL, if_pos (hc S j), h1]
      dsimp only
      rw [h2, bq_ok, if_pos rfl, h3, bq_ok, h4]
      dsimp only
      rw [if_pos hlt, h7]
    · rcases List.mem_cons.mp hz with rfl | hz
      · exact h6
      · exact h11 z hz
theorem Fr.set {p c l : Nat} {S S' : Store} {o : MO} (f : Fr p c S S') (h : S.length ≤ l) : Fr p c S (S'.set l o) := ⟨by simpa using f.le, fun i h1 h2 h3 => by rw [List.getElem?_set_ne (by omega)]; exact f.old i h1 h2 h3⟩
theorem Sp.set {p c l : Nat} {S : Store} {o : MO} (h : Sp S p c) (hp : l ≠ p) (hc : l ≠ c) : Sp (S.set l o) p c := by
  obtain ⟨s, h⟩ := h
  exact ⟨s, h.ne, by rw [List.getElem?_set_ne hp]; exact h.hp, by rw [List.getElem?_set_ne hc]; exact h.hc, h.ok⟩
def natD (ws : List Nat) : List D := ws.map fun (k : Nat) => D.int k
end Z
namespace Z
abbrev az : List Nat := [97, 98, 99, 100, 101, 102, 103, 104, 105, 106, 107, 108, 109, 110, 111, 112, 113, 114, 115, 116, 117, 118, 119, 120, 121, 122]
/-- a name -/
structure IsNm (s : List Nat) : Prop where
  l1 : 1 ≤ s.length
  l8 : s.length ≤ 8
  az : ∀ k ∈ s, k ∈ Z.az
  nz : s ≠ wZip
  nb : s ≠ wBeh
theorem cut_drop {α : Type} (xs : List α) (v : Nat) : cut xs (some (v : Int)) none = xs.drop v := by
  unfold cut sIx
  have : ¬ (v : Int) < 0 := by omega
  simp only [this, if_false, Int.toNat_natCast]
  by_cases h : v ≤ xs.length
  · rw [Nat.min_eq_left h, List.take_of_length_le (by simp)]
  · rw [Nat.min_eq_right (by omega), List.drop_eq_nil_of_le (Nat.le_refl _), List.drop_eq_nil_of_le (by omega)]; simp
end Z
namespace Z
def Tm.size : Tm → Nat
  | .row _ => 1
  | .sign _ t => 1 + t.size
  | .beh t => 1 + t.size
  | .zip a b => 1 + (a.size + b.size)
end Z
namespace Z
def Tm.words : Tm → List (List Nat)
  | .row s => [s]
  | .sign i t => dec i :: t.words
  | .beh t => wBeh :: t.words
  | .zip a b => wZip :: (a.words ++ b.words)
end Z
namespace Z
theorem eqvL_nilP : ∀ xs : List PD, eqvL xs [] = xs.isEmpty
  | [] => rfl
  | _ :: _ => rfl
theorem pop_last {S : Store} {n : Nat} {xs : List D} {x : D} (h : S[n]? = some (.lst (xs ++ [x]))) : popF [.ref n] S = some (.ok x (S.set n (.lst xs))) := by
  simp [popF, h]
end Z
namespace Z
theorem joinS_len (sep : List Nat) : ∀ ys : List (List Nat), (joinS sep ys).length ≤ (ys.map List.length).sum + ys.length * sep.length
  | [] => by simp [joinS]
  | [x] => by simp [joinS]
  | x :: y :: r => by
    have := joinS_len sep (y :: r)
    rw [joinS]
    simp [Nat.add_mul] at this ⊢
    omega
end Z
namespace Z
theorem sum_le {α : Type} {f : α → Nat} {k : Nat} : ∀ xs : List α, (∀ x ∈ xs, f x ≤ k) → (xs.map f).sum ≤ xs.length * k
  | [], _ => by simp
  | x :: xs, h => by
    have := sum_le xs fun y hy => h y (List.mem_cons_of_mem _ hy)
    have := h x (by simp)
    simp [Nat.add_mul]; omega
end Z
namespace Z
/-- every list of S stands in S' -/
def LeL (S S' : Store) : Prop := ∀ (n : Nat) (xs : List D), S[n]? = some (MO.lst xs) → S'[n]? = some (MO.lst xs)
theorem LeL.refl {S : Store} : LeL S S := fun _ _ h => h
theorem LeL.trans {S S' S'' : Store} (a : LeL S S') (b : LeL S' S'') : LeL S S'' := fun n xs h => b n xs (a n xs h)
theorem LeL.app {S G : Store} : LeL S (S ++ G) := fun n xs h => get_app h G
/-- the object behind S may be any -/
theorem LeL.mask {S G : Store} {o : MO} : LeL (S ++ .dct [] :: G) (S ++ o :: G) := fun n xs h => by
  by_cases c : n < S.length
  · rw [List.getElem?_append_left c] at h ⊢; exact h
  · rw [List.getElem?_append_right (by omega)] at h ⊢
    by_cases c2 : n - S.length = 0
    · rw [c2] at h; simp at h
    · obtain ⟨k, hk⟩ := Nat.exists_eq_succ_of_ne_zero c2
      rw [hk] at h ⊢
      simpa using h
mutual
theorem D.pd_mono {g g' : Nat → Option PD} (h : ∀ n x, g n = some x → g' n = some x) : ∀ (d : D) (x : PD), d.pd g = some x → d.pd g' = some x
  | .non, x, e => by simpa [D.pd] using e
  | .bl b, x, e => by simpa [D.pd] using e
  | .int i, x, e => by simpa [D.pd] using e
  | .str s, x, e => by simpa [D.pd] using e
  | .tup xs, x, e => by
    simp only [D.pd, Option.map_eq_some_iff] at e ⊢
    obtain ⟨ys, e1, e2⟩ := e
    exact ⟨ys, pdL_mono h xs ys e1, e2⟩
  | .fl xs, x, e => by
    simp only [D.pd, Option.map_eq_some_iff] at e ⊢
    obtain ⟨ys, e1, e2⟩ := e
    exact ⟨ys, pdL_mono h xs ys e1, e2⟩
  | .ref n, x, e => by
    simp only [D.pd] at e ⊢
    exact h n x e
theorem pdL_mono {g g' : Nat → Option PD} (h : ∀ n x, g n = some x → g' n = some x) : ∀ (ds : List D) (xs : List PD), pdL g ds = some xs → pdL g' ds = some xs
  | [], xs, e => e
  | d :: ds, xs, e => by
    rw [pdL] at e ⊢
    split at e
    · rename_i y ys h1 h2
      rw [D.pd_mono h d y h1, pdL_mono h ds ys h2]
      exact e
    · cases e
end
theorem rdR_mono {S S' : Store} (h : LeL S S') : ∀ (k n : Nat) (x : PD), rdR k S n = some x → rdR k S' n = some x
  | 0, n, x, e => by cases e
  | k + 1, n, x, e => by
    rw [rdR] at e ⊢
    split at e
    · rename_i xs g
      rw [h n xs g]
      dsimp only
      simp only [Option.map_eq_some_iff] at e ⊢
      obtain ⟨ys, e1, e2⟩ := e
      exact ⟨ys, pdL_mono (rdR_mono h k) xs ys e1, e2⟩
    · cases e
theorem dat_mono {S S' : Store} (h : LeL S S') {d : D} {x : PD} (e : dat S d = some x) : dat S' d = some x := D.pd_mono (rdR_mono h 70) d x e
/-- a value of data -/
def Dt (S : Store) (d : D) : Prop := ∃ x, dat S d = some x ∧ x.dep ≤ 60
theorem Dt.mono {S S' : Store} (h : LeL S S') {d : D} : Dt S d → Dt S' d := fun ⟨x, a, b⟩ => ⟨x, dat_mono h a, b⟩
theorem pdL_of {g : Nat → Option PD} {k : Nat} : ∀ {ds : List D}, (∀ d ∈ ds, ∃ x, d.pd g = some x ∧ x.dep ≤ k) → ∃ xs, pdL g ds = some xs ∧ depL xs ≤ k
  | [], _ => ⟨[], rfl, by simp [depL]⟩
  | a :: ds, h => by
    obtain ⟨x, h1, h2⟩ := h a (by simp)
    obtain ⟨xs, h3, h4⟩ := pdL_of fun d hd => h d (List.mem_cons_of_mem _ hd)
    exact ⟨x :: xs, by rw [pdL, h1, h3], by simp [depL]; omega⟩
/-- data whose depth is at most k -/
def Dk (k : Nat) (S : Store) (d : D) : Prop := ∃ x, dat S d = some x ∧ x.dep ≤ k
theorem Dk.mono {k : Nat} {S S' : Store} (h : LeL S S') {d : D} : Dk k S d → Dk k S' d := fun ⟨x, a, b⟩ => ⟨x, dat_mono h a, b⟩
theorem Dk.le {k j : Nat} (h : k ≤ j) {S : Store} {d : D} : Dk k S d → Dk j S d := fun ⟨x, a, b⟩ => ⟨x, a, by omega⟩
theorem Dk.tup {k : Nat} {S : Store} {ds : List D} (h : ∀ d ∈ ds, Dk k S d) : Dk (k + 1) S (.tup ds) := by
  obtain ⟨xs, h1, h2⟩ := pdL_of (g := rdR 70 S) (k := k) h
  exact ⟨.tup xs, by unfold dat; rw [D.pd, h1]; rfl, by simp [PD.dep]; omega⟩
theorem Dk.int {k : Nat} {S : Store} (i : Int) : Dk k S (.int i) := ⟨.int i, by simp [dat, D.pd], by simp [PD.dep]⟩
theorem Dk.bl {k : Nat} {S : Store} (i : Bool) : Dk k S (.bl i) := ⟨.bl i, by simp [dat, D.pd], by simp [PD.dep]⟩
theorem Dk.str {k : Nat} {S : Store} (i : List Nat) : Dk k S (.str i) := ⟨.str i, by simp [dat, D.pd], by simp [PD.dep]⟩
theorem Dk.non {k : Nat} {S : Store} : Dk k S .non := ⟨.non, by simp [dat, D.pd], by simp [PD.dep]⟩
theorem Dk.ref {k : Nat} {S : Store} {n : Nat} (h : Dk k S (.ref n)) : ∃ xs, S[n]? = some (.lst xs) := by
  obtain ⟨x, h1, _⟩ := h
  unfold dat at h1
  rw [D.pd, rdR] at h1
  split at h1
  · rename_i xs g; exact ⟨xs, g⟩
  · cases h1
end Z
namespace Z
mutual
theorem D.pd_bnd {g g' : Nat → Option PD} {j : Nat} (h : ∀ n x, g n = some x → x.dep ≤ j → g' n = some x) : ∀ (d : D) (x : PD), d.pd g = some x → x.dep ≤ j → d.pd g' = some x
  | .non, x, e, _ => by simpa [D.pd] using e
  | .bl b, x, e, _ => by simpa [D.pd] using e
  | .int i, x, e, _ => by simpa [D.pd] using e
  | .str s, x, e, _ => by simpa [D.pd] using e
  | .tup xs, x, e, hd => by
    simp only [D.pd, Option.map_eq_some_iff] at e ⊢
    obtain ⟨ys, e1, rfl⟩ := e
    exact ⟨ys, pdL_bnd h xs ys e1 (by simp [PD.dep] at hd; omega), rfl⟩
  | .fl xs, x, e, hd => by
    simp only [D.pd, Option.map_eq_some_iff] at e ⊢
    obtain ⟨ys, e1, rfl⟩ := e
    exact ⟨ys, pdL_bnd h xs ys e1 (by simp [PD.dep] at hd; omega), rfl⟩
  | .ref n, x, e, hd => by
    simp only [D.pd] at e ⊢
    exact h n x e hd
theorem pdL_bnd {g g' : Nat → Option PD} {j : Nat} (h : ∀ n x, g n = some x → x.dep ≤ j → g' n = some x) : ∀ (ds : List D) (xs : List PD), pdL g ds = some xs → depL xs ≤ j → pdL g' ds = some xs
  | [], xs, e, _ => e
  | d :: ds, xs, e, hd => by
    rw [pdL] at e ⊢
    split at e
    · rename_i y ys h1 h2
      cases e
      simp [depL] at hd
      rw [D.pd_bnd h d y h1 (by omega), pdL_bnd h ds ys h2 (by omega)]
    · cases e
end
theorem rdR_fuel {S : Store} : ∀ (k j n : Nat) (x : PD), rdR k S n = some x → x.dep ≤ j → rdR j S n = some x
  | 0, j, n, x, e, _ => by cases e
  | k + 1, j, n, x, e, hd => by
    rw [rdR] at e
    split at e
    · rename_i xs g
      simp only [Option.map_eq_some_iff] at e
      obtain ⟨ys, e1, rfl⟩ := e
      simp [PD.dep] at hd
      obtain ⟨j, rfl⟩ : ∃ i, j = i + 1 := ⟨j - 1, by omega⟩
      rw [rdR, g]
      dsimp only
      rw [pdL_bnd (rdR_fuel k j) xs ys e1 (by omega)]
      rfl
    · cases e
/-- a list of data is data -/
theorem Dk.lst {k : Nat} {S : Store} {n : Nat} {ds : List D} (hk : k ≤ 60) (g : S[n]? = some (.lst ds)) (h : ∀ d ∈ ds, Dk k S d) : Dk (k + 1) S (.ref n) := by
  obtain ⟨xs, h1, h2⟩ := pdL_of (g := rdR 70 S) (k := k) h
  refine ⟨.lst xs, ?_, by simp [PD.dep]; omega⟩
  unfold dat
  rw [D.pd, rdR, g]
  dsimp only
  rw [pdL_bnd (fun n x e hd => rdR_fuel 70 69 n x e (by omega)) ds xs h1 (Nat.le_refl _)]
  rfl
theorem dat_lst {k : Nat} {S : Store} {n : Nat} {ds : List D} (hk : k ≤ 60) (g : S[n]? = some (.lst ds)) (h : ∀ d ∈ ds, Dk k S d) : ∃ xs, dat S (.ref n) = some (.lst xs) ∧ depL xs ≤ k ∧ pdL (rdR 70 S) ds = some xs := by
  obtain ⟨xs, h1, h2⟩ := pdL_of (g := rdR 70 S) (k := k) h
  refine ⟨xs, ?_, h2, h1⟩
  unfold dat
  rw [D.pd, rdR, g]
  dsimp only
  rw [pdL_bnd (fun n x e hd => rdR_fuel 70 69 n x e (by omega)) ds xs h1 (Nat.le_refl _)]
  rfl
theorem pdL_len {g : Nat → Option PD} : ∀ {ds : List D} {xs : List PD}, pdL g ds = some xs → xs.isEmpty = ds.isEmpty
  | [], xs, e => by cases e; rfl
  | d :: ds, xs, e => by
    rw [pdL] at e
    split at e
    · cases e; rfl
    · cases e
theorem ne_nilD {S : Store} {a b k : Nat} {ds : List D} (hk : k ≤ 60) (g : S[a]? = some (.lst ds)) (g' : S[b]? = some (.lst [])) (h : ∀ d ∈ ds, Dk k S d) : neD (.ref a) (.ref b) S = some (.ok (.bl (!ds.isEmpty)) S) := by
  obtain ⟨xs, h1, h2, h3⟩ := dat_lst hk g h
  obtain ⟨ys, h4, h5, h6⟩ := dat_lst (k := 0) (by decide) g' (fun d h => by cases h)
  cases h6
  unfold neD
  rw [h1, h4]
  dsimp only
  rw [if_pos ⟨by simp [PD.dep]; omega, by simp [PD.dep]; omega⟩, PD.eqv, eqvL_nilP, pdL_len h3]
mutual
/-- no text in it is long -/
def Sh : D → Prop
  | .str s => s.length ≤ 1000
  | .tup xs => ShL xs
  | _ => True
def ShL : List D → Prop
  | [] => True
  | x :: xs => Sh x ∧ ShL xs
end
theorem shL_iff : ∀ {xs : List D}, ShL xs ↔ ∀ x ∈ xs, Sh x
  | [] => by simp [ShL]
  | x :: xs => by simp [ShL, shL_iff (xs := xs)]
structure Dn (k : Nat) (S : Store) (d : D) : Prop where
  dk : Dk k S d
  sh : Sh d
theorem Dn.mono {k : Nat} {S S' : Store} (l : LeL S S') {d : D} (h : Dn k S d) : Dn k S' d := ⟨h.dk.mono l, h.sh⟩
theorem Dn.le {k j : Nat} (l : k ≤ j) {S : Store} {d : D} (h : Dn k S d) : Dn j S d := ⟨h.dk.le l, h.sh⟩
theorem Dn.app {k : Nat} {S G : Store} {d : D} (h : Dn k S d) : Dn k (S ++ G) d := h.mono .app
/-- a text of this kind -/
def isS (s : List Nat) : D → Bool
  | .str z => decide (z = s)
  | _ => false
end Z
namespace Z
def AZ : List Nat := az
def azB (s : List Nat) : Bool := s.all fun k => decide (k ∈ AZ)
def nmB (s : List Nat) : Bool := decide (1 ≤ s.length) && decide (s.length ≤ 8) && !decide (s = wZip) && !decide (s = wBeh) && azB s
def nameB : D → Bool
  | .str s => nmB s
  | _ => false
theorem nmB_is {s : List Nat} (h : IsNm s) : nmB s = true := by
  have h1 := h.l1
  have h2 := h.l8
  have h3 := h.nz
  have h4 := h.nb
  have h5 : azB s = true := by simp [azB]; exact fun k hk => h.az k hk
  simp only [wZip, wBeh] at h3 h4
  simp [nmB, h1, h2, h3, h4, h5]
def sigB : D → Bool
  | .int i => decide (0 ≤ i) && decide (i ≤ 9)
  | _ => false
/-- the parts of what has a term's form -/
def wi : D → Option (List D)
  | .tup [a, b] => if isS wRow a && nameB b then some [] else if isS wBeh a then some [b] else none
  | .tup [a, b, c] => if isS wSign a && sigB b then some [c] else if isS wZip a then some [b, c] else none
  | _ => none
/-- how many terms, 1000 where it is none; k: how deep it may still be -/
def sz : Nat → D → Nat
  | 0, _ => 1000
  | k + 1, d => match wi d with
    | none => 1000
    | some ps => 1 + (ps.map (sz k)).sum
end Z
namespace Z
@[simp] theorem o_iaddI (i j : Int) (S : Store) : iaddD (.int i) (.int j) S = some (.ok (.int (i + j)) S) := rfl
end Z
namespace Z
/-- the store without the spring -/
def msk (S : Store) (p c : Nat) : Store := (S.set p (.dct [])).set c (.dct [])
theorem msk_get {S : Store} {p c n : Nat} (hp : n ≠ p) (hc : n ≠ c) : (msk S p c)[n]? = S[n]? := by
  unfold msk
  rw [List.getElem?_set_ne (Ne.symm hc), List.getElem?_set_ne (Ne.symm hp)]
theorem msk_p {S : Store} {p c n : Nat} {xs : List D} (h : (msk S p c)[n]? = some (.lst xs)) : n ≠ p ∧ n ≠ c := by
  unfold msk at h
  constructor
  · rintro rfl
    by_cases hc : c = n
    · subst hc
      rw [List.getElem?_set] at h
      simp at h
    · rw [List.getElem?_set_ne hc, List.getElem?_set] at h
      simp at h
  · rintro rfl
    rw [List.getElem?_set] at h
    simp at h
theorem LeL.fr {S S' : Store} {p c : Nat} (f : Fr p c S S') : LeL (msk S p c) (msk S' p c) := fun n xs h => by
  obtain ⟨h1, h2⟩ := msk_p h
  rw [msk_get h1 h2] at h ⊢
  rw [f.old n (List.getElem?_eq_some_iff.mp h).1 h1 h2]; exact h
def DnL (k : Nat) (S : Store) (ds : List D) : Prop := ∀ d ∈ ds, Dn k S d
theorem DnL.nil {k : Nat} {S : Store} : DnL k S [] := fun _ h => nomatch h
theorem DnL.cons {k : Nat} {S : Store} {d : D} {ds : List D} (h : Dn k S d) (t : DnL k S ds) : DnL k S (d :: ds) := fun x hx => by
  rcases List.mem_cons.mp hx with rfl | hx
  · exact h
  · exact t x hx
theorem Dn.tup {k : Nat} {S : Store} {ds : List D} (h : DnL k S ds) : Dn (k + 1) S (.tup ds) := ⟨Dk.tup fun d hd => (h d hd).dk, by rw [Sh]; exact shL_iff.mpr fun d hd => (h d hd).sh⟩
theorem Dn.ref {k : Nat} {S : Store} {n : Nat} {ds : List D} (hk : k ≤ 60) (g : S[n]? = some (.lst ds)) (h : DnL k S ds) : Dn (k + 1) S (.ref n) := ⟨Dk.lst hk g fun d hd => (h d hd).dk, by simp [Sh]⟩
theorem Dn.int {k : Nat} {S : Store} (i : Int) : Dn k S (.int i) := ⟨Dk.int i, by simp [Sh]⟩
theorem Dn.bl {k : Nat} {S : Store} (i : Bool) : Dn k S (.bl i) := ⟨Dk.bl i, by simp [Sh]⟩
theorem Dn.non {k : Nat} {S : Store} : Dn k S .non := ⟨Dk.non, by simp [Sh]⟩
theorem Dn.str {k : Nat} {S : Store} {s : List Nat} (h : s.length ≤ 1000) : Dn k S (.str s) := ⟨Dk.str s, by rw [Sh]; exact h⟩
def Tm.hd : Tm → List Nat
  | .row _ => wRow
  | .sign _ _ => wSign
  | .beh _ => wBeh
  | .zip _ _ => wZip
end Z
namespace Z
def Tm.rows : Tm → List (List Nat)
  | .row s => [s]
  | .sign _ t => t.rows
  | .beh t => t.rows
  | .zip a b => a.rows ++ b.rows
def Tm.one : Tm → List (List Nat)
  | .row s => [s]
  | _ => []
end Z
namespace Z
def Tm.Rw (names : List (List Nat)) (t : Tm) : Prop := ∀ s ∈ t.rows, s ∈ names
theorem rw_row {names : List (List Nat)} {s : List Nat} (h : s ∈ names) : (Tm.row s).Rw names := fun x hx => by simp [Tm.rows] at hx; subst hx; exact h
theorem rw_zip {names : List (List Nat)} {a b : Tm} (ha : a.Rw names) (hb : b.Rw names) : (Tm.zip a b).Rw names := fun x hx => by
  rcases List.mem_append.mp hx with h | h
  · exact ha x h
  · exact hb x h
end Z
namespace Z
def hop : Tm → Nat → Nat ⊕ (List Nat × Nat)
  | .row s, n => .inr (s, n)
  | .sign i _, 0 => .inl i
  | .sign _ t, n + 1 => hop t n
  | .beh t, n => hop t (n + 1)
  | .zip a b, n => if n % 2 = 0 then hop a (n / 2) else hop b (n / 2)
def zipf : Tm → Nat → Bool
  | .row _, _ => false
  | .sign _ _, 0 => false
  | .sign _ t, n + 1 => zipf t n
  | .beh t, n => zipf t (n + 1)
  | .zip _ _, _ => true
theorem hop_le : ∀ (t : Tm) (n : Nat) (s : List Nat) (k : Nat), hop t n = .inr (s, k) → s ∈ t.rows ∧ (zipf t n = false → k ≤ n + t.depth) ∧ (zipf t n = true → k ≤ n / 2 + t.depth)
  | .row s', n, s, k, h => by
    simp [hop] at h
    obtain ⟨rfl, rfl⟩ := h
    simp [Tm.rows, zipf]
  | .sign i t, 0, s, k, h => by simp [hop] at h
  | .sign i t, n + 1, s, k, h => by
    obtain ⟨h1, h2, h3⟩ := hop_le t n s k h
    exact ⟨h1, fun z => by have := h2 z; simp [Tm.depth]; omega, fun z => by have := h3 z; simp [Tm.depth]; omega⟩
  | .beh t, n, s, k, h => by
    obtain ⟨h1, h2, h3⟩ := hop_le t (n + 1) s k h
    exact ⟨h1, fun z => by have := h2 z; simp [Tm.depth]; omega, fun z => by have := h3 z; simp [Tm.depth]; omega⟩
  | .zip a b, n, s, k, h => by
    rw [hop] at h
    split at h
    · obtain ⟨h1, h2, h3⟩ := hop_le a (n / 2) s k h
      refine ⟨List.mem_append_left _ h1, fun z => by simp [zipf] at z, fun _ => ?_⟩
      cases c : zipf a (n / 2)
      · have := h2 c; simp [Tm.depth]; omega
      · have := h3 c; simp [Tm.depth]; omega
    · obtain ⟨h1, h2, h3⟩ := hop_le b (n / 2) s k h
      refine ⟨List.mem_append_right _ h1, fun z => by simp [zipf] at z, fun _ => ?_⟩
      cases c : zipf b (n / 2)
      · have := h2 c; simp [Tm.depth]; omega
      · have := h3 c; simp [Tm.depth]; omega
def termOf (es : List (List Nat × Tm)) (s : List Nat) : Tm := match es.find? fun e => decide (e.1 = s) with
  | some e => e.2
  | none => .row s
theorem termOf_mem {es : List (List Nat × Tm)} (hn : (es.map (·.1)).Nodup) {e : List Nat × Tm} (he : e ∈ es) : termOf es e.1 = e.2 := by
  have : es.find? (fun f => decide (f.1 = e.1)) = some e := by
    induction es with
    | nil => cases he
    | cons f es ih =>
      rw [List.map_cons, List.nodup_cons] at hn
      rcases List.mem_cons.mp he with rfl | he
      · simp
      · have : ¬ f.1 = e.1 := fun c => hn.1 (by rw [c]; exact List.mem_map.mpr ⟨e, he, rfl⟩)
        rw [List.find?_cons]
        simp only [decide_eq_false this]
        exact ih hn.2 he
  unfold termOf
  rw [this]
/-- a drawn book -/
structure Bk (es : List (List Nat × Tm)) : Prop where
  dep : ∀ e ∈ es, e.2.depth ≤ 12
  row : ∀ e ∈ es, e.2.Rw (es.map (·.1))
  nd : (es.map (·.1)).Nodup
  len : es.length ≤ 8
theorem Bk.at {es : List (List Nat × Tm)} (b : Bk es) {s : List Nat} (h : s ∈ es.map (·.1)) : (s, termOf es s) ∈ es := by
  obtain ⟨e, he, rfl⟩ := List.mem_map.mp h
  rw [termOf_mem b.nd he]
  exact he
def kvE (e : List Nat × Tm) : D × D := (.str e.1, e.2.d)
end Z
namespace Z
abbrev Call := List Nat × Nat
abbrev Lows := List Nat → Option Nat
def wAgain (C : List Call) (L : Lows) (c : Call) : Bool := decide (c ∈ C) || (match L c.1 with | some v => decide (v ≤ c.2) | none => false)
def wLows (z : Bool) (L : Lows) : Lows := if z = true then fun _ => none else L
def wSet (L : Lows) (c : Call) : Lows := fun t => if t = c.1 then some c.2 else L t
/-- none: free -/
def wk (es : List (List Nat × Tm)) : Nat → Call → List Call → Lows → Option (Option Nat × List Call)
  | 0, _, _, _ => none
  | f + 1, c, C, L => match hop (termOf es c.1) c.2 with
    | .inl i => some (some i, C)
    | .inr c' => if wAgain C (wLows (zipf (termOf es c.1) c.2) L) c' = true then some (none, C ++ [c'])
        else wk es f c' (C ++ [c']) (wSet (wLows (zipf (termOf es c.1) c.2) L) c')
/-- calls that are unlike and within bounds are few -/
theorem few_calls : ∀ (P : List (List Nat)) (B : Nat) (C : List Call), C.Nodup → (∀ c ∈ C, c.1 ∈ P ∧ c.2 < B) → C.length ≤ P.length * B := by
  intro P
  induction P with
  | nil =>
    intro B C hn h
    cases C with
    | nil => simp
    | cons c C => exact absurd (h c (by simp)).1 (by simp)
  | cons p P ih =>
    intro B C hn h
    have h1 : (C.filter fun c => decide (c.1 = p)).length ≤ B := by
      have key : ∀ (B : Nat) (C : List Call), C.Nodup → (∀ c ∈ C, c.1 = p ∧ c.2 < B) → C.length ≤ B := by
        intro B
        induction B with
        | zero => intro C _ h; cases C with | nil => simp | cons c C => exact absurd (h c (by simp)).2 (by simp)
        | succ B ihB =>
          intro C hn h
          by_cases hm : (p, B) ∈ C
          · have := ihB (C.erase (p, B)) (hn.erase _) fun c hc => by
              have hc' := List.mem_of_mem_erase hc
              obtain ⟨a1, a2⟩ := h c hc'
              refine ⟨a1, ?_⟩
              have : c ≠ (p, B) := fun e => by subst e; exact (hn.not_mem_erase) hc
              have : c.2 ≠ B := fun e => this (Prod.ext a1 e)
              omega
            rw [List.length_erase_of_mem hm] at this
            omega
          · have := ihB C hn fun c hc => by
              obtain ⟨a1, a2⟩ := h c hc
              have : c.2 ≠ B := fun e => hm (by rw [← e, ← a1]; exact hc)
              exact ⟨a1, by omega⟩
            omega
      exact key B _ (hn.filter _) fun c hc => by
        have := List.mem_filter.mp hc
        exact ⟨by simpa using this.2, (h c this.1).2⟩
    have h2 : (C.filter fun c => !decide (c.1 = p)).length ≤ P.length * B := ih B _ (hn.filter _) fun c hc => by
      have := List.mem_filter.mp hc
      obtain ⟨a1, a2⟩ := h c this.1
      have h3 := this.2
      simp at h3
      exact ⟨(List.mem_cons.mp a1).resolve_left h3, a2⟩
    have h3 : C.length = (C.filter fun c => decide (c.1 = p)).length + (C.filter fun c => !decide (c.1 = p)).length := by
      clear hn h h1 h2 ih
      induction C with
      | nil => rfl
      | cons c C ih =>
        rw [List.filter_cons, List.filter_cons]
        cases decide (c.1 = p) <;> simp <;> omega
    rw [List.length_cons, Nat.add_mul, Nat.one_mul]
    omega
/-- the lows are bounded: P, the names called since the last zip -/
theorem nd_le' {a b : List (List Nat)} (h : a.Nodup) (s : ∀ x ∈ a, x ∈ b) : a.length ≤ b.length := by
  induction a generalizing b with
  | nil => exact Nat.zero_le _
  | cons x a ih =>
    have hx : x ∈ b := s x (by simp)
    have hn := List.nodup_cons.mp h
    have := ih (b := b.erase x) hn.2 fun y hy => (List.mem_erase_of_ne (fun e => hn.1 (by rw [← e]; exact hy))).mpr (s y (List.mem_cons_of_mem _ hy))
    rw [List.length_erase_of_mem hx] at this
    have := List.length_pos_of_mem hx
    rw [List.length_cons]
    omega
end Z
namespace Z
theorem sq_nx {a b : SS} {ρ ρ1 : Env} {S S1 : Store} (h : a ρ S = some (.nx ρ1 S1)) : sq a b ρ S = b ρ1 S1 := by unfold sq; rw [h]
theorem sq_rt {a b : SS} {ρ : Env} {S S1 : Store} {d : D} (h : a ρ S = some (.rt d S1)) : sq a b ρ S = some (.rt d S1) := by unfold sq; rw [h]
def Keep (S S' : Store) : Prop := S.length ≤ S'.length ∧ ∀ i, i < S.length → S'[i]? = S[i]?
theorem Keep.refl {S : Store} : Keep S S := ⟨Nat.le_refl _, fun _ _ => rfl⟩
theorem Keep.trans {S S' S'' : Store} (a : Keep S S') (b : Keep S' S'') : Keep S S'' := ⟨Nat.le_trans a.1 b.1, fun i h => by rw [b.2 i (Nat.lt_of_lt_of_le h a.1), a.2 i h]⟩
theorem Keep.app {S G : Store} : Keep S (S ++ G) := ⟨by simp, fun i h => List.getElem?_append_left h⟩
theorem Keep.set {S S' : Store} {i : Nat} {o : MO} (h : Keep S S') (hi : S.length ≤ i) : Keep S (S'.set i o) := ⟨by rw [List.length_set]; exact h.1, fun j hj => by rw [List.getElem?_set_ne (by omega)]; exact h.2 j hj⟩
theorem Keep.get {S S' : Store} (k : Keep S S') {n : Nat} {o : MO} (h : S[n]? = some o) : S'[n]? = some o := by rw [k.2 n (List.getElem?_eq_some_iff.mp h).1]; exact h
end Z
namespace Z
abbrev Eqs := List (List Nat × Tm)
def look : Eqs → List Nat → Option Tm
  | [], _ => none
  | e :: r, s => if e.1 = s then some e.2 else look r s
theorem look_mem : ∀ {es : Eqs} {s : List Nat} {t : Tm}, look es s = some t → (s, t) ∈ es
  | [], _, _, h => by cases h
  | e :: r, s, t, h => by
    rw [look] at h
    by_cases c : e.1 = s
    · rw [if_pos c] at h
      cases h
      rw [← c]
      exact List.mem_cons_self
    · rw [if_neg c] at h
      exact List.mem_cons_of_mem _ (look_mem h)
theorem look_some : ∀ {es : Eqs} {s : List Nat}, s ∈ es.map (·.1) → ∃ t, look es s = some t
  | [], _, h => by cases h
  | e :: r, s, h => by
    rw [look]
    by_cases c : e.1 = s
    · rw [if_pos c]; exact ⟨_, rfl⟩
    · rw [if_neg c]
      rw [List.map_cons] at h
      rcases List.mem_cons.mp h with h | h
      · exact absurd h.symm c
      · exact look_some h
theorem look_none {es : Eqs} {s : List Nat} : look es s = none ↔ s ∉ es.map (·.1) := by
  constructor
  · intro h q
    obtain ⟨t, ht⟩ := look_some q
    rw [h] at ht
    cases ht
  · intro h
    cases e : look es s with
    | none => rfl
    | some t => exact absurd (List.mem_map.mpr ⟨_, look_mem e, rfl⟩) h
theorem look_app : ∀ {es fs : Eqs} {s : List Nat}, look (es ++ fs) s = (look es s).or (look fs s)
  | [], fs, s => by simp [look]
  | e :: r, fs, s => by
    rw [List.cons_append, look, look]
    by_cases c : e.1 = s
    · rw [if_pos c, if_pos c]; rfl
    · rw [if_neg c, if_neg c]; exact look_app
inductive Wr where
  | sign (i : Nat) | waits (s : List Nat)
def nx (es : Eqs) (c : Call) : Wr ⊕ Call := match look es c.1 with
  | none => .inl (.waits c.1)
  | some t => match hop t c.2 with
    | .inl i => .inl (.sign i)
    | .inr d => .inr d
def EndIn (es : Eqs) : Nat → Call → Wr → Prop
  | 0, c, r => nx es c = .inl r
  | k + 1, c, r => ∃ d, nx es c = .inr d ∧ EndIn es k d r
def Rch (es : Eqs) : Nat → Call → Call → Prop
  | 0, c, d => c = d
  | k + 1, c, d => ∃ e, nx es c = .inr e ∧ Rch es k e d
/-- without a zip -/
def Zr (es : Eqs) : Nat → Call → Call → Prop
  | 0, c, d => c = d
  | k + 1, c, d => ∃ t e, look es c.1 = some t ∧ zipf t c.2 = false ∧ hop t c.2 = .inr e ∧ Zr es k e d
section
variable {es : Eqs}
theorem EndIn.uniq : ∀ {k m : Nat} {c : Call} {r q : Wr}, EndIn es k c r → EndIn es m c q → k = m ∧ r = q
  | 0, 0, c, r, q, h, g => by
    rw [EndIn] at h g
    rw [h] at g
    cases g
    exact ⟨rfl, rfl⟩
  | 0, m + 1, c, r, q, h, g => by
    have h : nx es c = .inl r := h
    obtain ⟨d, g, _⟩ := g
    rw [h] at g
    cases g
  | k + 1, 0, c, r, q, h, g => by
    have g : nx es c = .inl q := g
    obtain ⟨d, h, _⟩ := h
    rw [h] at g
    cases g
  | k + 1, m + 1, c, r, q, h, g => by
    rw [EndIn] at h g
    obtain ⟨d, h1, h2⟩ := h
    obtain ⟨e, g1, g2⟩ := g
    rw [h1] at g1
    cases g1
    obtain ⟨rfl, rfl⟩ := EndIn.uniq h2 g2
    exact ⟨rfl, rfl⟩
theorem Rch.snoc : ∀ {k : Nat} {c d e : Call}, Rch es k c d → nx es d = .inr e → Rch es (k + 1) c e
  | 0, c, d, e, h, g => by
    rw [Rch] at h
    subst h
    exact ⟨e, g, rfl⟩
  | k + 1, c, d, e, h, g => by
    rw [Rch] at h
    obtain ⟨f, h1, h2⟩ := h
    exact ⟨f, h1, h2.snoc g⟩
theorem nx_of {c d : Call} {t : Tm} (h : look es c.1 = some t) (g : hop t c.2 = .inr d) : nx es c = .inr d := by
  unfold nx
  rw [h]
  dsimp only
  rw [g]
theorem Zr.snoc : ∀ {k : Nat} {c d e : Call} {t : Tm}, Zr es k c d → look es d.1 = some t → zipf t d.2 = false → hop t d.2 = .inr e → Zr es (k + 1) c e
  | 0, c, d, e, t, h, a, b, g => by
    rw [Zr] at h
    subst h
    exact ⟨t, e, a, b, g, rfl⟩
  | k + 1, c, d, e, t, h, a, b, g => by
    rw [Zr] at h
    obtain ⟨t', f, h1, h2, h3, h4⟩ := h
    exact ⟨t', f, h1, h2, h3, h4.snoc a b g⟩
theorem Zr.rch : ∀ {k : Nat} {c d : Call}, Zr es k c d → Rch es k c d
  | 0, c, d, h => h
  | k + 1, c, d, h => by
    rw [Zr] at h
    obtain ⟨t', f, h1, h2, h3, h4⟩ := h
    exact ⟨f, nx_of h1 h3, h4.rch⟩
open Classical in
noncomputable def wres (es : Eqs) (c : Call) : Option Wr := if h : ∃ r k, EndIn es k c r then some h.choose else none
theorem wres_some {k : Nat} {c : Call} {r : Wr} (h : EndIn es k c r) : wres es c = some r := by
  have hx : ∃ r k, EndIn es k c r := ⟨r, k, h⟩
  unfold wres
  rw [dif_pos hx]
  obtain ⟨j, hj⟩ := hx.choose_spec
  rw [(EndIn.uniq hj h).2]
/-- told names unlike, their terms not too deep, few -/
structure Tb (es : Eqs) : Prop where
  nd : (es.map (·.1)).Nodup
  dep : ∀ e ∈ es, e.2.depth ≤ 12
  few : es.length ≤ 8
structure Iv (es : Eqs) (n0 : Nat) (c : Call) (C : List Call) (L : Lows) (P : List (List Nat)) : Prop where
  rch : ∀ d ∈ C, ∃ k, Rch es (k + 1) d c
  low : ∀ s v, L s = some v → ∃ k, Zr es (k + 1) (s, v) c
  cnd : C.Nodup
  cb : ∀ d ∈ C, d.1 ∈ es.map (·.1) ∧ d.2 < n0 + 97
  psub : ∀ t ∈ P, t ∈ es.map (·.1)
  pnd : P.Nodup
  iff : ∀ t, t ∈ P ↔ L t ≠ none
  le : ∀ t v, L t = some v → v + 12 ≤ n0 + 12 * P.length
  cur : c.2 ≤ n0 + 12 * P.length
theorem Iv.p8 {n0 : Nat} {c : Call} {C : List Call} {L : Lows} {P : List (List Nat)} (b : Tb es) (h : Iv es n0 c C L P) : P.length ≤ 8 := by
  have := nd_le' h.pnd h.psub
  rw [List.length_map] at this
  have := b.few
  omega
theorem Iv.beg {n0 : Nat} {c : Call} (h : c.2 ≤ n0) : Iv es n0 c [] (fun _ => none) [] :=
  ⟨fun d hd => (nomatch hd), fun s v h => (nomatch h), List.nodup_nil, fun d hd => (nomatch hd), fun t ht => (nomatch ht), List.nodup_nil, fun t => by simp, fun t v h => (nomatch h), by simpa using h⟩
theorem Iv.cin {n0 : Nat} {c : Call} {C : List Call} {L : Lows} {P : List (List Nat)} (h : Iv es n0 c C L P) (ha : wAgain C L c = false) : c ∉ C ∧ ∀ v, L c.1 = some v → c.2 < v := by
  unfold wAgain at ha
  rw [Bool.or_eq_false_iff] at ha
  refine ⟨of_decide_eq_false ha.1, fun v hv => ?_⟩
  have := ha.2
  rw [hv] at this
  simp at this
  exact this
theorem Iv.step (b : Tb es) {n0 : Nat} (hn0 : 120 ≤ n0) {c : Call} {C : List Call} {L : Lows} {P : List (List Nat)} (h : Iv es n0 c C L P) {t : Tm} (ht : look es c.1 = some t) (ha : wAgain C L c = false) {d : Call} (hd : hop t c.2 = .inr d) :
    ∃ P', Iv es n0 d (C ++ [c]) (wLows (zipf t c.2) (wSet L c)) P' := by
  obtain ⟨hc, hv⟩ := h.cin ha
  have hm := look_mem ht
  have hc1 : c.1 ∈ es.map (·.1) := List.mem_map.mpr ⟨_, hm, rfl⟩
  have hdep : t.depth ≤ 12 := b.dep _ hm
  obtain ⟨k1, k2, k3⟩ := hop_le t c.2 d.1 d.2 hd
  have hp8 := h.p8 b
  have hcur := h.cur
  have hnx := nx_of ht hd
  have r1 : ∀ x ∈ C ++ [c], ∃ k, Rch es (k + 1) x d := fun x hx => by
    rcases List.mem_append.mp hx with hx | hx
    · obtain ⟨k, hk⟩ := h.rch x hx
      exact ⟨k + 1, hk.snoc hnx⟩
    · simp at hx
      subst hx
      exact ⟨0, d, hnx, rfl⟩
  have r2 : (C ++ [c]).Nodup := List.nodup_append.mpr ⟨h.cnd, by simp, fun a hax x hx => by simp at hx; subst hx; exact fun e => hc (e ▸ hax)⟩
  have r3 : ∀ x ∈ C ++ [c], x.1 ∈ es.map (·.1) ∧ x.2 < n0 + 97 := fun x hx => by
    rcases List.mem_append.mp hx with hx | hx
    · exact h.cb x hx
    · simp at hx
      subst hx
      exact ⟨hc1, by omega⟩
  cases hz : zipf t c.2 with
  | true =>
    have := k3 hz
    refine ⟨[], r1, fun s v q => (by simp [wLows] at q), r2, r3, fun t ht => (nomatch ht), List.nodup_nil, fun t => by simp [wLows], fun t v q => (by simp [wLows] at q), ?_⟩
    simp
    omega
  | false =>
    have hk := k2 hz
    have e : wLows false (wSet L c) = wSet L c := by simp [wLows]
    rw [e]
    have low : ∀ s v, wSet L c s = some v → ∃ k, Zr es (k + 1) (s, v) d := fun s v q => by
      unfold wSet at q
      by_cases hs : s = c.1
      · rw [if_pos hs] at q
        cases q
        subst hs
        exact ⟨0, t, d, ht, hz, hd, rfl⟩
      · rw [if_neg hs] at q
        obtain ⟨k, hk⟩ := h.low s v q
        exact ⟨k + 1, hk.snoc ht hz hd⟩
    by_cases hp : c.1 ∈ P
    · obtain ⟨v, hv1⟩ := Option.ne_none_iff_exists'.mp ((h.iff _).mp hp)
      have h1 := hv v hv1
      have h2 := h.le _ _ hv1
      refine ⟨P, r1, low, r2, r3, h.psub, h.pnd, fun s => ?_, fun s w q => ?_, by omega⟩
      · by_cases hs : s = c.1
        · subst hs; simp [wSet, hp]
        · simp [wSet, hs]; exact h.iff s
      · unfold wSet at q
        split at q
        · cases q; omega
        · exact h.le _ _ q
    · refine ⟨c.1 :: P, r1, low, r2, r3, fun s hs => ?_, List.nodup_cons.mpr ⟨hp, h.pnd⟩, fun s => ?_, fun s w q => ?_, ?_⟩
      · rcases List.mem_cons.mp hs with rfl | hs
        · exact hc1
        · exact h.psub s hs
      · by_cases hs : s = c.1
        · subst hs; simp [wSet]
        · simp [wSet, hs]; exact h.iff s
      · rw [List.length_cons]
        unfold wSet at q
        split at q
        · cases q; omega
        · have := h.le _ _ q; omega
      · rw [List.length_cons]; omega
end
end Z
namespace Z
/-- a coming book -/
structure CB (S : Store) (r d : Nat) (es : Eqs) : Prop where
  gr : S[r]? = some (.ins "Coming" [("terms", .ref d)])
  gd : S[d]? = some (.dk (es.map kvE))
theorem CB.keep {S S' : Store} {r d : Nat} {es : Eqs} (h : CB S r d es) (k : Keep S S') : CB S' r d es := ⟨k.get h.gr, k.get h.gd⟩
theorem CB.ne {S : Store} {r d : Nat} {es : Eqs} (h : CB S r d es) : r ≠ d := fun e => by
  have := h.gr
  rw [e, h.gd] at this
  cases this
theorem CB.lt {S : Store} {r d : Nat} {es : Eqs} (h : CB S r d es) : r < S.length ∧ d < S.length := ⟨(List.getElem?_eq_some_iff.mp h.gr).1, (List.getElem?_eq_some_iff.mp h.gd).1⟩
end Z
namespace Z
structure Lv (es : Eqs) (c0 c : Call) (C : List Call) : Prop where
  beg : ∃ j, Rch es j c0 c
  rch : ∀ d ∈ C, ∃ k, Rch es (k + 1) d c
  cnd : C.Nodup
  cb : ∀ d ∈ C, d.1 ∈ es.map (·.1) ∧ d.2 < c0.2 + 301
theorem Lv.step {es : Eqs} {c0 c d : Call} {C : List Call} (h : Lv es c0 c C) (hn : c ∉ C) (hc : c.2 ≤ c0.2 + 300) {t : Tm} (ht : look es c.1 = some t) (hd : hop t c.2 = .inr d) : Lv es c0 d (C ++ [c]) := by
  have hnx := nx_of ht hd
  refine ⟨?_, fun x hx => ?_, List.nodup_append.mpr ⟨h.cnd, by simp, fun a hax x hx => by simp at hx; subst hx; exact fun e => hn (e ▸ hax)⟩, fun x hx => ?_⟩
  · obtain ⟨j, hj⟩ := h.beg
    exact ⟨j + 1, hj.snoc hnx⟩
  · rcases List.mem_append.mp hx with hx | hx
    · obtain ⟨k, hk⟩ := h.rch x hx
      exact ⟨k + 1, hk.snoc hnx⟩
    · simp at hx
      subst hx
      exact ⟨0, d, hnx, rfl⟩
  · rcases List.mem_append.mp hx with hx | hx
    · exact h.cb x hx
    · simp at hx
      subst hx
      exact ⟨List.mem_map.mpr ⟨_, look_mem ht, rfl⟩, by omega⟩
/-- a dict of told terms, locked or not -/
def TD (S : Store) (d : Nat) (es : Eqs) : Prop := S[d]? = some (.dk (es.map kvE)) ∨ S[d]? = some (.dkl (es.map kvE))
theorem TD.keep {S S' : Store} {d : Nat} {es : Eqs} (h : TD S d es) (k : Keep S S') : TD S' d es := h.imp (fun h => k.get h) (fun h => k.get h)
theorem TD.at {S : Store} {d : Nat} {es : Eqs} (h : TD S d es) : dkAt S (.ref d) = some (es.map kvE) := by
  rcases h with h | h <;> simp [h]
end Z
namespace Z
theorem is_nmB {s : List Nat} (h : nmB s = true) : IsNm s := by
  simp [nmB, azB] at h
  exact ⟨h.1.1.1.1, h.1.1.1.2, fun k hk => h.2 k hk, h.1.1.2, h.1.2⟩
theorem Tm.In.mono {a b : List (List Nat)} (h : ∀ s ∈ a, s ∈ b) : ∀ {t : Tm}, t.In a → t.In b
  | .row s, i => h s i
  | .sign _ t, i => ⟨i.1, Tm.In.mono h i.2⟩
  | .beh t, i => Tm.In.mono (t := t) h i
  | .zip a b, i => ⟨Tm.In.mono h i.1, Tm.In.mono h i.2⟩
/-- a term's own look -/
structure TmOk (t : Tm) : Prop where
  inn : t.In t.rows
  ok : ∀ s ∈ t.rows, IsNm s
structure Eqn (e : List Nat × Tm) : Prop where
  nm : IsNm e.1
  tm : TmOk e.2
  size : e.2.size ≤ 20
  depth : e.2.depth ≤ 10
end Z
namespace Z
structure LI (S : Store) (p c l r d dt : Nat) (names : List (List Nat)) (es : Eqs) : Prop where
  sp : Sp S p c
  nm : Nm S p c l names
  cb : CB S r d es
  gt : S[dt]? = some (.dk (es.map kvE))
  ne : d ≠ dt
theorem sp_lst {S : Store} {p c : Nat} (h : Sp S p c) : (∃ xs, S[p]? = some (.lst xs)) ∧ ∃ xs, S[c]? = some (.lst xs) := by
  obtain ⟨s, h⟩ := h
  exact ⟨⟨_, h.hp⟩, ⟨_, h.hc⟩⟩
theorem LI.fr {S S' : Store} {p c l r d dt : Nat} {names : List (List Nat)} {es : Eqs} (h : LI S p c l r d dt names es) (f : Fr p c S S') (s : Sp S' p c) : LI S' p c l r d dt names es := by
  obtain ⟨⟨xs, hp⟩, ⟨ys, hc⟩⟩ := sp_lst h.sp
  have nl : ∀ {i : Nat} {o : MO}, S[i]? = some o → (∀ zs, o ≠ .lst zs) → S'[i]? = some o := fun {i o} g hn => by
    rw [f.old i (List.getElem?_eq_some_iff.mp g).1 (fun e => by subst e; rw [hp] at g; cases g; exact hn _ rfl) (fun e => by subst e; rw [hc] at g; cases g; exact hn _ rfl)]
    exact g
  exact ⟨s, h.nm.fr f, ⟨nl h.cb.gr (fun _ e => by cases e), nl h.cb.gd (fun _ e => by cases e)⟩, nl h.gt (fun _ e => by cases e), h.ne⟩
theorem keep_fr {p c : Nat} {S S' : Store} (k : Keep S S') : Fr p c S S' := ⟨k.1, fun i h _ _ => k.2 i h⟩
theorem keep_sp2 {S S' : Store} {p c : Nat} (hs : Sp S p c) (k : Keep S S') : Sp S' p c := by
  obtain ⟨x, h1⟩ := hs
  have h2 := h1.lt
  exact ⟨x, ⟨h1.ne, by rw [k.2 p h2.1]; exact h1.hp, by rw [k.2 c h2.2]; exact h1.hc, h1.ok⟩⟩
theorem LI.keep {S S' : Store} {p c l r d dt : Nat} {names : List (List Nat)} {es : Eqs} (h : LI S p c l r d dt names es) (k : Keep S S') : LI S' p c l r d dt names es := h.fr (keep_fr k) (keep_sp2 h.sp k)
end Z
namespace Z
open Classical
def GK (b : Bool) (k : D) : Prop := if b = true then nkOk k = true else k0 k = true
structure DA (S : Store) (n : Nat) (b : Bool) (kvs : List (D × D)) : Prop where
  gk : ∀ p ∈ kvs, GK b p.1
  at' : S[n]? = some (if b = true then .nk kvs else .dk kvs)
theorem DA.get {S S' : Store} {n : Nat} {b : Bool} {kvs : List (D × D)} (h : DA S n b kvs) (e : S'[n]? = S[n]?) : DA S' n b kvs := ⟨h.gk, by rw [e]; exact h.at'⟩
theorem DA.lt {S : Store} {n : Nat} {b : Bool} {kvs : List (D × D)} (h : DA S n b kvs) : n < S.length := (List.getElem?_eq_some_iff.mp h.at').1
theorem DA.keep {S S' : Store} {n : Nat} {b : Bool} {kvs : List (D × D)} (h : DA S n b kvs) (k : Keep S S') : DA S' n b kvs := h.get (k.2 n h.lt)
@[simp] theorem x_dctN (ρ : Env) (S : Store) : eDctN ρ S = some (.ok (.ref S.length) (S ++ [.nk []])) := rfl
theorem nkL_flat : ∀ {l : List D}, l.all k0 = true → ∃ ks, nkL l = some ks ∧ PySem.NestedKey.depthAll ks = 0
  | [], _ => ⟨[], rfl, rfl⟩
  | x :: l, h => by
    simp only [List.all_cons, Bool.and_eq_true] at h
    obtain ⟨ks, h1, h2⟩ := nkL_flat h.2
    cases x with
    | int i => exact ⟨.num i :: ks, by rw [nkL, nkD, h1], by simp [PySem.NestedKey.depthAll, PySem.NestedKey.depth, h2]⟩
    | str s => exact ⟨.text (str s) :: ks, by rw [nkL, nkD, h1], by simp [PySem.NestedKey.depthAll, PySem.NestedKey.depth, h2]⟩
    | _ => simp [k0] at h
theorem nkOk_flat {l : List D} (h : l.all k0 = true) : nkOk (.tup l) = true := by
  obtain ⟨ks, h1, h2⟩ := nkL_flat h
  have e : nkD (.tup l) = some (.tup ks) := by rw [nkD, h1]; rfl
  show (match nkD (.tup l) with | some k => decide (k.depth ≤ 8) | none => false) = true
  rw [e]
  simp [PySem.NestedKey.depth, h2]
section
variable {S : Store} {n : Nat} {b : Bool} {kvs : List (D × D)} {ρ : Env} {md mk mv : SE} {k v : D}
theorem DA.gkn (h : DA S n true kvs) : S[n]? = some (.nk kvs) := h.at'
theorem GK.ot {k : D} (h : nkOk k = true) : GK true k := by unfold GK; rwa [if_pos rfl]
theorem dput_gk (h : ∀ p ∈ kvs, GK b p.1) (hk : GK b k) : ∀ p ∈ dput kvs k v, GK b p.1 := by
  intro p hp
  unfold dput at hp
  split at hp
  · obtain ⟨q, hq, rfl⟩ := List.mem_map.mp hp
    split
    · exact h q hq
    · exact h q hq
  · rcases List.mem_append.mp hp with hp | hp
    · exact h p hp
    · simp at hp; subst hp; exact hk
end
end Z
namespace Z
structure Q where
  s : Nat
  e : Nat
  o : Nat
def Q.d (q : Q) : D := .tup [.int q.s, .int q.e, .int q.o]
abbrev machD (m : List Q) : D := .tup (m.map Q.d)
structure Mach (m : List Q) : Prop where
  pos : 0 < m.length
  he : ∀ q ∈ m, q.e < m.length
  ho : ∀ q ∈ m, q.o < m.length
  hs : ∀ q ∈ m, ∀ p, m[q.e]? = some p → p.s = q.s
  h9 : ∀ q ∈ m, q.s ≤ 9
def stq (m : List Q) (s : Nat) : Q := m.getD s ⟨0, 0, 0⟩
def go (m : List Q) (s n : Nat) : Nat := if h : n = 0 then s else go m (if n % 2 = 0 then (stq m s).e else (stq m s).o) (n / 2)
termination_by n
decreasing_by omega
def sgn (m : List Q) (s n : Nat) : Nat := (stq m (go m s n)).s
theorem go0 (m : List Q) (s : Nat) : go m s 0 = s := by rw [go]; simp
theorem go1 (m : List Q) (s : Nat) {n : Nat} (h : n ≠ 0) : go m s n = go m (if n % 2 = 0 then (stq m s).e else (stq m s).o) (n / 2) := by
  conv => lhs; rw [go]
  rw [dif_neg h]
theorem Mach.at {m : List Q} {s : Nat} (h : s < m.length) : m[s]? = some (stq m s) := by simp [stq, h]
theorem Mach.mem {m : List Q} {s : Nat} (h : s < m.length) : stq m s ∈ m := List.mem_of_getElem? (Mach.at h)
theorem at_state {m : List Q} {s : Nat} (h : s < m.length) : atI (m.map Q.d) (s : Int) = some (stq m s).d := atI_nat (by simp [Mach.at h])
theorem ix_state {m : List Q} {s : Nat} (h : s < m.length) (S : Store) : ixD (machD m) (.int (s : Int)) S = some (.ok (stq m s).d S) := by
  have : atI (m.map Q.d) (s : Int) = some (stq m s).d := atI_nat (by simp [Mach.at h])
  simp [this]
end Z
namespace Z
/-- among the first n places of the row from state s on -/
def cnt (m : List Q) (x s : Nat) : Nat → Nat
  | 0 => 0
  | n + 1 => cnt m x s n + if sgn m s n = x then 1 else 0
theorem sgn_even {m : List Q} (M : Mach m) {s : Nat} (h : s < m.length) (k : Nat) : sgn m s (2 * k) = sgn m (stq m s).e k := by
  by_cases h0 : k = 0
  · subst h0
    simp [sgn, go0]
    exact (M.hs _ (Mach.mem h) _ (Mach.at (M.he _ (Mach.mem h)))).symm
  · unfold sgn
    rw [go1 m s (by omega), if_pos (by omega), show 2 * k / 2 = k by omega]
theorem sgn_odd {m : List Q} {s : Nat} (k : Nat) : sgn m s (2 * k + 1) = sgn m (stq m s).o k := by
  unfold sgn
  rw [go1 m s (by omega), if_neg (by omega), show (2 * k + 1) / 2 = k by omega]
def pr (m : List Q) (x n s : Nat) : D := .tup [.int (cnt m x s n), .int (cnt m x s (n + 1))]
def prs (m : List Q) (x n : Nat) : List D := (List.range m.length).map (pr m x n)
end Z
namespace Z
def en (m : List Q) (x : Nat) (q : Nat × Nat) : List D × D := ([.int q.1, .int q.2], .int (cnt m x q.1 q.2))
theorem nodup_le {α : Type} [DecidableEq α] : ∀ (P L : List α), P.Nodup → (∀ q ∈ P, q ∈ L) → P.length ≤ L.length
  | [], L, _, _ => Nat.zero_le _
  | q :: P, L, h, hs => by
    obtain ⟨h1, h2⟩ := List.nodup_cons.mp h
    have hq := hs q (by simp)
    have := nodup_le P (L.erase q) h2 fun y hy => by
      have hy' := hs y (List.mem_cons_of_mem _ hy)
      exact (List.mem_erase_of_ne (by rintro rfl; exact h1 hy)).mpr hy'
    rw [List.length_erase_of_mem hq] at this
    have := List.length_pos_of_mem hq
    simp; omega
/-- a dict of counts stands at r, its keys of L -/
def Kn (m : List Q) (x : Nat) (S : Store) (r : Nat) (L : List (Nat × Nat)) : Prop := ∃ P : List (Nat × Nat), S[r]? = some (.st (P.map (en m x))) ∧ P.Nodup ∧ ∀ q ∈ P, q ∈ L
theorem Kn.keep {m : List Q} {x : Nat} {S S' : Store} {r : Nat} {L : List (Nat × Nat)} (h : Kn m x S r L) (e : S'[r]? = S[r]?) : Kn m x S' r L := let ⟨P, a, b, c⟩ := h; ⟨P, by rw [e]; exact a, b, c⟩
def lev (m : List Q) (n j : Nat) : List (Nat × Nat) := ((List.range m.length).map fun s => (s, n / 2 ^ j)) ++ (List.range m.length).map fun s => (s, n / 2 ^ j + 1)
def hs (m : List Q) (n : Nat) : Nat → List (Nat × Nat)
  | 0 => []
  | k + 1 => hs m n k ++ lev m n k
end Z
namespace Z
open Classical
noncomputable def pushU {α : Type} (r : List α) (k : α) : List α := if k ∈ r then r else r ++ [k]
noncomputable def bfs {α : Type} (nx : α → Option (α × α)) : Nat → Nat → List α → Option (List α)
  | 0, _, _ => none
  | f + 1, i, r => match r[i]? with
    | none => some r
    | some k => match nx k with
      | none => none
      | some q => bfs nx f (i + 1) (pushU (pushU r q.1) q.2)
section
variable {α β : Type}
theorem nodup_len {P L : List α} (h : P.Nodup) (hs : ∀ q ∈ P, q ∈ L) : P.length ≤ L.length := nodup_le P L h hs
theorem bfs_more {nx : α → Option (α × α)} : ∀ {f i : Nat} {r l : List α}, bfs nx f i r = some l → bfs nx (f + 1) i r = some l
  | 0, i, r, l, h => by cases h
  | f + 1, i, r, l, h => by
    rw [bfs] at h ⊢
    cases hr : r[i]? with
    | none => rw [hr] at h; exact h
    | some k =>
      rw [hr] at h
      dsimp only at h ⊢
      cases hq : nx k with
      | none => rw [hq] at h; cases h
      | some q =>
        rw [hq] at h
        dsimp only at h ⊢
        exact bfs_more h
theorem bfs_mono {nx : α → Option (α × α)} {f g i : Nat} {r l : List α} (h : bfs nx f i r = some l) (hg : f ≤ g) : bfs nx g i r = some l := by
  obtain ⟨k, rfl⟩ := Nat.exists_eq_add_of_le hg
  clear hg
  induction k with
  | zero => exact h
  | succ k ih => exact bfs_more ih
structure MetG (nx : α → Option (α × α)) (P : α → Prop) (r l : List α) : Prop where
  pre : ∃ t, l = r ++ t
  nd : l.Nodup
  ok : ∀ x ∈ l, P x
  clo : ∀ k ∈ l, ∃ q, nx k = some q ∧ q.1 ∈ l ∧ q.2 ∈ l
end
end Z
namespace Z
open Classical
structure NQ where
  s : Nat
  e : D
  o : D
def NQ.d (q : NQ) : D := .tup [.int q.s, q.e, q.o]
abbrev Gr := List (D × NQ)
def grD (gs : Gr) : List (D × D) := gs.map fun p => (p.1, p.2.d)
noncomputable def nxG (gs : Gr) (k : D) : Option (D × D) := (dget gs k).map fun q => (q.e, q.o)
theorem dget_map {β γ : Type} (f : β → γ) (kvs : List (D × β)) (k : D) : dget (kvs.map fun p => (p.1, f p.2)) k = (dget kvs k).map f := by
  unfold dget
  rw [List.find?_map, Option.map_map, Option.map_map]
  rfl
theorem dget_mem {β : Type} {kvs : List (D × β)} {k : D} {v : β} (h : dget kvs k = some v) : (k, v) ∈ kvs := by
  unfold dget at h
  obtain ⟨p, hp, rfl⟩ := Option.map_eq_some_iff.mp h
  have h1 := List.find?_some hp
  have h2 := List.mem_of_find?_eq_some hp
  have : p.1 = k := by simpa using h1
  rw [← this]
  exact h2
theorem dget_some {β : Type} {kvs : List (D × β)} {k : D} (h : k ∈ kvs.map (·.1)) : ∃ v, dget kvs k = some v := by
  unfold dget
  obtain ⟨p, hp, rfl⟩ := List.mem_map.mp h
  cases e : kvs.find? fun q => decide (q.1 = p.1) with
  | none =>
    have := List.find?_eq_none.mp e p hp
    simp at this
  | some q => exact ⟨q.2, rfl⟩
theorem dget_isSome {β : Type} {kvs : List (D × β)} {k : D} : (dget kvs k).isSome = decide (k ∈ kvs.map (·.1)) := by
  by_cases h : k ∈ kvs.map (·.1)
  · obtain ⟨v, hv⟩ := dget_some h
    rw [hv, decide_eq_true h]
    rfl
  · cases e : dget kvs k with
    | none => rw [decide_eq_false h]; rfl
    | some v => exact absurd (List.mem_map.mpr ⟨_, dget_mem e, rfl⟩) h
structure GOk (gs : Gr) (b : Bool) : Prop where
  gk : ∀ p ∈ gs, GK b p.1
  clo : ∀ p ∈ gs, (∃ q, dget gs p.2.e = some q ∧ q.s = p.2.s) ∧ ∃ q, dget gs p.2.o = some q
  few : gs.length ≤ 8000000
abbrev keysG (gs : Gr) : List D := gs.map (·.1)
theorem GOk.key {gs : Gr} {b : Bool} (g : GOk gs b) {k : D} (h : k ∈ keysG gs) : GK b k := by
  obtain ⟨p, hp, rfl⟩ := List.mem_map.mp h
  exact g.gk p hp
theorem dput_new {kvs : List (D × D)} {k v : D} (h : k ∉ kvs.map (·.1)) : dput kvs k v = kvs ++ [(k, v)] := by
  unfold dput
  rw [if_neg]
  intro h'
  obtain ⟨p, hp, e⟩ := List.any_eq_true.mp h'
  exact h (List.mem_map.mpr ⟨p, hp, by simpa using e⟩)
end Z
namespace Z
open Classical
noncomputable def onceU {α : Type} (xs : List α) : List α := xs.foldl pushU []
theorem dfold : ∀ (kvs acc : List (D × D)), ((acc ++ kvs).map (·.1)).Nodup → kvs.foldl (fun acc p => dput acc p.1 p.2) acc = acc ++ kvs
  | [], acc, _ => by simp
  | p :: r, acc, h => by
    have h1 : p.1 ∉ acc.map (·.1) := by
      intro hm
      rw [List.map_append, List.nodup_append] at h
      exact h.2.2 _ hm p.1 (by simp) rfl
    rw [List.foldl_cons, dput_new h1, dfold r (acc ++ [(p.1, p.2)]) (by simpa using h)]
    simp
theorem nOf_d : ∀ {kvs : List (D × D)}, (∀ p ∈ kvs, nkOk p.1 = true) → nOf (kvs.map fun p => D.tup [p.1, p.2]) = some kvs
  | [], _ => rfl
  | p :: r, h => by
    rw [List.map_cons, nOf, nOf_d fun q hq => h q (List.mem_cons_of_mem _ hq)]
    simp [h p (by simp)]
theorem ev_dictN {S : Store} {m : Nat} {kvs : List (D × D)} (g : S[m]? = some (.lst (kvs.map fun p => D.tup [p.1, p.2]))) (hk : ∀ p ∈ kvs, nkOk p.1 = true) (hn : (kvs.map (·.1)).Nodup) (hl : kvs.length < 16000000) : dictNF [.ref m] S = some (.ok (.ref S.length) (S ++ [.nk kvs])) := by
  have hd := dfold kvs [] (by simpa using hn)
  rw [List.nil_append] at hd
  unfold dictNF
  dsimp only
  rw [g]
  dsimp only
  rw [nOf_d hk]
  dsimp only
  rw [if_pos hl, hd]
  rfl
end Z
namespace Z
open Classical
section
variable {S : Store} {n : Nat} {kvs : List (D × D)} {ρ : Env} {md mk mv : SE} {v : D} {l : List D}
theorem ev_nni {k : D} (h : DA S n true kvs) (hk : nkOk k = true) (e1 : mk ρ S = some (.ok k S)) (e2' : md ρ S = some (.ok (.ref n) S)) : e2 nNi mk md ρ S = some (.ok (.bl (!(dget kvs k).isSome)) S) := by
  simp [e2, e1, e2', nNi, nkAt, h.gkn, hk]
theorem ev_nin {k : D} (h : DA S n true kvs) (hk : nkOk k = true) (e1 : mk ρ S = some (.ok k S)) (e2' : md ρ S = some (.ok (.ref n) S)) : e2 nIn mk md ρ S = some (.ok (.bl (dget kvs k).isSome) S) := by
  simp [e2, e1, e2', nIn, nkAt, h.gkn, hk]
theorem ev_nget {k : D} (h : DA S n true kvs) (hk : nkOk k = true) (e1 : md ρ S = some (.ok (.ref n) S)) (e2' : mk ρ S = some (.ok k S)) (hv : dget kvs k = some v) : e2 nGet md mk ρ S = some (.ok v S) := by
  simp [e2, e1, e2', nGet, nkAt, h.gkn, hk, hv]
theorem ev_nput {k : D} (h : DA S n true kvs) (hn : kvs.length < 16000000) (hk : nkOk k = true) (e0 : mv ρ S = some (.ok v S)) (e1 : md ρ S = some (.ok (.ref n) S)) (e2' : mk ρ S = some (.ok k S)) : sNPut md mk mv ρ S = some (.nx ρ (S.set n (.nk (dput kvs k v)))) ∧ DA (S.set n (.nk (dput kvs k v))) n true (dput kvs k v) := by
  have hnl := h.lt
  exact ⟨by simp [sNPut, e0, e1, e2', h.gkn, hn, hk], ⟨dput_gk h.gk (GK.ot hk), List.getElem?_set_self hnl⟩⟩
end
noncomputable def ixU {α : Type} (l : List α) (x : α) : Nat := if h : ∃ j, l[j]? = some x then h.choose else 0
theorem nodup_ix {α : Type} {l : List α} (hn : l.Nodup) {i j : Nat} {x : α} (hi : l[i]? = some x) (hj : l[j]? = some x) : i = j := by
  obtain ⟨h1, e1⟩ := List.getElem?_eq_some_iff.mp hi
  obtain ⟨h2, e2⟩ := List.getElem?_eq_some_iff.mp hj
  exact (List.getElem_inj hn).mp (e1.trans e2.symm)
noncomputable def sgG (gs : Gr) (k : D) : Nat := ((dget gs k).map (·.s)).getD 0
noncomputable def evG (gs : Gr) (k : D) : D := ((dget gs k).map (·.e)).getD k
noncomputable def odG (gs : Gr) (k : D) : D := ((dget gs k).map (·.o)).getD k
abbrev T3 := Nat × Nat × Nat
noncomputable def key3 (gs : Gr) (kd : D → Nat) (k : D) : T3 := (kd k, kd (evG gs k), kd (odG gs k))
noncomputable def K3 (gs : Gr) (kd : D → Nat) (row : List D) : List T3 := onceU (row.map (key3 gs kd))
structure RowOk (gs : Gr) (b : Bool) (row : List D) : Prop where
  g : GOk gs b
  nd : row.Nodup
  ok : ∀ k ∈ row, k ∈ keysG gs
  clo : ∀ k ∈ row, ∃ q, dget gs k = some q ∧ q.e ∈ row ∧ q.o ∈ row
  ne : row ≠ []
theorem RowOk.of {gs : Gr} {b : Bool} {row : List D} {a : D} (g : GOk gs b) (m : MetG (nxG gs) (· ∈ keysG gs) [a] row) : RowOk gs b row := ⟨g, m.nd, m.ok, fun k hk => by
  obtain ⟨q, h1, h2, h3⟩ := m.clo k hk
  unfold nxG at h1
  obtain ⟨q', h4, rfl⟩ := Option.map_eq_some_iff.mp h1
  exact ⟨q', h4, h2, h3⟩, by
  obtain ⟨t, ht⟩ := m.pre
  rw [ht]
  simp⟩
theorem RowOk.len {gs : Gr} {b : Bool} {row : List D} (h : RowOk gs b row) : row.length ≤ 8000000 := by
  have := nodup_len h.nd h.ok
  have := h.g.few
  simp at *
  omega
theorem RowOk.at {gs : Gr} {b : Bool} {row : List D} (h : RowOk gs b row) {k : D} (hk : k ∈ row) : ∃ q, dget gs k = some q ∧ q.s = sgG gs k ∧ q.e = evG gs k ∧ q.o = odG gs k ∧ q.e ∈ row ∧ q.o ∈ row := by
  obtain ⟨q, h1, h2, h3⟩ := h.clo k hk
  exact ⟨q, h1, by simp [sgG, h1], by simp [evG, h1], by simp [odG, h1], h2, h3⟩
end Z
namespace Z
open Classical
noncomputable def rwG (gs : Gr) (s : D) (m : Nat) : Nat := if h : m = 0 then sgG gs s else rwG gs (if m % 2 = 0 then evG gs s else odG gs s) (m / 2)
termination_by m
decreasing_by omega
theorem rwG0 (gs : Gr) (s : D) : rwG gs s 0 = sgG gs s := by rw [rwG]; simp
theorem rwG1 (gs : Gr) (s : D) {m : Nat} (h : m ≠ 0) : rwG gs s m = rwG gs (if m % 2 = 0 then evG gs s else odG gs s) (m / 2) := by
  conv => lhs; rw [rwG]
  rw [dif_neg h]
end Z
namespace Z
open Classical
def evF (f : Nat → Nat) : Nat → Nat := fun m => f (2 * m)
def odF (f : Nat → Nat) : Nat → Nat := fun m => f (2 * m + 1)
def nxF (f : Nat → Nat) : Option ((Nat → Nat) × (Nat → Nat)) := some (evF f, odF f)
noncomputable def macF (l : List (Nat → Nat)) : List Q := l.map fun h => ⟨h 0, ixU l (evF h), ixU l (odF h)⟩
def Canon (M : List Q) (f : Nat → Nat) : Prop := ∃ fu l, bfs nxF fu 0 [f] = some l ∧ M = macF l
theorem Canon.eq {M M' : List Q} {f : Nat → Nat} (h : Canon M f) (h' : Canon M' f) : M = M' := by
  obtain ⟨a, l, h1, rfl⟩ := h
  obtain ⟨c, l', h2, rfl⟩ := h'
  have e1 := bfs_mono h1 (Nat.le_max_left a c)
  have e2 := bfs_mono h2 (Nat.le_max_right a c)
  rw [e1] at e2
  cases e2
  rfl
end Z
namespace Z
open Classical
def mkK (mark i : Nat) : D := .tup [.int mark, .int i]
/-- the states of a machine among others -/
structure Inn (gs : Gr) (mark : Nat) (m : List Q) : Prop where
  at' : ∀ (i : Nat) (q : Q), m[i]? = some q → dget gs (mkK mark i) = some ⟨q.s, mkK mark q.e, mkK mark q.o⟩
theorem Inn.rw {gs : Gr} {mark : Nat} {m : List Q} (M : Mach m) (h : Inn gs mark m) : ∀ (n : Nat) {i : Nat}, i < m.length → rwG gs (mkK mark i) n = sgn m i n := by
  intro n
  induction n using Nat.strongRecOn with
  | _ n ih =>
    intro i hi
    have hq := h.at' i _ (Mach.at hi)
    by_cases h0 : n = 0
    · subst h0
      rw [rwG0]
      unfold sgn
      rw [go0]
      simp [sgG, hq]
    · rw [rwG1 _ _ h0]
      unfold sgn
      rw [go1 _ _ h0]
      have ih' := fun {j : Nat} (hj : j < m.length) => ih (n / 2) (by omega) hj
      unfold sgn at ih'
      by_cases hm : n % 2 = 0
      · rw [if_pos hm, if_pos hm]
        have : evG gs (mkK mark i) = mkK mark (stq m i).e := by simp [evG, hq]
        rw [this]
        exact ih' (M.he _ (Mach.mem hi))
      · rw [if_neg hm, if_neg hm]
        have : odG gs (mkK mark i) = mkK mark (stq m i).o := by simp [odG, hq]
        rw [this]
        exact ih' (M.ho _ (Mach.mem hi))
theorem grD_keys (gs : Gr) : (grD gs).map (·.1) = keysG gs := by
  unfold grD
  rw [List.map_map]
  rfl
end Z
namespace Z
open Classical
/-- a least machine with this row -/
structure Lst (M : List Q) (f : Nat → Nat) (B : Nat) : Prop where
  mach : Mach M
  len : M.length ≤ B
  row : ∀ n, sgn M 0 n = f n
  can : Canon M f
theorem Inn.clo {gs : Gr} {mark : Nat} {m : List Q} (M : Mach m) (h : Inn gs mark m) {q : Q} (hq : q ∈ m) : (∃ w, dget gs (mkK mark q.e) = some w ∧ w.s = q.s) ∧ ∃ w, dget gs (mkK mark q.o) = some w :=
  ⟨⟨_, h.at' _ _ (Mach.at (M.he q hq)), M.hs q hq _ (Mach.at (M.he q hq))⟩, _, h.at' _ _ (Mach.at (M.ho q hq))⟩
end Z
namespace Z
open Classical
def aK (s i : Nat) : D := .tup [.int 1, .int i, .int s]
theorem tv_t {e : SE} {ρ : Env} {S S1 : Store} {b : Bool} (h : e ρ S = some (.ok (.bl b) S1)) : tVal e ρ S = some (.ok b S1) := by
  unfold tVal
  rw [h]
  rfl
theorem sif_t {t : ST} {b1 b2 : SS} {ρ : Env} {S S1 : Store} {b : Bool} (h : t ρ S = some (.ok b S1)) : sIf t b1 b2 ρ S = if b = true then b1 ρ S1 else b2 ρ S1 := by
  rw [x_sif, h]
  rfl
theorem nat_nodup_len : ∀ (n : Nat) (vs : List Nat), vs.Nodup → (∀ i ∈ vs, i < n) → vs.length ≤ n := by
  intro n vs hn hl
  have := nodup_len (L := List.range n) hn (fun x hx => List.mem_range.mpr (hl x hx))
  simpa using this
end Z
namespace Z
open Classical
/-- this expression makes a machine with this row -/
def MG (e : SE) (ρ : Env) (f : Nat → Nat) (B : Nat) : Prop := ∀ S, ∃ m S', e ρ S = some (.ok (machD m) S') ∧ Keep S S' ∧ Mach m ∧ (∀ n, sgn m 0 n = f n) ∧ m.length ≤ B
/-- and it is the least one -/
def ML (e : SE) (ρ : Env) (f : Nat → Nat) (B : Nat) : Prop := ∀ S, ∃ m S', e ρ S = some (.ok (machD m) S') ∧ Keep S S' ∧ Lst m f B
section
variable {e a b : SE} {ρ : Env} {f g : Nat → Nat} {A B : Nat}
theorem ML.mg (h : ML e ρ f B) : MG e ρ f B := fun S => let ⟨m, S', t, k, l⟩ := h S; ⟨m, S', t, k, l.mach, l.row, l.len⟩
theorem Lst.to {M : List Q} (h : Lst M f B) (e : ∀ n, f n = g n) : Lst M g B := by
  have : f = g := funext e
  rw [← this]
  exact h
theorem ML.to (h : ML e ρ f B) (q : ∀ n, f n = g n) : ML e ρ g B := fun S => let ⟨m, S', t, k, l⟩ := h S; ⟨m, S', t, k, l.to q⟩
theorem MG.to (h : MG e ρ f B) (q : ∀ n, f n = g n) : MG e ρ g B := fun S => let ⟨m, S', t, k, l, r, z⟩ := h S; ⟨m, S', t, k, l, fun n => (r n).trans (q n), z⟩
end
end Z
namespace Z
open Classical
def tD (row : List D) : List (D × D) := row.map fun k => (k, .bl true)
theorem tD_keys (row : List D) : (tD row).map (·.1) = row := by
  unfold tD
  rw [List.map_map]
  conv => rhs; rw [← List.map_id row]
  rfl
theorem tD_len (row : List D) : (tD row).length = row.length := List.length_map _
end Z
namespace Z
open Classical
theorem ev_lget {S : Store} {n : Nat} {kvs : List (D × D)} {ρ : Env} {md mk : SE} {k v : D} (h : nkAt S (.ref n) = some kvs) (hk : nkOk k = true) (e1 : md ρ S = some (.ok (.ref n) S)) (e2' : mk ρ S = some (.ok k S)) (hv : dget kvs k = some v) : e2 nGet md mk ρ S = some (.ok v S) := by
  simp [e2, e1, e2', nGet, h, hk, hv]
theorem nk_l {S : Store} {n : Nat} {kvs : List (D × D)} (h : S[n]? = some (.nkl kvs)) : nkAt S (.ref n) = some kvs := by
  simp [nkAt, h]
section
variable {S : Store} {n kx : Nat} {gs : Gr} {row : List D} {kd : D → Nat}
theorem RowOk.all (g : GOk gs true) (hnd : (keysG gs).Nodup) (hne : gs ≠ []) : RowOk gs true (keysG gs) := ⟨g, hnd, fun k hk => hk, fun k hk => by
  obtain ⟨q, hq⟩ := dget_some hk
  obtain ⟨⟨qe, he, _⟩, qo, ho⟩ := g.clo _ (dget_mem hq)
  exact ⟨q, hq, List.mem_map.mpr ⟨_, dget_mem he, rfl⟩, List.mem_map.mpr ⟨_, dget_mem ho, rfl⟩⟩, fun e => hne (List.map_eq_nil_iff.mp e)⟩
end
end Z
namespace Z
open Classical
structure UOk (UL : List D) (op : D → NQ) (r : Nat) (rows : MO) : Prop where
  key : ∀ u ∈ UL, nkOk u = true
  dk : ∀ u ∈ UL, ∀ S, Dk 10 S u
  e : ∀ u ∈ UL, (op u).e ∈ UL
  o : ∀ u ∈ UL, (op u).o ∈ UL
  s : ∀ u ∈ UL, (op (op u).e).s = (op u).s
  run : ∀ u ∈ UL, ∀ S, S[r]? = some rows → R_law_opened 24 [.ref r, u] S = some (.ok (op u).d S)
  few : UL.length ≤ 3000
def guG (op : D → NQ) (us : List D) : Gr := us.map fun u => (u, op u)
theorem guG_keys (op : D → NQ) (us : List D) : keysG (guG op us) = us := by
  unfold guG keysG
  rw [List.map_map]
  exact List.map_id' us
theorem guG_get {op : D → NQ} {us : List D} {u : D} (h : u ∈ us) : dget (guG op us) u = some (op u) := by
  obtain ⟨v, hv⟩ := dget_some (kvs := guG op us) (k := u) (by
    have := guG_keys op us
    unfold keysG at this
    rw [this]
    exact h)
  obtain ⟨x, hx, e⟩ := List.mem_map.mp (dget_mem hv)
  cases e
  exact hv
structure WStt (S0 T : Store) (f w : Nat) (UL : List D) (op : D → NQ) (st us ws : List D) : Prop where
  gd : DA T f true (grD (guG op us))
  gw : T[w]? = some (.lst ws)
  nd : us.Nodup
  sub : ∀ u ∈ us ++ ws, u ∈ UL
  cl : ∀ u ∈ us, (op u).e ∈ us ++ ws ∧ (op u).o ∈ us ++ ws
  st : ∀ u ∈ st, u ∈ us ++ ws
  fw : f ≠ w
  kp : Keep S0 T
  bf : S0.length ≤ f
  bw : S0.length ≤ w
noncomputable abbrev statesT : ST := tVal (e2 neD (eVar 3) (eLst []))
section
variable {UL : List D} {op : D → NQ} {r : Nat} {rows : MO}
theorem nk_flat_in {UL : List D} {op : D → NQ} {u : D} (h : UOk UL op r rows) (hu : u ∈ UL) : cut [D.int ((op u).s : Nat), (op u).e, (op u).o] (some 1) none = [(op u).e, (op u).o] := by
  rw [show (1 : Int) = ((1 : Nat) : Int) from rfl, cut_drop]
  rfl
theorem states_loop (U : UOk UL op r rows) {S0 : Store} (hr : S0[r]? = some rows) {f w t : Nat} {st : List D} : ∀ (k : Nat) (us ws : List D) (T : Store) (o4 : Option D), 3 * (UL.length - us.length) + ws.length ≤ k → k ≤ 100000 → WStt S0 T f w UL op st us ws →
    ∃ us' T' p4, sWh statesT (lb_law_states_1 (R_law_opened 24)) [some (.ref r), some (.ref t), some (.ref f), some (.ref w), o4] T = some (.nx [some (.ref r), some (.ref t), some (.ref f), some (.ref w), p4] T') ∧ WStt S0 T' f w UL op st us' [] := by
  intro k
  induction k with
  | zero =>
    intro us ws T o4 hk hk2 A
    have hws : ws = [] := List.eq_nil_of_length_eq_zero (by omega)
    subst hws
    have hne := ne_nilD (k := 10) (S := T ++ [.lst []]) (a := w) (b := T.length) (ds := []) (by decide) (get_app A.gw _) (by simp) (fun d hd => (nomatch hd))
    have htest : statesT [some (.ref r), some (.ref t), some (.ref f), some (.ref w), o4] T = some (.ok false (T ++ [.lst []])) := by
      simp at hne
      simp [hne]
    exact ⟨us, T ++ [.lst []], o4, sWh_stop htest, ⟨A.gd.keep .app, get_app A.gw _, A.nd, A.sub, A.cl, A.st, A.fw, A.kp.trans .app, A.bf, A.bw⟩⟩
  | succ k ih =>
    intro us ws T o4 hk hk2 A
    have hne := ne_nilD (k := 10) (S := T ++ [.lst []]) (a := w) (b := T.length) (ds := ws) (by decide) (get_app A.gw _) (by simp) (fun d hd => U.dk d (A.sub d (List.mem_append_right _ hd)) _)
    have htest : statesT [some (.ref r), some (.ref t), some (.ref f), some (.ref w), o4] T = some (.ok (!ws.isEmpty) (T ++ [.lst []])) := by
      simp [hne]
    have hA : WStt S0 (T ++ [.lst []]) f w UL op st us ws := ⟨A.gd.keep .app, get_app A.gw _, A.nd, A.sub, A.cl, A.st, A.fw, A.kp.trans .app, A.bf, A.bw⟩
    obtain ⟨T1, hT1⟩ : ∃ T1, T1 = T ++ [MO.lst []] := ⟨_, rfl⟩
    rw [← hT1] at htest hA
    rcases List.eq_nil_or_concat ws with rfl | ⟨xs, u, rfl⟩
    · exact ⟨us, T1, o4, sWh_stop (by rw [htest]; rfl), hA⟩
    · rw [List.concat_eq_append] at hA htest hk
      have hu : u ∈ UL := hA.sub u (by simp)
      have hw1 := (List.getElem?_eq_some_iff.mp hA.gw).1
      have hpop : popF [.ref w] T1 = some (.ok u (T1.set w (.lst xs))) := pop_last (S := T1) (n := w) (xs := xs) (x := u) hA.gw
      have hrc : rcB T1 .list (.ref w) = true := by
        have := hA.gw
        simp [this]
      obtain ⟨T2, hT2⟩ : ∃ T2, T2 = T1.set w (.lst xs) := ⟨_, rfl⟩
      have g2 : T2[w]? = some (.lst xs) := by rw [hT2]; exact List.getElem?_set_self hw1
      have d2 : DA T2 f true (grD (guG op us)) := hA.gd.get (by rw [hT2, List.getElem?_set_ne (Ne.symm A.fw)])
      have kp2 : Keep S0 T2 := by rw [hT2]; exact hA.kp.set A.bw
      rw [← hT2] at hpop
      have t1 : sAsg (eMt .list popF (eVar 3) []) (gName 4) [some (.ref r), some (.ref t), some (.ref f), some (.ref w), o4] T1 = some (.nx [some (.ref r), some (.ref t), some (.ref f), some (.ref w), some u] T2) := by
        simp [-o_rcr, hrc, hpop]
      obtain ⟨ρ, hρ⟩ : ∃ ρ : Env, ρ = [some (.ref r), some (.ref t), some (.ref f), some (.ref w), some u] := ⟨_, rfl⟩
      have hkn := ev_nni (ρ := ρ) (mk := eVar 4) (md := eVar 2) d2 (U.key u hu) (by rw [hρ]; simp) (by rw [hρ]; simp)
      rw [dget_isSome, grD_keys, guG_keys] at hkn
      rw [← hρ] at t1
      by_cases hm : u ∈ us
      · rw [decide_eq_true hm] at hkn
        have hb : lb_law_states_1 (R_law_opened 24) [some (.ref r), some (.ref t), some (.ref f), some (.ref w), o4] T1 = some (.nx ρ T2) := by
          unfold lb_law_states_1
          rw [sq_nx t1, sif_t (tv_t hkn)]
          rfl
        have hmm : ∀ v, v ∈ us ++ (xs ++ [u]) → v ∈ us ++ xs := fun v hv => by
          simp only [List.mem_append, List.mem_singleton] at hv ⊢
          rcases hv with h | h | h
          · exact .inl h
          · exact .inr h
          · rw [h]; exact .inl hm
        obtain ⟨us', T', p4, e, R⟩ := ih us xs T2 (some u) (by simp at hk; omega) (by omega) ⟨d2, g2, A.nd, fun v hv => hA.sub v (by
          simp only [List.mem_append, List.mem_singleton] at hv ⊢
          rcases hv with h | h
          · exact .inl h
          · exact .inr (.inl h)), fun v hv => ⟨hmm _ (hA.cl v hv).1, hmm _ (hA.cl v hv).2⟩, fun v hv => hmm _ (hA.st v hv), A.fw, kp2, A.bf, A.bw⟩
        exact ⟨us', T', p4, by rw [sWh_go (by rw [htest]; simp) hb, hρ]; exact e, R⟩
      · rw [decide_eq_false hm] at hkn
        have hr2 := U.run u hu T2 (kp2.get hr)
        have hnd' : (us ++ [u]).Nodup := by
          rw [List.nodup_append]
          refine ⟨A.nd, by simp, fun a hav b hb e => ?_⟩
          simp at hb
          subst hb
          subst e
          exact hm hav
        have hle := nodup_len hnd' (L := UL) (fun v hv => hA.sub v (by
          simp only [List.mem_append, List.mem_singleton] at hv ⊢
          rcases hv with h | h
          · exact .inl h
          · exact .inr (.inr h)))
        have hfew := U.few
        simp at hle
        obtain ⟨hp, hd⟩ := ev_nput (ρ := ρ) (md := eVar 2) (mk := eVar 4) (mv := eCall (R_law_opened 24) [eVar 0, eVar 4]) (v := (op u).d) d2 (by unfold grD guG; simp; omega) (U.key u hu) (by rw [hρ]; simp [hr2]) (by rw [hρ]; simp) (by rw [hρ]; simp)
        rw [dput_new (by rw [grD_keys, guG_keys]; exact hm)] at hp hd
        have hgr : grD (guG op us) ++ [(u, (op u).d)] = grD (guG op (us ++ [u])) := by
          unfold guG grD
          simp
        rw [hgr] at hp hd
        obtain ⟨T3, hT3⟩ : ∃ T3, T3 = T2.set f (.nk (grD (guG op (us ++ [u])))) := ⟨_, rfl⟩
        rw [← hT3] at hp hd
        have g3 : T3[w]? = some (.lst xs) := by rw [hT3, List.getElem?_set_ne A.fw]; exact g2
        have hw3 := (List.getElem?_eq_some_iff.mp g3).1
        have hget := ev_nget (ρ := ρ) (md := eVar 2) (mk := eVar 4) (v := (op u).d) hd (U.key u hu) (by rw [hρ]; simp) (by rw [hρ]; simp) (by
          unfold grD
          rw [dget_map, guG_get (by simp)]
          rfl)
        have hcut := nk_flat_in U hu
        have hxl : xs.length + 2 ≤ LINE := by
          rw [LINE_eq]
          simp at hk
          omega
        have hrc3 : rcB T3 .list (.ref w) = true := by simp [g3]
        have hsl : eSl (e2 nGet (eVar 2) (eVar 4)) (some (eC (.int 1))) none ρ T3 = some (.ok (.tup [(op u).e, (op u).o]) T3) := by
          simp only [eSl, hget, bd_ok]
          simp [NQ.d, slD, hcut]
        have hb : lb_law_states_1 (R_law_opened 24) [some (.ref r), some (.ref t), some (.ref f), some (.ref w), o4] T1 = some (.nx ρ (T3.set w (.lst (xs ++ [(op u).e, (op u).o])))) := by
          unfold lb_law_states_1
          rw [sq_nx t1, sif_t (tv_t hkn), if_pos (by rfl), sq_nx hp]
          have h3 : eVar 3 ρ T3 = some (.ok (.ref w) T3) := by rw [hρ]; simp
          simp only [x_exp, eMt, h3, bd_ok, hrc3, if_true, x_cons, x_nil, hsl]
          simp [extendTF, g3, hxl]
        have hmm : ∀ v, v ∈ us ++ (xs ++ [u]) → v ∈ (us ++ [u]) ++ (xs ++ [(op u).e, (op u).o]) := fun v hv => by
          simp only [List.mem_append, List.mem_singleton, List.mem_cons, List.not_mem_nil, or_false] at hv ⊢
          rcases hv with h | h | h
          · exact .inl (.inl h)
          · exact .inr (.inl h)
          · exact .inl (.inr h)
        obtain ⟨us', T', p4, e, R⟩ := ih (us ++ [u]) (xs ++ [(op u).e, (op u).o]) (T3.set w (.lst (xs ++ [(op u).e, (op u).o]))) (some u) (by simp at hk ⊢; omega) (by omega) ⟨hd.get (by rw [List.getElem?_set_ne (Ne.symm A.fw)]), List.getElem?_set_self hw3, hnd', fun v hv => by
            simp only [List.mem_append, List.mem_singleton, List.mem_cons, List.not_mem_nil, or_false] at hv
            rcases hv with (h | h) | h | h | h
            · exact hA.sub v (by simp [h])
            · rw [h]; exact hu
            · exact hA.sub v (by simp [h])
            · rw [h]; exact U.e u hu
            · rw [h]; exact U.o u hu, fun v hv => by
            simp only [List.mem_append, List.mem_singleton] at hv
            rcases hv with h | h
            · exact ⟨hmm _ (hA.cl v h).1, hmm _ (hA.cl v h).2⟩
            · subst h
              exact ⟨by simp, by simp⟩, fun v hv => hmm _ (hA.st v hv), A.fw, by
            rw [hT3]
            exact (kp2.set A.bf).set A.bw, A.bf, A.bw⟩
        exact ⟨us', T', p4, by rw [sWh_go (by rw [htest]; simp) hb, hρ]; exact e, R⟩
theorem s_law_states (U : UOk UL op r rows) {S : Store} (hr : S[r]? = some rows) {t : Nat} {st : List D} (ht : S[t]? = some (.lst st)) (hst : ∀ u ∈ st, u ∈ UL) (hsl : st.length ≤ 50000) :
    ∃ us f S', R_law_states [.ref r, .ref t] S = some (.ok (.ref f) S') ∧ DA S' f true (grD (guG op us)) ∧ Keep S S' ∧ us.Nodup ∧ (∀ u ∈ us, u ∈ UL) ∧ (∀ u ∈ us, (op u).e ∈ us ∧ (op u).o ∈ us) ∧ (∀ u ∈ st, u ∈ us) ∧ GOk (guG op us) true := by
  have hfew := U.few
  obtain ⟨us, S', p4, e, A⟩ := states_loop U (S0 := S) hr (t := t) (f := S.length) (w := S.length + 1) (st := st) (3 * UL.length + st.length) [] st (S ++ [.nk [], .lst st]) none (by simp) (by omega) ⟨⟨fun p hp => by simp [guG, grD] at hp, by simp [guG, grD]⟩, by simp, by simp, fun u hu => hst u (by simpa using hu), fun u hu => (nomatch hu), fun u hu => by simpa using hu, by omega, .app, Nat.le_refl _, by omega⟩
  have cl : ∀ u ∈ us, (op u).e ∈ us ∧ (op u).o ∈ us := fun u hu => by
    have := A.cl u hu
    simpa using this
  have sub : ∀ u ∈ us, u ∈ UL := fun u hu => A.sub u (by simp [hu])
  have hle := nodup_len A.nd (L := UL) sub
  refine ⟨us, S.length, S', ?_, A.gd, A.kp, A.nd, sub, cl, fun u hu => by simpa using A.st u hu, ⟨fun p hp => ?_, fun p hp => ?_, by unfold guG; simp; omega⟩⟩
  · unfold R_law_states
    rw [run_eq (n := 2) _ _ rfl]
    unfold b_law_states
    rw [show (List.map some [D.ref r, .ref t] ++ List.replicate (5 - 2) none : Env) = [some (.ref r), some (.ref t), none, none, none] from rfl]
    rw [sq_nx (ρ1 := [some (.ref r), some (.ref t), some (.ref S.length), none, none]) (S1 := S ++ [.nk []]) (by simp)]
    have g1 : (S ++ [MO.nk []])[t]? = some (.lst st) := get_app ht _
    rw [sq_nx (ρ1 := [some (.ref r), some (.ref t), some (.ref S.length), some (.ref (S.length + 1)), none]) (S1 := S ++ [.nk [], .lst st]) (by simp [g1])]
    rw [sq_nx e]
    simp
  · obtain ⟨u, hu, rfl⟩ := List.mem_map.mp hp
    exact GK.ot (U.key u (sub u hu))
  · obtain ⟨u, hu, rfl⟩ := List.mem_map.mp hp
    exact ⟨⟨op (op u).e, guG_get (cl u hu).1, U.s u (sub u hu)⟩, ⟨op (op u).o, guG_get (cl u hu).2⟩⟩
end
end Z
namespace Z
theorem gtx0 {S T : Store} : (S ++ T)[S.length]? = T[0]? := by rw [List.getElem?_append_right (by omega)]; congr 1; omega
theorem any_round {p c f l many : Nat} {sg : List Nat} (hsg : sg.length = many) (hm : 0 < many) (hm2 : many ≤ 1000) {S0 : Store} (hf : S0.length = f + 1) (hl : l < f) (hlp : l ≠ p) (hlc : l ≠ c) (hfp : f ≠ p) (hfc : f ≠ c) (h0l : S0[l]? = some (.lst (natD sg))) {d2 d3 d4 : D} (N0 : Env) (hN0 : N0 = [some (.ref p), some d2, some (.int many), some d3, some d4, some (.ref l), some (.ref f)]) :
    ∀ (i : Nat) (x : D), (natD sg)[i]? = some x → ∀ (ρ : Env) (S' : Store), (∃ (fs : List Q) (o7 o8 o9 : Option D), ρ = N0 ++ [o7, o8, o9] ∧ S'[f]? = some (.lst (fs.map Q.d)) ∧ fs.length = i ∧ (∀ (j : Nat) (q : Q), fs[j]? = some q → sg[j]? = some q.s ∧ q.e < many ∧ q.o < many ∧ sg[q.e]? = some q.s) ∧ Sp S' p c ∧ S0.length ≤ S'.length ∧ (∀ j, j < S0.length → j ≠ p → j ≠ c → j ≠ f → S'[j]? = S0[j]?)) →
    ∃ ρ1 S1, gName 7 x ρ S' = some (ρ1, S1) ∧ ∃ ρ2 S2, (lb_law_any_machine_1 R_law_drop ρ1 S1 = some (.nx ρ2 S2) ∨ lb_law_any_machine_1 R_law_drop ρ1 S1 = some (.ct ρ2 S2)) ∧ (∃ (fs : List Q) (o7 o8 o9 : Option D), ρ2 = N0 ++ [o7, o8, o9] ∧ S2[f]? = some (.lst (fs.map Q.d)) ∧ fs.length = i + 1 ∧ (∀ (j : Nat) (q : Q), fs[j]? = some q → sg[j]? = some q.s ∧ q.e < many ∧ q.o < many ∧ sg[q.e]? = some q.s) ∧ Sp S2 p c ∧ S0.length ≤ S2.length ∧ (∀ j, j < S0.length → j ≠ p → j ≠ c → j ≠ f → S2[j]? = S0[j]?)) := by
  rintro i x hx ρ S' ⟨fs, o7, o8, o9, rfl, hfs, hfl, hq, hs, hlen, hold⟩
  rw [natD, List.getElem?_map] at hx
  obtain ⟨s, hs1, rfl⟩ := Option.map_eq_some_iff.mp hx
  have hi : i < many := by rw [← hsg]; exact (List.getElem?_eq_some_iff.mp hs1).1
  have hl' : S'[l]? = some (.lst (natD sg)) := by rw [hold l (by omega) hlp hlc (by omega)]; exact h0l
  refine ⟨_, _, rfl, ?_⟩
  let q : Nat → Bool := fun j => decide (sg[j]? = some s)
  let same : List Nat := (List.range many).filter q
  have hlc2 := lcL_filter (chk := fun _ => True) (g := gName 9) (t := tVal (e2 eqD (e2 ixD (eVar 5) (eVar 9)) (eVar 7))) (e := eVar 9) (S := S') (ρ := N0 ++ [some (.int s), o8, none])
    (fun d => match d with | .int j => q j.toNat | _ => false) id ((List.range many).map fun (j : Nat) => .int j) [] (by rw [LINE_eq]; simp; omega) (fun _ => trivial) (fun x hx acc => by
      obtain ⟨j, hj, rfl⟩ := List.mem_map.mp hx
      have hj := List.mem_range.mp hj
      refine ⟨_, rfl, ?_, fun _ => by subst hN0; rfl⟩
      have h := get_app hl' [.lst acc]
      have hjs : sg[j]? = some sg[j] := by simp [hsg, hj]
      have ha : atI (natD sg) (j : Int) = some (.int (sg[j] : Nat)) := atI_nat (by simp [natD, hsg, hj])
      have hjj : j < sg.length := by omega
      subst hN0
      simp [h, ha, q, hjj, -getElem?_pos, List.getElem?_cons_zero, List.getElem?_cons_succ]
      rw [hjs]
      simp
      omega)
  have esame : (((List.range many).map fun (j : Nat) => D.int j).filter fun d => match d with | .int j => q j.toNat | _ => false) = natD same := by
    simp [same, natD, List.filter_map, Function.comp_def]
  rw [esame] at hlc2
  have his : i ∈ same := List.mem_filter.mpr ⟨List.mem_range.mpr hi, by simp [q, hs1]⟩
  have hsl : 0 < same.length := List.length_pos_of_mem his
  have hsl2 : same.length ≤ many := by have := List.length_filter_le q (List.range many); simpa using this
  obtain ⟨a, S1, e1, ha, p1, p2, p3⟩ := drop_nat (S := S' ++ [.lst (natD same)]) hs.app same.length hsl (by omega)
  obtain ⟨b, S2, e2', hb, q1, q2, q3⟩ := drop_nat p1 many hm (by omega)
  have he : same[a]? = some same[a] := by simp [ha]
  have hem : same[a] ∈ same := List.getElem_mem ha
  obtain ⟨m1, m2⟩ := List.mem_filter.mp hem
  have m1 := List.mem_range.mp m1
  have m2 : sg[same[a]]? = some s := by simpa [q] using m2
  have hat : atI (natD same) (a : Int) = some (.int (same[a] : Nat)) := atI_nat (by simp [natD, ha])
  have hl0 : S'.length < (S' ++ [MO.lst (natD same)]).length := by simp
  have hp := hs.lt
  have g1 : S1[S'.length]? = some (.lst (natD same)) := by rw [p3.old _ hl0 (by omega) (by omega)]; simp
  have hfl' : f < S'.length := by omega
  have fr := (Fr.app (p := p) (c := c) (S := S') (G := [.lst (natD same)])).trans (p3.trans q3)
  have g2 : S2[f]? = some (.lst (fs.map Q.d)) := by rw [fr.old f hfl' hfp hfc]; exact hfs
  let nq : Q := ⟨s, same[a], b⟩
  refine ⟨N0 ++ [some (.int s), some (.ref S'.length), o9], S2.set f (.lst ((fs ++ [nq]).map Q.d)), .inl ?_, fs ++ [nq], _, _, _, rfl, ?_, by simp [hfl], fun j w hj => ?_, q1.set hfp hfc, by have := fr.le; simp; omega, fun j h1 h2 h3 h4 => ?_⟩
  · have hb2 : fs.length < LINE := by rw [LINE_eq]; omega
    have hw : wipe (N0 ++ [some (.int s), o8, o9]) [9] = N0 ++ [some (.int s), o8, none] := by subst hN0; rfl
    have e1' : R_law_drop [.ref p, .int same.length] (S' ++ [.lst (natD same)]) = some (.ok (.int a) S1) := e1
    have hnl : (natD same).length = same.length := by simp [natD]
    subst hN0
    rw [List.nil_append, List.map_id] at hlc2
    simp at hlc2
    have gx : (S' ++ [MO.lst (natD same)])[S'.length]? = some (.lst (natD same)) := by simp
    have gf := get_app hfs [.lst (natD same)]
    simp [lb_law_any_machine_1, wipe, show many ≤ 1000000000 by omega, hlc2, gx, gf, g1, hnl, e1', hat, e2', g2, hb2, nq, Q.d, -getElem?_pos, List.getElem?_cons_zero, List.getElem?_cons_succ]
  · rw [List.getElem?_set_self (List.getElem?_eq_some_iff.mp g2).1]
  · by_cases hjl : j < fs.length
    · rw [List.getElem?_append_left hjl] at hj
      exact hq j w hj
    · have hjl2 := (List.getElem?_eq_some_iff.mp hj).1
      rw [List.length_append, List.length_singleton] at hjl2
      have : j = fs.length := by omega
      subst this
      rw [List.getElem?_append_right (Nat.le_refl _), Nat.sub_self, List.getElem?_cons_zero] at hj
      cases hj
      exact ⟨by rw [hfl]; exact hs1, m1, hb, m2⟩
  · rw [List.getElem?_set_ne (Ne.symm h4), fr.old j (by omega) h2 h3]
    exact hold j h1 h2 h3 h4
theorem nat_list : ∀ {ys : List D} {k : Nat}, (∀ y ∈ ys, ∃ n : Nat, y = .int n ∧ n ≤ k) → ∃ ns : List Nat, ys = natD ns ∧ ∀ n ∈ ns, n ≤ k
  | [], _, _ => ⟨[], rfl, fun t h => by cases h⟩
  | y :: ys, k, h => by
    obtain ⟨t, rfl, h1⟩ := h y (by simp)
    obtain ⟨ts, rfl, h2⟩ := nat_list fun z hz => h z (List.mem_cons_of_mem _ hz)
    exact ⟨t :: ts, rfl, fun x hx => by rcases List.mem_cons.mp hx with rfl | hx; exact h1; exact h2 x hx⟩
theorem s_law_any_machine {S : Store} {p c most : Nat} (hs : Sp S p c) (h0 : 0 < most) (h1 : most ≤ 900) :
    ∃ m S', R_law_any_machine [.ref p, .int most] S = some (.ok (machD m) S') ∧ Mach m ∧ m.length ≤ most ∧ Sp S' p c ∧ Fr p c S S' := by
  obtain ⟨v1, S1, e1, hv1, hs1, hl1, f1⟩ := drop_nat hs most h0 (by omega)
  obtain ⟨v2, S2, e2', hv2, hs2, hl2, f2⟩ := drop_nat hs1 3 (by decide) (by decide)
  obtain ⟨v3, S3, e3, hv3, hs3, hl3, f3⟩ := drop_nat hs2 10 (by decide) (by decide)
  let many : Nat := 1 + v1
  let kinds : Nat := 1 + v2
  have hp := hs3.lt
  obtain ⟨ys, S4, hlc, hys, ⟨hs4, hf4⟩, hyl, hyP⟩ := lcL_run (chk := fun _ => True) (g := gName 9) (t := tYes) (e := e2 modD (e2 addD (eVar 4) (eCall R_law_drop [eVar 0, eVar 3])) (eC (.int 10))) (l := S3.length) (ρ := [some (.ref p), some (.int most), some (.int many), some (.int kinds), some (.int v3), none, none, none, none, none])
    (fun S' => Sp S' p c ∧ Fr p c S3 S') (fun y => ∃ n : Nat, y = .int n ∧ n ≤ 9) (fun S' acc acc' j _ => ⟨j.1.set (by omega) (by omega), j.2.set (Nat.le_refl _)⟩)
    (fun S' j => trivial) ((List.range many).map fun (k : Nat) => .int k) [] (S3 ++ [.lst []]) ⟨hs3.app, .app⟩ (by simp) (by rw [LINE_eq]; simp [many]; omega)
    (by
      intro x hx S' acc ⟨j1, j2⟩ hl'
      obtain ⟨k, hk, rfl⟩ := List.mem_map.mp hx
      obtain ⟨w, S5, q1, q2, q3, q4, q5⟩ := drop_nat j1 kinds (by omega) (by omega)
      have hlen : S3.length < S'.length := (List.getElem?_eq_some_iff.mp hl').1
      refine ⟨_, .int (((v3 + w) % 10 : Nat) : Int), S5, rfl, rfl, ?_, ?_, ⟨q3, j2.trans q5⟩, _, rfl, by omega⟩
      · simp [q1]
      · rw [q5.old _ hlen (by omega) (by omega)]; exact hl')
  obtain ⟨sg, rfl, hsg⟩ := nat_list hyP
  rw [List.nil_append] at hys
  have hsl : sg.length = many := by simpa [natD] using hyl
  have hp4 := hs4.lt
  have hl4 : S3.length < S4.length := (List.getElem?_eq_some_iff.mp hys).1
  let A : Store := S4 ++ [.lst []]
  have key := forL_idx (chk := fun S' => S'[S3.length]? = some (.lst (natD sg))) (g := gName 7) (b := lb_law_any_machine_1 R_law_drop) (fun i ρ S' => ∃ (fs : List Q) (o7 o8 o9 : Option D), ρ = [some (.ref p), some (.int most), some (.int many), some (.int kinds), some (.int v3), some (.ref S3.length), some (.ref S4.length)] ++ [o7, o8, o9] ∧ S'[S4.length]? = some (.lst (fs.map Q.d)) ∧ fs.length = i ∧ (∀ (j : Nat) (q : Q), fs[j]? = some q → sg[j]? = some q.s ∧ q.e < many ∧ q.o < many ∧ sg[q.e]? = some q.s) ∧ Sp S' p c ∧ A.length ≤ S'.length ∧ (∀ j, j < A.length → j ≠ p → j ≠ c → j ≠ S4.length → S'[j]? = A[j]?))
    (fun i ρ S' ⟨fs, o7, o8, o9, _, _, _, _, _, _, hold⟩ => by
      rw [hold _ (by simp [A]; omega) (by omega) (by omega) (by omega)]
      exact get_app hys _)
    (natD sg) 0 (fun i x hx ρ S' j => by
      rw [Nat.zero_add] at j ⊢
      exact any_round hsl (by omega) (by omega) (S0 := A) (f := S4.length) (l := S3.length) (by simp [A]) hl4 (by omega) (by omega) (by omega) (by omega) (get_app hys _) _ rfl i x hx ρ S' j)
    ([some (.ref p), some (.int most), some (.int many), some (.int kinds), some (.int v3), some (.ref S3.length), some (.ref S4.length)] ++ [none, none, none]) A ⟨[], none, none, none, rfl, by simp [A], rfl, fun j q h => by simp at h, hs4.app, Nat.le_refl _, fun _ _ _ _ _ => rfl⟩
  obtain ⟨ρ', S5, hfor, fs, o7, o8, o9, rfl, hfs, hfl, hq, hs5, hlen, hold⟩ := key
  have hfl2 : fs.length = many := by rw [hfl]; simp [natD, hsl]
  have all : ∀ q ∈ fs, ∃ i, fs[i]? = some q := fun q hq => List.getElem?_of_mem hq
  have hA : A.length = S4.length + 1 := by simp [A]
  refine ⟨fs, S5, ?_, ⟨by omega, fun q h => ?_, fun q h => ?_, fun q h r hr => ?_, fun q h => ?_⟩, by omega, hs5, ?_⟩
  · unfold R_law_any_machine
    rw [run_eq (n := 2) _ _ rfl]
    unfold b_law_any_machine
    have e1' : R_law_drop [.ref p, .int most] S = some (.ok (.int v1) S1) := e1
    simp at e2' e3
    have hm : (1 + (v1 : Int)) = (many : Int) := by simp only [many]; omega
    have hk : (1 + (v2 : Int)) = (kinds : Int) := by simp only [kinds]; omega
    simp [A] at hfor
    have gys := get_app hys [.lst []]
    simp [e1', e2', e3, hm, hk, wipe, show many ≤ 1000000000 by omega, hlc, hys, gys, hfor, hfs, -getElem?_pos, List.getElem?_cons_zero, List.getElem?_cons_succ]
  · obtain ⟨i, hi⟩ := all q h; rw [hfl2]; exact (hq i q hi).2.1
  · obtain ⟨i, hi⟩ := all q h; rw [hfl2]; exact (hq i q hi).2.2.1
  · obtain ⟨i, hi⟩ := all q h
    have a := (hq i q hi).2.2.2
    have b := (hq q.e r hr).1
    rw [a] at b
    exact (Option.some.inj b).symm
  · obtain ⟨i, hi⟩ := all q h
    have a := (hq i q hi).1
    exact hsg _ (List.mem_of_getElem? a)
  · have f14 : Fr p c S S4 := ((f1.trans f2).trans f3).trans hf4
    refine ⟨by have := f14.le; omega, fun j h1 h2 h3 => ?_⟩
    have := f14.le
    rw [hold j (by omega) h2 h3 (by omega), ← f14.old j h1 h2 h3]
    simp only [A]
    rw [List.getElem?_append_left (by omega)]
end Z
namespace Z
def Q.pd (q : Q) : PD := .tup [.int q.s, .int q.e, .int q.o]
end Z
namespace Z
/-- data of so much weight, so deep -/
def Dw (k b : Nat) (S : Store) (d : D) : Prop := ∃ x, dat S d = some x ∧ x.dep ≤ k ∧ x.sml 302 = true ∧ x.wgt ≤ b
theorem Dw.mono {k b : Nat} {S S' : Store} (h : LeL S S') {d : D} : Dw k b S d → Dw k b S' d := fun ⟨x, a, r⟩ => ⟨x, dat_mono h a, r⟩
theorem Dw.le {k b k' b' : Nat} (h : k ≤ k') (h' : b ≤ b') {S : Store} {d : D} : Dw k b S d → Dw k' b' S d := fun ⟨x, a, c, e, f⟩ => ⟨x, a, by omega, e, by omega⟩
theorem Dw.dk {k b : Nat} {S : Store} {d : D} : Dw k b S d → Dk k S d := fun ⟨x, a, c, _⟩ => ⟨x, a, c⟩
theorem pdL_w {g : Nat → Option PD} {k b : Nat} : ∀ {ds : List D}, (∀ d ∈ ds, ∃ x, d.pd g = some x ∧ x.dep ≤ k ∧ x.sml 302 = true ∧ x.wgt ≤ b) → ∃ xs, pdL g ds = some xs ∧ depL xs ≤ k ∧ smlL 302 xs = true ∧ wgtL xs ≤ ds.length * (b + 1)
  | [], _ => ⟨[], rfl, by simp [depL], rfl, by simp [wgtL]⟩
  | d :: ds, h => by
    obtain ⟨x, h1, h2, h3, h4⟩ := h d (by simp)
    obtain ⟨xs, g1, g2, g3, g4⟩ := pdL_w fun e he => h e (List.mem_cons_of_mem _ he)
    refine ⟨x :: xs, by rw [pdL, h1, g1], by simp [depL]; omega, by simp [smlL, h3, g3], ?_⟩
    simp only [wgtL, List.length_cons, Nat.add_mul]
    omega
theorem Dw.tup {k b : Nat} {S : Store} {ds : List D} (h : ∀ d ∈ ds, Dw k b S d) : Dw (k + 1) (ds.length * (b + 1)) S (.tup ds) := by
  obtain ⟨xs, h1, h2, h3, h4⟩ := pdL_w (g := rdR 70 S) (k := k) (b := b) h
  exact ⟨.tup xs, by unfold dat; rw [D.pd, h1]; rfl, by simp [PD.dep]; omega, by simp [PD.sml, h3], by simp [PD.wgt]; exact h4⟩
theorem Dw.int {k b : Nat} {S : Store} {i : Int} (h : i.natAbs.log2 < 301) (hb : 302 ≤ b) : Dw k b S (.int i) := ⟨.int i, by simp [dat, D.pd], by simp [PD.dep], by simp [PD.sml]; omega, by simp [PD.wgt]; omega⟩
theorem Dw.bl {k b : Nat} {S : Store} (i : Bool) : Dw k b S (.bl i) := ⟨.bl i, by simp [dat, D.pd], by simp [PD.dep], rfl, by simp [PD.wgt]⟩
theorem Dw.non {k b : Nat} {S : Store} : Dw k b S .non := ⟨.non, by simp [dat, D.pd], by simp [PD.dep], rfl, by simp [PD.wgt]⟩
theorem Dw.str {k b : Nat} {S : Store} {s : List Nat} (h : s.length ≤ b) : Dw k b S (.str s) := ⟨.str s, by simp [dat, D.pd], by simp [PD.dep], rfl, by simp [PD.wgt]; exact h⟩
theorem Dw.ref {k b n : Nat} {S : Store} {ds : List D} (hk : k ≤ 60) (g : S[n]? = some (.lst ds)) (h : ∀ d ∈ ds, Dw k b S d) : Dw (k + 1) (ds.length * (b + 1)) S (.ref n) := by
  obtain ⟨xs, h1, h2, h3, h4⟩ := pdL_w (g := rdR 70 S) (k := k) (b := b) h
  refine ⟨.lst xs, ?_, by simp [PD.dep]; omega, by simp [PD.sml, h3], by simp [PD.wgt]; exact h4⟩
  unfold dat
  rw [D.pd, rdR, g]
  dsimp only
  rw [pdL_bnd (fun n x e hd => rdR_fuel 70 69 n x e (by omega)) ds xs h1 (Nat.le_refl _)]
  rfl
/-- a thing in a state -/
abbrev En (S : Store) (d : D) : Prop := Dw 3 310 S d
/-- a state, or what stands for it -/
def Sx (S : Store) (y : D) : Prop := (∃ xs, y = .tup xs ∧ xs.length ≤ 4 ∧ ∀ x ∈ xs, En S x) ∨ (Dw 5 1300 S y ∧ ∀ xs, y = .tup xs → xs.length ≠ 3)
theorem Sx.mono {S S' : Store} (h : LeL S S') {y : D} : Sx S y → Sx S' y
  | .inl ⟨xs, e, l, g⟩ => .inl ⟨xs, e, l, fun x hx => (g x hx).mono h⟩
  | .inr ⟨g, n⟩ => .inr ⟨g.mono h, n⟩
end Z
namespace Z
open Classical
inductive LL (B : Nat) : List (List Q) → List (Nat → Nat) → Prop
  | nil : LL B [] []
  | cons {m : List Q} {f : Nat → Nat} {ms : List (List Q)} {fs : List (Nat → Nat)} : Lst m f B → LL B ms fs → LL B (m :: ms) (f :: fs)
theorem LL.eq {A B : Nat} {ms ms' : List (List Q)} {fs : List (Nat → Nat)} (h : LL A ms fs) (h' : LL B ms' fs) : ms = ms' := by
  induction h generalizing ms' with
  | nil => cases h'; rfl
  | cons l _ ih =>
    cases h' with
    | cons l' h2 => rw [l.can.eq l'.can, ih h2]
theorem LL.len {A : Nat} {ms : List (List Q)} {fs : List (Nat → Nat)} (h : LL A ms fs) : ms.length = fs.length := by
  induction h with
  | nil => rfl
  | cons _ _ ih => simp [ih]
theorem LL.all {A : Nat} {ms : List (List Q)} {fs : List (Nat → Nat)} (h : LL A ms fs) : ∀ m ∈ ms, Mach m ∧ m.length ≤ A := by
  induction h with
  | nil => intro m hm; cases hm
  | cons l _ ih =>
    intro m hm
    rcases List.mem_cons.mp hm with rfl | hm
    · exact ⟨l.mach, l.len⟩
    · exact ih m hm
end Z
namespace Z
open Classical
theorem key_n {ρ : Env} {S : Store} {i n : Nat} {kvs : List (D × D)} (h : ρ[i]? = some (some (.ref n))) (g : S[n]? = some (.nkl kvs)) : iKeyN (eVar i) ρ S = some (.ok ⟨kvs.map (·.1), fun S => S[n]? = some (.nkl kvs)⟩ S) := by
  unfold iKeyN
  rw [x_var, h]
  simp only [bd_ok]
  rw [g]
theorem lk_v {ρ : Env} {S : Store} {i n : Nat} (h : ρ[i]? = some (some (.ref n))) : lkVar i ρ S = some n := by
  unfold lkVar
  rw [h]
end Z
namespace Z
open Classical
theorem nodup_le9 (P L : List D) (h : P.Nodup) (hs : ∀ q ∈ P, q ∈ L) : P.length ≤ L.length := nodup_len h hs
noncomputable def lk9 {α : Type} (l : List (D × α)) (p : D) : Option α := (l.find? fun e => decide (e.1 = p)).map (·.2)
noncomputable def ud9 {α : Type} (l : List (D × α)) (p : D) (a : α) : List (D × α) := if (l.any fun e => decide (e.1 = p)) = true then l.map (fun e => if e.1 = p then (p, a) else e) else l ++ [(p, a)]
theorem lk_nil9 {α : Type} (p : D) : lk9 ([] : List (D × α)) p = none := rfl
theorem lk_cons9 {α : Type} (e : D × α) (l : List (D × α)) (p : D) : lk9 (e :: l) p = if e.1 = p then some e.2 else lk9 l p := by
  by_cases h : e.1 = p
  · simp [lk9, List.find?_cons, h]
  · simp [lk9, List.find?_cons, h]
theorem lk_any9 {α : Type} (p : D) : ∀ l : List (D × α), (l.any fun e => decide (e.1 = p)) = (lk9 l p).isSome
  | [] => rfl
  | e :: l => by
    rw [List.any_cons, lk_any9 p l, lk_cons9]
    by_cases h : e.1 = p
    · simp [h]
    · simp [h]
theorem lk_app9 {α : Type} (p q : D) (a : α) : ∀ l : List (D × α), lk9 (l ++ [(q, a)]) p = if (lk9 l p).isSome = true then lk9 l p else if q = p then some a else none
  | [] => by simp [lk_cons9, lk_nil9]
  | e :: l => by
    rw [List.cons_append, lk_cons9, lk_cons9, lk_app9 p q a l]
    by_cases h : e.1 = p
    · simp [h]
    · simp [h]
theorem lk_map9 {α : Type} (p q : D) (a : α) : ∀ l : List (D × α), lk9 (l.map fun e => if e.1 = q then (q, a) else e) p = if p = q then (lk9 l p).map fun _ => a else lk9 l p
  | [] => by simp [lk_nil9]
  | e :: l => by
    rw [List.map_cons, lk_cons9, lk_map9 p q a l, lk_cons9]
    by_cases h : e.1 = q
    · by_cases g : q = p
      · subst g; simp [h]
      · have g' : ¬ p = q := fun x => g x.symm
        have g2 : ¬ e.1 = p := fun x => g (h.symm.trans x)
        simp [h, g, g', g2]
    · by_cases g : e.1 = p
      · have g' : ¬ p = q := fun x => h (g.trans x)
        simp [h, g, g']
      · simp [h, g]
theorem lk_ud9 {α : Type} (l : List (D × α)) (p q : D) (a : α) : lk9 (ud9 l q a) p = if p = q then some a else lk9 l p := by
  unfold ud9
  rw [lk_any9]
  by_cases h : (lk9 l q).isSome = true
  · rw [if_pos h, lk_map9]
    by_cases g : p = q
    · subst g
      obtain ⟨x, hx⟩ := Option.isSome_iff_exists.mp h
      simp [hx]
    · simp [g]
  · rw [if_neg h, lk_app9]
    by_cases g : p = q
    · subst g; simp [h]
    · have g' : ¬ q = p := fun x => g x.symm
      simp only [g, g', if_false]
      cases hh : lk9 l p <;> simp
theorem lk_fn9 {α : Type} (g : D → α) (p : D) : ∀ l : List D, lk9 (l.map fun q => (q, g q)) p = if p ∈ l then some (g p) else none
  | [] => rfl
  | q :: l => by
    rw [List.map_cons, lk_cons9, lk_fn9 g p l]
    by_cases h : q = p
    · subst h; simp
    · have h' : ¬ p = q := fun x => h x.symm
      simp [h, h']
abbrev PF9 := D → Option Nat
noncomputable def setF9 (F : PF9) (s : D) (n : Nat) : PF9 := fun q => if q = s then some n else F q
noncomputable def mis9 (F : PF9) (row : List D) : Nat := (row.filter fun q => (F q).isNone).length
noncomputable def sm9 (F : PF9) : List D → Nat
  | [] => 0
  | q :: r => (F q).getD 0 + sm9 F r
noncomputable def Ltm9 (row : List D) (F' F : PF9) : Prop := mis9 F' row < mis9 F row ∨ (mis9 F' row = mis9 F row ∧ sm9 F' row < sm9 F row)
theorem Ltm9.trans {row : List D} {F'' F' F : PF9} (a : Ltm9 row F'' F') (b : Ltm9 row F' F) : Ltm9 row F'' F := by
  unfold Ltm9 at *; omega
theorem mis_le9 (F : PF9) (s : D) (n : Nat) : ∀ row : List D, mis9 (setF9 F s n) row ≤ mis9 F row
  | [] => Nat.le_refl _
  | q :: r => by
    have ih := mis_le9 F s n r
    unfold mis9 at ih ⊢
    rw [List.filter_cons, List.filter_cons]
    by_cases h : q = s
    · have : (setF9 F s n q).isNone = false := by simp [setF9, h]
      rw [this]
      by_cases g : (F q).isNone = true
      · simp [g]; omega
      · simp [g]; omega
    · have : setF9 F s n q = F q := by simp [setF9, h]
      rw [this]
      by_cases g : (F q).isNone = true
      · simp [g]; omega
      · simp [g]; omega
theorem mis_lt9 (F : PF9) (s : D) (n : Nat) (h0 : F s = none) : ∀ row : List D, s ∈ row → mis9 (setF9 F s n) row < mis9 F row
  | q :: r, hs => by
    have ih := mis_le9 F s n r
    unfold mis9 at ih ⊢
    rw [List.filter_cons, List.filter_cons]
    by_cases h : q = s
    · subst h
      simp [setF9, h0]
      have e : (fun q' => (setF9 F q n q').isNone) = fun q' => (if q' = q then some n else F q').isNone := rfl
      rw [e] at ih
      omega
    · have hs' : s ∈ r := by rcases List.mem_cons.mp hs with e | e; exact absurd e.symm h; exact e
      have ih2 := mis_lt9 F s n h0 r hs'
      unfold mis9 at ih2
      have : setF9 F s n q = F q := by simp [setF9, h]
      rw [this]
      by_cases g : (F q).isNone = true
      · simp [g]; omega
      · simp [g]; omega
theorem mis_eq9 (F : PF9) (s : D) (n u : Nat) (h0 : F s = some u) (row : List D) : mis9 (setF9 F s n) row = mis9 F row := by
  unfold mis9
  congr 1
  apply List.filter_congr
  intro q _
  by_cases h : q = s
  · subst h; simp [setF9, h0]
  · simp [setF9, h]
theorem sm_le9 (F : PF9) (s : D) (n u : Nat) (h0 : F s = some u) (hn : n < u) : ∀ row : List D, sm9 (setF9 F s n) row ≤ sm9 F row
  | [] => Nat.le_refl _
  | q :: r => by
    have ih := sm_le9 F s n u h0 hn r
    unfold sm9
    by_cases h : q = s
    · subst h; simp [setF9, h0] at ih ⊢; omega
    · have : setF9 F s n q = F q := by simp [setF9, h]
      rw [this]; omega
theorem sm_lt9 (F : PF9) (s : D) (n u : Nat) (h0 : F s = some u) (hn : n < u) : ∀ row : List D, s ∈ row → sm9 (setF9 F s n) row < sm9 F row
  | q :: r, hs => by
    have ih := sm_le9 F s n u h0 hn r
    unfold sm9
    by_cases h : q = s
    · subst h
      have : (setF9 F q n q).getD 0 = n := by simp [setF9]
      rw [this, h0]
      show n + _ < u + _
      omega
    · have hs' : s ∈ r := by rcases List.mem_cons.mp hs with e | e; exact absurd e.symm h; exact e
      have ih2 := sm_lt9 F s n u h0 hn r hs'
      have : setF9 F s n q = F q := by simp [setF9, h]
      rw [this]; omega
theorem ltm_set9 {F : PF9} {s : D} {n : Nat} {row : List D} (hs : s ∈ row) (h : ∀ u, F s = some u → n < u) : Ltm9 row (setF9 F s n) F := by
  cases e : F s with
  | none => exact .inl (mis_lt9 F s n e row hs)
  | some u => exact .inr ⟨mis_eq9 F s n u e row, sm_lt9 F s n u e (h u e) row hs⟩
structure PlD9 (row : List D) (l : List (D × Nat)) : Prop where
  nd : (l.map (·.1)).Nodup
  sub : ∀ q ∈ l.map (·.1), q ∈ row
theorem ud_keys9 {α : Type} (l : List (D × α)) (q : D) (a : α) : (ud9 l q a).map (·.1) = if (lk9 l q).isSome = true then l.map (·.1) else l.map (·.1) ++ [q] := by
  unfold ud9
  rw [lk_any9]
  split
  · rw [List.map_map]
    refine List.map_congr_left fun e _ => ?_
    simp only [Function.comp_def]
    split
    · rename_i h; exact h.symm
    · rfl
  · simp
theorem lk_mem9 {α : Type} {p : D} : ∀ {l : List (D × α)}, (lk9 l p).isSome = true ↔ p ∈ l.map (·.1)
  | [] => by simp [lk_nil9]
  | e :: l => by
    rw [lk_cons9, List.map_cons, List.mem_cons, ← lk_mem9]
    by_cases h : e.1 = p
    · simp [h]
    · have : ¬ p = e.1 := fun x => h x.symm
      simp [h, this]
theorem PlD9.ud {row : List D} {l : List (D × Nat)} (P : PlD9 row l) {q : D} (hq : q ∈ row) (n : Nat) : PlD9 row (ud9 l q n) := by
  refine ⟨?_, fun p hp => ?_⟩
  · rw [ud_keys9]
    split
    · exact P.nd
    · rename_i h
      exact List.nodup_append.mpr ⟨P.nd, by simp, fun a ha b hb => by simp at hb; subst hb; rintro rfl; exact h (lk_mem9.mpr ha)⟩
  · rw [ud_keys9] at hp
    split at hp
    · exact P.sub p hp
    · rcases List.mem_append.mp hp with hp | hp
      · exact P.sub p hp
      · simp at hp; subst hp; exact hq
theorem PlD9.len {row : List D} {l : List (D × Nat)} (P : PlD9 row l) : l.length ≤ row.length := by
  have := nodup_le9 _ _ P.nd P.sub
  simpa using this
theorem lk_udF9 (l : List (D × Nat)) (s : D) (n : Nat) : lk9 (ud9 l s n) = setF9 (lk9 l) s n := by
  funext q
  rw [lk_ud9]
  rfl
theorem ltm_wf9 (row : List D) : WellFounded (Ltm9 row) := by
  refine Subrelation.wf (r := InvImage (Prod.Lex (· < ·) (· < ·)) fun F : PF9 => (mis9 F row, sm9 F row)) ?_ (InvImage.wf _ (Prod.lex Nat.lt_wfRel Nat.lt_wfRel).wf)
  intro F' F h
  rcases h with h | ⟨h1, h2⟩
  · exact Prod.Lex.left _ _ h
  · show Prod.Lex _ _ (mis9 F' row, sm9 F' row) (mis9 F row, sm9 F row)
    rw [h1]
    exact Prod.Lex.right _ h2
def enM (l : List (D × Nat)) : List (D × D) := l.map fun e => (e.1, .int (e.2 : Nat))
theorem enM_get (l : List (D × Nat)) (k : D) : dget (enM l) k = (lk9 l k).map fun n : Nat => .int n := dget_map (fun n : Nat => D.int n) l k
theorem enM_keys (l : List (D × Nat)) : (enM l).map (·.1) = l.map (·.1) := by
  unfold enM
  rw [List.map_map]
  rfl
theorem enM_len (l : List (D × Nat)) : (enM l).length = l.length := by simp [enM]
theorem enM_put (l : List (D × Nat)) (k : D) (n : Nat) : dput (enM l) k (.int n) = enM (ud9 l k n) := by
  unfold dput ud9
  have e1 : ((enM l).any fun p => decide (p.1 = k)) = l.any fun e => decide (e.1 = k) := by
    unfold enM
    rw [List.any_map]
    rfl
  rw [e1]
  split
  · unfold enM
    rw [List.map_map, List.map_map]
    refine List.map_congr_left fun e _ => ?_
    by_cases h : e.1 = k
    · simp [h]
    · simp [h]
  · simp [enM]
/-- the walk from u by the bits of n ends at a marked one -/
noncomputable def MW (mk : D → Prop) (fe fo : D → D) (u : D) (n : Nat) : Prop := if h : n = 0 then mk u else MW mk fe fo (if n % 2 = 0 then fe u else fo u) (n / 2)
  termination_by n
  decreasing_by exact Nat.div_lt_self (Nat.pos_of_ne_zero h) (by decide)
section
variable {mk : D → Prop} {fe fo : D → D}
theorem MW0 (u : D) : MW mk fe fo u 0 ↔ mk u := by rw [MW]; simp
theorem MW1 (u : D) {n : Nat} (h : n ≠ 0) : MW mk fe fo u n ↔ MW mk fe fo (if n % 2 = 0 then fe u else fo u) (n / 2) := by
  rw [MW]
  simp [h]
theorem MWe {u : D} (h : mk u ↔ mk (fe u)) (k : Nat) : MW mk fe fo u (2 * k) ↔ MW mk fe fo (fe u) k := by
  by_cases hk : k = 0
  · subst hk
    rw [Nat.mul_zero, MW0, MW0]
    exact h
  · rw [MW1 u (by omega), if_pos (by omega), show 2 * k / 2 = k by omega]
theorem MWo (u : D) (k : Nat) : MW mk fe fo u (2 * k + 1) ↔ MW mk fe fo (fo u) k := by
  rw [MW1 u (by omega), if_neg (by omega), show (2 * k + 1) / 2 = k by omega]
/-- a closed set of keys, the marks the same along evens -/
structure NG (row : List D) (mk : D → Prop) (fe fo : D → D) : Prop where
  nd : row.Nodup
  key : ∀ u ∈ row, nkOk u = true
  e : ∀ u ∈ row, fe u ∈ row
  o : ∀ u ∈ row, fo u ∈ row
  m : ∀ u ∈ row, (mk u ↔ mk (fe u))
  few : row.length ≤ 9000000
structure PI9 (row : List D) (mk : D → Prop) (fe fo : D → D) (F : PF9) : Prop where
  val : ∀ p n, F p = some n → p ∈ row ∧ MW mk fe fo p n
  mrk : ∀ p ∈ row, mk p → F p = some 0
def Fx9 (fe fo : D → D) (F : PF9) (s : D) : Prop := (∀ v, F (fe s) = some v → ∃ u, F s = some u ∧ u ≤ 2 * v) ∧ (∀ v, F (fo s) = some v → ∃ u, F s = some u ∧ u ≤ 2 * v + 1)
theorem PI9.set {row : List D} {F : PF9} {s : D} {n : Nat} (P : PI9 row mk fe fo F) (hs : s ∈ row) (hd : MW mk fe fo s n) (h : ∀ u, F s = some u → n < u) : PI9 row mk fe fo (setF9 F s n) := by
  refine ⟨fun p k hk => ?_, fun p hp hm => ?_⟩
  · unfold setF9 at hk
    by_cases c : p = s
    · rw [if_pos c] at hk
      cases hk
      rw [c]
      exact ⟨hs, hd⟩
    · rw [if_neg c] at hk
      exact P.val p k hk
  · unfold setF9
    by_cases c : p = s
    · subst c
      have := h 0 (P.mrk p hp hm)
      omega
    · rw [if_neg c]
      exact P.mrk p hp hm
theorem least9 {row : List D} {F : PF9} (R : NG row mk fe fo) (P : PI9 row mk fe fo F) (X : ∀ s ∈ row, Fx9 fe fo F s) : ∀ (n : Nat) (p : D), p ∈ row → MW mk fe fo p n → ∃ u, F p = some u ∧ u ≤ n := by
  intro n
  induction n using Nat.strongRecOn with
  | _ n ih =>
    intro p hp hm
    by_cases h0 : n = 0
    · subst h0
      exact ⟨0, P.mrk p hp ((MW0 p).mp hm), Nat.le_refl _⟩
    · rcases Nat.mod_two_eq_zero_or_one n with c | c
      · have hn : n = 2 * (n / 2) := by omega
        rw [hn, MWe (R.m p hp)] at hm
        obtain ⟨v, hv, hvl⟩ := ih (n / 2) (by omega) (fe p) (R.e p hp) hm
        obtain ⟨u, hu, hul⟩ := (X p hp).1 v hv
        exact ⟨u, hu, by omega⟩
      · have hn : n = 2 * (n / 2) + 1 := by omega
        rw [hn, MWo] at hm
        obtain ⟨v, hv, hvl⟩ := ih (n / 2) (by omega) (fo p) (R.o p hp) hm
        obtain ⟨u, hu, hul⟩ := (X p hp).2 v hv
        exact ⟨u, hu, by omega⟩
end
end Z
namespace Z
open Classical
theorem tor_t {t u : ST} {ρ : Env} {S S1 : Store} (h : t ρ S = some (.ok true S1)) : tOr t u ρ S = some (.ok true S1) := by
  unfold tOr
  rw [h]
  rfl
theorem tor_f {t u : ST} {ρ : Env} {S S1 : Store} (h : t ρ S = some (.ok false S1)) : tOr t u ρ S = u ρ S1 := by
  unfold tOr
  rw [h]
  rfl
abbrev e10 (a b c : Nat) (ch : Bool) (s : D) (x5 x6 x7 x8 x9 : Option D) : Env := [some (.ref a), some (.ref b), some (.ref c), some (.bl ch), some s, x5, x6, x7, x8, x9]
section
variable {mk : D → Prop} {fe fo : D → D} {a b c : Nat}
theorem enM_da {S : Store} {l : List (D × Nat)} (hk : ∀ q ∈ l.map (·.1), nkOk q = true) (g : S[c]? = some (.nk (enM l))) : DA S c true (enM l) := ⟨fun p hp => by
  have : p.1 ∈ (enM l).map (·.1) := List.mem_map.mpr ⟨p, hp, rfl⟩
  rw [enM_keys] at this
  exact GK.ot (hk _ this), by rw [if_pos rfl]; exact g⟩
theorem lp_bit9 {l : List (D × Nat)} {s t : D} {bi : Nat} {ch : Bool} {S : Store} (hk : ∀ q ∈ l.map (·.1), nkOk q = true) (hs : nkOk s = true) (ht : nkOk t = true) (hc : S[c]? = some (.nk (enM l))) (hl : l.length < 16000000) {x5 x6 x9 : Option D} :
    ∃ S2 l2 ch2 y9, lb_least_places_n_1 (e10 a b c ch s x5 x6 (some t) (some (.int (bi : Nat))) x9) S = some (.nx (e10 a b c ch2 s x5 x6 (some t) (some (.int (bi : Nat))) y9) S2) ∧ S2[c]? = some (.nk (enM l2)) ∧ S2.length = S.length ∧ (∀ j, j ≠ c → S2[j]? = S[j]?) ∧
      ((l2 = l ∧ ch2 = ch ∧ (∀ v, lk9 l t = some v → ∃ u, lk9 l s = some u ∧ u ≤ 2 * v + bi)) ∨ (∃ v, lk9 l t = some v ∧ l2 = ud9 l s (2 * v + bi) ∧ ch2 = true ∧ ∀ u, lk9 l s = some u → 2 * v + bi < u)) := by
  have hd := enM_da hk hc
  have hcl := hd.lt
  have hin := ev_nin (ρ := e10 a b c ch s x5 x6 (some t) (some (.int (bi : Nat))) x9) (mk := eVar 7) (md := eVar 2) hd ht rfl rfl
  rw [enM_get] at hin
  unfold lb_least_places_n_1
  cases et : lk9 l t with
  | none =>
    rw [et] at hin
    refine ⟨S, l, ch, x9, ?_, hc, rfl, fun _ _ => rfl, .inl ⟨rfl, rfl, fun v h => by cases h⟩⟩
    rw [sif_t (tv_t hin)]
    rfl
  | some v =>
    rw [et] at hin
    have hg := ev_nget (ρ := e10 a b c ch s x5 x6 (some t) (some (.int (bi : Nat))) x9) (md := eVar 2) (mk := eVar 7) hd ht rfl rfl (v := .int (v : Nat)) (by rw [enM_get, et]; rfl)
    have h2s : small (2 : Int) := small_lit (by decide) (by decide)
    obtain ⟨ρ, hρ⟩ : ∃ ρ : Env, ρ = e10 a b c ch s x5 x6 (some t) (some (.int (bi : Nat))) (some (.int (2 * v + bi : Nat))) := ⟨_, rfl⟩
    have st1 : sAsg (e2 addD (e2 mulD (eC (.int 2)) (e2 nGet (eVar 2) (eVar 7))) (eVar 8)) (gName 9) (e10 a b c ch s x5 x6 (some t) (some (.int (bi : Nat))) x9) S = some (.nx ρ S) := by
      have w1 : e2 mulD (eC (.int 2)) (e2 nGet (eVar 2) (eVar 7)) (e10 a b c ch s x5 x6 (some t) (some (.int (bi : Nat))) x9) S = some (.ok (.int (2 * v : Nat)) S) := by
        rw [x_2]
        simp only [eC, bd_ok, hg]
        simp [h2s]
      rw [x_asg, x_2, w1, hρ]
      simp
    have v9 : eVar 9 ρ S = some (.ok (.int (2 * v + bi : Nat)) S) := by rw [hρ]; rfl
    have v4 : eVar 4 ρ S = some (.ok s S) := by rw [hρ]; rfl
    have v2 : eVar 2 ρ S = some (.ok (.ref c) S) := by rw [hρ]; rfl
    have hni := ev_nni (ρ := ρ) (mk := eVar 4) (md := eVar 2) hd hs v4 v2
    rw [enM_get] at hni
    obtain ⟨hp, hd2⟩ := ev_nput (ρ := ρ) (md := eVar 2) (mk := eVar 4) (mv := eVar 9) hd (by rw [enM_len]; omega) hs v9 v2 v4
    rw [enM_put] at hp hd2
    have put : (∀ u, lk9 l s = some u → 2 * v + bi < u) → tOr (tVal (e2 nNi (eVar 4) (eVar 2))) (tVal (e2 ltD (eVar 9) (e2 nGet (eVar 2) (eVar 4)))) ρ S = some (.ok true S) →
        ∃ S2 l2 ch2 y9, sIf (tVal (e2 nIn (eVar 7) (eVar 2))) (sq (sAsg (e2 addD (e2 mulD (eC (.int 2)) (e2 nGet (eVar 2) (eVar 7))) (eVar 8)) (gName 9)) (sIf (tOr (tVal (e2 nNi (eVar 4) (eVar 2))) (tVal (e2 ltD (eVar 9) (e2 nGet (eVar 2) (eVar 4))))) (sq (sNPut (eVar 2) (eVar 4) (eVar 9)) (sAsg (eC (.bl true)) (gName 3))) (sNx))) (sNx) (e10 a b c ch s x5 x6 (some t) (some (.int (bi : Nat))) x9) S = some (.nx (e10 a b c ch2 s x5 x6 (some t) (some (.int (bi : Nat))) y9) S2) ∧ S2[c]? = some (.nk (enM l2)) ∧ S2.length = S.length ∧ (∀ j, j ≠ c → S2[j]? = S[j]?) ∧
          ((l2 = l ∧ ch2 = ch ∧ (∀ v', some v = some v' → ∃ u, lk9 l s = some u ∧ u ≤ 2 * v' + bi)) ∨ (∃ v', some v = some v' ∧ l2 = ud9 l s (2 * v' + bi) ∧ ch2 = true ∧ ∀ u, lk9 l s = some u → 2 * v' + bi < u)) := fun hu htest => by
      refine ⟨S.set c (.nk (enM (ud9 l s (2 * v + bi)))), ud9 l s (2 * v + bi), true, some (.int (2 * v + bi : Nat)), ?_, List.getElem?_set_self hcl, by simp, fun j hj => by rw [List.getElem?_set_ne (Ne.symm hj)], .inr ⟨v, rfl, rfl, rfl, hu⟩⟩
      rw [sif_t (tv_t hin)]
      simp only [Option.map_some, Option.isSome_some, if_true]
      rw [sq_nx st1, sif_t htest, if_pos rfl, sq_nx hp, hρ]
      rfl
    cases es : lk9 l s with
    | none =>
      rw [es] at hni put
      exact put (fun u h => by cases h) (tor_t (tv_t hni))
    | some u =>
      rw [es] at hni
      have hgs := ev_nget (ρ := ρ) (md := eVar 2) (mk := eVar 4) hd hs v2 v4 (v := .int (u : Nat)) (by rw [enM_get, es]; rfl)
      have hlt : tVal (e2 ltD (eVar 9) (e2 nGet (eVar 2) (eVar 4))) ρ S = some (.ok (decide (2 * v + bi < u)) S) := by
        refine tv_t ?_
        rw [x_2, v9]
        simp only [bd_ok, hgs]
        rw [o_lt]
        have : decide (((2 * v + bi : Nat) : Int) < (u : Int)) = decide (2 * v + bi < u) := by
          rw [decide_eq_decide]
          omega
        rw [this]
      have htest := tor_f (u := tVal (e2 ltD (eVar 9) (e2 nGet (eVar 2) (eVar 4)))) (tv_t hni)
      by_cases hc2 : 2 * v + bi < u
      · rw [decide_eq_true hc2] at hlt
        rw [es] at put
        exact put (fun u' h => by cases h; exact hc2) (htest.trans hlt)
      · rw [decide_eq_false hc2] at hlt
        refine ⟨S, l, ch, some (.int (2 * v + bi : Nat)), ?_, hc, rfl, fun _ _ => rfl, .inl ⟨rfl, rfl, fun v' h => by cases h; exact ⟨u, rfl, by omega⟩⟩⟩
        rw [sif_t (tv_t hin)]
        simp only [Option.map_some, Option.isSome_some, if_true]
        rw [sq_nx st1, sif_t (htest.trans hlt), hρ]
        rfl
def nxE (fe fo : D → D) (row : List D) : List (D × D) := row.map fun u => (u, .tup [fe u, fo u])
theorem nxE_keys (row : List D) : (nxE fe fo row).map (·.1) = row := by
  unfold nxE
  rw [List.map_map]
  exact List.map_id' row
theorem nxE_get {row : List D} {u : D} (h : u ∈ row) : dget (nxE fe fo row) u = some (.tup [fe u, fo u]) := by
  obtain ⟨v, hv⟩ := dget_some (kvs := nxE fe fo row) (k := u) (by rw [nxE_keys]; exact h)
  obtain ⟨w, hw, e⟩ := List.mem_map.mp (dget_mem hv)
  cases e
  exact hv
theorem lp_state9 {row : List D} {l : List (D × Nat)} {s : D} {ch : Bool} {S : Store} (R : NG row mk fe fo) (ha : nkAt S (.ref a) = some (nxE fe fo row)) (hal : a < S.length) (hc : S[c]? = some (.nk (enM l))) (P : PI9 row mk fe fo (lk9 l)) (K : PlD9 row l) (hs : s ∈ row) {x5 x6 x7 x8 x9 : Option D} :
    ∃ S2 l2 ch2 y5 y6 y7 y8 y9, lb_least_places_n_2 (e10 a b c ch s x5 x6 x7 x8 x9) S = some (.nx (e10 a b c ch2 s y5 y6 y7 y8 y9) S2) ∧ S2[c]? = some (.nk (enM l2)) ∧
      S.length ≤ S2.length ∧ (∀ i, i < S.length → i ≠ c → S2[i]? = S[i]?) ∧ PI9 row mk fe fo (lk9 l2) ∧ PlD9 row l2 ∧ ((ch2 = ch ∧ l2 = l ∧ Fx9 fe fo (lk9 l) s) ∨ (ch2 = true ∧ Ltm9 row (lk9 l2) (lk9 l))) := by
  obtain ⟨L, hL⟩ : ∃ L, L = [D.tup [fe s, .int ((0 : Nat) : Int)], D.tup [fo s, .int ((1 : Nat) : Int)]] := ⟨_, rfl⟩
  obtain ⟨A, hA⟩ : ∃ A, A = S ++ [MO.lst L] := ⟨_, rfl⟩
  have hks : ∀ {l : List (D × Nat)}, PlD9 row l → ∀ q ∈ l.map (·.1), nkOk q = true := fun K q hq => R.key q (K.sub q hq)
  have hKl : ∀ {l : List (D × Nat)}, PlD9 row l → l.length < 16000000 := fun K => by have := K.len; have := R.few; omega
  have hcA : A[c]? = some (.nk (enM l)) := by rw [hA]; exact get_app hc _
  have lA : A.length = S.length + 1 := by rw [hA]; simp
  have hcl := (List.getElem?_eq_some_iff.mp hc).1
  have hgL : A[S.length]? = some (.lst L) := by rw [hA]; simp
  obtain ⟨S1, l1, ch1, y9, t1, g1, n1, o1, c1⟩ := lp_bit9 (a := a) (b := b) (bi := 0) (ch := ch) (t := fe s) (hks K) (R.key s hs) (R.key _ (R.e s hs)) hcA (hKl K) (x5 := some (fe s)) (x6 := some (fo s)) (x9 := x9)
  have P1 : PI9 row mk fe fo (lk9 l1) ∧ PlD9 row l1 := by
    rcases c1 with ⟨rfl, _, _⟩ | ⟨v, hv, rfl, _, hu⟩
    · exact ⟨P, K⟩
    · refine ⟨?_, K.ud hs _⟩
      rw [lk_udF9]
      exact P.set hs ((MWe (R.m s hs) v).mpr (P.val _ _ hv).2) hu
  obtain ⟨S2, l2, ch2, z9, t2, g2, n2, o2, c2⟩ := lp_bit9 (a := a) (b := b) (bi := 1) (ch := ch1) (t := fo s) (hks P1.2) (R.key s hs) (R.key _ (R.o s hs)) g1 (hKl P1.2) (x5 := some (fe s)) (x6 := some (fo s)) (x9 := y9)
  have P2 : PI9 row mk fe fo (lk9 l2) ∧ PlD9 row l2 := by
    rcases c2 with ⟨rfl, _, _⟩ | ⟨v, hv, rfl, _, hu⟩
    · exact P1
    · refine ⟨?_, P1.2.ud hs _⟩
      rw [lk_udF9]
      exact P1.1.set hs ((MWo s v).mpr (P1.1.val _ _ hv).2) hu
  have hgL1 : S1[S.length]? = some (.lst L) := by rw [o1 _ (by omega)]; exact hgL
  have hgL2 : S2[S.length]? = some (.lst L) := by rw [o2 _ (by omega)]; exact hgL1
  refine ⟨S2, l2, ch2, some (fe s), some (fo s), some (fo s), some (.int ((1 : Nat) : Int)), z9, ?_, g2, by omega, fun i h1 h2 => by rw [o2 i h2, o1 i h2, hA, List.getElem?_append_left h1], P2.1, P2.2, ?_⟩
  · have hg := ev_lget (ρ := e10 a b c ch s x5 x6 x7 x8 x9) (md := eVar 0) (mk := eVar 4) ha (R.key s hs) rfl rfl (nxE_get hs)
    unfold lb_least_places_n_2
    rw [sq_nx (ρ1 := e10 a b c ch s (some (fe s)) (some (fo s)) x7 x8 x9) (S1 := S) (by
      rw [x_asg, hg]
      simp)]
    have hit : eLst [eTup [eVar 5, eC (.int 0)], eTup [eVar 6, eC (.int 1)]] (e10 a b c ch s (some (fe s)) (some (fo s)) x7 x8 x9) S = some (.ok (.ref S.length) A) := by
      rw [hA, hL]
      simp
    simp only [sFor, x_any, hit, bd_ok, o_itr, hgL, bo_ok]
    rw [hL] at hgL hgL1 hgL2 ⊢
    rw [forL_cons (ρ1 := e10 a b c ch s (some (fe s)) (some (fo s)) (some (fe s)) (some (.int ((0 : Nat) : Int))) x9) (S1 := A) hgL (by rfl) t1]
    rw [forL_cons (ρ1 := e10 a b c ch1 s (some (fe s)) (some (fo s)) (some (fo s)) (some (.int ((1 : Nat) : Int))) y9) (S1 := S1) hgL1 (by rfl) t2]
    exact forL_nil hgL2
  · rcases c1 with ⟨rfl, rfl, f1⟩ | ⟨v, hv, rfl, rfl, hu⟩
    · rcases c2 with ⟨rfl, rfl, f2⟩ | ⟨v, hv, rfl, rfl, hu⟩
      · exact .inl ⟨rfl, rfl, f1, f2⟩
      · exact .inr ⟨rfl, by rw [lk_udF9]; exact ltm_set9 hs hu⟩
    · refine .inr ?_
      have q1 : Ltm9 row (lk9 (ud9 l s (2 * v + 0))) (lk9 l) := by rw [lk_udF9]; exact ltm_set9 hs hu
      rcases c2 with ⟨rfl, rfl, f2⟩ | ⟨v', hv', rfl, rfl, hu'⟩
      · exact ⟨rfl, q1⟩
      · refine ⟨rfl, Ltm9.trans ?_ q1⟩
        rw [lk_udF9 (ud9 l s (2 * v + 0))]
        exact ltm_set9 hs hu'
theorem lp_round9 {row : List D} {l : List (D × Nat)} {S : Store} (R : NG row mk fe fo) (ha : S[a]? = some (.nk (nxE fe fo row))) (hc : S[c]? = some (.nk (enM l))) (hac : a ≠ c) (P : PI9 row mk fe fo (lk9 l)) (K : PlD9 row l) {x3 x4 x5 x6 x7 x8 x9 : Option D} :
    ∃ S2 l2 ch2 y4 y5 y6 y7 y8 y9, lb_least_places_n_3 [some (.ref a), some (.ref b), some (.ref c), x3, x4, x5, x6, x7, x8, x9] S = some (.nx [some (.ref a), some (.ref b), some (.ref c), some (.bl ch2), y4, y5, y6, y7, y8, y9] S2) ∧ S2[c]? = some (.nk (enM l2)) ∧
      S.length ≤ S2.length ∧ (∀ i, i < S.length → i ≠ c → S2[i]? = S[i]?) ∧ PI9 row mk fe fo (lk9 l2) ∧ PlD9 row l2 ∧ ((ch2 = false ∧ l2 = l ∧ ∀ s ∈ row, Fx9 fe fo (lk9 l) s) ∨ (ch2 = true ∧ Ltm9 row (lk9 l2) (lk9 l))) := by
  have hal := (List.getElem?_eq_some_iff.mp ha).1
  have hcl := (List.getElem?_eq_some_iff.mp hc).1
  obtain ⟨S0, hS0⟩ : ∃ S0, S0 = S.set a (.nkl (nxE fe fo row)) := ⟨_, rfl⟩
  have h0l : S0.length = S.length := by rw [hS0]; simp
  have ha0 : S0[a]? = some (.nkl (nxE fe fo row)) := by rw [hS0]; exact List.getElem?_set_self hal
  have hc0 : S0[c]? = some (.nk (enM l)) := by rw [hS0, List.getElem?_set_ne hac]; exact hc
  have key := forL_idx (chk := fun S' => S'[a]? = some (.nkl (nxE fe fo row))) (g := gName 4) (b := lb_least_places_n_2) (fun i ρ S' => ∃ l2 ch2 y4 y5 y6 y7 y8 y9, ρ = [some (.ref a), some (.ref b), some (.ref c), some (.bl ch2), y4, y5, y6, y7, y8, y9] ∧ S'[c]? = some (.nk (enM l2)) ∧ S0.length ≤ S'.length ∧ (∀ i, i < S0.length → i ≠ c → S'[i]? = S0[i]?) ∧ PI9 row mk fe fo (lk9 l2) ∧ PlD9 row l2 ∧ ((ch2 = false ∧ l2 = l ∧ ∀ j q, j < i → row[j]? = some q → Fx9 fe fo (lk9 l) q) ∨ (ch2 = true ∧ Ltm9 row (lk9 l2) (lk9 l))))
    (fun i ρ S' ⟨l2, ch2, y4, y5, y6, y7, y8, y9, _, _, _, ho, _⟩ => by rw [ho a (by omega) hac]; exact ha0) row 0 (by
      rintro i s hs ρ S' ⟨l2, ch2, y4, y5, y6, y7, y8, y9, rfl, g1, g2, g3, P2, K2, hcase⟩
      have hsm := List.mem_of_getElem? hs
      have ha' : S'[a]? = some (.nkl (nxE fe fo row)) := by rw [g3 a (by omega) hac]; exact ha0
      obtain ⟨S2, l3, ch3, z5, z6, z7, z8, z9, e, q1, q2, q3, P3, K3, hcase3⟩ := lp_state9 (b := b) (ch := ch2) R (nk_l ha') (by omega) g1 P2 K2 hsm (x5 := y5) (x6 := y6) (x7 := y7) (x8 := y8) (x9 := y9)
      refine ⟨e10 a b c ch2 s y5 y6 y7 y8 y9, S', rfl, _, S2, .inl e, l3, ch3, _, z5, z6, z7, z8, z9, rfl, q1, by omega, fun j h1 h2 => by rw [q3 j (by omega) h2]; exact g3 j h1 h2, P3, K3, ?_⟩
      rcases hcase3 with ⟨rfl, rfl, f⟩ | ⟨rfl, f⟩
      · rcases hcase with ⟨rfl, rfl, hj⟩ | ⟨rfl, f2⟩
        · refine .inl ⟨rfl, rfl, fun j q hj1 hj2 => ?_⟩
          by_cases hji : j < 0 + i
          · exact hj j q hji hj2
          · have : j = i := by omega
            subst this
            rw [hs] at hj2
            cases hj2
            exact f
        · exact .inr ⟨rfl, f2⟩
      · rcases hcase with ⟨rfl, rfl, hj⟩ | ⟨rfl, f2⟩
        · exact .inr ⟨rfl, f⟩
        · exact .inr ⟨rfl, f.trans f2⟩)
    [some (.ref a), some (.ref b), some (.ref c), some (.bl false), x4, x5, x6, x7, x8, x9] S0 ⟨l, false, _, _, _, _, _, _, rfl, hc0, Nat.le_refl _, fun _ _ _ => rfl, P, K, .inl ⟨rfl, rfl, fun j q h => by omega⟩⟩
  obtain ⟨ρ', S', hfor, l2, ch2, y4, y5, y6, y7, y8, y9, rfl, g1, g2, g3, P2, K2, hcase⟩ := key
  have ha' : S'[a]? = some (.nkl (nxE fe fo row)) := by rw [g3 a (by omega) hac]; exact ha0
  refine ⟨S'.set a (.nk (nxE fe fo row)), l2, ch2, y4, y5, y6, y7, y8, y9, ?_, by rw [List.getElem?_set_ne hac]; exact g1, by simp; omega, fun i h1 h2 => ?_, P2, K2, ?_⟩
  · unfold lb_least_places_n_3
    rw [sq_nx (ρ1 := [some (.ref a), some (.ref b), some (.ref c), some (.bl false), x4, x5, x6, x7, x8, x9]) (S1 := S) (by simp)]
    unfold sLockN
    rw [lk_v (n := a) rfl]
    dsimp only
    rw [ha]
    dsimp only
    rw [← hS0]
    unfold sFor
    rw [key_n (i := 0) (n := a) rfl ha0]
    simp only [bo_ok, nxE_keys]
    rw [hfor]
    dsimp only
    rw [if_pos ha']
  · by_cases hi : i = a
    · subst hi
      rw [List.getElem?_set_self (by omega), ha]
    · rw [List.getElem?_set_ne (fun e => hi e.symm), g3 i (by omega) h2, hS0, List.getElem?_set_ne (fun e => hi e.symm)]
  · rcases hcase with ⟨rfl, rfl, f⟩ | h
    · refine .inl ⟨rfl, rfl, fun s hs => ?_⟩
      obtain ⟨j, hj⟩ := List.getElem?_of_mem hs
      exact f j s (by simpa using (List.getElem?_eq_some_iff.mp hj).1) hj
    · exact .inr h
theorem lp_while9 {row : List D} (R : NG row mk fe fo) (hac : a ≠ c) : ∀ (F : PF9) (l : List (D × Nat)) (S : Store) (x4 x5 x6 x7 x8 x9 : Option D), lk9 l = F → S[a]? = some (.nk (nxE fe fo row)) → S[c]? = some (.nk (enM l)) → PI9 row mk fe fo (lk9 l) → PlD9 row l →
    ∃ S2 l2 y4 y5 y6 y7 y8 y9, sWh (tVal (eVar 3)) lb_least_places_n_3 [some (.ref a), some (.ref b), some (.ref c), some (.bl true), x4, x5, x6, x7, x8, x9] S = some (.nx [some (.ref a), some (.ref b), some (.ref c), some (.bl false), y4, y5, y6, y7, y8, y9] S2) ∧ S2[c]? = some (.nk (enM l2)) ∧
      S.length ≤ S2.length ∧ (∀ i, i < S.length → i ≠ c → S2[i]? = S[i]?) ∧ PI9 row mk fe fo (lk9 l2) ∧ PlD9 row l2 ∧ ∀ s ∈ row, Fx9 fe fo (lk9 l2) s := by
  intro F
  induction F using (ltm_wf9 row).induction with
  | h F ih =>
    intro l S x4 x5 x6 x7 x8 x9 hF ha hc P K
    obtain ⟨S2, l2, ch2, y4, y5, y6, y7, y8, y9, e, g1, g2, g3, P2, K2, hcase⟩ := lp_round9 (b := b) R ha hc hac P K (x3 := some (.bl true)) (x4 := x4) (x5 := x5) (x6 := x6) (x7 := x7) (x8 := x8) (x9 := x9)
    have hal := (List.getElem?_eq_some_iff.mp ha).1
    have step := sWh_go (t := tVal (eVar 3)) (b := lb_least_places_n_3) (ρ := [some (.ref a), some (.ref b), some (.ref c), some (.bl true), x4, x5, x6, x7, x8, x9]) (S := S) (S1 := S) (by simp) e
    rw [step]
    rcases hcase with ⟨rfl, rfl, f⟩ | ⟨rfl, f⟩
    · exact ⟨S2, l2, y4, y5, y6, y7, y8, y9, sWh_stop (by simp), g1, g2, g3, P2, K2, f⟩
    · subst hF
      obtain ⟨S3, l3, z4, z5, z6, z7, z8, z9, e3, q1, q2, q3, P3, K3, f3⟩ := ih (lk9 l2) f l2 S2 y4 y5 y6 y7 y8 y9 rfl (by rw [g3 a hal hac]; exact ha) g1 P2 K2
      exact ⟨S3, l3, z4, z5, z6, z7, z8, z9, e3, q1, by omega, fun i h1 h2 => by rw [q3 i (by omega) h2]; exact g3 i h1 h2, P3, K3, f3⟩
/-- least_places: of each key the least place whose walk ends at a marked one -/
theorem s_least_places9 {row : List D} {S : Store} (R : NG row mk fe fo) (ha : S[a]? = some (.nk (nxE fe fo row))) (hb : S[b]? = some (.lst (row.filter fun u => decide (mk u)))) :
    ∃ c' l S', R_least_places_n [.ref a, .ref b] S = some (.ok (.ref c') S') ∧ S'[c']? = some (.nk (enM l)) ∧ Keep S S' ∧ PlD9 row l ∧ PI9 row mk fe fo (lk9 l) ∧ ∀ s ∈ row, Fx9 fe fo (lk9 l) s := by
  obtain ⟨ms, hms⟩ : ∃ ms, ms = row.filter fun u => decide (mk u) := ⟨_, rfl⟩
  rw [← hms] at hb
  have hmk : ∀ p, p ∈ ms ↔ p ∈ row ∧ mk p := fun p => by rw [hms, List.mem_filter]; simp
  have hnd : ms.Nodup := by rw [hms]; exact R.nd.sublist List.filter_sublist
  have hml : ms.length ≤ row.length := by rw [hms]; exact List.length_filter_le _ _
  have hfew := R.few
  have hal := (List.getElem?_eq_some_iff.mp ha).1
  obtain ⟨l0, hl0⟩ : ∃ l0 : List (D × Nat), l0 = ms.map fun q => (q, 0) := ⟨_, rfl⟩
  have hlk : ∀ p, lk9 l0 p = if p ∈ ms then some 0 else none := fun p => by rw [hl0]; exact lk_fn9 (fun _ => 0) p ms
  have hk0 : l0.map (·.1) = ms := by
    rw [hl0, List.map_map]
    exact List.map_id' ms
  have hlc := lcL_map (chk := fun S' => S'[b]? = some (.lst ms)) (g := gName 4) (t := tYes) (e := eTup [eVar 4, eC (.int 0)]) (S := S) (ρ := [some (.ref a), some (.ref b), none, none, none, none, none, none, none, none]) (fun d => .tup [d, .int 0]) ms [] (by rw [LINE_eq]; simp; omega) (fun acc => get_app hb _) (fun x hx acc => ⟨_, rfl, rfl, by simp⟩)
  rw [List.nil_append] at hlc
  obtain ⟨S1, hS1⟩ : ∃ S1, S1 = S ++ [MO.lst ((enM l0).map fun p => D.tup [p.1, p.2])] := ⟨_, rfl⟩
  have hex : ms.map (fun d => D.tup [d, .int 0]) = (enM l0).map fun p => D.tup [p.1, p.2] := by
    rw [hl0]
    unfold enM
    rw [List.map_map, List.map_map]
    rfl
  rw [hex, ← hS1] at hlc
  have e2' := ev_dictN (S := S1) (m := S.length) (kvs := enM l0) (by rw [hS1]; simp) (fun p hp => by
    have : p.1 ∈ (enM l0).map (·.1) := List.mem_map.mpr ⟨p, hp, rfl⟩
    rw [enM_keys, hk0] at this
    exact R.key _ ((hmk _).mp this).1) (by rw [enM_keys, hk0]; exact hnd) (by rw [enM_len, hl0]; simp; omega)
  have l1 : S1.length = S.length + 1 := by rw [hS1]; simp
  obtain ⟨B, hB⟩ : ∃ B, B = S1 ++ [MO.nk (enM l0)] := ⟨_, rfl⟩
  rw [← hB] at e2'
  have kB : Keep S B := by rw [hB, hS1]; exact Keep.app.trans .app
  have gB : B[S1.length]? = some (.nk (enM l0)) := by rw [hB]; simp
  have P0 : PI9 row mk fe fo (lk9 l0) := by
    refine ⟨fun p n h => ?_, fun p hp hd => by rw [hlk, if_pos ((hmk p).mpr ⟨hp, hd⟩)]⟩
    rw [hlk] at h
    split at h
    · rename_i hm
      cases h
      exact ⟨((hmk p).mp hm).1, (MW0 p).mpr ((hmk p).mp hm).2⟩
    · cases h
  have K0 : PlD9 row l0 := ⟨by rw [hk0]; exact hnd, fun q hq => by rw [hk0] at hq; exact ((hmk q).mp hq).1⟩
  obtain ⟨S2, l2, y4, y5, y6, y7, y8, y9, e, g1, g2, g3, P2, K2, f⟩ := lp_while9 (a := a) (b := b) (c := S1.length) R (by omega) _ l0 B none none none none none none rfl (kB.get ha) gB P0 K0
  refine ⟨S1.length, l2, S2, ?_, g1, ⟨by have := kB.1; omega, fun j hj => by rw [g3 j (by have := kB.1; omega) (by omega)]; exact kB.2 j hj⟩, K2, P2, f⟩
  unfold R_least_places_n
  rw [run_eq (n := 2) _ _ rfl]
  unfold b_least_places_n
  rw [show (List.map some [D.ref a, .ref b] ++ List.replicate (10 - 2) none : Env) = [some (.ref a), some (.ref b), none, none, none, none, none, none, none, none] from rfl]
  have hlc' : eLc (iAny (eVar 1)) (gName 4) (tYes) (eTup [eVar 4, eC (.int 0)]) [4] [some (.ref a), some (.ref b), none, none, none, none, none, none, none, none] S = some (.ok (.ref S.length) S1) := by
    simp only [eLc, x_any, x_var, List.getElem?_cons_succ, List.getElem?_cons_zero, bd_ok, o_itr, hb, wipe]
    exact hlc
  rw [sq_nx (ρ1 := [some (.ref a), some (.ref b), some (.ref S1.length), none, none, none, none, none, none, none]) (S1 := B) (by
    simp only [x_asg, x_call, x_cons, x_nil, hlc', bd_ok, e2', bo_ok, x_name]
    rfl)]
  rw [sq_nx (ρ1 := [some (.ref a), some (.ref b), some (.ref S1.length), some (.bl true), none, none, none, none, none, none]) (S1 := B) (by simp)]
  rw [sq_nx e]
  simp
end
end Z
namespace Z
abbrev PP := Nat × Nat
def kq (p : PP) : List D := [.int p.1, .int p.2]
def pD (p : PP) : D := .tup (kq p)
def lk {α : Type} (l : List (PP × α)) (p : PP) : Option α := (l.find? fun e => decide (e.1 = p)).map (·.2)
def ud {α : Type} (l : List (PP × α)) (p : PP) (a : α) : List (PP × α) := if (l.any fun e => decide (e.1 = p)) = true then l.map (fun e => if e.1 = p then (p, a) else e) else l ++ [(p, a)]
theorem lk_nil {α : Type} (p : PP) : lk ([] : List (PP × α)) p = none := rfl
theorem lk_cons {α : Type} (e : PP × α) (l : List (PP × α)) (p : PP) : lk (e :: l) p = if e.1 = p then some e.2 else lk l p := by
  by_cases h : e.1 = p
  · simp [lk, List.find?_cons, h]
  · simp [lk, List.find?_cons, h]
theorem lk_any {α : Type} (p : PP) : ∀ l : List (PP × α), (l.any fun e => decide (e.1 = p)) = (lk l p).isSome
  | [] => rfl
  | e :: l => by
    rw [List.any_cons, lk_any p l, lk_cons]
    by_cases h : e.1 = p
    · simp [h]
    · simp [h]
section
variable (m1 m2 : List Q)
def nx1 (p : PP) : PP := ((stq m1 p.1).e, (stq m2 p.2).e)
def nx2 (p : PP) : PP := ((stq m1 p.1).o, (stq m2 p.2).o)
inductive RchP : PP → Prop where
  | base : RchP (0, 0)
  | one {p : PP} : RchP p → RchP (nx1 m1 m2 p)
  | two {p : PP} : RchP p → RchP (nx2 m1 m2 p)
def addP (row : List PP) (p : PP) : List PP := if p ∈ row then row else row ++ [p]
structure RowI (row : List PP) (k : Nat) : Prop where
  nd : row.Nodup
  bd : ∀ p ∈ row, p.1 < m1.length ∧ p.2 < m2.length
  zero : (0, 0) ∈ row
  cl : ∀ (i : Nat) (q : PP), i < k → row[i]? = some q → nx1 m1 m2 q ∈ row ∧ nx2 m1 m2 q ∈ row
  rch : ∀ p ∈ row, RchP m1 m2 p
end
theorem mem_add {row : List PP} {p q : PP} : q ∈ addP row p ↔ q ∈ row ∨ q = p := by
  unfold addP
  by_cases h : p ∈ row
  · rw [if_pos h]; exact ⟨.inl, fun x => x.elim id fun e => e ▸ h⟩
  · rw [if_neg h]; simp
theorem add_nd {row : List PP} {p : PP} (h : row.Nodup) : (addP row p).Nodup := by
  unfold addP
  by_cases c : p ∈ row
  · rw [if_pos c]; exact h
  · rw [if_neg c]; exact List.nodup_append.mpr ⟨h, by simp, fun a ha b hb => by simp at hb; subst hb; rintro rfl; exact c ha⟩
theorem add_get' {row : List PP} {p q : PP} {i : Nat} (hi : i < row.length) (h : (addP row p)[i]? = some q) : row[i]? = some q := by
  unfold addP at h
  split at h
  · exact h
  · rw [List.getElem?_append_left hi] at h; exact h
theorem add_len {row : List PP} {p : PP} : row.length ≤ (addP row p).length := by
  unfold addP; split <;> simp
section
variable {m1 m2 : List Q} (M1 : Mach m1) (M2 : Mach m2)
include M1 M2
theorem RowI.start : RowI m1 m2 [(0, 0)] 0 := ⟨by simp, fun p hp => by simp at hp; subst hp; exact ⟨M1.pos, M2.pos⟩, by simp, fun i q h => by omega, fun p hp => by simp at hp; subst hp; exact .base⟩
theorem nx1_bd {p : PP} (h : p.1 < m1.length ∧ p.2 < m2.length) : (nx1 m1 m2 p).1 < m1.length ∧ (nx1 m1 m2 p).2 < m2.length := ⟨M1.he _ (Mach.mem h.1), M2.he _ (Mach.mem h.2)⟩
theorem nx2_bd {p : PP} (h : p.1 < m1.length ∧ p.2 < m2.length) : (nx2 m1 m2 p).1 < m1.length ∧ (nx2 m1 m2 p).2 < m2.length := ⟨M1.ho _ (Mach.mem h.1), M2.ho _ (Mach.mem h.2)⟩
theorem RowI.step {row : List PP} {k : Nat} {q : PP} (R : RowI m1 m2 row k) (hq : row[k]? = some q) : RowI m1 m2 (addP (addP row (nx1 m1 m2 q)) (nx2 m1 m2 q)) (k + 1) := by
  have hqm := List.mem_of_getElem? hq
  refine ⟨add_nd (add_nd R.nd), fun p hp => ?_, mem_add.mpr (.inl (mem_add.mpr (.inl R.zero))), fun i p hi hp => ?_, fun p hp => ?_⟩
  · rcases mem_add.mp hp with hp | rfl
    · rcases mem_add.mp hp with hp | rfl
      · exact R.bd p hp
      · exact nx1_bd M1 M2 (R.bd q hqm)
    · exact nx2_bd M1 M2 (R.bd q hqm)
  · have hk := (List.getElem?_eq_some_iff.mp hq).1
    have hl := add_len (row := row) (p := nx1 m1 m2 q)
    have hp := add_get' (by omega) (add_get' (by omega) hp)
    by_cases c : i = k
    · subst c
      rw [hq] at hp
      cases hp
      exact ⟨mem_add.mpr (.inl (mem_add.mpr (.inr rfl))), mem_add.mpr (.inr rfl)⟩
    · obtain ⟨a, b⟩ := R.cl i p (by omega) hp
      exact ⟨mem_add.mpr (.inl (mem_add.mpr (.inl a))), mem_add.mpr (.inl (mem_add.mpr (.inl b)))⟩
  · rcases mem_add.mp hp with hp | rfl
    · rcases mem_add.mp hp with hp | rfl
      · exact R.rch p hp
      · exact .one (R.rch q hqm)
    · exact .two (R.rch q hqm)
end
theorem nodup_leP : ∀ (P L : List PP), P.Nodup → (∀ q ∈ P, q ∈ L) → P.length ≤ L.length
  | [], L, _, _ => Nat.zero_le _
  | q :: P, L, h, hs => by
    obtain ⟨h1, h2⟩ := List.nodup_cons.mp h
    have hq := hs q (by simp)
    have := nodup_leP P (L.erase q) h2 fun y hy => by
      have hy' := hs y (List.mem_cons_of_mem _ hy)
      exact (List.mem_erase_of_ne (by rintro rfl; exact h1 hy)).mpr hy'
    rw [List.length_erase_of_mem hq] at this
    have := List.length_pos_of_mem hq
    simp; omega
def grid (a b : Nat) : List PP := (List.range a).flatMap fun x => (List.range b).map fun y => (x, y)
theorem grid_len (a b : Nat) : (grid a b).length = a * b := by
  induction a with
  | zero => simp [grid]
  | succ a ih =>
    unfold grid at ih ⊢
    rw [List.range_succ, List.flatMap_append, List.length_append, ih]
    simp [Nat.succ_mul]
theorem grid_mem {a b : Nat} {p : PP} (h : p.1 < a ∧ p.2 < b) : p ∈ grid a b := by
  unfold grid
  rw [List.mem_flatMap]
  exact ⟨p.1, List.mem_range.mpr h.1, List.mem_map.mpr ⟨p.2, List.mem_range.mpr h.2, rfl⟩⟩
theorem RowI.len {m1 m2 : List Q} {row : List PP} {k : Nat} (R : RowI m1 m2 row k) : row.length ≤ m1.length * m2.length := by
  rw [← grid_len]
  exact nodup_leP row _ R.nd fun q hq => grid_mem (R.bd q hq)
/-- the row of all pairs met -/
abbrev Met (m1 m2 : List Q) (row : List PP) : Prop := RowI m1 m2 row row.length
theorem Met.closed {m1 m2 : List Q} {row : List PP} (R : Met m1 m2 row) {p : PP} (h : p ∈ row) : nx1 m1 m2 p ∈ row ∧ nx2 m1 m2 p ∈ row := by
  obtain ⟨i, hi⟩ := List.getElem?_of_mem h
  exact R.cl i p (List.getElem?_eq_some_iff.mp hi).1 hi
theorem Met.all {m1 m2 : List Q} {row : List PP} (R : Met m1 m2 row) {p : PP} (h : RchP m1 m2 p) : p ∈ row := by
  induction h with
  | base => exact R.zero
  | one _ ih => exact (R.closed ih).1
  | two _ ih => exact (R.closed ih).2
end Z
namespace Z
theorem q_e (q : Q) (S : Store) : ixD q.d (.int 1) S = some (.ok (.int q.e) S) := by simp [Q.d, atI, ixN]
theorem q_o (q : Q) (S : Store) : ixD q.d (.int 2) S = some (.ok (.int q.o) S) := by simp [Q.d, atI, ixN]
theorem q_s (q : Q) (S : Store) : ixD q.d (.int 0) S = some (.ok (.int q.s) S) := by simp [Q.d, atI, ixN]
theorem p_0 (p : PP) (S : Store) : ixD (pD p) (.int 0) S = some (.ok (.int p.1) S) := by simp [pD, kq, atI, ixN]
theorem p_1 (p : PP) (S : Store) : ixD (pD p) (.int 1) S = some (.ok (.int p.2) S) := by simp [pD, kq, atI, ixN]
/-- a store that only grew -/
theorem grown {S S' : Store} (hl : S.length ≤ S'.length) (h : ∀ i, i < S.length → S'[i]? = S[i]?) : ∃ G, S' = S ++ G := by
  refine ⟨S'.drop S.length, ?_⟩
  apply List.ext_getElem?
  intro i
  by_cases hi : i < S.length
  · rw [List.getElem?_append_left hi, h i hi]
  · rw [List.getElem?_append_right (by omega), List.getElem?_drop]
    congr 1; omega
end Z
namespace Z
abbrev PF := PP → Option Nat
def setF' (F : PF) (s : PP) (n : Nat) : PF := fun q => if q = s then some n else F q
def mis (F : PF) (row : List PP) : Nat := (row.filter fun q => (F q).isNone).length
def sm (F : PF) : List PP → Nat
  | [] => 0
  | q :: r => (F q).getD 0 + sm F r
def Ltm (row : List PP) (F' F : PF) : Prop := mis F' row < mis F row ∨ (mis F' row = mis F row ∧ sm F' row < sm F row)
theorem Ltm.trans {row : List PP} {F'' F' F : PF} (a : Ltm row F'' F') (b : Ltm row F' F) : Ltm row F'' F := by
  unfold Ltm at *; omega
section
variable (m1 m2 : List Q)
def Diff (p : PP) (n : Nat) : Prop := sgn m1 p.1 n ≠ sgn m2 p.2 n
/-- what stands: differing places, the marked pairs at 0 -/
structure PlI (row : List PP) (F : PF) : Prop where
  val : ∀ p n, F p = some n → p ∈ row ∧ Diff m1 m2 p n
  mrk : ∀ p, p ∈ row → Diff m1 m2 p 0 → F p = some 0
end
section
variable {m1 m2 : List Q} (M1 : Mach m1) (M2 : Mach m2)
include M1 M2
theorem diff_1 {p : PP} (h : p.1 < m1.length ∧ p.2 < m2.length) (k : Nat) : Diff m1 m2 p (2 * k) ↔ Diff m1 m2 (nx1 m1 m2 p) k := by
  unfold Diff
  rw [sgn_even M1 h.1, sgn_even M2 h.2]
  exact Iff.rfl
theorem diff_2 {p : PP} (h : p.1 < m1.length ∧ p.2 < m2.length) (k : Nat) : Diff m1 m2 p (2 * k + 1) ↔ Diff m1 m2 (nx2 m1 m2 p) k := by
  unfold Diff
  rw [sgn_odd, sgn_odd]
  exact Iff.rfl
theorem PlI.set {row : List PP} {F : PF} {s : PP} {n : Nat} (P : PlI m1 m2 row F) (hs : s ∈ row) (hd : Diff m1 m2 s n) (h : ∀ u, F s = some u → n < u) : PlI m1 m2 row (setF' F s n) := by
  refine ⟨fun p k hp => ?_, fun p hp h0 => ?_⟩
  · unfold setF' at hp
    split at hp
    · rename_i e; subst e; cases hp; exact ⟨hs, hd⟩
    · exact P.val p k hp
  · unfold setF'
    split
    · rename_i e
      subst e
      have := h 0 (P.mrk p hp h0)
      omega
    · exact P.mrk p hp h0
end
structure PlD (row : List PP) (l : List (PP × Nat)) : Prop where
  nd : (l.map (·.1)).Nodup
  sub : ∀ q ∈ l.map (·.1), q ∈ row
theorem ud_keys {α : Type} (l : List (PP × α)) (q : PP) (a : α) : (ud l q a).map (·.1) = if (lk l q).isSome = true then l.map (·.1) else l.map (·.1) ++ [q] := by
  unfold ud
  rw [lk_any]
  split
  · rw [List.map_map]
    refine List.map_congr_left fun e _ => ?_
    simp only [Function.comp_def]
    split
    · rename_i h; exact h.symm
    · rfl
  · simp
theorem lk_mem {α : Type} {p : PP} : ∀ {l : List (PP × α)}, (lk l p).isSome = true ↔ p ∈ l.map (·.1)
  | [] => by simp [lk_nil]
  | e :: l => by
    rw [lk_cons, List.map_cons, List.mem_cons, ← lk_mem]
    by_cases h : e.1 = p
    · simp [h]
    · have : ¬ p = e.1 := fun x => h x.symm
      simp [h, this]
theorem PlD.ud {row : List PP} {l : List (PP × Nat)} (P : PlD row l) {q : PP} (hq : q ∈ row) (n : Nat) : PlD row (ud l q n) := by
  refine ⟨?_, fun p hp => ?_⟩
  · rw [ud_keys]
    split
    · exact P.nd
    · rename_i h
      exact List.nodup_append.mpr ⟨P.nd, by simp, fun a ha b hb => by simp at hb; subst hb; rintro rfl; exact h (lk_mem.mpr ha)⟩
  · rw [ud_keys] at hp
    split at hp
    · exact P.sub p hp
    · rcases List.mem_append.mp hp with hp | hp
      · exact P.sub p hp
      · simp at hp; subst hp; exact hq
theorem PlD.len {row : List PP} {l : List (PP × Nat)} (P : PlD row l) : l.length ≤ row.length := by
  have := nodup_leP _ _ P.nd P.sub
  simpa using this
end Z
namespace Z
theorem diff_0 {m1 m2 : List Q} (p : PP) : Diff m1 m2 p 0 ↔ (stq m1 p.1).s ≠ (stq m2 p.2).s := by
  unfold Diff sgn
  rw [go0, go0]
end Z
namespace Z
def pP (p : PP) : PD := .tup [.int p.1, .int p.2]
theorem dat_p (S : Store) (p : PP) : dat S (pD p) = some (pP p) := by simp [dat, pD, kq, D.pd, pdL, pP]
theorem dat_ps {S : Store} {n : Nat} {row : List PP} (h : S[n]? = some (.lst (row.map pD))) : dat S (.ref n) = some (.lst (row.map pP)) := by
  have pl : ∀ (g : Nat → Option PD) (xs : List PP), pdL g (xs.map pD) = some (xs.map pP) := fun g xs => by
    induction xs with
    | nil => rfl
    | cons x xs ih => rw [List.map_cons, pdL, ih]; simp [pD, kq, D.pd, pdL, pP]
  unfold dat
  rw [D.pd, rdR, h]
  dsimp only
  rw [pl]; rfl
theorem dep_ps : ∀ row : List PP, depL (row.map pP) ≤ 2
  | [] => by simp [depL]
  | p :: r => by
    have := dep_ps r
    simp [depL, PD.dep, pP] at this ⊢
    omega
theorem pP_eqv (p q : PP) : (pP p).eqv (pP q) = decide (p = q) := by
  obtain ⟨a, b⟩ := p
  obtain ⟨c, d⟩ := q
  rw [Bool.eq_iff_iff]
  simp [pP, PD.eqv, eqvL]
  omega
theorem in_pairs {S : Store} {n : Nat} {row : List PP} (p : PP) (h : S[n]? = some (.lst (row.map pD))) : inB (pD p) (.ref n) S = some (decide (p ∈ row)) := by
  have e1 := dat_p S p
  have e2 := dat_ps h
  have d1 : (pP p).dep ≤ 64 := by simp [pP, PD.dep, depL]
  have d2 : (PD.lst (row.map pP)).dep ≤ 64 := by have := dep_ps row; rw [PD.dep]; omega
  unfold inB
  dsimp only
  rw [e1, e2]
  dsimp only
  rw [if_pos ⟨d1, d2⟩, List.any_map]
  congr 1
  rw [Bool.eq_iff_iff]
  simp only [List.any_eq_true, Function.comp_def, pP_eqv, decide_eq_true_eq]
  exact ⟨fun ⟨q, h1, h2⟩ => h2 ▸ h1, fun h => ⟨p, h, rfl⟩⟩
theorem ni_p {S : Store} {n : Nat} {row : List PP} (p : PP) (h : S[n]? = some (.lst (row.map pD))) : ninD (pD p) (.ref n) S = some (.ok (.bl (!decide (p ∈ row))) S) := by
  unfold ninD; rw [in_pairs p h]
theorem eqvL_ps : ∀ row : List PP, eqvL (row.map pP) (row.map pP) = true
  | [] => by simp [eqvL]
  | p :: r => by
    rw [List.map_cons, eqvL, pP_eqv, eqvL_ps r]
    simp
theorem ne_ps {S : Store} {a b : Nat} {row : List PP} (h1 : S[a]? = some (.lst (row.map pD))) (h2 : S[b]? = some (.lst (row.map pD))) : neD (.ref a) (.ref b) S = some (.ok (.bl false) S) := by
  have d2 : (PD.lst (row.map pP)).dep ≤ 64 := by have := dep_ps row; rw [PD.dep]; omega
  unfold neD
  rw [dat_ps h1, dat_ps h2]
  dsimp only
  rw [if_pos ⟨d2, d2⟩, PD.eqv, eqvL_ps]
  rfl
/-- a pair that is as it ought to be in a row -/
def goodP (m1 m2 : List Q) (row : List PP) (p : PP) : Prop := p.1 < m1.length ∧ p.2 < m2.length ∧ (stq m1 p.1).s = (stq m2 p.2).s ∧ nx1 m1 m2 p ∈ row ∧ nx2 m1 m2 p ∈ row
instance (m1 m2 : List Q) (row : List PP) (p : PP) : Decidable (goodP m1 m2 row p) := by unfold goodP; infer_instance
def shA (m1 m2 : List Q) (row : List PP) : Bool := decide ((0, 0) ∈ row ∧ ∀ p ∈ row, goodP m1 m2 row p)
/-- a loop that ends at the first bad one -/
theorem loop_good {chk : Store → Prop} {g : SG} {b : SS} {S : Store} (hc : chk S) (E : Option D → Option D → Option D → Env) (good : PP → Prop) [DecidablePred good] (h : ∀ (p : PP) x y z, ∃ ρ1 x' y' z', g (pD p) (E x y z) S = some (ρ1, S) ∧ b ρ1 S = if good p then some (.nx (E x' y' z') S) else some (.rt (.bl false) S)) :
    ∀ (row : List PP) (x y z : Option D), ∃ x' y' z', forL chk g b (row.map pD) (E x y z) S = if ∀ p ∈ row, good p then some (.nx (E x' y' z') S) else some (.rt (.bl false) S)
  | [], x, y, z => ⟨x, y, z, by rw [List.map_nil, forL_nil hc, if_pos (fun p h => by cases h)]⟩
  | p :: row, x, y, z => by
    obtain ⟨ρ1, x1, y1, z1, h1, h2⟩ := h p x y z
    rw [List.map_cons]
    by_cases c : good p
    · rw [if_pos c] at h2
      obtain ⟨x', y', z', h3⟩ := loop_good hc E good h row x1 y1 z1
      refine ⟨x', y', z', ?_⟩
      rw [forL_cons hc h1 h2, h3]
      have : (∀ q ∈ p :: row, good q) ↔ ∀ q ∈ row, good q := ⟨fun h q hq => h q (List.mem_cons_of_mem _ hq), fun h q hq => by rcases List.mem_cons.mp hq with rfl | hq; exact c; exact h q hq⟩
      simp only [this]
    · rw [if_neg c] at h2
      refine ⟨x, y, z, ?_⟩
      rw [forL_rt hc h1 h2, if_neg fun h => c (h p (by simp))]
section
variable {m1 m2 : List Q}
theorem sa_body (h1 : m1.length ≤ 900) (h2 : m2.length ≤ 900) {r : Nat} {row : List PP} {S : Store} (hr : S[r]? = some (.lst (row.map pD))) (p : PP) :
    lb_shows_alike_1 [some (machD m1), some (machD m2), some (.ref r), some (.int p.1), some (.int p.2)] S = if goodP m1 m2 row p then some (.nx [some (machD m1), some (machD m2), some (.ref r), some (.int p.1), some (.int p.2)] S) else some (.rt (.bl false) S) := by
  unfold goodP
  by_cases c1 : p.1 < m1.length
  · by_cases c2 : p.2 < m2.length
    · have a1 := at_state c1
      have a2 := at_state c2
      have c1' : ¬ m1.length ≤ p.1 := by omega
      have c2' : ¬ m2.length ≤ p.2 := by omega
      by_cases c3 : (stq m1 p.1).s = (stq m2 p.2).s
      · have eA : (D.tup [.int (stq m1 p.1).e, .int (stq m2 p.2).e]) = pD (nx1 m1 m2 p) := rfl
        have eB : (D.tup [.int (stq m1 p.1).o, .int (stq m2 p.2).o]) = pD (nx2 m1 m2 p) := rfl
        have n1 := ni_p (nx1 m1 m2 p) hr
        have n2 := ni_p (nx2 m1 m2 p) hr
        by_cases c4 : nx1 m1 m2 p ∈ row
        · by_cases c5 : nx2 m1 m2 p ∈ row
          · simp [lb_shows_alike_1, c1, c2, c1', c2', a1, a2, q_s, q_e, q_o, c3, eA, eB, n1, n2, c4, c5]
          · simp [lb_shows_alike_1, c1, c2, c1', c2', a1, a2, q_s, q_e, q_o, c3, eA, eB, n1, n2, c4, c5]
        · simp [lb_shows_alike_1, c1, c2, c1', c2', a1, a2, q_s, q_e, q_o, c3, eA, eB, n1, n2, c4]
      · have c3' : ¬ ((stq m1 p.1).s : Int) = (stq m2 p.2).s := by omega
        simp [lb_shows_alike_1, c1, c2, c1', c2', a1, a2, q_s, c3, c3']
    · have c1' : ¬ m1.length ≤ p.1 := by omega
      have c2' : m2.length ≤ p.2 := by omega
      simp [lb_shows_alike_1, c1, c2, c1', c2']
  · have c1' : m1.length ≤ p.1 := by omega
    simp [lb_shows_alike_1, c1, c1']
theorem s_shows_alike (h1 : m1.length ≤ 900) (h2 : m2.length ≤ 900) {r : Nat} {row : List PP} {S : Store} (hr : S[r]? = some (.lst (row.map pD))) : R_shows_alike [machD m1, machD m2, .ref r] S = some (.ok (.bl (shA m1 m2 row)) S) := by
  have n0 := ni_p (0, 0) hr
  have e0 : D.tup [.int 0, .int 0] = pD (0, 0) := rfl
  obtain ⟨x', y', z', hf⟩ := loop_good (chk := fun S' => S'[r]? = some (.lst (row.map pD))) (g := gTup [gName 3, gName 4]) (b := lb_shows_alike_1) (S := S) hr (fun x y _ => [some (machD m1), some (machD m2), some (.ref r), x, y]) (goodP m1 m2 row) (fun p x y z => ⟨_, some (.int p.1), some (.int p.2), none, rfl, sa_body h1 h2 hr p⟩) row none none none
  unfold R_shows_alike
  rw [run_eq (n := 3) _ _ rfl]
  unfold b_shows_alike shA
  by_cases c : (0, 0) ∈ row
  · by_cases d : ∀ p ∈ row, goodP m1 m2 row p
    · rw [if_pos d] at hf
      rw [decide_eq_true ⟨c, d⟩]
      simp [e0, n0, c, -getElem?_pos, List.getElem?_cons_zero, List.getElem?_cons_succ, hr, hf]
    · rw [if_neg d] at hf
      rw [decide_eq_false fun h => d h.2]
      simp [e0, n0, c, -getElem?_pos, List.getElem?_cons_zero, List.getElem?_cons_succ, hr, hf]
  · rw [decide_eq_false fun h => c h.1]
    simp [e0, n0, c]
theorem ld_bit {r b : Nat} (hb : b = 1 ∨ b = 2) {row : List PP} {S : Store} (hr : S[r]? = some (.lst (row.map pD))) {p : PP} (c1 : p.1 < m1.length) (c2 : p.2 < m2.length) :
    lb_law_due_v7_1 [some (machD m1), some (machD m2), some (.ref r), some (.int p.1), some (.int p.2), some (.int b)] S = if (if b = 1 then nx1 m1 m2 p else nx2 m1 m2 p) ∈ row then some (.nx [some (machD m1), some (machD m2), some (.ref r), some (.int p.1), some (.int p.2), some (.int b)] S) else some (.rt (.bl false) S) := by
  have a1 := at_state c1
  have a2 := at_state c2
  have eA : (D.tup [.int (stq m1 p.1).e, .int (stq m2 p.2).e]) = pD (nx1 m1 m2 p) := rfl
  have eB : (D.tup [.int (stq m1 p.1).o, .int (stq m2 p.2).o]) = pD (nx2 m1 m2 p) := rfl
  have n1 := ni_p (nx1 m1 m2 p) hr
  have n2 := ni_p (nx2 m1 m2 p) hr
  rcases hb with rfl | rfl
  · by_cases c : nx1 m1 m2 p ∈ row
    · simp [lb_law_due_v7_1, a1, a2, q_e, eA, n1, c]
    · simp [lb_law_due_v7_1, a1, a2, q_e, eA, n1, c]
  · by_cases c : nx2 m1 m2 p ∈ row
    · simp [lb_law_due_v7_1, a1, a2, q_o, eB, n2, c]
    · simp [lb_law_due_v7_1, a1, a2, q_o, eB, n2, c]
theorem ld_body (h1 : m1.length ≤ 900) (h2 : m2.length ≤ 900) {r : Nat} {row : List PP} {S : Store} (hr : S[r]? = some (.lst (row.map pD))) (p : PP) (z : Option D) :
    ∃ z', lb_law_due_v7_2 [some (machD m1), some (machD m2), some (.ref r), some (.int p.1), some (.int p.2), z] S = if goodP m1 m2 row p then some (.nx [some (machD m1), some (machD m2), some (.ref r), some (.int p.1), some (.int p.2), z'] S) else some (.rt (.bl false) S) := by
  refine ⟨some (.int (2 : Nat)), ?_⟩
  unfold goodP
  by_cases c1 : p.1 < m1.length
  · by_cases c2 : p.2 < m2.length
    · have a1 := at_state c1
      have a2 := at_state c2
      by_cases c3 : (stq m1 p.1).s = (stq m2 p.2).s
      · have b1 := ld_bit (b := 1) (.inl rfl) hr c1 c2
        have b2 := ld_bit (b := 2) (.inr rfl) hr c1 c2
        rw [if_pos rfl] at b1
        rw [if_neg (show ¬ (2 : Nat) = 1 by decide)] at b2
        by_cases c4 : nx1 m1 m2 p ∈ row
        · rw [if_pos c4] at b1
          by_cases c5 : nx2 m1 m2 p ∈ row
          · rw [if_pos c5] at b2
            have hf : forL (fun _ => True) (gName 5) lb_law_due_v7_1 [.int (1 : Nat), .int (2 : Nat)] [some (machD m1), some (machD m2), some (.ref r), some (.int p.1), some (.int p.2), z] S = some (.nx [some (machD m1), some (machD m2), some (.ref r), some (.int p.1), some (.int p.2), some (.int (2 : Nat))] S) := by
              rw [forL_cons (S1 := S) trivial rfl b1, forL_cons (S1 := S) trivial rfl b2, forL_nil trivial]
            simp at hf
            simp [lb_law_due_v7_2, c1, c2, a1, a2, q_s, c3, c4, c5, hf]
          · rw [if_neg c5] at b2
            have hf : forL (fun _ => True) (gName 5) lb_law_due_v7_1 [.int (1 : Nat), .int (2 : Nat)] [some (machD m1), some (machD m2), some (.ref r), some (.int p.1), some (.int p.2), z] S = some (.rt (.bl false) S) := by
              rw [forL_cons (S1 := S) trivial rfl b1]
              exact forL_rt (S1 := S) trivial rfl b2
            simp at hf
            simp [lb_law_due_v7_2, c1, c2, a1, a2, q_s, c3, c4, c5, hf]
        · rw [if_neg c4] at b1
          have hf : forL (fun _ => True) (gName 5) lb_law_due_v7_1 [.int (1 : Nat), .int (2 : Nat)] [some (machD m1), some (machD m2), some (.ref r), some (.int p.1), some (.int p.2), z] S = some (.rt (.bl false) S) := by
            exact forL_rt (S1 := S) trivial rfl b1
          simp at hf
          simp [lb_law_due_v7_2, c1, c2, a1, a2, q_s, c3, c4, hf]
      · have c3' : ¬ ((stq m1 p.1).s : Int) = (stq m2 p.2).s := by omega
        simp [lb_law_due_v7_2, c1, c2, a1, a2, q_s, c3, c3']
    · simp [lb_law_due_v7_2, c1, c2]
  · simp [lb_law_due_v7_2, c1]
theorem s_law_dueP (h1 : m1.length ≤ 900) (h2 : m2.length ≤ 900) {r : Nat} {row : List PP} {S : Store} (hr : S[r]? = some (.lst (row.map pD))) : R_law_due_v7 [machD m1, machD m2, .ref r] S = some (.ok (.bl (shA m1 m2 row)) S) := by
  have n0 := ni_p (0, 0) hr
  have e0 : D.tup [.int 0, .int 0] = pD (0, 0) := rfl
  obtain ⟨x', y', z', hf⟩ := loop_good (chk := fun S' => S'[r]? = some (.lst (row.map pD))) (g := gTup [gName 3, gName 4]) (b := lb_law_due_v7_2) (S := S) hr (fun x y z => [some (machD m1), some (machD m2), some (.ref r), x, y, z]) (goodP m1 m2 row) (fun p x y z => by
    obtain ⟨z', hz⟩ := ld_body h1 h2 hr p z
    exact ⟨_, some (.int p.1), some (.int p.2), z', rfl, hz⟩) row none none none
  unfold R_law_due_v7
  rw [run_eq (n := 3) _ _ rfl]
  unfold b_law_due_v7 shA
  by_cases c : (0, 0) ∈ row
  · by_cases d : ∀ p ∈ row, goodP m1 m2 row p
    · rw [if_pos d] at hf
      rw [decide_eq_true ⟨c, d⟩]
      simp [e0, n0, c, -getElem?_pos, List.getElem?_cons_zero, List.getElem?_cons_succ, hr, hf]
    · rw [if_neg d] at hf
      rw [decide_eq_false fun h => d h.2]
      simp [e0, n0, c, -getElem?_pos, List.getElem?_cons_zero, List.getElem?_cons_succ, hr, hf]
  · rw [decide_eq_false fun h => c h.1]
    simp [e0, n0, c]
end
end Z
namespace Z
open Classical
theorem nk_pD (p : PP) : nkOk (pD p) = true := nkOk_flat rfl
theorem pD_inj {p q : PP} (h : pD p = pD q) : p = q := by
  obtain ⟨a, b⟩ := p
  obtain ⟨x, y⟩ := q
  simp [pD, kq] at h
  obtain ⟨h1, h2⟩ := h
  have e1 : a = x := by omega
  have e2 : b = y := by omega
  rw [e1, e2]
theorem pm_add9 {d r : Nat} {row : List PP} {p : PP} {S : Store} (hd : DA S d true (tD (row.map pD))) (hr : S[r]? = some (.lst (row.map pD))) (hdr : d ≠ r) (hl : row.length < 16000000) {a b c e f : Option D} :
    ∃ S2, lb_pairs_met_n_1 [a, b, some (.ref d), some (.ref r), c, e, f, some (pD p)] S = some (.nx [a, b, some (.ref d), some (.ref r), c, e, f, some (pD p)] S2) ∧ DA S2 d true (tD ((addP row p).map pD)) ∧ S2[r]? = some (.lst ((addP row p).map pD)) ∧ (∀ i, i ≠ d → i ≠ r → S2[i]? = S[i]?) ∧ S2.length = S.length := by
  have hni := ev_nni (ρ := [a, b, some (.ref d), some (.ref r), c, e, f, some (pD p)]) (mk := eVar 7) (md := eVar 2) hd (nk_pD p) rfl rfl
  rw [dget_isSome, tD_keys] at hni
  have hiff : pD p ∈ row.map pD ↔ p ∈ row := ⟨fun h => by
    obtain ⟨q, hq, e⟩ := List.mem_map.mp h
    rw [← pD_inj e]
    exact hq, fun h => List.mem_map.mpr ⟨p, h, rfl⟩⟩
  unfold lb_pairs_met_n_1
  by_cases h : p ∈ row
  · rw [decide_eq_true (hiff.mpr h)] at hni
    refine ⟨S, ?_, by rw [addP, if_pos h]; exact hd, by rw [addP, if_pos h]; exact hr, fun _ _ _ => rfl, rfl⟩
    rw [sif_t (tv_t hni)]
    rfl
  · rw [decide_eq_false (fun q => h (hiff.mp q))] at hni
    have hdl := hd.lt
    have hrl := (List.getElem?_eq_some_iff.mp hr).1
    obtain ⟨hp, hd2⟩ := ev_nput (ρ := [a, b, some (.ref d), some (.ref r), c, e, f, some (pD p)]) (md := eVar 2) (mk := eVar 7) (mv := eC (.bl true)) (v := .bl true) hd (by rw [tD_len]; simp; omega) (nk_pD p) rfl rfl rfl
    rw [dput_new (by rw [tD_keys]; exact fun q => h (hiff.mp q))] at hp hd2
    have ht : tD (row.map pD) ++ [(pD p, D.bl true)] = tD ((row ++ [p]).map pD) := by simp [tD]
    rw [ht] at hp hd2
    obtain ⟨S1, hS1⟩ : ∃ S1, S1 = S.set d (.nk (tD ((row ++ [p]).map pD))) := ⟨_, rfl⟩
    rw [← hS1] at hp hd2
    have hr2 : S1[r]? = some (.lst (row.map pD)) := by rw [hS1, List.getElem?_set_ne hdr]; exact hr
    have hlen : row.length < LINE := by rw [LINE_eq]; omega
    refine ⟨S1.set r (.lst ((row ++ [p]).map pD)), ?_, by rw [addP, if_neg h]; exact hd2.get (by rw [List.getElem?_set_ne (Ne.symm hdr)]), by rw [addP, if_neg h, List.getElem?_set_self (by rw [hS1]; simpa using hrl)], fun i g1 g2 => by rw [List.getElem?_set_ne (Ne.symm g2), hS1, List.getElem?_set_ne (Ne.symm g1)], by rw [hS1]; simp⟩
    rw [sif_t (tv_t hni)]
    simp only [Bool.not_false, if_true]
    rw [sq_nx hp]
    simp [hr2, hlen, -getElem?_pos, List.getElem?_cons_zero, List.getElem?_cons_succ]
section
variable {m1 m2 : List Q} (M1 : Mach m1) (M2 : Mach m2)
include M1 M2
theorem pm_body9 {d r at' : Nat} {row : List PP} {q : PP} {S : Store} (R : RowI m1 m2 row at') (hq : row[at']? = some q) (hd : DA S d true (tD (row.map pD))) (hr : S[r]? = some (.lst (row.map pD))) (hdr : d ≠ r) (hl : row.length + 1 < 16000000) {e f g : Option D} :
    ∃ S2 e2 f2 g2, lb_pairs_met_n_2 [some (machD m1), some (machD m2), some (.ref d), some (.ref r), some (.int at'), e, f, g] S = some (.nx [some (machD m1), some (machD m2), some (.ref d), some (.ref r), some (.int (at' + 1 : Nat)), e2, f2, g2] S2) ∧
      DA S2 d true (tD ((addP (addP row (nx1 m1 m2 q)) (nx2 m1 m2 q)).map pD)) ∧ S2[r]? = some (.lst ((addP (addP row (nx1 m1 m2 q)) (nx2 m1 m2 q)).map pD)) ∧ S.length ≤ S2.length ∧ (∀ i, i < S.length → i ≠ d → i ≠ r → S2[i]? = S[i]?) := by
  have hqm := R.bd q (List.mem_of_getElem? hq)
  have a1 := at_state hqm.1
  have a2 := at_state hqm.2
  have hat : atI (row.map pD) (at' : Int) = some (pD q) := atI_nat (by simp [hq])
  have hdl := hd.lt
  have hrl := (List.getElem?_eq_some_iff.mp hr).1
  let A : Store := S ++ [.lst [pD (nx1 m1 m2 q), pD (nx2 m1 m2 q)]]
  let ρ : Option D → Env := fun x => [some (machD m1), some (machD m2), some (.ref d), some (.ref r), some (.int at'), some (stq m1 q.1).d, some (stq m2 q.2).d, x]
  obtain ⟨S1, x1, d1, r1, o1, l1⟩ := pm_add9 (p := nx1 m1 m2 q) (a := some (machD m1)) (b := some (machD m2)) (c := some (.int at')) (e := some (stq m1 q.1).d) (f := some (stq m2 q.2).d) (hd.keep (.app (G := [.lst [pD (nx1 m1 m2 q), pD (nx2 m1 m2 q)]]))) (get_app hr _) hdr (by omega)
  have hl1 : (addP row (nx1 m1 m2 q)).length ≤ row.length + 1 := by unfold addP; split <;> simp
  obtain ⟨S2, x2, d2, r2, o2, l2⟩ := pm_add9 (p := nx2 m1 m2 q) (a := some (machD m1)) (b := some (machD m2)) (c := some (.int at')) (e := some (stq m1 q.1).d) (f := some (stq m2 q.2).d) d1 r1 hdr (by omega)
  have hA : ∀ S' : Store, (∀ i, i ≠ d → i ≠ r → S'[i]? = A[i]?) → S'[S.length]? = some (.lst [pD (nx1 m1 m2 q), pD (nx2 m1 m2 q)]) := fun S' h => by rw [h _ (by omega) (by omega)]; simp [A]
  have hfor : forL (fun S' => S'[S.length]? = some (.lst [pD (nx1 m1 m2 q), pD (nx2 m1 m2 q)])) (gName 7) lb_pairs_met_n_1 [pD (nx1 m1 m2 q), pD (nx2 m1 m2 q)] (ρ g) A = some (.nx (ρ (some (pD (nx2 m1 m2 q)))) S2) := by
    rw [forL_cons (ρ1 := ρ (some (pD (nx1 m1 m2 q)))) (S1 := A) (hA A fun _ _ _ => rfl) rfl x1]
    rw [forL_cons (ρ1 := ρ (some (pD (nx2 m1 m2 q)))) (S1 := S1) (hA S1 o1) rfl x2]
    exact forL_nil (hA S2 fun i g1 g2 => by rw [o2 i g1 g2]; exact o1 i g1 g2)
  refine ⟨S2, some (stq m1 q.1).d, some (stq m2 q.2).d, some (pD (nx2 m1 m2 q)), ?_, d2, r2, by rw [l2, l1]; simp, fun i g0 g1 g2 => by rw [o2 i g1 g2, o1 i g1 g2]; exact List.getElem?_append_left g0⟩
  have eA : (D.tup [.int (stq m1 q.1).e, .int (stq m2 q.2).e]) = pD (nx1 m1 m2 q) := rfl
  have eB : (D.tup [.int (stq m1 q.1).o, .int (stq m2 q.2).o]) = pD (nx2 m1 m2 q) := rfl
  simp only [ρ, A] at hfor
  simp [lb_pairs_met_n_2, -getElem?_pos, List.getElem?_cons_zero, List.getElem?_cons_succ, hr, hat, p_0, p_1, a1, a2, q_e, q_o, eA, eB, gtx0, hfor]
theorem s_pairs_met9 (h1 : m1.length ≤ 900) (h2 : m2.length ≤ 900) (S : Store) :
    ∃ (r : Nat) (G : Store) (row : List PP), R_pairs_met_n [machD m1, machD m2] S = some (.ok (.ref r) (S ++ G)) ∧ (S ++ G)[r]? = some (.lst (row.map pD)) ∧ Met m1 m2 row := by
  have hb : m1.length * m2.length ≤ 810000 := Nat.mul_le_mul h1 h2
  have loop : ∀ (n at' : Nat) (row : List PP) (S' : Store) (e f g : Option D), m1.length * m2.length - at' ≤ n → RowI m1 m2 row at' → at' ≤ row.length → DA S' (S.length) true (tD (row.map pD)) → S'[S.length + 1]? = some (.lst (row.map pD)) → S.length ≤ S'.length → (∀ i, i < S.length → S'[i]? = S[i]?) →
      ∃ S2 y5 y6 y7 row2, sWh (tVal (e2 ltD (eVar 4) (eCall lenF [eVar 3]))) lb_pairs_met_n_2 [some (machD m1), some (machD m2), some (.ref S.length), some (.ref (S.length + 1)), some (.int at'), e, f, g] S' = some (.nx [some (machD m1), some (machD m2), some (.ref S.length), some (.ref (S.length + 1)), some (.int row2.length), y5, y6, y7] S2) ∧
        S2[S.length + 1]? = some (.lst (row2.map pD)) ∧ Met m1 m2 row2 ∧ S.length ≤ S2.length ∧ (∀ i, i < S.length → S2[i]? = S[i]?) := by
    intro n
    induction n with
    | zero =>
      intro at' row S' e f g hn R hat hd hr hl ho
      have hlen := R.len
      have : at' = row.length := by omega
      subst this
      refine ⟨S', e, f, g, row, sWh_stop ?_, hr, R, hl, ho⟩
      simp [hr, -getElem?_pos, List.getElem?_cons_zero, List.getElem?_cons_succ]
    | succ n ih =>
      intro at' row S' e f g hn R hat hd hr hl ho
      have hlen := R.len
      by_cases c : at' = row.length
      · subst c
        refine ⟨S', e, f, g, row, sWh_stop ?_, hr, R, hl, ho⟩
        simp [hr, -getElem?_pos, List.getElem?_cons_zero, List.getElem?_cons_succ]
      · have hlt : at' < row.length := by omega
        have hq : row[at']? = some row[at'] := by simp [hlt]
        obtain ⟨S2, y5, y6, y7, x, d2, r2, l2, o2⟩ := pm_body9 M1 M2 R hq hd hr (by omega) (by omega) (e := e) (f := f) (g := g)
        have R2 := R.step M1 M2 hq
        have hl2 := add_len (row := row) (p := nx1 m1 m2 row[at'])
        have hl3 := add_len (row := addP row (nx1 m1 m2 row[at'])) (p := nx2 m1 m2 row[at'])
        obtain ⟨S3, e3, f3, g3, row3, y, r3, R3, l3, o3⟩ := ih (at' + 1) _ S2 y5 y6 y7 (by omega) R2 (by omega) d2 r2 (by omega) (fun i hi => by rw [o2 i (by omega) (by omega) (by omega)]; exact ho i hi)
        refine ⟨S3, e3, f3, g3, row3, ?_, r3, R3, l3, o3⟩
        rw [← y]
        refine sWh_go (S1 := S') ?_ x
        simp [hr, -getElem?_pos, List.getElem?_cons_zero, List.getElem?_cons_succ]
        omega
  let A : Store := S ++ [.nk (tD ([(0, 0)].map pD)), .lst [pD (0, 0)]]
  obtain ⟨S2, y5, y6, y7, row, x, r2, R2, l2, o2⟩ := loop _ 0 [(0, 0)] A none none none (Nat.le_refl _) (RowI.start M1 M2) (by simp) ⟨fun p hp => by simp [tD] at hp; subst hp; exact GK.ot (nk_pD _), by simp [A]⟩ (by simp [A]) (by simp [A]) (fun i hi => List.getElem?_append_left hi)
  obtain ⟨G, rfl⟩ := grown l2 o2
  refine ⟨S.length + 1, G, row, ?_, r2, R2⟩
  unfold R_pairs_met_n
  rw [run_eq (n := 2) _ _ rfl]
  unfold b_pairs_met_n
  rw [show (List.map some [machD m1, machD m2] ++ List.replicate (8 - 2) none : Env) = [some (machD m1), some (machD m2), none, none, none, none, none, none] from rfl]
  have e1 : D.tup [D.int 0, D.int 0] = pD (0, 0) := rfl
  have hnk : nkOk (pD (0, 0)) = true := nk_pD _
  rw [sq_nx (ρ1 := [some (machD m1), some (machD m2), some (.ref S.length), none, none, none, none, none]) (S1 := S ++ [.nk (tD ([(0, 0)].map pD))]) (by
    have : eNDct1 (eTup [eC (.int 0), eC (.int 0)]) (eC (.bl true)) [some (machD m1), some (machD m2), none, none, none, none, none, none] S = some (.ok (.ref S.length) (S ++ [.nk (tD ([(0, 0)].map pD))])) := by
      unfold eNDct1
      have w : ∀ T, eTup [eC (.int 0), eC (.int 0)] [some (machD m1), some (machD m2), none, none, none, none, none, none] T = some (.ok (pD (0, 0)) T) := fun T => rfl
      have w2 : ∀ T, eC (.bl true) [some (machD m1), some (machD m2), none, none, none, none, none, none] T = some (.ok (.bl true) T) := fun T => rfl
      simp only [w, w2, bd_ok]
      have g : (S ++ [MO.nk []])[S.length]? = some (.nk []) := by simp
      rw [g]
      dsimp only
      rw [if_pos hnk]
      simp [tD]
    rw [x_asg, this]
    rfl)]
  rw [sq_nx (ρ1 := [some (machD m1), some (machD m2), some (.ref S.length), some (.ref (S.length + 1)), none, none, none, none]) (S1 := A) (by
    simp [e1, A])]
  rw [sq_nx (ρ1 := [some (machD m1), some (machD m2), some (.ref S.length), some (.ref (S.length + 1)), some (.int ((0 : Nat) : Int)), none, none, none]) (S1 := A) (by simp)]
  rw [sq_nx x]
  simp
end
end Z
namespace Z
open Classical
def unP : D → PP
  | .tup [.int x, .int y] => (x.toNat, y.toNat)
  | _ => (0, 0)
theorem unP_p (p : PP) : unP (pD p) = p := rfl
section
variable {m1 m2 : List Q} (M1 : Mach m1) (M2 : Mach m2)
def feP (m1 m2 : List Q) (d : D) : D := pD (nx1 m1 m2 (unP d))
def foP (m1 m2 : List Q) (d : D) : D := pD (nx2 m1 m2 (unP d))
def mkP (m1 m2 : List Q) (d : D) : Prop := (stq m1 (unP d).1).s ≠ (stq m2 (unP d).2).s
include M1 M2
theorem ngP {row : List PP} (R : Met m1 m2 row) (hrow : row.length ≤ 9000000) : NG (row.map pD) (mkP m1 m2) (feP m1 m2) (foP m1 m2) := by
  refine ⟨List.Pairwise.map _ (fun a b hab e => hab (pD_inj e)) R.nd, fun u hu => ?_, fun u hu => ?_, fun u hu => ?_, fun u hu => ?_, by simpa using hrow⟩
  · obtain ⟨p, _, rfl⟩ := List.mem_map.mp hu
    exact nk_pD p
  · obtain ⟨p, hp, rfl⟩ := List.mem_map.mp hu
    exact List.mem_map.mpr ⟨_, (R.closed hp).1, rfl⟩
  · obtain ⟨p, hp, rfl⟩ := List.mem_map.mp hu
    exact List.mem_map.mpr ⟨_, (R.closed hp).2, rfl⟩
  · obtain ⟨p, hp, rfl⟩ := List.mem_map.mp hu
    have h1 := diff_1 M1 M2 (R.bd p hp) 0
    rw [Nat.mul_zero, diff_0, diff_0] at h1
    exact h1
theorem mwP {row : List PP} (R : Met m1 m2 row) : ∀ (n : Nat) {p : PP}, p ∈ row → (MW (mkP m1 m2) (feP m1 m2) (foP m1 m2) (pD p) n ↔ Diff m1 m2 p n) := by
  intro n
  induction n using Nat.strongRecOn with
  | _ n ih =>
    intro p hp
    by_cases h0 : n = 0
    · subst h0
      rw [MW0, diff_0]
      exact Iff.rfl
    · rw [MW1 _ h0]
      rcases Nat.mod_two_eq_zero_or_one n with c | c
      · rw [if_pos c]
        have := ih (n / 2) (by omega) (R.closed hp).1
        rw [show feP m1 m2 (pD p) = pD (nx1 m1 m2 p) from rfl, this, ← diff_1 M1 M2 (R.bd p hp), show 2 * (n / 2) = n by omega]
      · rw [if_neg (by omega)]
        have := ih (n / 2) (by omega) (R.closed hp).2
        rw [show foP m1 m2 (pD p) = pD (nx2 m1 m2 p) from rfl, this, ← diff_2 M1 M2 (R.bd p hp), show 2 * (n / 2) + 1 = n by omega]
theorem s_alike9 (h1 : m1.length ≤ 900) (h2 : m2.length ≤ 900) (S : Store) :
    (∃ (S' : Store) (n : Nat), R_alike_n [machD m1, machD m2] S = some (.ok (.tup [.str [117, 110, 108, 105, 107, 101], .int n]) S') ∧ Keep S S' ∧ sgn m1 0 n ≠ sgn m2 0 n ∧ ∀ k, k < n → sgn m1 0 k = sgn m2 0 k) ∨
    (∃ (S' : Store) (r : Nat) (row : List PP), R_alike_n [machD m1, machD m2] S = some (.ok (.tup [.str [97, 108, 105, 107, 101], .ref r]) S') ∧ Keep S S' ∧ S'[r]? = some (.lst (row.map pD)) ∧ Met m1 m2 row ∧ (∀ k, sgn m1 0 k = sgn m2 0 k) ∧ ∀ p ∈ row, (stq m1 p.1).s = (stq m2 p.2).s) := by
  obtain ⟨r, G, row, e1, hr, R⟩ := s_pairs_met9 M1 M2 h1 h2 S
  have hb : m1.length * m2.length ≤ 810000 := Nat.mul_le_mul h1 h2
  have hrow : row.length ≤ 810000 := by have := R.len; omega
  obtain ⟨S1, hS1⟩ : ∃ S1, S1 = S ++ G := ⟨_, rfl⟩
  have k1 : Keep S S1 := by rw [hS1]; exact .app
  rw [← hS1] at e1 hr
  have hrl := (List.getElem?_eq_some_iff.mp hr).1
  have ng := ngP M1 M2 R (by omega)
  obtain ⟨A, hA⟩ : ∃ A, A = S1 ++ [MO.nk []] := ⟨_, rfl⟩
  have nE : ∀ l : List PP, nxE (feP m1 m2) (foP m1 m2) (l.map pD) = l.map fun p => (pD p, D.tup [pD (nx1 m1 m2 p), pD (nx2 m1 m2 p)]) := fun l => by
    unfold nxE
    rw [List.map_map]
    rfl
  obtain ⟨ρ', S', hfor, ⟨y4, y5, rfl, rfl⟩⟩ := forL_idx (chk := fun S' => S'[r]? = some (.lst (row.map pD))) (g := gTup [gName 4, gName 5]) (b := lb_alike_n_1) (fun i ρ S' => ∃ y4 y5, ρ = [some (machD m1), some (machD m2), some (.ref r), some (.ref S1.length), y4, y5, none, none, none] ∧ S' = S1 ++ [.nk (nxE (feP m1 m2) (foP m1 m2) ((row.take i).map pD))])
    (fun i ρ S' ⟨_, _, _, h⟩ => by rw [h]; exact get_app hr _) (row.map pD) 0 (by
      rintro i x hx ρ S' ⟨y4, y5, rfl, rfl⟩
      rw [List.getElem?_map] at hx
      obtain ⟨p, hp, rfl⟩ := Option.map_eq_some_iff.mp hx
      have hpm := R.bd p (List.mem_of_getElem? hp)
      rw [Nat.zero_add]
      obtain ⟨U, hU⟩ : ∃ U, U = S1 ++ [MO.nk (nxE (feP m1 m2) (foP m1 m2) ((row.take i).map pD))] := ⟨_, rfl⟩
      obtain ⟨ρ2, hρ2⟩ : ∃ ρ2 : Env, ρ2 = [some (machD m1), some (machD m2), some (.ref r), some (.ref S1.length), some (.int p.1), some (.int p.2), none, none, none] := ⟨_, rfl⟩
      have hd : DA U S1.length true (nxE (feP m1 m2) (foP m1 m2) ((row.take i).map pD)) := ⟨fun q hq => by
        rw [nE] at hq
        obtain ⟨z, _, rfl⟩ := List.mem_map.mp hq
        exact GK.ot (nk_pD z), by rw [hU]; simp⟩
      have a1 := ix_state hpm.1 U
      have a2 := ix_state hpm.2 U
      have v0 : eVar 0 ρ2 U = some (.ok (machD m1) U) := by rw [hρ2]; rfl
      have v1 : eVar 1 ρ2 U = some (.ok (machD m2) U) := by rw [hρ2]; rfl
      have v4 : eVar 4 ρ2 U = some (.ok (.int p.1) U) := by rw [hρ2]; rfl
      have v5 : eVar 5 ρ2 U = some (.ok (.int p.2) U) := by rw [hρ2]; rfl
      have v3 : eVar 3 ρ2 U = some (.ok (.ref S1.length) U) := by rw [hρ2]; rfl
      have w0 : e2 ixD (eVar 0) (eVar 4) ρ2 U = some (.ok (stq m1 p.1).d U) := by rw [x_2, v0]; simp only [bd_ok, v4]; exact a1
      have w1 : e2 ixD (eVar 1) (eVar 5) ρ2 U = some (.ok (stq m2 p.2).d U) := by rw [x_2, v1]; simp only [bd_ok, v5]; exact a2
      have c : ∀ x, eC x ρ2 U = some (.ok x U) := fun _ => rfl
      have z1 : e2 ixD (e2 ixD (eVar 0) (eVar 4)) (eC (.int 1)) ρ2 U = some (.ok (.int (stq m1 p.1).e) U) := by rw [x_2, w0]; simp only [bd_ok, c, q_e]
      have z2 : e2 ixD (e2 ixD (eVar 1) (eVar 5)) (eC (.int 1)) ρ2 U = some (.ok (.int (stq m2 p.2).e) U) := by rw [x_2, w1]; simp only [bd_ok, c, q_e]
      have z3 : e2 ixD (e2 ixD (eVar 0) (eVar 4)) (eC (.int 2)) ρ2 U = some (.ok (.int (stq m1 p.1).o) U) := by rw [x_2, w0]; simp only [bd_ok, c, q_o]
      have z4 : e2 ixD (e2 ixD (eVar 1) (eVar 5)) (eC (.int 2)) ρ2 U = some (.ok (.int (stq m2 p.2).o) U) := by rw [x_2, w1]; simp only [bd_ok, c, q_o]
      have hval : eTup [eTup [e2 ixD (e2 ixD (eVar 0) (eVar 4)) (eC (.int 1)), e2 ixD (e2 ixD (eVar 1) (eVar 5)) (eC (.int 1))], eTup [e2 ixD (e2 ixD (eVar 0) (eVar 4)) (eC (.int 2)), e2 ixD (e2 ixD (eVar 1) (eVar 5)) (eC (.int 2))]] ρ2 U = some (.ok (.tup [pD (nx1 m1 m2 p), pD (nx2 m1 m2 p)]) U) := by
        simp only [x_tup, x_cons, x_nil, z1, z2, z3, z4, bd_ok]
        rfl
      have hkey : eTup [eVar 4, eVar 5] ρ2 U = some (.ok (pD p) U) := by
        simp only [x_tup, x_cons, x_nil, v4, v5, bd_ok]
        rfl
      obtain ⟨hp2, hd2⟩ := ev_nput (ρ := ρ2) (md := eVar 3) (mk := eTup [eVar 4, eVar 5]) (mv := eTup [eTup [e2 ixD (e2 ixD (eVar 0) (eVar 4)) (eC (.int 1)), e2 ixD (e2 ixD (eVar 1) (eVar 5)) (eC (.int 1))], eTup [e2 ixD (e2 ixD (eVar 0) (eVar 4)) (eC (.int 2)), e2 ixD (e2 ixD (eVar 1) (eVar 5)) (eC (.int 2))]]) hd (by rw [nE]; simp; omega) (nk_pD p) hval v3 hkey
      have hnew : pD p ∉ (nxE (feP m1 m2) (foP m1 m2) ((row.take i).map pD)).map (·.1) := fun hm => by
        rw [nxE_keys] at hm
        obtain ⟨q, hq, e⟩ := List.mem_map.mp hm
        have hqp := pD_inj e
        subst hqp
        obtain ⟨j, hj⟩ := List.getElem?_of_mem hq
        rw [List.getElem?_take] at hj
        split at hj
        · have := nodup_ix R.nd hj hp
          omega
        · cases hj
      rw [dput_new hnew] at hp2
      refine ⟨ρ2, U, by rw [hρ2, hU]; rfl, ρ2, S1 ++ [.nk (nxE (feP m1 m2) (foP m1 m2) ((row.take (i + 1)).map pD))], .inl ?_, some (.int p.1), some (.int p.2), hρ2, rfl⟩
      unfold lb_alike_n_1
      rw [hp2, hU]
      have hset : ∀ o : MO, (S1 ++ [MO.nk (nxE (feP m1 m2) (foP m1 m2) ((row.take i).map pD))]).set S1.length o = S1 ++ [o] := fun o => by simp
      rw [hset, nE, nE, List.take_add_one, hp]
      simp)
    [some (machD m1), some (machD m2), some (.ref r), some (.ref S1.length), none, none, none, none, none] A ⟨_, _, rfl, by rw [hA]; rfl⟩
  rw [Nat.zero_add, List.length_map, List.take_length] at hfor
  obtain ⟨B, hB⟩ : ∃ B, B = S1 ++ [MO.nk (nxE (feP m1 m2) (foP m1 m2) (row.map pD))] := ⟨_, rfl⟩
  rw [← hB] at hfor
  have kB : Keep S1 B := by rw [hB]; exact .app
  have gx : B[S1.length]? = some (.nk (nxE (feP m1 m2) (foP m1 m2) (row.map pD))) := by rw [hB]; simp
  have hrB := kB.get hr
  -- the marked pairs
  have hlc := lcL_filter (chk := fun S' => S'[r]? = some (.lst (row.map pD))) (g := gName 8) (t := tVal (e2 neD (e2 ixD (e2 ixD (eVar 0) (e2 ixD (eVar 8) (eC (.int 0)))) (eC (.int 0))) (e2 ixD (e2 ixD (eVar 1) (e2 ixD (eVar 8) (eC (.int 1)))) (eC (.int 0))))) (e := eVar 8) (S := B)
    (ρ := [some (machD m1), some (machD m2), some (.ref r), some (.ref S1.length), y4, y5, none, none, none]) (fun d => decide (mkP m1 m2 d)) id (row.map pD) [] (by rw [LINE_eq]; simp; omega) (fun acc => get_app hrB _) (fun x hx acc => by
      obtain ⟨p, hp, rfl⟩ := List.mem_map.mp hx
      have hpm := R.bd p hp
      have a1 := at_state hpm.1
      have a2 := at_state hpm.2
      refine ⟨_, rfl, ?_, fun _ => rfl⟩
      simp [p_0, p_1, a1, a2, q_s, mkP, unP_p]
      by_cases h : (stq m1 p.1).s = (stq m2 p.2).s
      · simp [h]
      · have h' : ¬ (((stq m1 p.1).s : Nat) : Int) = (((stq m2 p.2).s : Nat) : Int) := by omega
        simp [h, h'])
  rw [List.nil_append, List.map_id] at hlc
  obtain ⟨C, hC⟩ : ∃ C, C = B ++ [MO.lst ((row.map pD).filter fun d => decide (mkP m1 m2 d))] := ⟨_, rfl⟩
  rw [← hC] at hlc
  have kC : Keep B C := by rw [hC]; exact .app
  have gm : C[B.length]? = some (.lst ((row.map pD).filter fun d => decide (mkP m1 m2 d))) := by rw [hC]; simp
  obtain ⟨c', l, E, t6, g6, k6, K6, P6, X6⟩ := s_least_places9 (a := S1.length) (b := B.length) ng (kC.get gx) gm
  have hdE : DA E c' true (enM l) := enM_da (fun q hq => ng.key q (K6.sub q hq)) g6
  have h00 : (0, 0) ∈ row := R.all .base
  have kAll : Keep S E := ((k1.trans kB).trans kC).trans k6
  have hrE := (kC.trans k6).get hrB
  obtain ⟨ρ, hρ⟩ : ∃ ρ : Env, ρ = [some (machD m1), some (machD m2), some (.ref r), some (.ref S1.length), y4, y5, some (.ref B.length), some (.ref c'), none] := ⟨_, rfl⟩
  have pre : ∀ q, sq (sIf (tVal (e2 nIn (eTup [eC (.int 0), eC (.int 0)]) (eVar 7))) (sRet (eTup [eC (.str [117, 110, 108, 105, 107, 101]), e2 nGet (eVar 7) (eTup [eC (.int 0), eC (.int 0)])])) (sNx)) (sRet (eTup [eC (.str [97, 108, 105, 107, 101]), eVar 2])) ρ E = some (.rt q E) → R_alike_n [machD m1, machD m2] S = some (.ok q E) := fun q hq => by
    unfold R_alike_n
    rw [run_eq (n := 2) _ _ rfl]
    unfold b_alike_n
    rw [show (List.map some [machD m1, machD m2] ++ List.replicate (9 - 2) none : Env) = [some (machD m1), some (machD m2), none, none, none, none, none, none, none] from rfl]
    rw [sq_nx (ρ1 := [some (machD m1), some (machD m2), some (.ref r), none, none, none, none, none, none]) (S1 := S1) (by
      simp [e1])]
    rw [sq_nx (ρ1 := [some (machD m1), some (machD m2), some (.ref r), some (.ref S1.length), none, none, none, none, none]) (S1 := A) (by
      rw [hA]; simp)]
    have hrA : A[r]? = some (.lst (row.map pD)) := by rw [hA]; exact get_app hr _
    rw [sq_nx (ρ1 := [some (machD m1), some (machD m2), some (.ref r), some (.ref S1.length), y4, y5, none, none, none]) (S1 := B) (by
      simp only [sFor, x_any, x_var, List.getElem?_cons_succ, List.getElem?_cons_zero, bd_ok, o_itr, hrA, bo_ok]
      exact hfor)]
    rw [sq_nx (ρ1 := [some (machD m1), some (machD m2), some (.ref r), some (.ref S1.length), y4, y5, some (.ref B.length), none, none]) (S1 := C) (by
      have : eLc (iAny (eVar 2)) (gName 8) (tVal (e2 neD (e2 ixD (e2 ixD (eVar 0) (e2 ixD (eVar 8) (eC (.int 0)))) (eC (.int 0))) (e2 ixD (e2 ixD (eVar 1) (e2 ixD (eVar 8) (eC (.int 1)))) (eC (.int 0))))) (eVar 8) [8] [some (machD m1), some (machD m2), some (.ref r), some (.ref S1.length), y4, y5, none, none, none] B = some (.ok (.ref B.length) C) := by
        simp only [eLc, x_any, x_var, List.getElem?_cons_succ, List.getElem?_cons_zero, bd_ok, o_itr, hrB, wipe]
        exact hlc
      rw [x_asg, this]
      rfl)]
    rw [sq_nx (ρ1 := ρ) (S1 := E) (by
      rw [hρ]
      simp [t6])]
    rw [hq]
    rfl
  have v7 : eVar 7 ρ E = some (.ok (.ref c') E) := by rw [hρ]; rfl
  have hkey : eTup [eC (.int 0), eC (.int 0)] ρ E = some (.ok (pD (0, 0)) E) := rfl
  have hin := ev_nin (ρ := ρ) (mk := eTup [eC (.int 0), eC (.int 0)]) (md := eVar 7) hdE (nk_pD (0, 0)) hkey v7
  rw [enM_get] at hin
  have hrow0 : pD (0, 0) ∈ row.map pD := List.mem_map.mpr ⟨_, h00, rfl⟩
  cases hf : lk9 l (pD (0, 0)) with
  | some n =>
    rw [hf] at hin
    have hg := ev_nget (ρ := ρ) (md := eVar 7) (mk := eTup [eC (.int 0), eC (.int 0)]) hdE (nk_pD (0, 0)) v7 hkey (v := .int (n : Nat)) (by rw [enM_get, hf]; rfl)
    have hm := (mwP M1 M2 R n h00).mp (P6.val _ _ hf).2
    refine .inl ⟨E, n, pre _ ?_, kAll, hm, fun k hk => Classical.byContradiction fun hne => ?_⟩
    · refine sq_rt ?_
      rw [sif_t (tv_t hin)]
      simp only [Option.map_some, Option.isSome_some, if_true]
      rw [x_ret, x_tup]
      have c : eC (.str [117, 110, 108, 105, 107, 101]) ρ E = some (.ok (.str [117, 110, 108, 105, 107, 101]) E) := rfl
      simp only [x_cons, x_nil, c, bd_ok, hg]
      rfl
    · obtain ⟨u, hu, hul⟩ := least9 ng P6 X6 k (pD (0, 0)) hrow0 ((mwP M1 M2 R k h00).mpr hne)
      rw [hf] at hu
      cases hu
      omega
  | none =>
    rw [hf] at hin
    have hall : ∀ k, sgn m1 0 k = sgn m2 0 k := fun k => Classical.byContradiction fun hne => by
      obtain ⟨u, hu, hul⟩ := least9 ng P6 X6 k (pD (0, 0)) hrow0 ((mwP M1 M2 R k h00).mpr hne)
      rw [hf] at hu
      cases hu
    refine .inr ⟨E, r, row, pre _ ?_, kAll, hrE, R, hall, fun p hp => ?_⟩
    · rw [sq_nx (ρ1 := ρ) (S1 := E) (by
        rw [sif_t (tv_t hin)]
        rfl)]
      have v2 : eVar 2 ρ E = some (.ok (.ref r) E) := by rw [hρ]; rfl
      have c : eC (.str [97, 108, 105, 107, 101]) ρ E = some (.ok (.str [97, 108, 105, 107, 101]) E) := rfl
      rw [x_ret, x_tup]
      simp only [x_cons, x_nil, c, bd_ok, v2]
      rfl
    · refine Classical.byContradiction fun hne => ?_
      have hmp : MW (mkP m1 m2) (feP m1 m2) (foP m1 m2) (pD p) 0 := (MW0 _).mpr hne
      obtain ⟨u, hu, _⟩ := least9 ng P6 X6 0 (pD p) (List.mem_map.mpr ⟨p, hp, rfl⟩) hmp
      have hreach : ∀ q, RchP m1 m2 q → lk9 l (pD q) ≠ none → lk9 l (pD (0, 0)) ≠ none := fun q hq => by
        induction hq with
        | base => exact id
        | @one q hq ih =>
          intro hn
          obtain ⟨v, hv⟩ := Option.ne_none_iff_exists'.mp hn
          obtain ⟨u, hu, _⟩ := (X6 (pD q) (List.mem_map.mpr ⟨q, R.all hq, rfl⟩)).1 v hv
          exact ih (by rw [hu]; simp)
        | @two q hq ih =>
          intro hn
          obtain ⟨v, hv⟩ := Option.ne_none_iff_exists'.mp hn
          obtain ⟨u, hu, _⟩ := (X6 (pD q) (List.mem_map.mpr ⟨q, R.all hq, rfl⟩)).2 v hv
          exact ih (by rw [hu]; simp)
      exact hreach p (R.rch p hp) (by rw [hu]; simp) hf
end
end Z
namespace Z
open Classical
def putF (fs : List D) : Tm → List D
  | .row s => fs ++ [.tup [.str wRow, .str s]]
  | .sign i t => putF fs t ++ [.tup [.str wSign, .int i, .int ((putF fs t).length - 1 : Nat)]]
  | .beh t => putF fs t ++ [.tup [.str wBeh, .int ((putF fs t).length - 1 : Nat)]]
  | .zip a b => putF (putF fs a) b ++ [.tup [.str wZip, .int ((putF fs a).length - 1 : Nat), .int ((putF (putF fs a) b).length - 1 : Nat)]]
/-- all the terms of a book, laid -/
def laidL : Eqs → List D → List D × List (D × D)
  | [], fs => (fs, [])
  | e :: r, fs => ((laidL r (putF fs e.2)).1, (.str e.1, .int ((putF fs e.2).length - 1 : Nat)) :: (laidL r (putF fs e.2)).2)
def sizeL : Eqs → Nat
  | [] => 0
  | e :: r => e.2.size + sizeL r
end Z
namespace Z
open Classical
structure NO where
  s : Option Nat
  e : D
  o : D
def oD : Option Nat → D
  | none => .non
  | some k => .int (k : Nat)
structure VOo (UL : List D) (op : D → NO) (P : Store → Prop) (fr nm : D) : Prop where
  key : ∀ u ∈ UL, nkOk u = true
  dk : ∀ u ∈ UL, ∀ S, Dk 10 S u
  e : ∀ u ∈ UL, (op u).e ∈ UL
  o : ∀ u ∈ UL, (op u).o ∈ UL
  s : ∀ u ∈ UL, ∀ k, (op u).s = some k → (op (op u).e).s = some k
  kp : ∀ S S', Keep S S' → P S → P S'
  run : ∀ u ∈ UL, ∀ S, P S → ∃ sh S1, R_opened_n [fr, nm, u] S = some (.ok sh S1) ∧ Keep S S1 ∧ (∀ T, R_halves [sh] T = some (.ok (.tup [(op u).e, (op u).o]) T)) ∧ ∀ T, R_first_sign [sh] T = some (.ok (oD (op u).s) T)
  few : UL.length ≤ 8000000
end Z
namespace Z
open Classical
def setL (op : D → NO) : Nat → D → Option Nat
  | 0, u => (op u).s
  | n + 1, u => match (op u).s with
    | some k => some k
    | none => setL op n (op u).e
noncomputable def sv (op : D → NO) (u : D) : Option Nat := if h : ∃ k n, setL op n u = some k then some h.choose else none
end Z
namespace Z
open Classical
inductive RchO (op : D → NO) (t : D) : D → Prop where
  | base : RchO op t t
  | one {u : D} : RchO op t u → RchO op t (op u).e
  | two {u : D} : RchO op t u → RchO op t (op u).o
section
variable {op : D → NO} {us UL : List D}
theorem VOo.rch {P : Store → Prop} {fr nm t : D} (U : VOo UL op P fr nm) : VOo (UL.filter fun u => decide (RchO op t u)) op P fr nm := by
  have h : ∀ {u}, u ∈ UL.filter (fun u => decide (RchO op t u)) → u ∈ UL ∧ RchO op t u := fun hu => ⟨(List.mem_filter.mp hu).1, of_decide_eq_true (List.mem_filter.mp hu).2⟩
  exact ⟨fun u hu => U.key u (h hu).1, fun u hu => U.dk u (h hu).1, fun u hu => List.mem_filter.mpr ⟨U.e u (h hu).1, decide_eq_true (.one (h hu).2)⟩, fun u hu => List.mem_filter.mpr ⟨U.o u (h hu).1, decide_eq_true (.two (h hu).2)⟩, fun u hu => U.s u (h hu).1, U.kp, fun u hu => U.run u (h hu).1, Nat.le_trans (List.length_filter_le ..) U.few⟩
end
end Z
namespace Z
open Classical
abbrev OW := List (Option Nat)
def wD (w : OW) : D := .tup (w.map oD)
/-- many is a turn of t -/
def trn (t : OW) (m : Nat) : Prop := t.length % m = 0 ∧ (List.replicate (t.length / m) (t.take m)).flatten = t
/-- the first of them, from k on, n looks -/
noncomputable def shortF (t : OW) : Nat → Nat → OW
  | _, 0 => t
  | k, n + 1 => if trn t k then t.take k else shortF t (k + 1) n
noncomputable def shortT (t : OW) : OW := shortF t 1 (t.length - 1)
end Z
namespace Z
open Classical
noncomputable def wheelL : Nat → OW → OW → OW × OW
  | 0, w, t => (w, t)
  | n + 1, w, t => match w.getLast?, t.getLast? with
    | some x, some y => if x = y then wheelL n w.dropLast (y :: t.dropLast) else (w, t)
    | _, _ => (w, t)
noncomputable def wheelP (w t : OW) : OW × OW := wheelL w.length w (shortT t)
def whD (p : OW × OW) : D := .tup [.str [119, 104, 101, 101, 108], wD p.1, wD p.2]
end Z
namespace Z
open Classical
def opF (w : Nat) (d : Nat) (F : D) (s l : Nat) : List (String × D) := [("word", .ref w), ("drop", .int d), ("form", F), ("seen", .ref s), ("lows", .ref l)]
structure OpS (S0 T : Store) (x w s l : Nat) (W : List D) (d : Nat) (F : D) (sn lw : List (D × D)) : Prop where
  gx : T[x]? = some (.ins "Opening" (opF w d F s l))
  gw : T[w]? = some (.lst W)
  gs : DA T s true sn
  gl : DA T l true lw
  kp : Keep S0 T
  b : S0.length ≤ x ∧ S0.length ≤ w ∧ S0.length ≤ s ∧ S0.length ≤ l
  d1 : x ≠ w ∧ x ≠ s ∧ x ≠ l ∧ w ≠ s ∧ w ≠ l ∧ s ≠ l
end Z
namespace Z
open Classical
section
variable {S0 T : Store} {x w s l d : Nat} {W : List D} {F : D} {sn lw : List (D × D)} {a b : Nat} {fs : List D} {nums : List (D × D)} {st : D} {o4 : Option D}
abbrev e5 (a b : Nat) (st : D) (x : Nat) (o4 : Option D) : Env := [some (.ref a), some (.ref b), some st, some (.ref x), o4]
noncomputable abbrev opB : SS := lb_opened_n_1 R_Opening_come_again_n R_Opening_step
noncomputable abbrev opT : ST := tVal (e2 neD (e2 ixD (eFld "Opening" "form" (eVar 3)) (eC (.int 0))) (eC (.str [122, 105, 112])))
end
end Z
namespace Z
open Classical
/-- a wheel's halves -/
noncomputable def hvW (p : OW × OW) : (OW × OW) × (OW × OW) :=
  let q : OW × OW := if p.1.length % 2 = 1 then (p.1 ++ p.2.take 1, p.2.drop 1 ++ p.2.take 1) else p
  (wheelP (L2.evL q.1) (L2.evL (q.2 ++ q.2)), wheelP (L2.evL (q.1.drop 1)) (L2.evL ((q.2 ++ q.2).drop 1)))
end Z
namespace Z
open Classical
section
variable {S0 T : Store} {x w s l d : Nat} {u : OW} {sn lw : List (D × D)}
def kyS (name : List Nat) (d : Nat) : D := .tup [.str name, .int (d : Nat)]
/-- what stood there, else the size -/
noncomputable def bfO (sn : List (D × D)) (name : List Nat) (d sz : Nat) : Nat := match dget sn (kyS name d) with
  | some (.int b) => b.toNat
  | _ => sz
structure IntV (kvs : List (D × D)) : Prop where
  int : ∀ k v, dget kvs k = some v → ∃ n : Nat, v = .int (n : Nat)
inductive Again (u : OW) (d : Nat) (name : List Nat) (sn lw : List (D × D)) : Option (OW × OW) → Prop
  | seen : bfO sn name d u.length < u.length → Again u d name sn lw (some (wheelP (u.take (bfO sn name d u.length)) (u.drop (bfO sn name d u.length))))
  | low : ¬ bfO sn name d u.length < u.length → bfO lw name u.length (d + 1) ≤ d → Again u d name sn lw (some (wheelP u [none]))
  | no : ¬ bfO sn name d u.length < u.length → ¬ bfO lw name u.length (d + 1) ≤ d → Again u d name sn lw none
end
end Z
namespace Z
open Classical
abbrev prD (p : D × D) : D := .tup [p.1, p.2]
theorem prD_inj {p q : D × D} (h : prD p = prD q) : p = q := by
  obtain ⟨a, b⟩ := p
  obtain ⟨c, d⟩ := q
  simp [prD] at h
  rw [h.1, h.2]
abbrev ndE (op : D → NQ) (p : D × D) : D × D := ((op p.1).e, (op p.2).e)
abbrev ndO (op : D → NQ) (p : D × D) : D × D := ((op p.1).o, (op p.2).o)
/-- two closed sets of states in a dict of states -/
structure PWk (us : List D) (op : D → NQ) (A B : List D) : Prop where
  a : ∀ u ∈ A, u ∈ us ∧ (op u).e ∈ A ∧ (op u).o ∈ A
  b : ∀ u ∈ B, u ∈ us ∧ (op u).e ∈ B ∧ (op u).o ∈ B
  key : ∀ u ∈ us, nkOk u = true
  pk : ∀ u ∈ A, ∀ v ∈ B, nkOk (prD (u, v)) = true
  s : ∀ u ∈ us, (op (op u).e).s = (op u).s
  few : A.length * B.length ≤ 900000
noncomputable def addQ (row : List (D × D)) (p : D × D) : List (D × D) := if p ∈ row then row else row ++ [p]
theorem addQ_mem {row : List (D × D)} {p q : D × D} : q ∈ addQ row p ↔ q ∈ row ∨ q = p := by
  unfold addQ
  by_cases h : p ∈ row
  · rw [if_pos h]
    exact ⟨.inl, fun o => o.elim id fun e => e ▸ h⟩
  · rw [if_neg h]
    simp
theorem addQ_nd {row : List (D × D)} {p : D × D} (h : row.Nodup) : (addQ row p).Nodup := by
  unfold addQ
  by_cases c : p ∈ row
  · rw [if_pos c]; exact h
  · rw [if_neg c, List.nodup_append]
    exact ⟨h, by simp, fun a ha b hb e => by simp at hb; subst hb; subst e; exact c ha⟩
theorem addQ_len {row : List (D × D)} {p : D × D} : (addQ row p).length ≤ row.length + 1 ∧ row.length ≤ (addQ row p).length := by
  unfold addQ
  split <;> simp
theorem addQ_get {row : List (D × D)} {p q : D × D} {i : Nat} (h : row[i]? = some q) : (addQ row p)[i]? = some q := by
  unfold addQ
  split
  · exact h
  · rw [List.getElem?_append_left (List.getElem?_eq_some_iff.mp h).1]; exact h
def tQ (row : List (D × D)) : List (D × D) := row.map fun p => (prD p, D.bl true)
theorem tQ_keys (row : List (D × D)) : (tQ row).map (·.1) = row.map prD := by unfold tQ; rw [List.map_map]; rfl
/-- pairs gone through up to one -/
structure RwQ (op : D → NQ) (A B : List D) (a b : D) (row : List (D × D)) (at' : Nat) : Prop where
  nd : row.Nodup
  sub : ∀ p ∈ row, p.1 ∈ A ∧ p.2 ∈ B
  hd : (a, b) ∈ row
  cl : ∀ i p, i < at' → row[i]? = some p → ndE op p ∈ row ∧ ndO op p ∈ row
section
variable {us A B : List D} {op : D → NQ} {f : Nat} {a b : D}
theorem prod_len {row : List (D × D)} (hn : row.Nodup) (h : ∀ p ∈ row, p.1 ∈ A ∧ p.2 ∈ B) : row.length ≤ A.length * B.length := by
  have key : ∀ (l L : List (D × D)), l.Nodup → (∀ x ∈ l, x ∈ L) → l.length ≤ L.length := fun l => by
    induction l with
    | nil => intro L _ _; simp
    | cons x l ih =>
      intro L hn h
      obtain ⟨h1, h2⟩ := List.nodup_cons.mp hn
      have hx := h x (by simp)
      have ih := ih (L.erase x) h2 (fun y hy => (List.mem_erase_of_ne (fun e => h1 (by rw [← e]; exact hy))).mpr (h y (List.mem_cons_of_mem _ hy)))
      rw [List.length_erase_of_mem hx] at ih
      have := List.length_pos_of_mem hx
      rw [List.length_cons]
      omega
  have := key row (A.flatMap fun u => B.map fun v => (u, v)) hn fun p hp => List.mem_flatMap.mpr ⟨p.1, (h p hp).1, List.mem_map.mpr ⟨p.2, (h p hp).2, rfl⟩⟩
  have hl : (A.flatMap fun u => B.map fun v => (u, v)).length = A.length * B.length := by
    rw [List.length_flatMap]
    simp only [List.length_map]
    clear this h hn key
    induction A with
    | nil => simp
    | cons x A ih => rw [List.map_cons, List.sum_cons, ih, List.length_cons, Nat.succ_mul]; omega
  omega
theorem RwQ.step (W : PWk us op A B) {row : List (D × D)} {at' : Nat} {q : D × D} (R : RwQ op A B a b row at') (hq : row[at']? = some q) : RwQ op A B a b (addQ (addQ row (ndE op q)) (ndO op q)) (at' + 1) := by
  have hqm := R.sub q (List.mem_of_getElem? hq)
  refine ⟨addQ_nd (addQ_nd R.nd), fun p hp => ?_, addQ_mem.mpr (.inl (addQ_mem.mpr (.inl R.hd))), fun i p hi hp => ?_⟩
  · rcases addQ_mem.mp hp with hp | rfl
    · rcases addQ_mem.mp hp with hp | rfl
      · exact R.sub p hp
      · exact ⟨(W.a _ hqm.1).2.1, (W.b _ hqm.2).2.1⟩
    · exact ⟨(W.a _ hqm.1).2.2, (W.b _ hqm.2).2.2⟩
  · by_cases c : i < at'
    · have hil : i < row.length := by have := (List.getElem?_eq_some_iff.mp hq).1; omega
      have hp' : row[i]? = some p := by
        have h1 : row[i]? = some row[i] := List.getElem?_eq_getElem hil
        have h2 := addQ_get (p := ndO op q) (addQ_get (p := ndE op q) h1)
        rw [hp] at h2
        rw [h1, h2]
      have := R.cl i p c hp'
      exact ⟨addQ_mem.mpr (.inl (addQ_mem.mpr (.inl this.1))), addQ_mem.mpr (.inl (addQ_mem.mpr (.inl this.2)))⟩
    · have : i = at' := by omega
      subst this
      have h2 := addQ_get (p := ndO op q) (addQ_get (p := ndE op q) hq)
      rw [hp] at h2
      cases h2
      exact ⟨addQ_mem.mpr (.inl (addQ_mem.mpr (.inr rfl))), addQ_mem.mpr (.inr rfl)⟩
theorem bm_add {d r : Nat} {row : List (D × D)} {p : D × D} {S : Store} (hp : nkOk (prD p) = true) (hd : DA S d true (tQ row)) (hr : S[r]? = some (.lst (row.map prD))) (hdr : d ≠ r) (hl : row.length < 16000000) {o0 o1 o2 o5 o6 o7 : Option D} :
    ∃ S2, lb_law_both_met_1 [o0, o1, o2, some (.ref r), some (.ref d), o5, o6, o7, some (prD p)] S = some (.nx [o0, o1, o2, some (.ref r), some (.ref d), o5, o6, o7, some (prD p)] S2) ∧ DA S2 d true (tQ (addQ row p)) ∧ S2[r]? = some (.lst ((addQ row p).map prD)) ∧ (∀ i, i ≠ d → i ≠ r → S2[i]? = S[i]?) ∧ S2.length = S.length := by
  have hni := ev_nni (ρ := [o0, o1, o2, some (.ref r), some (.ref d), o5, o6, o7, some (prD p)]) (mk := eVar 8) (md := eVar 4) hd hp rfl rfl
  rw [dget_isSome, tQ_keys] at hni
  have hiff : prD p ∈ row.map prD ↔ p ∈ row := ⟨fun h => by
    obtain ⟨q, hq, e⟩ := List.mem_map.mp h
    rw [← prD_inj e]
    exact hq, fun h => List.mem_map.mpr ⟨p, h, rfl⟩⟩
  unfold lb_law_both_met_1
  by_cases h : p ∈ row
  · rw [decide_eq_true (hiff.mpr h)] at hni
    refine ⟨S, ?_, by rw [addQ, if_pos h]; exact hd, by rw [addQ, if_pos h]; exact hr, fun _ _ _ => rfl, rfl⟩
    rw [sif_t (tv_t hni)]
    rfl
  · rw [decide_eq_false (fun q => h (hiff.mp q))] at hni
    have hdl := hd.lt
    have hrl := (List.getElem?_eq_some_iff.mp hr).1
    obtain ⟨hpt, hd2⟩ := ev_nput (ρ := [o0, o1, o2, some (.ref r), some (.ref d), o5, o6, o7, some (prD p)]) (md := eVar 4) (mk := eVar 8) (mv := eC (.bl true)) (v := .bl true) hd (by unfold tQ; simp; omega) hp rfl rfl rfl
    rw [dput_new (by rw [tQ_keys]; exact fun q => h (hiff.mp q))] at hpt hd2
    have ht : tQ row ++ [(prD p, D.bl true)] = tQ (row ++ [p]) := by simp [tQ]
    rw [ht] at hpt hd2
    obtain ⟨S1, hS1⟩ : ∃ S1, S1 = S.set d (.nk (tQ (row ++ [p]))) := ⟨_, rfl⟩
    rw [← hS1] at hpt hd2
    have hr2 : S1[r]? = some (.lst (row.map prD)) := by rw [hS1, List.getElem?_set_ne hdr]; exact hr
    have hlen : row.length < LINE := by rw [LINE_eq]; omega
    refine ⟨S1.set r (.lst ((row ++ [p]).map prD)), ?_, by rw [addQ, if_neg h]; exact hd2.get (by rw [List.getElem?_set_ne (Ne.symm hdr)]), by rw [addQ, if_neg h, List.getElem?_set_self (by rw [hS1]; simpa using hrl)], fun i g1 g2 => by rw [List.getElem?_set_ne (Ne.symm g2), hS1, List.getElem?_set_ne (Ne.symm g1)], by rw [hS1]; simp⟩
    rw [sif_t (tv_t hni)]
    simp only [Bool.not_false, if_true]
    rw [sq_nx hpt]
    simp [hr2, hlen, -getElem?_pos, List.getElem?_cons_zero, List.getElem?_cons_succ]
theorem bm_sl {S : Store} {ρ : Env} {i : Nat} {u : D} (gf : DA S f true (grD (guG op us))) (hu : u ∈ us) (hk : nkOk u = true) (h0 : eVar 0 ρ S = some (.ok (.ref f) S)) (hi : eVar i ρ S = some (.ok u S)) : eSl (e2 nGet (eVar 0) (eVar i)) (some (eC (.int 1))) none ρ S = some (.ok (.tup [(op u).e, (op u).o]) S) := by
  have hg := ev_nget (md := eVar 0) (mk := eVar i) gf hk h0 hi (v := (op u).d) (by
    rw [show grD (guG op us) = (guG op us).map fun e => (e.1, e.2.d) from rfl, dget_map (fun w : NQ => w.d), guG_get hu]; rfl)
  unfold eSl
  rw [hg, bd_ok]
  rfl
theorem bm_body (W : PWk us op A B) {d r at' : Nat} {row : List (D × D)} {q : D × D} {S : Store} (gf : DA S f true (grD (guG op us))) (R : RwQ op A B a b row at') (hq : row[at']? = some q) (hd : DA S d true (tQ row)) (hr : S[r]? = some (.lst (row.map prD))) (hdr : d ≠ r) (hl : row.length + 1 < 16000000) {o1 o2 o6 o7 o8 : Option D} :
    ∃ S2 y6 y7 y8, lb_law_both_met_2 [some (.ref f), o1, o2, some (.ref r), some (.ref d), some (.int (at' : Nat)), o6, o7, o8] S = some (.nx [some (.ref f), o1, o2, some (.ref r), some (.ref d), some (.int (at' + 1 : Nat)), y6, y7, y8] S2) ∧
      DA S2 d true (tQ (addQ (addQ row (ndE op q)) (ndO op q))) ∧ S2[r]? = some (.lst ((addQ (addQ row (ndE op q)) (ndO op q)).map prD)) ∧ S2.length = S.length ∧ (∀ i, i ≠ d → i ≠ r → S2[i]? = S[i]?) := by
  have hqm := R.sub q (List.mem_of_getElem? hq)
  have ha := W.a _ hqm.1
  have hb := W.b _ hqm.2
  have hat : atI (row.map prD) (at' : Int) = some (prD q) := atI_nat (by simp [hq])
  obtain ⟨ρ, hρ⟩ : ∃ ρ : Option D → Env, ρ = fun x => [some (.ref f), o1, o2, some (.ref r), some (.ref d), some (.int (at' : Nat)), some q.1, some q.2, x] := ⟨_, rfl⟩
  obtain ⟨S1, x1, d1, r1, w1, l1⟩ := bm_add (p := ndE op q) (W.pk _ ha.2.1 _ hb.2.1) hd hr hdr (by omega) (o0 := some (.ref f)) (o1 := o1) (o2 := o2) (o5 := some (.int (at' : Nat))) (o6 := some q.1) (o7 := some q.2)
  have hl1 := addQ_len (row := row) (p := ndE op q)
  obtain ⟨S2, x2, d2, r2, w2, l2⟩ := bm_add (p := ndO op q) (W.pk _ ha.2.2 _ hb.2.2) d1 r1 hdr (by omega) (o0 := some (.ref f)) (o1 := o1) (o2 := o2) (o5 := some (.int (at' : Nat))) (o6 := some q.1) (o7 := some q.2)
  refine ⟨S2, some q.1, some q.2, some (prD (ndO op q)), ?_, d2, r2, by rw [l2, l1], fun i g1 g2 => by rw [w2 i g1 g2, w1 i g1 g2]⟩
  unfold lb_law_both_met_2
  rw [sq_nx (ρ1 := ρ o8) (S1 := S) (by
    rw [hρ, x_asg, x_2, show eVar 3 _ S = some (.ok (.ref r) S) from rfl, bd_ok, show eVar 5 _ S = some (.ok (.int (at' : Nat)) S) from rfl, bd_ok]
    have : ixD (.ref r) (.int (at' : Nat)) S = some (.ok (prD q) S) := by
      unfold ixD
      simp only [seqOf, hr, hat]
    rw [this]
    rfl)]
  have s6 := bm_sl (ρ := ρ o8) (i := 6) gf ha.1 (W.key _ ha.1) (by rw [hρ]; rfl) (by rw [hρ]; rfl)
  have s7 := bm_sl (ρ := ρ o8) (i := 7) gf hb.1 (W.key _ hb.1) (by rw [hρ]; rfl) (by rw [hρ]; rfl)
  rw [sq_nx (ρ1 := ρ (some (prD (ndO op q)))) (S1 := S2) (by
    rw [x_for, x_zip, s6, bd_ok, s7, bd_ok]
    show forL (fun _ => True) (gName 8) lb_law_both_met_1 [prD (ndE op q), prD (ndO op q)] (ρ o8) S = _
    rw [forL_cons (ρ1 := ρ (some (prD (ndE op q)))) (ρ2 := ρ (some (prD (ndE op q)))) (S1 := S) (S2 := S1) trivial (by rw [hρ]; rfl) (by rw [hρ]; exact x1)]
    rw [forL_cons (ρ1 := ρ (some (prD (ndO op q)))) (ρ2 := ρ (some (prD (ndO op q)))) (S1 := S1) (S2 := S2) trivial (by rw [hρ]; rfl) (by rw [hρ]; exact x2)]
    exact forL_nil trivial)]
  rw [hρ]
  simp
/-- all pairs of states met -/
theorem s_law_both_met (W : PWk us op A B) (ha : a ∈ A) (hb : b ∈ B) {S : Store} (gf : DA S f true (grD (guG op us))) :
    ∃ r row S', R_law_both_met [.ref f, a, b] S = some (.ok (.ref r) S') ∧ S'[r]? = some (.lst (row.map prD)) ∧ Keep S S' ∧ S.length ≤ r ∧ RwQ op A B a b row row.length := by
  have hfew := W.few
  have hfl := gf.lt
  have loop : ∀ (n at' : Nat) (row : List (D × D)) (S' : Store) (o6 o7 o8 : Option D), A.length * B.length - at' ≤ n → RwQ op A B a b row at' → at' ≤ row.length → DA S' (S.length + 1) true (tQ row) → S'[S.length]? = some (.lst (row.map prD)) → Keep S S' →
      ∃ S2 y6 y7 y8 row2, sWh (tVal (e2 ltD (eVar 5) (eCall lenF [eVar 3]))) lb_law_both_met_2 [some (.ref f), some a, some b, some (.ref S.length), some (.ref (S.length + 1)), some (.int (at' : Nat)), o6, o7, o8] S' = some (.nx [some (.ref f), some a, some b, some (.ref S.length), some (.ref (S.length + 1)), some (.int (row2.length : Nat)), y6, y7, y8] S2) ∧
        S2[S.length]? = some (.lst (row2.map prD)) ∧ RwQ op A B a b row2 row2.length ∧ Keep S S2 := by
    intro n
    induction n with
    | zero =>
      intro at' row S' o6 o7 o8 hn R hat hd hr k
      have hlen := prod_len R.nd R.sub
      have : at' = row.length := by omega
      subst this
      refine ⟨S', o6, o7, o8, row, sWh_stop ?_, hr, R, k⟩
      simp [hr, -getElem?_pos, List.getElem?_cons_zero, List.getElem?_cons_succ]
    | succ n ih =>
      intro at' row S' o6 o7 o8 hn R hat hd hr k
      have hlen := prod_len R.nd R.sub
      by_cases c : at' = row.length
      · subst c
        refine ⟨S', o6, o7, o8, row, sWh_stop ?_, hr, R, k⟩
        simp [hr, -getElem?_pos, List.getElem?_cons_zero, List.getElem?_cons_succ]
      · have hlt : at' < row.length := by omega
        have hq : row[at']? = some row[at'] := by simp [hlt]
        obtain ⟨S2, y6, y7, y8, x, d2, r2, l2, w2⟩ := bm_body W (gf.keep k) R hq hd hr (by omega) (by omega) (o1 := some a) (o2 := some b) (o6 := o6) (o7 := o7) (o8 := o8)
        have R2 := R.step W hq
        have hl2 := addQ_len (row := row) (p := ndE op row[at'])
        have hl3 := addQ_len (row := addQ row (ndE op row[at'])) (p := ndO op row[at'])
        obtain ⟨S3, z6, z7, z8, row3, y, r3, R3, k3⟩ := ih (at' + 1) _ S2 y6 y7 y8 (by omega) R2 (by omega) d2 r2 ⟨by rw [l2]; exact k.1, fun i hi => by rw [w2 i (by omega) (by omega)]; exact k.2 i hi⟩
        refine ⟨S3, z6, z7, z8, row3, ?_, r3, R3, k3⟩
        rw [← y]
        refine sWh_go (S1 := S') ?_ x
        simp [hr, -getElem?_pos, List.getElem?_cons_zero, List.getElem?_cons_succ]
        omega
  have hnk := W.pk a ha b hb
  obtain ⟨T, hT⟩ : ∃ T : Store, T = S ++ [.lst [prD (a, b)], .nk (tQ [(a, b)])] := ⟨_, rfl⟩
  obtain ⟨S2, y6, y7, y8, row, x, r2, R2, k2⟩ := loop _ 0 [(a, b)] T none none none (Nat.le_refl _) ⟨by simp, fun p hp => by simp at hp; rw [hp]; exact ⟨ha, hb⟩, by simp, fun i p hi => by omega⟩ (by simp) ⟨fun p hp => by simp [tQ] at hp; subst hp; exact GK.ot hnk, by rw [hT]; simp⟩ (by rw [hT]; simp) (by rw [hT]; exact .app)
  refine ⟨S.length, row, S2, ?_, r2, k2, Nat.le_refl _, R2⟩
  unfold R_law_both_met
  rw [run_eq (n := 3) _ _ rfl]
  unfold b_law_both_met
  rw [show (List.map some [D.ref f, a, b] ++ List.replicate (9 - 3) none : Env) = [some (.ref f), some a, some b, none, none, none, none, none, none] from rfl]
  rw [sq_nx (ρ1 := [some (.ref f), some a, some b, some (.ref S.length), none, none, none, none, none]) (S1 := S ++ [.lst [prD (a, b)]]) (by rfl)]
  rw [sq_nx (ρ1 := [some (.ref f), some a, some b, some (.ref S.length), some (.ref (S.length + 1)), none, none, none, none]) (S1 := T) (by
    have : eNDct1 (eTup [eVar 1, eVar 2]) (eC (.bl true)) [some (.ref f), some a, some b, some (.ref S.length), none, none, none, none, none] (S ++ [.lst [prD (a, b)]]) = some (.ok (.ref (S.length + 1)) T) := by
      unfold eNDct1
      have w : ∀ T, eTup [eVar 1, eVar 2] [some (.ref f), some a, some b, some (.ref S.length), none, none, none, none, none] T = some (.ok (prD (a, b)) T) := fun T => rfl
      have w2 : ∀ T, eC (.bl true) [some (.ref f), some a, some b, some (.ref S.length), none, none, none, none, none] T = some (.ok (.bl true) T) := fun T => rfl
      simp only [w, w2, bd_ok]
      have g : (S ++ [MO.lst [prD (a, b)]] ++ [MO.nk []])[(S ++ [MO.lst [prD (a, b)]]).length]? = some (.nk []) := by simp
      rw [g]
      dsimp only
      rw [if_pos hnk, hT]
      simp [tQ]
    rw [x_asg, this]
    rfl)]
  rw [sq_nx (ρ1 := [some (.ref f), some a, some b, some (.ref S.length), some (.ref (S.length + 1)), some (.int ((0 : Nat) : Int)), none, none, none]) (S1 := T) (by simp)]
  rw [sq_nx x]
  simp
end
end Z
namespace Z
open Classical
inductive OR where
  | zip (u : OW) (d p q : Nat)
  | wheel (p : OW × OW)
/-- how an opening goes on -/
inductive Opens (fs : List D) (nums : List (D × D)) : OW → Nat → D → List (D × D) → List (D × D) → OR → Prop
  | zip {u : OW} {d p q : Nat} {sn lw : List (D × D)} : Opens fs nums u d (.tup [.str wZip, .int p, .int q]) sn lw (.zip u d p q)
  | beh {u : OW} {d i : Nat} {F : D} {sn lw : List (D × D)} {r : OR} : fs[i]? = some F → Opens fs nums u (d + 1) F sn lw r → Opens fs nums u d (.tup [.str wBeh, .int i]) sn lw r
  | sign {u : OW} {d i k : Nat} {F : D} {sn lw : List (D × D)} {r : OR} : fs[i]? = some F → u.length < 1000 → Opens fs nums (if d = 0 then u ++ [some k] else u) (d - 1) F sn lw r → Opens fs nums u d (.tup [.str wSign, .int k, .int i]) sn lw r
  | again {u : OW} {d : Nat} {name : List Nat} {sn lw : List (D × D)} {p : OW × OW} : u.length ≤ 1000 → sn.length < 16000000 → lw.length < 16000000 → Again u d name sn lw (some p) → Opens fs nums u d (.tup [.str wRow, .str name]) sn lw (.wheel p)
  | row {u : OW} {d g : Nat} {name : List Nat} {F : D} {sn lw : List (D × D)} {r : OR} : u.length ≤ 1000 → sn.length < 16000000 → lw.length < 16000000 → Again u d name sn lw none → fget nums (.str name) = some (.int g) → fs[g]? = some F →
      Opens fs nums u d F (dput sn (kyS name d) (.int (u.length : Nat))) (dput lw (kyS name u.length) (.int (d : Nat))) r → Opens fs nums u d (.tup [.str wRow, .str name]) sn lw r
theorem Again.det {u : OW} {d : Nat} {name : List Nat} {sn lw : List (D × D)} {a b : Option (OW × OW)} (h : Again u d name sn lw a) (h' : Again u d name sn lw b) : a = b := by
  cases h <;> cases h' <;> first | rfl | (exfalso; omega) | contradiction
theorem dget_dput (kvs : List (D × D)) (k v k' : D) : dget (dput kvs k v) k' = if k' = k then some v else dget kvs k' := by
  have e : dput kvs k v = ud9 kvs k v := by
    unfold dput ud9
    split
    · refine List.map_congr_left fun p _ => ?_
      by_cases h : p.1 = k
      · simp [h]
      · simp [h]
    · rfl
  rw [e]
  exact lk_ud9 kvs k' k v
theorem IntV.put {kvs : List (D × D)} (h : IntV kvs) (k : D) (n : Nat) : IntV (dput kvs k (.int (n : Nat))) := ⟨fun k' v hv => by
  rw [dget_dput] at hv
  by_cases c : k' = k
  · rw [if_pos c] at hv
    cases hv
    exact ⟨n, rfl⟩
  · rw [if_neg c] at hv
    exact h.int k' v hv⟩
theorem IntV.nil : IntV [] := ⟨fun k v h => by cases h⟩
section
variable {S0 : Store} {x w s l a b : Nat} {fs : List D} {nums : List (D × D)} {st : D}
def LoopR (S0 : Store) (x w s l a b : Nat) (st : D) (o4 : Option D) (T : Store) : OR → Prop
  | .zip u' d' p q => ∃ o4' T' sn' lw', sWh opT opB (e5 a b st x o4) T = some (.nx (e5 a b st x o4') T') ∧ OpS S0 T' x w s l (u'.map oD) d' (.tup [.str wZip, .int p, .int q]) sn' lw'
  | .wheel p => ∃ T', sWh opT opB (e5 a b st x o4) T = some (.rt (whD p) T') ∧ Keep S0 T'
theorem LoopR.go {S0 : Store} {x w s l a b : Nat} {st : D} {o4 o4' : Option D} {T T1 : Store} (e : sWh opT opB (e5 a b st x o4) T = sWh opT opB (e5 a b st x o4') T1) : ∀ {r : OR}, LoopR S0 x w s l a b st o4' T1 r → LoopR S0 x w s l a b st o4 T r
  | .zip u d p q, h => by
    obtain ⟨o, T', sn', lw', h1, h2⟩ := h
    exact ⟨o, T', sn', lw', e.trans h1, h2⟩
  | .wheel p, h => by
    obtain ⟨T', h1, h2⟩ := h
    exact ⟨T', e.trans h1, h2⟩
def pastP (d p q : Nat) : Nat × Nat × Nat × Nat := if d % 2 = 0 then (d / 2, p, d / 2, q) else (d / 2, q, d / 2 + 1, p)
end
end Z
namespace Z
open Classical
def hdO : OW → Option Nat
  | [] => none
  | x :: _ => x
/-- states: ropes and wheels -/
inductive VS where
  | rope (u : OW) (d i : Nat)
  | wheel (p : OW × OW)
/-- what an opening shows: the first sign, and the two states behind it -/
noncomputable def show3 : OR → Option Nat × VS × VS
  | .zip u d p q => (hdO u, if u.length % 2 = 1 then (.rope (L2.evL u) (pastP d p q).2.2.1 (pastP d p q).2.2.2, .rope (L2.evL (u.drop 1)) (pastP d p q).1 (pastP d p q).2.1) else (.rope (L2.evL u) (pastP d p q).1 (pastP d p q).2.1, .rope (L2.evL (u.drop 1)) (pastP d p q).2.2.1 (pastP d p q).2.2.2))
  | .wheel p => (hdO (p.1 ++ p.2), .wheel (hvW p).1, .wheel (hvW p).2)
/-- how a state is opened -/
inductive OpenV (fs : List D) (nums : List (D × D)) : VS → OR → Prop
  | rope {u : OW} {d i : Nat} {F : D} {r : OR} : fs[i]? = some F → Opens fs nums u d F [] [] r → OpenV fs nums (.rope u d i) r
  | wheel (p : OW × OW) : OpenV fs nums (.wheel p) (.wheel p)
end Z
namespace Z
open Classical
structure LstA (M : List Q) (f : Nat → Nat) : Prop where
  mach : Mach M
  row : ∀ n, sgn M 0 n = f n
  can : Canon M f
end Z
namespace Z
open Classical
/-- at i stands the form of t -/
inductive FrmAt (fs : List D) : Nat → Tm → Prop
  | row {i : Nat} {s : List Nat} : fs[i]? = some (.tup [.str wRow, .str s]) → FrmAt fs i (.row s)
  | sign {i j k : Nat} {t : Tm} : fs[i]? = some (.tup [.str wSign, .int k, .int j]) → FrmAt fs j t → FrmAt fs i (.sign k t)
  | beh {i j : Nat} {t : Tm} : fs[i]? = some (.tup [.str wBeh, .int j]) → FrmAt fs j t → FrmAt fs i (.beh t)
  | zip {i j k : Nat} {a b : Tm} : fs[i]? = some (.tup [.str wZip, .int j, .int k]) → FrmAt fs j a → FrmAt fs k b → FrmAt fs i (.zip a b)
end Z
namespace Z
open Classical
/-- signs, and behinds, ahead of the first zip or row -/
def sgs : Tm → Nat
  | .sign _ t => sgs t + 1
  | .beh t => sgs t
  | _ => 0
def bhs : Tm → Nat
  | .sign _ t => bhs t
  | .beh t => bhs t + 1
  | _ => 0
end Z
namespace Z
open Classical
theorem filt_le {α : Type} {p q : α → Bool} : ∀ {l : List α}, (∀ x ∈ l, q x = true → p x = true) → (l.filter q).length ≤ (l.filter p).length
  | [], _ => Nat.le_refl _
  | x :: l, h => by
    have ih := filt_le (l := l) (fun y hy => h y (List.mem_cons_of_mem _ hy))
    rw [List.filter_cons, List.filter_cons]
    cases hq : q x with
    | true =>
      rw [h x (by simp) hq]
      simpa using ih
    | false =>
      cases p x
      · simpa using ih
      · simp
        omega
theorem filt_lt {α : Type} {p q : α → Bool} : ∀ {l : List α} {y : α}, (∀ x ∈ l, q x = true → p x = true) → y ∈ l → p y = true → q y = false → (l.filter q).length < (l.filter p).length
  | [], y, _, hy, _, _ => nomatch hy
  | x :: l, y, h, hy, hp, hq => by
    have hle := filt_le (l := l) (fun z hz => h z (List.mem_cons_of_mem _ hz))
    rw [List.filter_cons, List.filter_cons]
    rcases List.mem_cons.mp hy with rfl | hy
    · rw [hp, hq]
      simp
      omega
    · have ih := filt_lt (l := l) (fun z hz => h z (List.mem_cons_of_mem _ hz)) hy hp hq
      cases hqx : q x with
      | true =>
        rw [h x (by simp) hqx]
        simpa using ih
      | false =>
        cases p x
        · simpa using ih
        · simp
          omega
theorem kyS_inj {s t : List Nat} {a b : Nat} (h : kyS s a = kyS t b) : s = t ∧ a = b := by
  unfold kyS at h
  simp at h
  exact ⟨h.1, by omega⟩
def prN (N : List (List Nat)) (B : Nat) : List (List Nat × Nat) := N.flatMap fun s => (List.range (B + 1)).map fun d => (s, d)
theorem prN_mem {N : List (List Nat)} {B : Nat} {s : List Nat} {d : Nat} : (s, d) ∈ prN N B ↔ s ∈ N ∧ d ≤ B := by
  unfold prN
  simp only [List.mem_flatMap, List.mem_map, List.mem_range, Prod.mk.injEq]
  constructor
  · rintro ⟨x, hx, y, hy, rfl, rfl⟩
    exact ⟨hx, by omega⟩
  · rintro ⟨h1, h2⟩
    exact ⟨s, h1, d, by omega, rfl, rfl⟩
noncomputable def Pc (N : List (List Nat)) (B : Nat) (sn : List (D × D)) : Nat := ((prN N B).filter fun p => decide (dget sn (kyS p.1 p.2) = none)).length
noncomputable def Uc (N : List (List Nat)) (lw : List (D × D)) (n : Nat) : Nat := (N.filter fun s => decide (dget lw (kyS s n) = none)).length
section
variable {N : List (List Nat)} {B : Nat}
theorem Uc_put (lw : List (D × D)) (k v : D) (n : Nat) : Uc N (dput lw k v) n ≤ Uc N lw n := filt_le fun p _ h => by
  have h := of_decide_eq_true h
  rw [dget_dput] at h
  split at h
  · cases h
  · exact decide_eq_true h
theorem Uc_put_lt {lw : List (D × D)} {s : List Nat} {n : Nat} (v : D) (hs : s ∈ N) (h0 : dget lw (kyS s n) = none) : Uc N (dput lw (kyS s n) v) n < Uc N lw n := filt_lt (y := s) (fun p _ h => by
  have h := of_decide_eq_true h
  rw [dget_dput] at h
  split at h
  · cases h
  · exact decide_eq_true h) hs (decide_eq_true h0) (decide_eq_false (by rw [dget_dput, if_pos rfl]; simp))
theorem dput_keys (kvs : List (D × D)) (k v : D) : (dput kvs k v).map (·.1) = if k ∈ kvs.map (·.1) then kvs.map (·.1) else kvs.map (·.1) ++ [k] := by
  unfold dput
  have e : (kvs.any fun p => decide (p.1 = k)) = decide (k ∈ kvs.map (·.1)) := by
    rw [Bool.eq_iff_iff]
    simp
  rw [e]
  by_cases h : k ∈ kvs.map (·.1)
  · rw [decide_eq_true h, if_pos rfl, if_pos h, List.map_map]
    refine List.map_congr_left fun p _ => ?_
    by_cases g : p.1 = k <;> simp [g]
  · rw [decide_eq_false h, if_neg (by decide), if_neg h]
    simp
structure KIn (L : List D) (kvs : List (D × D)) : Prop where
  nd : (kvs.map (·.1)).Nodup
  sub : ∀ k ∈ kvs.map (·.1), k ∈ L
theorem KIn.put {L : List D} {kvs : List (D × D)} (h : KIn L kvs) {k : D} (hk : k ∈ L) (v : D) : KIn L (dput kvs k v) := by
  refine ⟨?_, fun x hx => ?_⟩
  · rw [dput_keys]
    by_cases c : k ∈ kvs.map (·.1)
    · rw [if_pos c]; exact h.nd
    · rw [if_neg c, List.nodup_append]
      exact ⟨h.nd, by simp, fun a ha b hb e => by simp at hb; subst hb; subst e; exact c ha⟩
  · rw [dput_keys] at hx
    by_cases c : k ∈ kvs.map (·.1)
    · rw [if_pos c] at hx; exact h.sub x hx
    · rw [if_neg c] at hx
      rcases List.mem_append.mp hx with hx | hx
      · exact h.sub x hx
      · simp at hx; rw [hx]; exact hk
theorem KIn.len {L : List D} {kvs : List (D × D)} (h : KIn L kvs) : kvs.length ≤ L.length := by
  have := nodup_len h.nd h.sub
  simpa using this
end
end Z
namespace Z
open Classical
def kyL (N : List (List Nat)) (K : Nat) : List D := (prN N K).map fun p => kyS p.1 p.2
theorem kyL_mem {N : List (List Nat)} {K d : Nat} {s : List Nat} (hs : s ∈ N) (hd : d ≤ K) : kyS s d ∈ kyL N K := List.mem_map.mpr ⟨(s, d), prN_mem.mpr ⟨hs, hd⟩, rfl⟩
structure RV (N : List (List Nat)) (B G K e : Nat) (u : OW) (d : Nat) (s : List Nat) (sn lw : List (D × D)) : Prop where
  sN : s ∈ N
  sv : ∀ t x b, dget sn (kyS t x) = some (.int (b : Nat)) → b ≤ u.length
  iS : IntV sn
  iL : IntV lw
  lv : ∀ t n, u.length < n → dget lw (kyS t n) = none
  sz : u.length + 2 * G * Pc N B sn + 2 * G ≤ 1000 + e
  j1 : d + Uc N lw u.length * B ≤ K
  j2 : ∀ t x, dget lw (kyS t u.length) = some (.int (x : Nat)) → x + B + Uc N lw u.length * B ≤ K
  kS : KIn (kyL N K) sn
  kL : KIn (kyL N 1000) lw
section
variable {fs : List D} {nums : List (D × D)} {N : List (List Nat)} {B G K e : Nat} {u : OW} {d : Nat} {s : List Nat} {sn lw : List (D × D)}
theorem bfO_some {lw : List (D × D)} {s : List Nat} {n z x : Nat} (h : dget lw (kyS s n) = some (.int (x : Nat))) : bfO lw s n z = x := by
  unfold bfO
  rw [h]
  simp
/-- the low at this size: none yet, or above the drop -/
theorem RV.low (R : RV N B G K e u d s sn lw) (h : ¬ bfO lw s u.length (d + 1) ≤ d) : dget lw (kyS s u.length) = none ∨ ∃ x : Nat, dget lw (kyS s u.length) = some (.int (x : Nat)) ∧ d < x := by
  cases hg : dget lw (kyS s u.length) with
  | none => exact .inl rfl
  | some v =>
    obtain ⟨x, rfl⟩ := R.iL.int _ _ hg
    rw [bfO_some hg] at h
    exact .inr ⟨x, rfl, by omega⟩
/-- after a visit that tells nothing: the bound on what comes -/
theorem RV.kb (R : RV N B G K e u d s sn lw) (h : ¬ bfO lw s u.length (d + 1) ≤ d) : d + B + Uc N (dput lw (kyS s u.length) (.int (d : Nat))) u.length * B ≤ K := by
  have j1 := R.j1
  rcases R.low h with h0 | ⟨x, hx, hd⟩
  · have h1 := Uc_put_lt (v := .int (d : Nat)) R.sN h0
    have h2 : (Uc N (dput lw (kyS s u.length) (.int (d : Nat))) u.length + 1) * B ≤ Uc N lw u.length * B := Nat.mul_le_mul_right B h1
    rw [Nat.add_mul] at h2
    omega
  · have h1 := Uc_put (N := N) lw (kyS s u.length) (.int (d : Nat)) u.length
    have h2 := Nat.mul_le_mul_right B h1
    have := R.j2 s x hx
    omega
theorem RV.next (R : RV N B G K e u d s sn lw) (h : ¬ bfO lw s u.length (d + 1) ≤ d) (hK : B + N.length * B ≤ K) (hu1 : u.length ≤ 1000) {u' : OW} {d' e' : Nat} {s' : List Nat} (hs' : s' ∈ N) (hl : u.length ≤ u'.length) (hd : d' ≤ d + B) (hg : u.length < u'.length → d' ≤ B)
    (hsz : u'.length + 2 * G * Pc N B (dput sn (kyS s d) (.int (u.length : Nat))) + 2 * G ≤ 1000 + e') : RV N B G K e' u' d' s' (dput sn (kyS s d) (.int (u.length : Nat))) (dput lw (kyS s u.length) (.int (d : Nat))) := by
  have kb := R.kb h
  have hdK : d ≤ K := by have := R.j1; omega
  refine ⟨hs', fun t x b hb => ?_, R.iS.put _ _, R.iL.put _ _, fun t n hn => ?_, hsz, ?_, fun t x hx => ?_, R.kS.put (kyL_mem R.sN hdK) _, R.kL.put (kyL_mem R.sN hu1) _⟩
  · rw [dget_dput] at hb
    split at hb
    · cases hb
      omega
    · have := R.sv t x b hb
      omega
  · rw [dget_dput, if_neg (fun q => by have := (kyS_inj q).2; omega)]
    exact R.lv t n (by omega)
  · by_cases c : u.length < u'.length
    · have := hg c
      have h2 : Uc N (dput lw (kyS s u.length) (.int (d : Nat))) u'.length ≤ N.length := List.length_filter_le ..
      have := Nat.mul_le_mul_right B h2
      omega
    · have e0 : u'.length = u.length := by omega
      rw [e0]
      omega
  · by_cases c : u.length < u'.length
    · rw [dget_dput, if_neg (fun q => by have := (kyS_inj q).2; omega), R.lv t _ c] at hx
      cases hx
    · have e0 : u'.length = u.length := by omega
      rw [e0] at hx ⊢
      rw [dget_dput] at hx
      split at hx
      · cases hx
        exact kb
      · have := R.j2 t x hx
        have := Nat.mul_le_mul_right B (Uc_put (N := N) lw (kyS s u.length) (.int (d : Nat)) u.length)
        omega
end
end Z
namespace Z
open Classical
section
variable {fs : List D} {nums : List (D × D)} {N : List (List Nat)} {B G K : Nat}
theorem RV.start {u : OW} {d : Nat} {s : List Nat} (hs : s ∈ N) (hu : u.length + 2 * G * (prN N B).length + 2 * G ≤ 1000) (hd : d + N.length * B ≤ K) : RV N B G K 0 u d s [] [] := by
  have h1 : Pc N B [] ≤ (prN N B).length := List.length_filter_le ..
  have h2 : Uc N [] u.length ≤ N.length := List.length_filter_le ..
  have h3 := Nat.mul_le_mul_left (2 * G) h1
  have h4 := Nat.mul_le_mul_right B h2
  exact ⟨hs, fun t x b h => (nomatch h), .nil, .nil, fun t n _ => rfl, by omega, by omega, fun t x h => (nomatch h), ⟨by simp, fun k hk => (nomatch hk)⟩, ⟨by simp, fun k hk => (nomatch hk)⟩⟩
/-- the shape of a zip that an opening tells: its word has grown by few signs, its drop is small or has not grown much; it stands on forms -/
theorem Opens.det {u : OW} {d : Nat} {F : D} {sn lw : List (D × D)} {r r' : OR} (h : Opens fs nums u d F sn lw r) (h' : Opens fs nums u d F sn lw r') : r = r' := by
  induction h generalizing r' with
  | zip => cases h'; rfl
  | beh hF _ ih =>
    cases h' with
    | beh hF' h2 =>
      rw [hF] at hF'
      cases hF'
      exact ih h2
  | sign hF _ _ ih =>
    cases h' with
    | sign hF' _ h2 =>
      rw [hF] at hF'
      cases hF'
      exact ih h2
  | again _ _ _ ha =>
    cases h' with
    | again _ _ _ ha' =>
      have := ha.det ha'
      cases this
      rfl
    | row _ _ _ ha' =>
      have := ha.det ha'
      cases this
  | row _ _ _ ha hn hF _ ih =>
    cases h' with
    | again _ _ _ ha' =>
      have := ha.det ha'
      cases this
    | row _ _ _ ha' hn' hF' h2 =>
      rw [hn] at hn'
      cases hn'
      rw [hF] at hF'
      cases hF'
      exact ih h2
end
end Z
namespace Z
open Classical
/-- the sign at n of a term, the rows' signs given (none: free) -/
def TV (V : List Nat → Nat → Option Nat) : Tm → Nat → Option Nat
  | .row s, n => V s n
  | .sign k t, n => if n = 0 then some k else TV V t (n - 1)
  | .beh t, n => TV V t (n + 1)
  | .zip a b, n => if n % 2 = 0 then TV V a (n / 2) else TV V b (n / 2)
/-- the sign at n of a rope -/
def RVl (V : List Nat → Nat → Option Nat) (u : OW) (d : Nat) (t : Tm) (n : Nat) : Option Nat := if n < u.length then u.getD n none else TV V t (n - u.length + d)
section
variable {V : List Nat → Nat → Option Nat} {fs : List D} {nums : List (D × D)} {N : List (List Nat)} {B G : Nat}
/-- the equations of the names hold -/
structure EqV (fs : List D) (nums : List (D × D)) (N : List (List Nat)) (V : List Nat → Nat → Option Nat) : Prop where
  at' : ∀ s ∈ N, ∀ g : Nat, fget nums (.str s) = some (.int g) → ∃ t, FrmAt fs g t ∧ (∀ r ∈ t.rows, r ∈ N) ∧ ∀ n, V s n = TV V t n
end
end Z
namespace Z
open Classical
def wv (w t : OW) (n : Nat) : Option Nat := if n < w.length then w.getD n none else t.getD ((n - w.length) % t.length) none
end Z
namespace Z
open Classical
def wSg : Option Wr → Option Nat
  | some (.sign i) => some i
  | _ => none
/-- the sign at n of the row of s, by the equations told -/
noncomputable def sgV (es : Eqs) (s : List Nat) (n : Nat) : Option Nat := wSg (wres es (s, n))
section
variable {es : Eqs}
/-- a walk from sign n of a term ends so, behind j calls -/
def TkE (es : Eqs) (t : Tm) (n j : Nat) (r : Wr) : Prop := match hop t n with
  | .inl i => r = .sign i ∧ j = 0
  | .inr c => ∃ k, j = k + 1 ∧ EndIn es k c r
theorem tkE_row {s : List Nat} {n j : Nat} {r : Wr} : TkE es (.row s) n j r ↔ ∃ k, j = k + 1 ∧ EndIn es k (s, n) r := Iff.rfl
theorem tkE_beh {t : Tm} {n j : Nat} {r : Wr} : TkE es (.beh t) n j r ↔ TkE es t (n + 1) j r := Iff.rfl
theorem tkE_signS {t : Tm} {i n j : Nat} {r : Wr} : TkE es (.sign i t) (n + 1) j r ↔ TkE es t n j r := Iff.rfl
theorem tkE_sign0 {t : Tm} {i j : Nat} {r : Wr} : TkE es (.sign i t) 0 j r ↔ r = .sign i ∧ j = 0 := Iff.rfl
theorem tkE_zip {a b : Tm} {n j : Nat} {r : Wr} : TkE es (.zip a b) n j r ↔ TkE es (if n % 2 = 0 then a else b) (n / 2) j r := by
  unfold TkE
  rw [hop]
  by_cases c : n % 2 = 0
  · rw [if_pos c, if_pos c]
  · rw [if_neg c, if_neg c]
theorem endIn_tk {s : List Nat} {T : Tm} (h : look es s = some T) {n j : Nat} {r : Wr} : EndIn es j (s, n) r ↔ TkE es T n j r := by
  unfold TkE
  cases hh : hop T n with
  | inl i =>
    dsimp only
    have hn : nx es (s, n) = .inl (.sign i) := by
      unfold nx
      dsimp only
      rw [h]
      dsimp only
      rw [hh]
    cases j with
    | zero =>
      rw [EndIn, hn]
      constructor
      · intro e; cases e; exact ⟨rfl, rfl⟩
      · rintro ⟨rfl, _⟩; rfl
    | succ k =>
      rw [EndIn]
      constructor
      · rintro ⟨d, e, _⟩; rw [hn] at e; cases e
      · rintro ⟨_, e⟩; cases e
  | inr c =>
    dsimp only
    have hn := nx_of (es := es) (c := (s, n)) h hh
    cases j with
    | zero =>
      rw [EndIn, hn]
      constructor
      · intro e; cases e
      · rintro ⟨k, e, _⟩; cases e
    | succ k =>
      rw [EndIn]
      constructor
      · rintro ⟨d, e, q⟩; rw [hn] at e; cases e; exact ⟨k, rfl, q⟩
      · rintro ⟨k', e, q⟩; cases e; exact ⟨c, hn, q⟩
theorem sgV_of {s : List Nat} {n j i : Nat} (h : EndIn es j (s, n) (.sign i)) : sgV es s n = some i := by
  unfold sgV
  rw [wres_some h]
  rfl
theorem sgV_is {s : List Nat} {n i : Nat} (h : sgV es s n = some i) : ∃ j, EndIn es j (s, n) (.sign i) := by
  unfold sgV wres at h
  split at h
  · rename_i hx
    obtain ⟨k, hk⟩ := hx.choose_spec
    refine ⟨k, ?_⟩
    cases e : hx.choose with
    | sign q => rw [e] at h hk; cases h; exact hk
    | waits q => rw [e] at h; cases h
  · cases h
theorem tv_of {t : Tm} : ∀ {n j i : Nat}, TkE es t n j (.sign i) → TV (sgV es) t n = some i := by
  induction t with
  | row s =>
    intro n j i h
    obtain ⟨k, _, h⟩ := tkE_row.mp h
    exact sgV_of h
  | sign q t ih =>
    intro n j i h
    cases n with
    | zero => obtain ⟨h, _⟩ := tkE_sign0.mp h; cases h; rw [TV, if_pos rfl]
    | succ n => rw [TV, if_neg (by omega)]; exact ih (tkE_signS.mp h)
  | beh t ih => intro n j i h; rw [TV]; exact ih (tkE_beh.mp h)
  | zip a b iha ihb =>
    intro n j i h
    have h := tkE_zip.mp h
    rw [TV]
    by_cases c : n % 2 = 0
    · rw [if_pos c] at h ⊢; exact iha h
    · rw [if_neg c] at h ⊢; exact ihb h
theorem tv_is {t : Tm} : ∀ {n i : Nat}, TV (sgV es) t n = some i → ∃ j, TkE es t n j (.sign i) := by
  induction t with
  | row s =>
    intro n i h
    obtain ⟨k, h⟩ := sgV_is h
    exact ⟨k + 1, tkE_row.mpr ⟨k, rfl, h⟩⟩
  | sign q t ih =>
    intro n i h
    cases n with
    | zero => rw [TV, if_pos rfl] at h; cases h; exact ⟨0, tkE_sign0.mpr ⟨rfl, rfl⟩⟩
    | succ n =>
      rw [TV, if_neg (by omega)] at h
      obtain ⟨j, h⟩ := ih h
      exact ⟨j, tkE_signS.mpr h⟩
  | beh t ih =>
    intro n i h
    rw [TV] at h
    obtain ⟨j, h⟩ := ih h
    exact ⟨j, tkE_beh.mpr h⟩
  | zip a b iha ihb =>
    intro n i h
    rw [TV] at h
    by_cases c : n % 2 = 0
    · rw [if_pos c] at h
      obtain ⟨j, h⟩ := iha h
      exact ⟨j, tkE_zip.mpr (by rw [if_pos c]; exact h)⟩
    · rw [if_neg c] at h
      obtain ⟨j, h⟩ := ihb h
      exact ⟨j, tkE_zip.mpr (by rw [if_neg c]; exact h)⟩
theorem sgV_tv {s : List Nat} {T : Tm} (h : look es s = some T) (n : Nat) : sgV es s n = TV (sgV es) T n := by
  cases hv : TV (sgV es) T n with
  | some i =>
    obtain ⟨j, hj⟩ := tv_is hv
    exact sgV_of ((endIn_tk h).mpr hj)
  | none =>
    cases hs : sgV es s n with
    | none => rfl
    | some i =>
      obtain ⟨j, hj⟩ := sgV_is hs
      rw [tv_of ((endIn_tk h).mp hj)] at hv
      cases hv
/-- names whose equations are told, with those that are met from them -/
structure ClsB (es : Eqs) (N : List (List Nat)) : Prop where
  at' : ∀ s ∈ N, ∃ T, look es s = some T ∧ ∀ r ∈ T.rows, r ∈ N
/-- the forms are the terms' -/
structure FrmB (es : Eqs) (N : List (List Nat)) (fs : List D) (nums : List (D × D)) : Prop where
  cls : ClsB es N
  at' : ∀ s ∈ N, ∃ (T : Tm) (g : Nat), look es s = some T ∧ fget nums (.str s) = some (.int g) ∧ FrmAt fs g T ∧ ∀ r ∈ T.rows, r ∈ N
variable {N : List (List Nat)} {fs : List D} {nums : List (D × D)} {f : Nat → Option Nat}
theorem FrmB.eqv (F : FrmB es N fs nums) : EqV fs nums N (sgV es) := ⟨fun s hs g hg => by
  obtain ⟨T, g', h1, h2, h3, h4⟩ := F.at' s hs
  rw [hg] at h2
  injection h2 with h2
  injection h2 with h2
  have e : g = g' := Int.ofNat_inj.mp h2
  subst e
  exact ⟨T, h3, h4, fun n => sgV_tv h1 n⟩⟩
end
end Z
namespace Z
open Classical
def tailT : Tm → Tm
  | .sign _ t => tailT t
  | .beh t => tailT t
  | .row s => .row s
  | .zip a b => .zip a b
theorem tailT_rows : ∀ (t : Tm), ∀ x ∈ (tailT t).rows, x ∈ t.rows
  | .sign _ t, x, h => tailT_rows t x h
  | .beh t, x, h => tailT_rows t x h
  | .row s, x, h => h
  | .zip a b, x, h => h
/-- through k names to a zip; the signs, the behinds on the way -/
inductive ZC (es : Eqs) : Nat → Tm → Tm → Tm → Nat → Nat → Prop
  | zip {t a b : Tm} : tailT t = .zip a b → ZC es 0 t a b (sgs t) (bhs t)
  | row {t a b T : Tm} {s : List Nat} {k σ β : Nat} : tailT t = .row s → look es s = some T → ZC es k T a b σ β → ZC es (k + 1) t a b (sgs t + σ) (bhs t + β)
/-- through k names to one more -/
inductive RC (es : Eqs) : Nat → Tm → List Nat → Nat → Nat → Prop
  | here {t : Tm} {s : List Nat} : tailT t = .row s → RC es 0 t s (sgs t) (bhs t)
  | next {t T : Tm} {s q : List Nat} {k σ β : Nat} : tailT t = .row s → look es s = some T → RC es k T q σ β → RC es (k + 1) t q (sgs t + σ) (bhs t + β)
/-- the signs are figures -/
def sg9 : Tm → Prop
  | .row _ => True
  | .sign i t => i ≤ 9 ∧ sg9 t
  | .beh t => sg9 t
  | .zip a b => sg9 a ∧ sg9 b
section
variable {es : Eqs} {N : List (List Nat)} {fs : List D} {nums : List (D × D)}
theorem ZC.det {k : Nat} {t a b : Tm} {σ β : Nat} (h : ZC es k t a b σ β) : ∀ {k' : Nat} {a' b' : Tm} {σ' β' : Nat}, ZC es k' t a' b' σ' β' → k = k' ∧ a = a' ∧ b = b' ∧ σ = σ' ∧ β = β' := by
  induction h with
  | zip h =>
    intro k' a' b' σ' β' h'
    cases h' with
    | zip g => rw [h] at g; cases g; exact ⟨rfl, rfl, rfl, rfl, rfl⟩
    | row g _ _ => rw [h] at g; cases g
  | row h hl _ ih =>
    intro k' a' b' σ' β' h'
    cases h' with
    | zip g => rw [h] at g; cases g
    | row g gl g2 =>
      rw [h] at g
      cases g
      rw [hl] at gl
      cases gl
      obtain ⟨rfl, rfl, rfl, rfl, rfl⟩ := ih g2
      exact ⟨rfl, rfl, rfl, rfl, rfl⟩
end
end Z
namespace Z
open Classical
section
variable {es : Eqs} {N : List (List Nat)}
theorem tail_tv (V : List Nat → Nat → Option Nat) : ∀ (t : Tm) (m : Nat), sgs t ≤ m → TV V t m = TV V (tailT t) (m - sgs t + bhs t)
  | .row s, m, h => by simp [sgs, bhs, tailT]
  | .zip a b, m, h => by simp [sgs, bhs, tailT]
  | .beh t, m, h => by
    rw [TV, tailT, tail_tv V t (m + 1) (by simp only [sgs] at h; omega)]
    simp only [sgs, bhs] at h ⊢
    congr 1
    omega
  | .sign i t, m, h => by
    simp only [sgs] at h
    rw [TV, if_neg (by omega), tailT, tail_tv V t (m - 1) (by omega)]
    simp only [sgs, bhs]
    congr 1
    omega
theorem tail_tk : ∀ (t : Tm) (m j : Nat) (r : Wr), sgs t ≤ m → TkE es t m j r → TkE es (tailT t) (m - sgs t + bhs t) j r
  | .row s, m, j, r, h, q => by simpa [sgs, bhs, tailT] using q
  | .zip a b, m, j, r, h, q => by simpa [sgs, bhs, tailT] using q
  | .beh t, m, j, r, h, q => by
    have := tail_tk t (m + 1) j r (by simp only [sgs] at h; omega) (tkE_beh.mp q)
    simp only [sgs, bhs, tailT] at h ⊢
    rw [show m - sgs t + (bhs t + 1) = m + 1 - sgs t + bhs t by omega]
    exact this
  | .sign i t, m, j, r, h, q => by
    simp only [sgs] at h
    rw [show m = (m - 1) + 1 by omega] at q
    have := tail_tk t (m - 1) j r (by omega) (tkE_signS.mp q)
    simp only [sgs, bhs, tailT]
    rw [show m - (sgs t + 1) + bhs t = m - 1 - sgs t + bhs t by omega]
    exact this
theorem RC.val {k : Nat} {t : Tm} {s : List Nat} {σ β : Nat} (h : RC es k t s σ β) : ∀ m, σ ≤ m → TV (sgV es) t m = sgV es s (m - σ + β) ∧ ∀ j r, TkE es t m j r → ∃ j', j = j' + k + 1 ∧ EndIn es j' (s, m - σ + β) r := by
  induction h with
  | @here t s ht =>
    intro m hm
    refine ⟨?_, fun j r q => ?_⟩
    · rw [tail_tv _ t m hm, ht, TV]
    · have := tail_tk t m j r hm q
      rw [ht] at this
      obtain ⟨k, hk, h2⟩ := tkE_row.mp this
      exact ⟨k, by omega, h2⟩
  | @next t T s q k σ β ht hl h ih =>
    intro m hm
    obtain ⟨i1, i2⟩ := ih (m - sgs t + bhs t) (by omega)
    have e : m - sgs t + bhs t - σ + β = m - (sgs t + σ) + (bhs t + β) := by omega
    rw [e] at i1 i2
    refine ⟨?_, fun j r g => ?_⟩
    · rw [tail_tv _ t m (by omega), ht, TV, sgV_tv hl, i1]
    · have := tail_tk t m j r (by omega) g
      rw [ht] at this
      obtain ⟨k', hk', h2⟩ := tkE_row.mp this
      obtain ⟨j', hj', h3⟩ := i2 k' r ((endIn_tk hl).mp h2)
      exact ⟨j', by omega, h3⟩
theorem RC.det {k : Nat} {t : Tm} {s : List Nat} {σ β : Nat} (h : RC es k t s σ β) : ∀ {s' : List Nat} {σ' β' : Nat}, RC es k t s' σ' β' → s = s' ∧ σ = σ' ∧ β = β' := by
  induction h with
  | here ht =>
    intro s' σ' β' h'
    cases h' with
    | here h2 => rw [ht] at h2; cases h2; exact ⟨rfl, rfl, rfl⟩
  | next ht hl _ ih =>
    intro s' σ' β' h'
    cases h' with
    | next h2 hl2 h3 =>
      rw [ht] at h2
      cases h2
      rw [hl] at hl2
      cases hl2
      obtain ⟨rfl, rfl, rfl⟩ := ih h3
      exact ⟨rfl, rfl, rfl⟩
theorem RC.join {i : Nat} {t : Tm} {s : List Nat} {σ β : Nat} (h : RC es i t s σ β) : ∀ {T : Tm} {m : Nat} {q : List Nat} {σ' β' : Nat}, look es s = some T → RC es m T q σ' β' → RC es (i + 1 + m) t q (σ + σ') (β + β') := by
  induction h with
  | here ht =>
    intro T m q σ' β' hl h2
    rw [show 0 + 1 + m = m + 1 by omega]
    exact .next ht hl h2
  | next ht hl _ ih =>
    intro T m q σ' β' hl2 h2
    have := ih hl2 h2
    rename_i k' σ0 β0 _
    rw [show k' + 1 + 1 + m = (k' + 1 + m) + 1 by omega, Nat.add_assoc (sgs _), Nat.add_assoc (bhs _)]
    exact .next ht hl this
theorem two_same {α : Type} {L : List α} (g : Nat → α) (hg : ∀ k, k ≤ L.length → g k ∈ L) : ∃ i j, i < j ∧ j ≤ L.length ∧ g i = g j := by
  by_cases c : ∃ i j, i < j ∧ j ≤ L.length ∧ g i = g j
  · exact c
  · exfalso
    have hnd : ((List.range (L.length + 1)).map g).Nodup := by
      rw [List.nodup_iff_pairwise_ne, List.pairwise_map]
      refine List.Pairwise.imp_of_mem (R := fun a b => a < b) (fun {a b} ha hb hab e => c ⟨a, b, hab, by have := List.mem_range.mp hb; omega, e⟩) ?_
      exact List.pairwise_lt_range
    have := nodup_len hnd (L := L) (fun x hx => by
      obtain ⟨k, hk, rfl⟩ := List.mem_map.mp hx
      exact hg k (by have := List.mem_range.mp hk; omega))
    rw [List.length_map, List.length_range] at this
    omega
end
end Z
namespace Z
open Classical
/-- the turn, again and again -/
def gT (t : OW) (n : Nat) : Option Nat := t.getD (n % t.length) none
def Per {α : Type} (g : Nat → α) (p : Nat) : Prop := ∀ n, g (n + p) = g n
/-- no shorter turn -/
def Prim (t : OW) : Prop := ∀ j, 1 ≤ j → Per (gT t) j → t.length ≤ j
structure CW (w t : OW) : Prop where
  ne : t ≠ []
  prim : Prim t
  last : w = [] ∨ w.getLast? ≠ t.getLast?
/-- from Θ on a period -/
def EvP {α : Type} (f : Nat → α) (p Θ : Nat) : Prop := ∀ n, Θ ≤ n → f (n + p) = f n
end Z
namespace Z
open Classical
theorem FrmAt.det {fs : List D} {i : Nat} {t : Tm} (h : FrmAt fs i t) : ∀ {t' : Tm}, FrmAt fs i t' → t = t' := by
  induction h with
  | row h =>
    intro t' h'
    cases h' with
    | row g => rw [h] at g; simp at g; rw [g]
    | sign g _ => rw [h] at g; cases g
    | beh g _ => rw [h] at g; cases g
    | zip g _ _ => rw [h] at g; cases g
  | sign h _ ih =>
    intro t' h'
    cases h' with
    | row g => rw [h] at g; cases g
    | sign g g2 =>
      rw [h] at g
      simp at g
      have q1 := Int.ofNat_inj.mp g.1
      have q2 := Int.ofNat_inj.mp g.2
      subst q1
      subst q2
      rw [ih g2]
    | beh g _ => rw [h] at g; cases g
    | zip g _ _ => rw [h] at g; cases g
  | beh h _ ih =>
    intro t' h'
    cases h' with
    | row g => rw [h] at g; cases g
    | sign g _ => rw [h] at g; cases g
    | beh g g2 =>
      rw [h] at g
      simp at g
      have q1 := Int.ofNat_inj.mp g
      subst q1
      rw [ih g2]
    | zip g _ _ => rw [h] at g; cases g
  | zip h _ _ i1 i2 =>
    intro t' h'
    cases h' with
    | row g => rw [h] at g; cases g
    | sign g _ => rw [h] at g; cases g
    | beh g _ => rw [h] at g; cases g
    | zip g g1 g2 =>
      rw [h] at g
      simp at g
      have q1 := Int.ofNat_inj.mp g.1
      have q2 := Int.ofNat_inj.mp g.2
      subst q1
      subst q2
      rw [i1 g1, i2 g2]
/-- few signs and behinds in a row, everywhere in a term -/
def GBt (G B : Nat) : Tm → Prop
  | .row _ => True
  | .sign i t => sgs t + 1 ≤ G ∧ bhs t ≤ B ∧ GBt G B t
  | .beh t => sgs t ≤ G ∧ bhs t + 1 ≤ B ∧ GBt G B t
  | .zip a b => GBt G B a ∧ GBt G B b
theorem GBt.le {G B : Nat} : ∀ {t : Tm}, GBt G B t → sgs t ≤ G ∧ bhs t ≤ B
  | .row _, _ => by simp [sgs, bhs]
  | .sign i t, h => by simp only [sgs, bhs]; exact ⟨h.1, h.2.1⟩
  | .beh t, h => by simp only [sgs, bhs]; exact ⟨h.1, h.2.1⟩
  | .zip a b, h => by simp [sgs, bhs]
theorem GBt.tail {G B : Nat} : ∀ {t a b : Tm}, GBt G B t → tailT t = .zip a b → GBt G B a ∧ GBt G B b
  | .row _, a, b, _, e => by cases e
  | .sign i t, a, b, h, e => GBt.tail h.2.2 e
  | .beh t, a, b, h, e => GBt.tail h.2.2 e
  | .zip x y, a, b, h, e => by cases e; exact h
theorem sg9.tail : ∀ {t a b : Tm}, sg9 t → tailT t = .zip a b → sg9 a ∧ sg9 b
  | .row _, a, b, _, e => by cases e
  | .sign i t, a, b, h, e => sg9.tail (t := t) h.2 e
  | .beh t, a, b, h, e => sg9.tail (t := t) h e
  | .zip x y, a, b, h, e => by cases e; exact h
/-- a book laid, its names told, few signs and behinds in a row -/
structure BU (es : Eqs) (N : List (List Nat)) (fs : List D) (nums : List (D × D)) (G B : Nat) : Prop where
  fb : FrmB es N fs nums
  s9 : ∀ s ∈ N, ∀ T, look es s = some T → sg9 T
  gb : ∀ s ∈ N, ∀ T, look es s = some T → GBt G B T
def LbU (N : List (List Nat)) (G : Nat) : Nat := (N.length + 1) * G + 1
def DbU (N : List (List Nat)) (B : Nat) : Nat := (N.length + 1) * B + 2
def ThU (N : List (List Nat)) (G : Nat) : Nat := (N.length + 1) * G
section
variable {es : Eqs} {N : List (List Nat)} {fs : List D} {nums : List (D × D)} {G B : Nat}
theorem ZC.few (C : ClsB es N) {k : Nat} {t a b : Tm} {σ β : Nat} (h : ZC es k t a b σ β) : (∀ r ∈ t.rows, r ∈ N) → ∃ l : List (List Nat), l.length = k ∧ l.Nodup ∧ ∀ s ∈ l, s ∈ N ∧ ∃ T k' σ' β', look es s = some T ∧ k' < k ∧ ZC es k' T a b σ' β' := by
  induction h with
  | zip h => exact fun _ => ⟨[], rfl, List.nodup_nil, fun s hs => (nomatch hs)⟩
  | @row t a b T s k σ β ht hl hz ih =>
    intro hr
    have hs := hr s (tailT_rows t s (by rw [ht]; simp [Tm.rows]))
    obtain ⟨T', e1, e2⟩ := C.at' s hs
    rw [hl] at e1
    cases e1
    obtain ⟨l, h1, h2, h3⟩ := ih e2
    refine ⟨s :: l, by simp [h1], List.nodup_cons.mpr ⟨fun hm => ?_, h2⟩, fun x hx => ?_⟩
    · obtain ⟨_, T', k', σ', β', q1, q2, q3⟩ := h3 s hm
      rw [hl] at q1
      cases q1
      have := (hz.det q3).1
      omega
    · rcases List.mem_cons.mp hx with rfl | hx
      · exact ⟨hs, T, k, σ, β, hl, by omega, hz⟩
      · obtain ⟨p1, T', k', σ', β', q1, q2, q3⟩ := h3 x hx
        exact ⟨p1, T', k', σ', β', q1, by omega, q3⟩
theorem ZC.sum (A : BU es N fs nums G B) {k : Nat} {t a b : Tm} {σ β : Nat} (h : ZC es k t a b σ β) : (∀ r ∈ t.rows, r ∈ N) → sg9 t → GBt G B t → σ ≤ (k + 1) * G ∧ β ≤ (k + 1) * B ∧ sg9 a ∧ sg9 b ∧ GBt G B a ∧ GBt G B b ∧ (∀ r ∈ a.rows, r ∈ N) ∧ ∀ r ∈ b.rows, r ∈ N := by
  induction h with
  | @zip t a b h =>
    intro hr h9 hg
    have := hg.le
    obtain ⟨p1, p2⟩ := h9.tail h
    obtain ⟨q1, q2⟩ := hg.tail h
    refine ⟨by omega, by omega, p1, p2, q1, q2, fun r hx => hr r (tailT_rows t r (by rw [h]; simp [Tm.rows, hx])), fun r hx => hr r (tailT_rows t r (by rw [h]; simp [Tm.rows, hx]))⟩
  | @row t a b T s k σ β ht hl hz ih =>
    intro hr h9 hg
    have hs := hr s (tailT_rows t s (by rw [ht]; simp [Tm.rows]))
    obtain ⟨T', e1, e2⟩ := A.fb.cls.at' s hs
    rw [hl] at e1
    cases e1
    obtain ⟨i1, i2, i3⟩ := ih e2 (A.s9 s hs T hl) (A.gb s hs T hl)
    have := hg.le
    have m1 : (k + 1 + 1) * G = (k + 1) * G + G := by rw [Nat.add_mul, Nat.one_mul]
    have m2 : (k + 1 + 1) * B = (k + 1) * B + B := by rw [Nat.add_mul, Nat.one_mul]
    exact ⟨by omega, by omega, i3⟩
theorem ZC.most (A : BU es N fs nums G B) {k : Nat} {t a b : Tm} {σ β : Nat} (h : ZC es k t a b σ β) (hr : ∀ r ∈ t.rows, r ∈ N) (h9 : sg9 t) (hg : GBt G B t) : k ≤ N.length ∧ σ ≤ ThU N G ∧ β ≤ (N.length + 1) * B := by
  obtain ⟨l, h1, h2, h3⟩ := h.few A.fb.cls hr
  have hk : k ≤ N.length := by
    rw [← h1]
    exact nd_le' h2 fun s hs => (h3 s hs).1
  obtain ⟨i1, i2, _⟩ := h.sum A hr h9 hg
  have m1 := Nat.mul_le_mul_right G (show k + 1 ≤ N.length + 1 by omega)
  have m2 := Nat.mul_le_mul_right B (show k + 1 ≤ N.length + 1 by omega)
  exact ⟨hk, by unfold ThU; omega, by omega⟩
/-- what a state means -/
inductive VM (es : Eqs) (N : List (List Nat)) (fs : List D) (G B : Nat) (f : Nat → Option Nat) : VS → Prop
  | rope {u : OW} {d i : Nat} {t : Tm} : FrmAt fs i t → (∀ r ∈ t.rows, r ∈ N) → sg9 t → GBt G B t → u.length ≤ LbU N G → d ≤ DbU N B → (∀ x ∈ u, ∃ k, x = some k ∧ k ≤ 9) → (∀ n, RVl (sgV es) u d t n = f n) → VM es N fs G B f (.rope u d i)
  | wheel {p : OW × OW} : CW p.1 p.2 → (∀ n, wv p.1 p.2 n = f n) → (∃ q, 1 ≤ q ∧ q ≤ ThU N G + 1 ∧ EvP f q (LbU N G + ThU N G)) → (∀ n k, f n = some k → k ≤ 9) → VM es N fs G B f (.wheel p)
end
end Z
namespace Z
open Classical
noncomputable def hfS (b : Nat) (r : OR) : VS := if b = 0 then (show3 r).2.1 else (show3 r).2.2
/-- numbers within the model's bounds -/
structure Sane (N : List (List Nat)) (G B : Nat) : Prop where
  n8 : N.length ≤ 8
  o1 : LbU N G + G + 2 * G * (N.length * (B + 1)) + 2 * G ≤ 1000
  o2 : ThU N G + 1 ≤ 500
  o3 : DbU N B + B + N.length * B ≤ 1000
section
variable {es : Eqs} {N : List (List Nat)} {fs : List D} {nums : List (D × D)} {G B : Nat}
theorem OpenV.det {v : VS} {r r' : OR} (h : OpenV fs nums v r) (h' : OpenV fs nums v r') : r = r' := by
  cases h with
  | rope h1 h2 =>
    cases h' with
    | rope g1 g2 =>
      rw [h1] at g1
      cases g1
      exact h2.det g2
  | wheel p => cases h'; rfl
end
end Z
namespace Z
open Classical
noncomputable def shV (fs : List D) (nums : List (D × D)) (v : VS) : OR := if h : ∃ r, OpenV fs nums v r then h.choose else .wheel ([], [])
noncomputable def hvS (fs : List D) (nums : List (D × D)) (b : Nat) (v : VS) : VS := hfS b (shV fs nums v)
noncomputable def goS (fs : List D) (nums : List (D × D)) : Nat → Nat → VS → VS
  | 0, _, v => v
  | k + 1, r, v => goS fs nums k (r / 2) (hvS fs nums (r % 2) v)
section
variable {es : Eqs} {N : List (List Nat)} {fs : List D} {nums : List (D × D)} {G B : Nat}
theorem go_add : ∀ (a b r q : Nat) (v : VS), r < 2 ^ a → goS fs nums (a + b) (r + 2 ^ a * q) v = goS fs nums b q (goS fs nums a r v)
  | 0, b, r, q, v, h => by
    have : r = 0 := by simpa using h
    subst this
    rw [Nat.zero_add, Nat.pow_zero, Nat.one_mul, Nat.zero_add, goS]
  | a + 1, b, r, q, v, h => by
    rw [Nat.pow_succ] at h
    rw [show a + 1 + b = (a + b) + 1 by omega, goS, goS]
    have e1 : (r + 2 ^ (a + 1) * q) % 2 = r % 2 := by
      rw [Nat.pow_succ, show 2 ^ a * 2 * q = 2 * (2 ^ a * q) by rw [Nat.mul_comm (2 ^ a) 2, Nat.mul_assoc]]
      omega
    have e2 : (r + 2 ^ (a + 1) * q) / 2 = r / 2 + 2 ^ a * q := by
      rw [Nat.pow_succ, show 2 ^ a * 2 * q = 2 * (2 ^ a * q) by rw [Nat.mul_comm (2 ^ a) 2, Nat.mul_assoc]]
      omega
    rw [e1, e2]
    exact go_add a b (r / 2) q _ (by omega)
end
end Z
namespace Z
open Classical
section
variable {es : Eqs} {N : List (List Nat)} {fs : List D} {nums : List (D × D)} {G B : Nat}
def codeN (N : List (List Nat)) (G B K F : Nat) : Nat := 2 ^ K + F * ((LbU N G + DbU N B + 2 ^ K) * (10 * (LbU N G + 1))) + F * ((LbU N G + DbU N B + 2 ^ K) * 11) + F * ((ThU N G + 2) * ((ThU N G + 2) * 11))
theorem FrmAt.lt {i : Nat} {t : Tm} (h : FrmAt fs i t) : i < fs.length := by
  cases h with
  | row h => exact (List.getElem?_eq_some_iff.mp h).1
  | sign h _ => exact (List.getElem?_eq_some_iff.mp h).1
  | beh h _ => exact (List.getElem?_eq_some_iff.mp h).1
  | zip h _ _ => exact (List.getElem?_eq_some_iff.mp h).1
end
end Z
namespace Z
open Classical
section
variable {es : Eqs} {N : List (List Nat)} {fs : List D} {nums : List (D × D)} {G B : Nat}
def RchV (fs : List D) (nums : List (D × D)) (st v : VS) : Prop := ∃ k r, r < 2 ^ k ∧ v = goS fs nums k r st
theorem RchV.next {st v : VS} (h : RchV fs nums st v) {b : Nat} (hb : b < 2) : RchV fs nums st (hvS fs nums b v) := by
  obtain ⟨k, r, hr, rfl⟩ := h
  refine ⟨k + 1, r + 2 ^ k * b, ?_, ?_⟩
  · rw [Nat.pow_succ]
    have : 2 ^ k * b ≤ 2 ^ k * 1 := Nat.mul_le_mul_left _ (by omega)
    omega
  · rw [go_add k 1 r b st hr]
    show _ = goS fs nums 0 (b / 2) (hvS fs nums (b % 2) _)
    rw [goS, Nat.mod_eq_of_lt hb]
end
end Z
namespace Z
open Classical
/-- few names, few signs and behinds in a row: all that a verdict wants -/
structure VBk (es : Eqs) (N : List (List Nat)) (G B K : Nat) : Prop where
  cls : ClsB es N
  nd : (es.map (·.1)).Nodup
  kok : ((es.map kvE).all fun p => kOk p.1) = true
  dep : ∀ e ∈ es, e.2.depth ≤ 24
  sz : sizeL es < 90000
  len : es.length ≤ 1000
  s9 : ∀ s ∈ N, ∀ T, look es s = some T → sg9 T
  gb : ∀ s ∈ N, ∀ T, look es s = some T → GBt G B T
  sane : Sane N G B
  hK : LbU N G + ThU N G ≤ 2 ^ K
  hN : codeN N G B K (sizeL es + 1) ≤ 8000000
section
variable {es : Eqs} {N : List (List Nat)} {G B K : Nat}
theorem VBk.start (V : VBk es N G B K) {name : List Nat} (hN : name ∈ N) : VM es N ((laidL es []).1 ++ [.tup [.str [114, 111, 119], .str name]]) G B (sgV es name) (.rope [] 0 (laidL es []).1.length) := by
  refine .rope (t := .row name) (.row (by simp)) (fun r hr => by simp [Tm.rows] at hr; rw [hr]; exact hN) trivial trivial (by simp) (by simp) (fun x hx => (nomatch hx)) fun n => ?_
  unfold RVl
  rw [if_neg (by simp), TV]
  simp
end
end Z
namespace Z
open Classical
theorem hop_low : ∀ (t : Tm) (n : Nat) (s : List Nat) (m : Nat), hop t n = .inr (s, m) → n + 1 ≤ 2 ^ (t.depth - 1) * (m + 1)
  | .row q, n, s, m, h => by simp [hop] at h; obtain ⟨rfl, rfl⟩ := h; simp [Tm.depth]
  | .sign i t, 0, s, m, h => by simp [hop] at h
  | .sign i t, n + 1, s, m, h => by
    have := hop_low t n s m h
    have hp : 1 ≤ t.depth := by cases t <;> simp [Tm.depth]
    have e : t.depth + 1 - 1 = (t.depth - 1) + 1 := by omega
    rw [Tm.depth, e, Nat.pow_succ]
    have : 2 ^ (t.depth - 1) * 2 * (m + 1) = 2 ^ (t.depth - 1) * (m + 1) + 2 ^ (t.depth - 1) * (m + 1) := by rw [Nat.mul_assoc, Nat.mul_comm 2, ← Nat.mul_assoc]; omega
    omega
  | .beh t, n, s, m, h => by
    have := hop_low t (n + 1) s m h
    have hp : 1 ≤ t.depth := by cases t <;> simp [Tm.depth]
    have e : t.depth + 1 - 1 = (t.depth - 1) + 1 := by omega
    rw [Tm.depth, e, Nat.pow_succ]
    have : 2 ^ (t.depth - 1) * 2 * (m + 1) = 2 ^ (t.depth - 1) * (m + 1) + 2 ^ (t.depth - 1) * (m + 1) := by rw [Nat.mul_assoc, Nat.mul_comm 2, ← Nat.mul_assoc]; omega
    omega
  | .zip a b, n, s, m, h => by
    rw [hop] at h
    have up : ∀ t : Tm, t.depth ≤ max a.depth b.depth → n / 2 + 1 ≤ 2 ^ (t.depth - 1) * (m + 1) → n + 1 ≤ 2 ^ ((Tm.zip a b).depth - 1) * (m + 1) := fun t ht h => by
      have hp : 1 ≤ t.depth := by cases t <;> simp [Tm.depth]
      have e : (Tm.zip a b).depth - 1 = max a.depth b.depth := by simp [Tm.depth]
      rw [e]
      have h1 : 2 ^ ((t.depth - 1) + 1) ≤ 2 ^ max a.depth b.depth := Nat.pow_le_pow_right (by decide) (by omega)
      rw [Nat.pow_succ] at h1
      have h2 := Nat.mul_le_mul_right (m + 1) h1
      have : 2 ^ (t.depth - 1) * 2 * (m + 1) = 2 ^ (t.depth - 1) * (m + 1) + 2 ^ (t.depth - 1) * (m + 1) := by rw [Nat.mul_assoc, Nat.mul_comm 2, ← Nat.mul_assoc]; omega
      omega
    split at h
    · exact up a (by omega) (hop_low a _ s m h)
    · exact up b (by omega) (hop_low b _ s m h)
theorem hop_up : ∀ (t : Tm) (n : Nat) (s : List Nat) (m : Nat), hop t n = .inr (s, m) → m ≤ n + (t.depth - 1) ∧ (zipf t n = true → m ≤ n / 2 + (t.depth - 1))
  | .row q, n, s, m, h => by simp [hop] at h; obtain ⟨rfl, rfl⟩ := h; simp [Tm.depth, zipf]
  | .sign i t, 0, s, m, h => by simp [hop] at h
  | .sign i t, n + 1, s, m, h => by
    have hp : 1 ≤ t.depth := by cases t <;> simp [Tm.depth]
    obtain ⟨h1, h2⟩ := hop_up t n s m h
    exact ⟨by simp only [Tm.depth]; omega, fun z => by have := h2 z; simp only [Tm.depth]; omega⟩
  | .beh t, n, s, m, h => by
    have hp : 1 ≤ t.depth := by cases t <;> simp [Tm.depth]
    obtain ⟨h1, h2⟩ := hop_up t (n + 1) s m h
    exact ⟨by simp only [Tm.depth]; omega, fun z => by have := h2 z; simp only [Tm.depth]; omega⟩
  | .zip a b, n, s, m, h => by
    have ha : 1 ≤ a.depth := by cases a <;> simp [Tm.depth]
    have hb : 1 ≤ b.depth := by cases b <;> simp [Tm.depth]
    rw [hop] at h
    split at h
    · obtain ⟨h1, _⟩ := hop_up a (n / 2) s m h
      exact ⟨by simp only [Tm.depth]; omega, fun z => by simp only [Tm.depth]; omega⟩
    · obtain ⟨h1, _⟩ := hop_up b (n / 2) s m h
      exact ⟨by simp only [Tm.depth]; omega, fun z => by simp only [Tm.depth]; omega⟩
/-- a few names, closed, terms at most four deep -/
structure S4 (es : Eqs) (N : List (List Nat)) : Prop where
  cls : ClsB es N
  n4 : N.length ≤ 4
  dep : ∀ s ∈ N, ∀ T, look es s = some T → T.depth ≤ 4
  nd : N.Nodup
section
variable {es : Eqs} {N : List (List Nat)}
/-- paths of names -/
inductive SP (es : Eqs) (C : List Nat → Prop) : List (List Nat) → List Nat → List Nat → Prop
  | here {s : List Nat} : C s → SP es C [] s s
  | next {l : List (List Nat)} {s s1 s2 : List Nat} {T : Tm} : ¬ C s → s ∉ l → look es s = some T → s1 ∈ T.rows → SP es C l s1 s2 → SP es C (s :: l) s s2
theorem SP.cut {C : List Nat → Prop} {l : List (List Nat)} {a b : List Nat} (h : SP es C l a b) : ∀ {s : List Nat}, s ∈ l → ∃ l', SP es C l' s b := by
  induction h with
  | here _ => intro s hs; cases hs
  | next h1 h2 h3 h4 h5 ih =>
    intro s hs
    rcases List.mem_cons.mp hs with rfl | hs
    · exact ⟨_, .next h1 h2 h3 h4 h5⟩
    · exact ih hs
theorem SP.ok (S : S4 es N) {C : List Nat → Prop} {l : List (List Nat)} {a b : List Nat} (h : SP es C l a b) : a ∈ N → l.Nodup ∧ (∀ s ∈ l, s ∈ N ∧ ¬ C s) ∧ b ∈ N ∧ C b := by
  induction h with
  | here hc => exact fun ha => ⟨List.nodup_nil, fun s hs => (nomatch hs), ha, hc⟩
  | next h1 h2 h3 h4 h5 ih =>
    intro ha
    obtain ⟨T', e1, e2⟩ := S.cls.at' _ ha
    rw [h3] at e1
    cases e1
    obtain ⟨i1, i2, i3, i4⟩ := ih (e2 _ h4)
    refine ⟨List.nodup_cons.mpr ⟨h2, i1⟩, fun s hs => ?_, i3, i4⟩
    rcases List.mem_cons.mp hs with rfl | hs
    · exact ⟨ha, h1⟩
    · exact i2 s hs
/-- the walk goes on -/
theorem free_next (S : S4 es N) {c : Call} (hc : c.1 ∈ N) (hf : ∀ j r, ¬ EndIn es j c r) : ∃ (T : Tm) (d : Call), look es c.1 = some T ∧ hop T c.2 = .inr d ∧ nx es c = .inr d ∧ d.1 ∈ N ∧ (∀ j r, ¬ EndIn es j d r) ∧ d.2 ≤ c.2 + 3 ∧ (zipf T c.2 = true → d.2 ≤ c.2 / 2 + 3) ∧ c.2 + 1 ≤ 8 * (d.2 + 1) := by
  obtain ⟨T, hT, hr⟩ := S.cls.at' _ hc
  have hd := S.dep _ hc T hT
  cases hh : hop T c.2 with
  | inl i =>
    exfalso
    refine hf 0 (.sign i) ?_
    rw [EndIn]
    unfold nx
    rw [hT]
    dsimp only
    rw [hh]
  | inr d =>
    have hn := nx_of (es := es) (c := c) hT hh
    obtain ⟨h1, h2, h3⟩ := hop_le T c.2 d.1 d.2 hh
    have h4 := hop_low T c.2 d.1 d.2 hh
    have h8 : 2 ^ (T.depth - 1) ≤ 8 := by
      have := Nat.pow_le_pow_right (show 0 < 2 by decide) (show T.depth - 1 ≤ 3 by omega)
      exact this
    have h9 := Nat.mul_le_mul_right (d.2 + 1) h8
    have h5 : d.2 ≤ c.2 + (T.depth - 1) ∧ (zipf T c.2 = true → d.2 ≤ c.2 / 2 + (T.depth - 1)) := hop_up T c.2 d.1 d.2 hh
    exact ⟨T, d, hT, hh, hn, hr _ h1, fun j r g => hf (j + 1) r ⟨d, hn, g⟩, by omega, fun z => by have := h5.2 z; omega, by omega⟩
end
end Z
namespace Z
open Classical
noncomputable def nxc (es : Eqs) (c : Call) : Call := match nx es c with | .inr d => d | .inl _ => c
noncomputable def wS (es : Eqs) (c : Call) : Nat → Call
  | 0 => c
  | j + 1 => nxc es (wS es c j)
def zq (es : Eqs) (c : Call) : Bool := match look es c.1 with | some T => zipf T c.2 | none => false
section
variable {es : Eqs} {N : List (List Nat)}
structure FW (es : Eqs) (N : List (List Nat)) (c : Call) : Prop where
  mem : c.1 ∈ N
  free : ∀ j r, ¬ EndIn es j c r
theorem FW.at (S : S4 es N) {c : Call} (h : FW es N c) : ∀ j, FW es N (wS es c j) ∧ nx es (wS es c j) = .inr (wS es c (j + 1))
  | 0 => by
    obtain ⟨T, d, h1, h2, h3, h4, h5, _⟩ := free_next S h.mem h.free
    exact ⟨h, by show nx es c = .inr (nxc es c); unfold nxc; rw [h3]⟩
  | j + 1 => by
    obtain ⟨i1, i2⟩ := h.at S j
    obtain ⟨T, d, h1, h2, h3, h4, h5, _⟩ := free_next S i1.mem i1.free
    have e : wS es c (j + 1) = d := by
      rw [h3] at i2
      injection i2 with i2
      exact i2.symm
    have hf : FW es N (wS es c (j + 1)) := by rw [e]; exact ⟨h4, h5⟩
    obtain ⟨T', d', g1, g2, g3, g4, g5, _⟩ := free_next S hf.mem hf.free
    exact ⟨hf, by show nx es (wS es c (j + 1)) = .inr (nxc es (wS es c (j + 1))); unfold nxc; rw [g3]⟩
theorem FW.step (S : S4 es N) {c : Call} (h : FW es N c) (j : Nat) : ∃ T, look es (wS es c j).1 = some T ∧ hop T (wS es c j).2 = .inr (wS es c (j + 1)) ∧ (wS es c (j + 1)).2 ≤ (wS es c j).2 + 3 ∧ (zq es (wS es c j) = true → (wS es c (j + 1)).2 ≤ (wS es c j).2 / 2 + 3) ∧ (wS es c j).2 + 1 ≤ 8 * ((wS es c (j + 1)).2 + 1) := by
  obtain ⟨i1, i2⟩ := h.at S j
  obtain ⟨T, d, h1, h2, h3, h4, h5, h6, h7, h8⟩ := free_next S i1.mem i1.free
  rw [h3] at i2
  injection i2 with i2
  subst i2
  refine ⟨T, h1, h2, h6, fun z => h7 ?_, h8⟩
  unfold zq at z
  rw [h1] at z
  exact z
theorem FW.rch (S : S4 es N) {c : Call} (h : FW es N c) : ∀ j, Rch es j c (wS es c j)
  | 0 => rfl
  | j + 1 => (h.rch S j).snoc (h.at S j).2
/-- within a segment no name twice, up to K -/
def NoA (es : Eqs) (c : Call) (K : Nat) : Prop := ∀ b a, b < a → a ≤ K → (∀ j, b ≤ j → j < a → zq es (wS es c j) = false) → (wS es c b).1 ≠ (wS es c a).1
theorem NoA.zip (S : S4 es N) {c : Call} (h : FW es N c) {K : Nat} (hA : NoA es c K) {j : Nat} (hj : j + 4 ≤ K) : ∃ i, j ≤ i ∧ i < j + 4 ∧ zq es (wS es c i) = true := by
  by_cases hx : ∃ i, j ≤ i ∧ i < j + 4 ∧ zq es (wS es c i) = true
  · exact hx
  · exfalso
    have hz : ∀ i, j ≤ i → i < j + 4 → zq es (wS es c i) = false := fun i h1 h2 => by
      cases hq : zq es (wS es c i) with
      | false => rfl
      | true => exact absurd ⟨i, h1, h2, hq⟩ hx
    obtain ⟨i1, i2, h1, h2, e⟩ := two_same (L := N) (fun i => (wS es c (j + min i 4)).1) (fun i _ => (h.at S _).1.mem)
    have := S.n4
    exact hA (j + min i1 4) (j + min i2 4) (by omega) (by omega) (fun i g1 g2 => hz i (by omega) (by omega)) e
theorem NoA.fall (S : S4 es N) {c : Call} (h : FW es N c) {K : Nat} (hA : NoA es c K) {j : Nat} (hj : j + 4 ≤ K) : (wS es c (j + 4)).2 ≤ (wS es c j).2 / 2 + 12 := by
  obtain ⟨i, h1, h2, h3⟩ := hA.zip S h hj
  have st : ∀ x y, y = x + 1 → (wS es c y).2 ≤ (wS es c x).2 + 3 ∧ (zq es (wS es c x) = true → (wS es c y).2 ≤ (wS es c x).2 / 2 + 3) := fun x y e => by
    subst e
    obtain ⟨_, _, _, a, b, _⟩ := h.step S x
    exact ⟨a, b⟩
  obtain ⟨a0, b0⟩ := st j (j + 1) rfl
  obtain ⟨a1, b1⟩ := st (j + 1) (j + 2) rfl
  obtain ⟨a2, b2⟩ := st (j + 2) (j + 3) rfl
  obtain ⟨a3, b3⟩ := st (j + 3) (j + 4) rfl
  have hi : i = j ∨ i = j + 1 ∨ i = j + 2 ∨ i = j + 3 := by omega
  rcases hi with rfl | rfl | rfl | rfl
  · have := b0 h3; omega
  · have := b1 h3; omega
  · have := b2 h3; omega
  · have := b3 h3; omega
theorem NoA.low (S : S4 es N) {c : Call} (h : FW es N c) {K X : Nat} (hA : NoA es c K) (hX : c.2 ≤ 2 ^ X) : ∀ i, 4 * i ≤ K → (wS es c (4 * i)).2 ≤ 24 + 2 ^ (X - i)
  | 0, _ => by
    show c.2 ≤ _
    rw [Nat.sub_zero]
    omega
  | i + 1, hi => by
    have ih := hA.low S h hX i (by omega)
    have hf := hA.fall S h (j := 4 * i) (by omega)
    rw [show 4 * (i + 1) = 4 * i + 4 by omega]
    by_cases c : i < X
    · have e : X - i = (X - (i + 1)) + 1 := by omega
      rw [e, Nat.pow_succ] at ih
      omega
    · have e : X - i = 0 := by omega
      have e2 : X - (i + 1) = 0 := by omega
      rw [e] at ih
      rw [e2]
      omega
theorem NoA.small (S : S4 es N) {c : Call} (h : FW es N c) {K X : Nat} (hA : NoA es c K) (hX : c.2 ≤ 2 ^ X) {j : Nat} (h1 : 4 * X ≤ j) (h2 : j ≤ K) : (wS es c j).2 ≤ 34 := by
  have hl := hA.low S h hX (j / 4) (by omega)
  have e : X - j / 4 = 0 := by omega
  rw [e] at hl
  have st : ∀ x y, y = x + 1 → (wS es c y).2 ≤ (wS es c x).2 + 3 := fun x y e => by
    subst e
    obtain ⟨_, _, _, a, b, _⟩ := h.step S x
    exact a
  have a0 := st (4 * (j / 4)) (4 * (j / 4) + 1) rfl
  have a1 := st (4 * (j / 4) + 1) (4 * (j / 4) + 2) rfl
  have a2 := st (4 * (j / 4) + 2) (4 * (j / 4) + 3) rfl
  have hi : j = 4 * (j / 4) ∨ j = 4 * (j / 4) + 1 ∨ j = 4 * (j / 4) + 2 ∨ j = 4 * (j / 4) + 3 := by omega
  have fin : ∀ y, j = y → (wS es c y).2 ≤ 34 → (wS es c j).2 ≤ 34 := fun y e h => by rw [e]; exact h
  rcases hi with e | e | e | e
  · exact fin _ e (by omega)
  · exact fin _ e (by omega)
  · exact fin _ e (by omega)
  · exact fin _ e (by omega)
theorem NoA.count (S : S4 es N) {c : Call} (h : FW es N c) {K X : Nat} (hA : NoA es c (K - 1)) (hX : c.2 ≤ 2 ^ X) (hnd : ((List.range K).map (wS es c)).Nodup) : K ≤ 4 * X + 140 := by
  by_cases c0 : K ≤ 4 * X
  · omega
  · have hsub : ((List.range (K - 4 * X)).map fun j => wS es c (4 * X + j)).Nodup := by
      have e : (List.range K).map (wS es c) = (List.range (4 * X)).map (wS es c) ++ (List.range (K - 4 * X)).map fun j => wS es c (4 * X + j) := by
        have h1 : K = 4 * X + (K - 4 * X) := by omega
        conv => lhs; rw [h1, List.range_add, List.map_append, List.map_map]
        rfl
      rw [e, List.nodup_append] at hnd
      exact hnd.2.1
    have := few_calls N 35 _ hsub fun x hx => by
      obtain ⟨j, hj, rfl⟩ := List.mem_map.mp hx
      have hj := List.mem_range.mp hj
      have := hA.small S h hX (j := 4 * X + j) (by omega) (by omega)
      exact ⟨(h.at S _).1.mem, by omega⟩
    have n4 := S.n4
    have : N.length * 35 ≤ 4 * 35 := Nat.mul_le_mul_right _ n4
    simp at *
    omega
end
end Z
namespace Z
open Classical
section
variable (m : List Q) (ks : List Nat) (nm : Nat → List Nat) (k0' : Nat)
def tmM (k : Nat) : Tm := .sign (stq m k).s (.beh (.zip (.row (nm (stq m k).e)) (.row (nm (stq m k).o))))
def esM : Eqs := ks.map fun k => (nm k, tmM m nm k)
end
section
variable {m : List Q} {ks : List Nat} {nm : Nat → List Nat} {k0' : Nat}
/-- all states of the machine are told, each once -/
structure Told77 (m : List Q) (ks : List Nat) (nm : Nat → List Nat) : Prop where
  M : Mach m
  nd : ks.Nodup
  lt : ∀ k ∈ ks, k < m.length
  all : ∀ k, k < m.length → k ∈ ks
  names : (ks.map nm).Nodup
  few : m.length ≤ 8
theorem Told77.len (h : Told77 m ks nm) : ks.length = m.length := by
  have h1 := nat_nodup_len m.length ks h.nd h.lt
  have h2 := nodup_len (P := List.range m.length) (L := ks) List.nodup_range (fun k hk => h.all k (List.mem_range.mp hk))
  simp at h2
  omega
end
end Z
namespace Z
open Classical
structure CT (S : Store) (r d : Nat) (es : Eqs) : Prop where
  gr : S[r]? = some (.ins "Coming" [("terms", .ref d)])
  td : TD S d es
theorem CT.keep {S S' : Store} {r d : Nat} {es : Eqs} (h : CT S r d es) (k : Keep S S') : CT S' r d es := ⟨k.get h.gr, h.td.keep k⟩
end Z
namespace Z
open Classical
section
variable {S : Store} {r d : Nat} {es : Eqs} {names : List (List Nat)}
theorem CB.ct (h : CB S r d es) : CT S r d es := ⟨h.gr, .inl h.gd⟩
/-- all names have their equations -/
def AllT (names : List (List Nat)) (es : Eqs) : Prop := ∀ s ∈ names, (look es s).isSome = true
end
end Z
namespace Z
open Classical
theorem sp_kp {S S' : Store} {p c : Nat} (h : Sp S p c) (k : Keep S S') : Sp S' p c := by
  obtain ⟨s, h⟩ := h
  exact ⟨s, ⟨h.ne, k.get h.hp, k.get h.hc, h.ok⟩⟩
def nmF (names : List (List Nat)) (k : Nat) : List Nat := names.getD k []
structure TL (T : Store) (p c ln r d lf : Nat) (m : List Q) (names : List (List Nat)) (ks vs : List Nat) : Prop where
  sp : Sp T p c
  gn : T[ln]? = some (.lst (names.map .str))
  cb : CB T r d (esM m ks (nmF names))
  gl : T[lf]? = some (.lst (natD vs))
  nd : (ks ++ vs).Nodup
  mem : ∀ k, k ∈ ks ++ vs ↔ k < m.length
  n1 : ln ≠ p ∧ ln ≠ c ∧ ln ≠ d ∧ ln ≠ lf
  n2 : r ≠ p ∧ r ≠ c ∧ r ≠ lf
  n3 : d ≠ p ∧ d ≠ c ∧ d ≠ lf
  n4 : lf ≠ p ∧ lf ≠ c
structure Nms (m : List Q) (names : List (List Nat)) : Prop where
  M : Mach m
  few : m.length ≤ 8
  l8 : names.length = 8
  ok : ∀ s ∈ names, IsNm s
  nd : names.Nodup
section
variable {T : Store} {p c ln r d lf : Nat} {m : List Q} {names : List (List Nat)} {ks vs : List Nat}
theorem Nms.at (N : Nms m names) {k : Nat} (hk : k < m.length) : names[k]? = some (nmF names k) := by
  have h1 := N.l8
  have h2 := N.few
  unfold nmF
  rw [List.getD_eq_getElem?_getD, List.getElem?_eq_getElem (by omega)]
  rfl
theorem Nms.mem (N : Nms m names) {k : Nat} (hk : k < m.length) : nmF names k ∈ names := List.mem_of_getElem? (N.at hk)
theorem Nms.inj (N : Nms m names) {k j : Nat} (hk : k < m.length) (hj : j < m.length) (e : nmF names k = nmF names j) : k = j := nodup_ix N.nd (by rw [N.at hk, e]) (N.at hj)
theorem TL.lt (L : TL T p c ln r d lf m names ks vs) : ∀ k ∈ ks, k < m.length := fun k hk => (L.mem k).mp (List.mem_append_left _ hk)
theorem TL.count (L : TL T p c ln r d lf m names ks vs) : ks.length + vs.length = m.length := by
  have h1 := nodup_len L.nd (L := List.range m.length) (fun k hk => List.mem_range.mpr ((L.mem k).mp hk))
  have h2 := nodup_len (P := List.range m.length) (L := ks ++ vs) List.nodup_range (fun k hk => (L.mem k).mpr (List.mem_range.mp hk))
  simp at h1 h2
  omega
theorem TL.keep (L : TL T p c ln r d lf m names ks vs) {T' : Store} (k : Keep T T') : TL T' p c ln r d lf m names ks vs := ⟨sp_kp L.sp k, k.get L.gn, L.cb.keep k, k.get L.gl, L.nd, L.mem, L.n1, L.n2, L.n3, L.n4⟩
theorem TL.fr (L : TL T p c ln r d lf m names ks vs) {T' : Store} (f : Fr p c T T') (hs : Sp T' p c) : TL T' p c ln r d lf m names ks vs := by
  have g : ∀ {i : Nat} {o : MO}, T[i]? = some o → i ≠ p → i ≠ c → T'[i]? = some o := fun {i o} h a b => by
    rw [f.old i (List.getElem?_eq_some_iff.mp h).1 a b]
    exact h
  exact ⟨hs, g L.gn L.n1.1 L.n1.2.1, ⟨g L.cb.gr L.n2.1 L.n2.2.1, g L.cb.gd L.n3.1 L.n3.2.1⟩, g L.gl L.n4.1 L.n4.2, L.nd, L.mem, L.n1, L.n2, L.n3, L.n4⟩
end
end Z
namespace Z
structure FI (S : Store) (p c r d dt q : Nat) (es : Eqs) : Prop where
  sp : Sp S p c
  cb : CB S r d es
  td : S[dt]? = some (.dkl (es.map kvE))
  gq : S[q]? = some (.lst (es.map ent))
  qp : q ≠ p
  qc : q ≠ c
theorem FI.fr {S S' : Store} {p c r d dt q : Nat} {es : Eqs} (h : FI S p c r d dt q es) (f : Fr p c S S') (s : Sp S' p c) : FI S' p c r d dt q es := by
  obtain ⟨⟨xs, hp⟩, ⟨ys, hc⟩⟩ := sp_lst h.sp
  have nl : ∀ {i : Nat} {o : MO}, S[i]? = some o → (∀ zs, o ≠ .lst zs) → S'[i]? = some o := fun {i o} g hn => by
    rw [f.old i (List.getElem?_eq_some_iff.mp g).1 (fun e => by subst e; rw [hp] at g; cases g; exact hn _ rfl) (fun e => by subst e; rw [hc] at g; cases g; exact hn _ rfl)]
    exact g
  exact ⟨s, ⟨nl h.cb.gr (fun _ e => by cases e), nl h.cb.gd (fun _ e => by cases e)⟩, nl h.td (fun _ e => by cases e), by rw [f.old q (List.getElem?_eq_some_iff.mp h.gq).1 h.qp h.qc]; exact h.gq, h.qp, h.qc⟩
theorem FI.keep {S S' : Store} {p c r d dt q : Nat} {es : Eqs} (h : FI S p c r d dt q es) (k : Keep S S') : FI S' p c r d dt q es := h.fr (keep_fr k) (keep_sp2 h.sp k)
end Z
namespace Z
theorem at_last {α : Type} (xs : List α) (x : α) : atI (xs ++ [x]) (-1) = some x := by
  unfold atI ixN
  have e : ((-1 : Int) + ((xs ++ [x]).length : Nat)).toNat = xs.length := by simp; omega
  rw [if_neg (by decide), if_pos (by simp; omega), e]
  simp
end Z
namespace Z
/-- the lows tell of each call made -/
def Told (C : List Call) (L : Lows) : Prop := ∀ x ∈ C, ∃ v, L x.1 = some v ∧ v ≤ x.2
def lowB (L : Lows) (c : Call) : Bool := match L c.1 with | some v => decide (v ≤ c.2) | none => false
theorem Told.set {C : List Call} {L : Lows} (h : Told C L) {c : Call} (hl : lowB L c = false) : Told (C ++ [c]) (wSet L c) := by
  intro x hx
  unfold wSet
  by_cases e : x.1 = c.1
  · rw [if_pos e]
    refine ⟨c.2, rfl, ?_⟩
    rcases List.mem_append.mp hx with hx | hx
    · obtain ⟨v, h1, h2⟩ := h x hx
      unfold lowB at hl
      rw [← e, h1] at hl
      simp at hl
      omega
    · simp at hx; subst hx; exact Nat.le_refl _
  · rw [if_neg e]
    rcases List.mem_append.mp hx with hx | hx
    · exact h x hx
    · simp at hx; subst hx; exact absurd rfl e
end Z
namespace Z
theorem In.rw {names : List (List Nat)} : ∀ {t : Tm}, t.In names → t.Rw names
  | .row s, h => rw_row h
  | .sign i t, h => fun x hx => In.rw (t := t) h.2 x hx
  | .beh t, h => fun x hx => In.rw (t := t) h x hx
  | .zip a b, h => rw_zip (In.rw h.1) (In.rw h.2)
theorem hop_sign {names : List (List Nat)} {i : Nat} : ∀ {t : Tm} {n : Nat}, t.In names → hop t n = .inl i → i < 10
  | .row s, n, _, h => by simp [hop] at h
  | .sign j t, 0, hi, h => by simp [hop] at h; subst h; exact hi.1
  | .sign j t, n + 1, hi, h => hop_sign (t := t) (n := n) hi.2 h
  | .beh t, n, hi, h => hop_sign (t := t) (n := n + 1) hi h
  | .zip a b, n, hi, h => by
    rw [hop] at h
    split at h
    · exact hop_sign hi.1 h
    · exact hop_sign hi.2 h
end Z
namespace Z
theorem look_mono {es fs : Eqs} {s : List Nat} {t : Tm} (h : look es s = some t) : look (es ++ fs) s = some t := by rw [look_app, h]; rfl
theorem EndIn.mono {es fs : Eqs} {i : Nat} : ∀ {k : Nat} {c : Call}, EndIn es k c (.sign i) → EndIn (es ++ fs) k c (.sign i)
  | 0, c, h => by
    have h : nx es c = .inl (.sign i) := h
    show nx (es ++ fs) c = .inl (.sign i)
    unfold nx at h ⊢
    cases e : look es c.1 with
    | none => rw [e] at h; cases h
    | some t => rw [e] at h; rw [look_mono e]; exact h
  | k + 1, c, h => by
    obtain ⟨d, h1, h2⟩ := h
    refine ⟨d, ?_, h2.mono⟩
    unfold nx at h1 ⊢
    cases e : look es c.1 with
    | none => rw [e] at h1; cases h1
    | some t => rw [e] at h1; rw [look_mono e]; exact h1
theorem EndIn.waits {es : Eqs} {s : List Nat} : ∀ {k : Nat} {c : Call}, EndIn es k c (.waits s) → s ∉ es.map (·.1)
  | 0, c, h => by
    have h : nx es c = .inl (.waits s) := h
    unfold nx at h
    cases e : look es c.1 with
    | none =>
      rw [e] at h
      cases h
      exact look_none.mp e
    | some t =>
      rw [e] at h
      dsimp only at h
      cases hh : hop t c.2 with
      | inl i => rw [hh] at h; cases h
      | inr d => rw [hh] at h; cases h
  | k + 1, c, h => by
    obtain ⟨d, _, h2⟩ := h
    exact h2.waits
end Z
namespace Z
open Classical
theorem in_sg9 {ns : List (List Nat)} : ∀ {t : Tm}, t.In ns → sg9 t ∧ ∀ r ∈ t.rows, r ∈ ns
  | .row s, h => ⟨trivial, fun r hr => by simp [Tm.rows] at hr; rw [hr]; exact h⟩
  | .sign i t, h => by
    obtain ⟨h1, h2⟩ := in_sg9 (t := t) h.2
    have hi : i < 10 := h.1
    exact ⟨⟨by omega, h1⟩, h2⟩
  | .beh t, h => in_sg9 (t := t) h
  | .zip a b, h => by
    obtain ⟨a1, a2⟩ := in_sg9 (t := a) h.1
    obtain ⟨b1, b2⟩ := in_sg9 (t := b) h.2
    exact ⟨⟨a1, b1⟩, fun r hr => by
      rcases List.mem_append.mp hr with hr | hr
      · exact a2 r hr
      · exact b2 r hr⟩
/-- told equations: names unlike, terms of them -/
structure Bk4 (es : Eqs) : Prop where
  nd : (es.map (·.1)).Nodup
  inn : ∀ e ∈ es, e.2.In (es.map (·.1))
  dep : ∀ e ∈ es, e.2.depth ≤ 4
  nm : ∀ e ∈ es, IsNm e.1
section
variable {es : Eqs}
theorem Bk4.cls (b : Bk4 es) : ClsB es (es.map (·.1)) := ⟨fun s hs => by
  obtain ⟨t, ht⟩ := look_some hs
  exact ⟨t, ht, (in_sg9 (b.inn _ (look_mem ht))).2⟩⟩
theorem Bk4.all (es : Eqs) : AllT (es.map (·.1)) es := fun s hs => by
  obtain ⟨t, ht⟩ := look_some hs
  rw [ht]
  rfl
end
end Z
namespace Z
open Classical
inductive RchN (es : Eqs) (s : List Nat) : List Nat → Prop
  | self : RchN es s s
  | go {x y : List Nat} {t : Tm} : RchN es s x → look es x = some t → y ∈ t.rows → RchN es s y
/-- all that it leads to is told -/
def Rdy (es : Eqs) (s : List Nat) : Prop := ∀ x, RchN es s x → x ∈ es.map (·.1)
theorem RchN.trans {es : Eqs} {s x y : List Nat} (h : RchN es s x) (g : RchN es x y) : RchN es s y := by
  induction g with
  | self => exact h
  | go _ h1 h2 ih => exact .go ih h1 h2
theorem Rdy.to {es : Eqs} {s x : List Nat} (h : Rdy es s) (g : RchN es s x) : Rdy es x := fun y hy => h y (g.trans hy)
theorem Rdy.told {es : Eqs} {s : List Nat} (h : Rdy es s) : s ∈ es.map (·.1) := h s .self
theorem RchN.cls {es : Eqs} {N : List (List Nat)} (C : ClsB es N) {s x : List Nat} (h : RchN es s x) (hs : s ∈ N) : x ∈ N := by
  induction h with
  | self => exact hs
  | go _ h1 h2 ih =>
    obtain ⟨T, h3, h4⟩ := C.at' _ ih
    rw [h1] at h3
    cases h3
    exact h4 _ h2
theorem ClsB.rdy {es : Eqs} {N : List (List Nat)} (C : ClsB es N) {s : List Nat} (hs : s ∈ N) : Rdy es s := fun x hx => by
  obtain ⟨T, h, _⟩ := C.at' _ (hx.cls C hs)
  exact List.mem_map.mpr ⟨_, look_mem h, rfl⟩
/-- what a ready name leads to -/
noncomputable def rdN (es : Eqs) (s : List Nat) : List (List Nat) := (es.map (·.1)).filter fun x => decide (RchN es s x)
theorem rdN_mem {es : Eqs} {s x : List Nat} : x ∈ rdN es s ↔ x ∈ es.map (·.1) ∧ RchN es s x := by
  unfold rdN
  rw [List.mem_filter]
  simp
theorem Rdy.cls {es : Eqs} {s : List Nat} (h : Rdy es s) : ClsB es (rdN es s) := ⟨fun x hx => by
  obtain ⟨h1, h2⟩ := rdN_mem.mp hx
  obtain ⟨t, ht⟩ := look_some h1
  exact ⟨t, ht, fun r hr => rdN_mem.mpr ⟨h r (.go h2 ht hr), .go h2 ht hr⟩⟩⟩
theorem Rdy.mem {es : Eqs} {s : List Nat} (h : Rdy es s) : s ∈ rdN es s := rdN_mem.mpr ⟨h.told, .self⟩
end Z
namespace Z
open Classical
theorem kFr {p c : Nat} {S S' : Store} (k : Keep S S') : Fr p c S S' := ⟨k.1, fun i h _ _ => k.2 i h⟩
theorem kSp {S S' : Store} {p c : Nat} (hs : Sp S p c) (k : Keep S S') : Sp S' p c := by
  obtain ⟨s, h⟩ := hs
  exact ⟨s, h.ne, k.get h.hp, k.get h.hc, h.ok⟩
theorem Fr.at {p c : Nat} {S S' : Store} (f : Fr p c S S') {i : Nat} {o : MO} (h : S[i]? = some o) (h1 : i ≠ p) (h2 : i ≠ c) : S'[i]? = some o := by
  rw [f.old i (List.getElem?_eq_some_iff.mp h).1 h1 h2]
  exact h
theorem CB.fr {p c : Nat} {S S' : Store} {r d : Nat} {es : Eqs} (h : CB S r d es) (f : Fr p c S S') (h1 : r ≠ p) (h2 : r ≠ c) (h3 : d ≠ p) (h4 : d ≠ c) : CB S' r d es := ⟨f.at h.gr h1 h2, f.at h.gd h3 h4⟩
end Z
namespace Z
def putW (names : List (List Nat)) (st : List Tm) (w : List Nat) : Option (List Tm) :=
  if w ∈ names then some (.row w :: st)
  else if w = wBeh then (match st with | t :: r => some (.beh t :: r) | [] => none)
  else if w = wZip then (match st with | a :: b :: r => some (.zip a b :: r) | _ => none)
  else match w with
    | [k] => (match st with | t :: r => some (.sign (k - 48) t :: r) | [] => none)
    | _ => none
theorem dec1 {i : Nat} (h : i < 10) : dec i = [48 + i] := by
  match i, h with
  | 0, _ | 1, _ | 2, _ | 3, _ | 4, _ | 5, _ | 6, _ | 7, _ | 8, _ | 9, _ => decide
theorem nm_not {names : List (List Nat)} (hn : ∀ s ∈ names, IsNm s) : wBeh ∉ names ∧ wZip ∉ names ∧ ∀ i : Nat, i < 10 → dec i ∉ names := by
  refine ⟨fun h => (hn _ h).nb rfl, fun h => (hn _ h).nz rfl, fun i hi h => ?_⟩
  rw [dec1 hi] at h
  have := (hn _ h).az (48 + i) (by simp)
  revert this
  simp
  omega
/-- all words, one behind the other -/
def loopW (names : List (List Nat)) : List Tm → List (List Nat) → Option (List Tm)
  | st, [] => some st
  | st, w :: r => match putW names st w with
    | some st' => loopW names st' r
    | none => none
theorem loopW_app (names : List (List Nat)) : ∀ (a b : List (List Nat)) (st : List Tm), loopW names st (a ++ b) = (loopW names st a).bind fun st' => loopW names st' b
  | [], b, st => rfl
  | w :: a, b, st => by
    rw [List.cons_append, loopW, loopW]
    cases putW names st w with
    | none => rfl
    | some st' => exact loopW_app names a b st'
theorem loop_tm {names : List (List Nat)} (hn : ∀ s ∈ names, IsNm s) : ∀ (t : Tm) (st : List Tm), t.In names → loopW names st t.words.reverse = some (t :: st)
  | .row s, st, h => by
    have h : s ∈ names := h
    simp [Tm.words, loopW, putW, h]
  | .sign i t, st, h => by
    have ih := loop_tm hn t st h.2
    have h1 := (nm_not hn).2.2 i h.1
    have hk := dec1 h.1
    rw [hk] at h1
    rw [Tm.words, List.reverse_cons, loopW_app, ih, hk]
    simp [loopW, putW, h1]
  | .beh t, st, h => by
    have ih := loop_tm hn t st h
    have h1 := (nm_not hn).1
    rw [Tm.words, List.reverse_cons, loopW_app, ih]
    simp [loopW, putW, h1]
  | .zip a b, st, h => by
    have ih := loop_tm hn b st h.2
    have ih2 := loop_tm hn a (b :: st) h.1
    have h1 := (nm_not hn).2.1
    rw [Tm.words, List.reverse_cons, List.reverse_append, List.append_assoc, loopW_app, ih]
    show (loopW names (b :: st) (a.words.reverse ++ [wZip])) = _
    rw [loopW_app, ih2]
    simp [loopW, putW, h1]
/-- do the words write terms, wanted many of them? -/
def gd (names : List (List Nat)) : Nat → List (List Nat) → Bool
  | w, [] => decide (w = 0)
  | 0, _ :: _ => false
  | w + 1, x :: r => if x = wZip then gd names (w + 2) r else if x ∈ names then gd names w r else gd names (w + 1) r
end Z
namespace Z
def nmsOf (ws : List (List Nat)) : List (List Nat) := ws.filter nmB
theorem nmsOf_nm {ws : List (List Nat)} : ∀ s ∈ nmsOf ws, IsNm s := fun s h => is_nmB (List.mem_filter.mp h).2
theorem rows_words : ∀ (t : Tm), ∀ s ∈ t.rows, s ∈ t.words
  | .row s, x, h => by simpa [Tm.rows, Tm.words] using h
  | .sign i t, x, h => by rw [Tm.words]; exact List.mem_cons_of_mem _ (rows_words t x h)
  | .beh t, x, h => by rw [Tm.words]; exact List.mem_cons_of_mem _ (rows_words t x h)
  | .zip a b, x, h => by
    rw [Tm.words]
    rcases List.mem_append.mp (show x ∈ a.rows ++ b.rows from h) with h | h
    · exact List.mem_cons_of_mem _ (List.mem_append_left _ (rows_words a x h))
    · exact List.mem_cons_of_mem _ (List.mem_append_right _ (rows_words b x h))
/-- the term that words write -/
def Writes (ws : List (List Nat)) (t : Tm) : Prop := TmOk t ∧ t.words = ws
theorem Writes.in {ws : List (List Nat)} {t : Tm} (h : Writes ws t) : t.In (nmsOf ws) := h.1.inn.mono fun s hs => List.mem_filter.mpr ⟨by rw [← h.2]; exact rows_words t s hs, nmB_is (h.1.ok s hs)⟩
theorem Writes.loop {ws : List (List Nat)} {t : Tm} (h : Writes ws t) : loopW (nmsOf ws) [] ws.reverse = some [t] := by
  have := loop_tm (nmsOf_nm (ws := ws)) t [] h.in
  rw [h.2] at this
  exact this
theorem Writes.inj {ws : List (List Nat)} {t u : Tm} (h : Writes ws t) (g : Writes ws u) : t = u := by
  have := h.loop.symm.trans g.loop
  simpa using this
open Classical in
noncomputable def rdT (ws : List (List Nat)) : D := if h : ∃ t, Writes ws t ∧ t.size ≤ 20 ∧ t.depth ≤ 10 then h.choose.d else .non
end Z
namespace Z
abbrev rw_ (row : List Nat) : List (List Nat) := splitA 32 [] row
def rowB (row : List Nat) : Bool := decide (3 ≤ (rw_ row).length) && decide ((rw_ row)[1]? = some [61])
noncomputable def rowE (row : List Nat) : D := .tup [.str ((rw_ row).headD []), rdT ((rw_ row).drop 2)]
end Z
namespace Z
structure DB (S : Store) (k r d : Nat) (es : Eqs) : Prop where
  gk : S[k]? = some (.ins "Desk" [("coming", .ref r)])
  cb : CB S r d es
theorem DB.keep {S S' : Store} {k r d : Nat} {es : Eqs} (h : DB S k r d es) (q : Keep S S') : DB S' k r d es := ⟨q.get h.gk, h.cb.keep q⟩
end Z
namespace Z
structure Eok (es : Eqs) : Prop where
  tb : Tb es
  ok : ∀ e ∈ es, TmOk e.2
  nm : ∀ e ∈ es, IsNm e.1
  sz : ∀ e ∈ es, e.2.size ≤ 20 ∧ e.2.depth ≤ 10
theorem end_sign {es : Eqs} (h : ∀ e ∈ es, TmOk e.2) {i : Nat} : ∀ {k : Nat} {c : Call}, EndIn es k c (.sign i) → i < 10
  | 0, c, g => by
    have g : nx es c = .inl (.sign i) := g
    unfold nx at g
    cases e : look es c.1 with
    | none => rw [e] at g; cases g
    | some t =>
      rw [e] at g
      dsimp only at g
      cases hh : hop t c.2 with
      | inl j =>
        rw [hh] at g
        cases g
        exact hop_sign (h _ (look_mem e)).inn hh
      | inr d => rw [hh] at g; cases g
  | k + 1, c, g => by
    obtain ⟨d, _, g2⟩ := g
    exact end_sign h g2
theorem end_nm {es : Eqs} (h : ∀ e ∈ es, TmOk e.2) {s : List Nat} : ∀ {k : Nat} {c : Call}, IsNm c.1 → EndIn es k c (.waits s) → IsNm s
  | 0, c, hc, g => by
    have g : nx es c = .inl (.waits s) := g
    unfold nx at g
    cases e : look es c.1 with
    | none => rw [e] at g; cases g; exact hc
    | some t =>
      rw [e] at g
      dsimp only at g
      cases hh : hop t c.2 with
      | inl j => rw [hh] at g; cases g
      | inr d => rw [hh] at g; cases g
  | k + 1, c, hc, g => by
    obtain ⟨d, g1, g2⟩ := g
    refine end_nm h ?_ g2
    unfold nx at g1
    cases e : look es c.1 with
    | none => rw [e] at g1; cases g1
    | some t =>
      rw [e] at g1
      dsimp only at g1
      cases hh : hop t c.2 with
      | inl j => rw [hh] at g1; cases g1
      | inr d' =>
        rw [hh] at g1
        cases g1
        exact (h _ (look_mem e)).ok _ (hop_le t c.2 d.1 d.2 hh).1
theorem spec9 {es : Eqs} {c : Call} {r : Wr} (h : wres es c = some r) : ∃ k, EndIn es k c r := by
  unfold wres at h
  by_cases hx : ∃ r k, EndIn es k c r
  · rw [dif_pos hx] at h
    injection h with h
    rw [← h]
    exact hx.choose_spec
  · rw [dif_neg hx] at h
    cases h
theorem Eok.sign {es : Eqs} (h : Eok es) {c : Call} : ∀ i, wres es c = some (.sign i) → i < 10 := fun i e => by
  obtain ⟨k, hk⟩ := spec9 e
  exact end_sign h.ok hk
theorem Eok.waits {es : Eqs} (h : Eok es) {c : Call} (hc : IsNm c.1) : ∀ s, wres es c = some (.waits s) → s.length ≤ 8 := fun s e => by
  obtain ⟨k, hk⟩ := spec9 e
  exact (end_nm h.ok hc hk).l8
end Z
namespace Z
theorem sq_rt9 {a b : SS} {ρ : Env} {S S1 : Store} {d : D} (h : a ρ S = some (.rt d S1)) : sq a b ρ S = some (.rt d S1) := by unfold sq; rw [h]
/-- a row that may be taken -/
def RowTo (row : List Nat) (ns : List (List Nat)) (e : List Nat × Tm) : Prop := rowB row = true ∧ rowE row = ent e ∧ Eqn e ∧ e.1 ∉ ns
/-- the rows that may be taken, one after the other -/
inductive RowsTo : List (List Nat) → List (List Nat × Tm) → List (List Nat × Tm) → Prop
  | nil {es : List (List Nat × Tm)} : RowsTo [] es es
  | cons {row : List Nat} {rows : List (List Nat)} {es fs : List (List Nat × Tm)} {e : List Nat × Tm} (h : RowTo row (es.map (·.1)) e) (t : RowsTo rows (es ++ [e]) fs) : RowsTo (row :: rows) es fs
theorem RowsTo.of : ∀ {rows : List (List Nat)} {es fs : List (List Nat × Tm)}, rows.all rowB = true → rows.map rowE = fs.map ent → ((es ++ fs).map (·.1)).Nodup → (∀ e ∈ fs, Eqn e) → RowsTo rows es (es ++ fs)
  | [], es, fs, _, h, _, _ => by
    cases fs with
    | nil => rw [List.append_nil]; exact .nil
    | cons f fs => cases h
  | row :: rows, es, fs, h1, h2, h3, h4 => by
    cases fs with
    | nil => cases h2
    | cons f fs =>
      rw [List.map_cons, List.map_cons] at h2
      obtain ⟨q1, q2⟩ := List.cons.inj h2
      rw [List.all_cons, Bool.and_eq_true] at h1
      have := RowsTo.of (es := es ++ [f]) h1.2 q2 (by simpa using h3) (fun e he => h4 e (List.mem_cons_of_mem _ he))
      rw [List.append_assoc] at this
      refine .cons ⟨h1.1, q1, h4 f (by simp), fun hm => ?_⟩ this
      rw [List.map_append, List.nodup_append] at h3
      exact h3.2.2 _ hm f.1 (by simp) rfl
end Z
namespace Z
def mx (f : Nat → Nat) : Nat → List Nat → Nat
  | cur, [] => cur
  | cur, c :: r => if c = 10 then max cur (mx f 0 r) else mx f (cur + f c) r
theorem mx_cur (f : Nat → Nat) : ∀ (r : List Nat) (cur : Nat), cur ≤ mx f cur r
  | [], cur => Nat.le_refl _
  | c :: r, cur => by
    rw [mx]
    split
    · omega
    · have := mx_cur f r (cur + f c); omega
theorem mx_mono (f : Nat → Nat) : ∀ (r : List Nat) (a b : Nat), a ≤ b → mx f a r ≤ mx f b r
  | [], a, b, h => h
  | c :: r, a, b, h => by
    rw [mx, mx]
    split
    · omega
    · exact mx_mono f r _ _ (by omega)
theorem mx_add (f : Nat → Nat) : ∀ (r : List Nat) (a d : Nat), mx f (a + d) r ≤ mx f a r + d
  | [], a, d => Nat.le_refl _
  | c :: r, a, d => by
    rw [mx, mx]
    split
    · omega
    · have := mx_add f r (a + f c) d
      rw [show a + d + f c = a + f c + d by omega]
      exact this
theorem mx_put (f : Nat → Nat) (c : Nat) : ∀ (a b : List Nat) (cur : Nat), mx f cur (a ++ c :: b) ≤ mx f cur (a ++ b) + (if c = 10 then 0 else f c)
  | [], b, cur => by
    rw [List.nil_append, List.nil_append, mx]
    split
    · have := mx_cur f b cur
      have := mx_mono f b 0 cur (by omega)
      omega
    · exact mx_add f b cur (f c)
  | x :: a, b, cur => by
    rw [List.cons_append, List.cons_append, mx, mx]
    split
    · have := mx_put f c a b 0
      omega
    · exact mx_put f c a b _
def fL : Nat → Nat := fun _ => 1
def fS : Nat → Nat := fun c => if c = 32 then 1 else 0
theorem fS_le (c : Nat) : fS c ≤ 1 := by unfold fS; split <;> omega
/-- rows of such lengths, of so many words -/
structure MxOk (n a b : Nat) (text : List Nat) : Prop where
  len : text.length ≤ n
  row : mx fL 0 text ≤ a
  sp : mx fS 0 text ≤ b
theorem MxOk.put {n a b : Nat} {x y : List Nat} (h : MxOk n a b (x ++ y)) (c : Nat) : MxOk (n + 1) (a + 1) (b + 1) (x ++ [c] ++ y) := by
  rw [List.append_assoc, List.singleton_append]
  refine ⟨by have := h.len; simp at this ⊢; omega, ?_, ?_⟩
  · have := mx_put fL c x y 0
    have := h.row
    have : (if c = 10 then 0 else fL c) ≤ 1 := by split; omega; exact Nat.le_refl _
    omega
  · have := mx_put fS c x y 0
    have := h.sp
    have : (if c = 10 then 0 else fS c) ≤ 1 := by
      split
      · omega
      · exact fS_le c
    omega
theorem MxOk.le {n a b n' a' b' : Nat} {text : List Nat} (h : MxOk n a b text) (h1 : n ≤ n') (h2 : a ≤ a') (h3 : b ≤ b') : MxOk n' a' b' text := ⟨by have := h.len; omega, by have := h.row; omega, by have := h.sp; omega⟩
/-- a row within such bounds -/
structure RwB (a b : Nat) (row : List Nat) : Prop where
  len : row.length ≤ a
  sp : (row.map fS).sum ≤ b
theorem RwB.le {a b a' b' : Nat} {row : List Nat} (h : RwB a b row) (h2 : a ≤ a') (h3 : b ≤ b') : RwB a' b' row := ⟨by have := h.len; omega, by have := h.sp; omega⟩
theorem sum_app (f : Nat → Nat) (x y : List Nat) : ((x ++ y).map f).sum = (x.map f).sum + (y.map f).sum := by simp
theorem join_sp : ∀ ws : List (List Nat), (∀ w ∈ ws, (w.map fS).sum ≤ 0) → ((joinS [32] ws).map fS).sum ≤ ws.length - 1
  | [], _ => by simp [joinS]
  | [x], h => by have := h x (by simp); rw [joinS]; simp at this ⊢; exact this
  | x :: y :: r, h => by
    have ih := join_sp (y :: r) fun w hw => h w (List.mem_cons_of_mem _ hw)
    have hx := h x (by simp)
    rw [joinS, sum_app, sum_app]
    have h32 : (([32] : List Nat).map fS).sum = 1 := by decide
    rw [List.length_cons, List.length_cons] at *
    omega
end Z
namespace Z
def Bnt (T : Store) (p c : Nat) (o : Option Out) : Prop := ∃ text S', o = some (.rt (.str text) S') ∧ MxOk 20000 700 38 text ∧ Sp S' p c ∧ Fr p c T S'
structure BE (T : Store) (p c l : Nat) (rows : List (List Nat)) : Prop where
  sp : Sp T p c
  g : T[l]? = some (.lst (rows.map .str))
  np : l ≠ p
  nc : l ≠ c
  rw : ∀ row ∈ rows, RwB 400 33 row
  few : rows.length ≤ 8
theorem BE.fr {T T' : Store} {p c l : Nat} {rows : List (List Nat)} (h : BE T p c l rows) (f : Fr p c T T') (s : Sp T' p c) : BE T' p c l rows := ⟨s, by rw [f.old l (List.getElem?_eq_some_iff.mp h.g).1 h.np h.nc]; exact h.g, h.np, h.nc, h.rw, h.few⟩
end Z
namespace Z
section
variable {T : Store} {p c l : Nat} {rows : List (List Nat)} {a s : Nat}
theorem MxOk.beg {n a b : Nat} {x : List Nat} (h : MxOk n a b x) (ch : Nat) : MxOk (n + 1) (a + 1) (b + 1) ([ch] ++ x) := by
  have := MxOk.put (x := []) (y := x) h ch
  exact this
theorem Bnt.sq {A B : SS} {ρ : Env} (h : Bnt T p c (A ρ T)) : Bnt T p c (sq A B ρ T) := by
  obtain ⟨t, S', a, b⟩ := h
  exact ⟨t, S', sq_rt9 a, b⟩
theorem skip {k : Int} {w : Nat} {A : SS} (h : ¬ (w : Int) = k) {ρ : Env} (g : ρ[2]? = some (some (.int (w : Nat)))) : sIf (tVal (e2 eqD (eVar 2) (eC (.int k)))) A sNx ρ T = some (.nx ρ T) := by
  simp [g, h]
end
end Z
namespace Z
structure WdOk (w : List Nat) : Prop where
  len : w.length ≤ 9
  sp : (w.map fS).sum ≤ 0
theorem join_wd {ws : List (List Nat)} (h : ∀ w ∈ ws, WdOk w) {k : Nat} (hl : ws.length ≤ k) : RwB (10 * k) (k - 1) (joinS [32] ws) := by
  have h1 := joinS_len [32] ws
  have h2 := sum_le (f := List.length) (k := 9) ws fun w hw => (h w hw).len
  have h3 := join_sp ws fun w hw => (h w hw).sp
  simp at h1
  have h4 : (ws.map List.length).sum ≤ ws.length * 9 := h2
  exact ⟨by omega, by omega⟩
def TxO (ws : List (List Nat)) (text : List Nat) : Prop := RwB 450 36 text ∨ text = joinS [32] ws ++ [32] ++ joinS [32] ws
def Bnw (T : Store) (p c : Nat) (ws : List (List Nat)) (o : Option Out) : Prop := ∃ text S', o = some (.rt (.str text) S') ∧ TxO ws text ∧ Sp S' p c ∧ Fr p c T S'
theorem Bnw.sq {T : Store} {p c : Nat} {ws : List (List Nat)} {A B : SS} {ρ : Env} (h : Bnw T p c ws (A ρ T)) : Bnw T p c ws (sq A B ρ T) := by
  obtain ⟨t, S', a, b⟩ := h
  exact ⟨t, S', sq_rt9 a, b⟩
theorem Bnw.join {T T' : Store} {p c : Nat} {ws xs : List (List Nat)} {o : Option Out} (h : o = some (.rt (.str (joinS [32] xs)) T')) (hx : ∀ w ∈ xs, WdOk w) (hl : xs.length ≤ 36) (hs : Sp T' p c) (f : Fr p c T T') : Bnw T p c ws o :=
  ⟨_, T', h, .inl ((join_wd hx hl).le (by decide) (by decide)), hs, f⟩
structure BW (T : Store) (p c l : Nat) (ws : List (List Nat)) : Prop where
  sp : Sp T p c
  g : T[l]? = some (.lst (ws.map .str))
  np : l ≠ p
  nc : l ≠ c
  wd : ∀ w ∈ ws, WdOk w
  few : ws.length ≤ 31
  pos : 0 < ws.length
theorem BW.fr {T T' : Store} {p c l : Nat} {ws : List (List Nat)} (h : BW T p c l ws) (f : Fr p c T T') (s : Sp T' p c) : BW T' p c l ws := ⟨s, by rw [f.old l (List.getElem?_eq_some_iff.mp h.g).1 h.np h.nc]; exact h.g, h.np, h.nc, h.wd, h.few, h.pos⟩
end Z
namespace Z
open Classical
section
variable {K : Nat} {row : Nat → Nat → Nat} {e o : Nat → Nat}
def AgK (row : Nat → Nat → Nat) (k x y : Nat) : Prop := ∀ n, n < 2 ^ k → row x n = row y n
theorem AgK.symm {k x y : Nat} (h : AgK row k x y) : AgK row k y x := fun n hn => (h n hn).symm
theorem AgK.trans {k x y z : Nat} (h : AgK row k x y) (g : AgK row k y z) : AgK row k x z := fun n hn => (h n hn).trans (g n hn)
theorem AgK.less {k j x y : Nat} (h : AgK row k x y) (hj : j ≤ k) : AgK row j x y := fun n hn => h n (Nat.lt_of_lt_of_le hn (Nat.pow_le_pow_right (by decide) hj))
noncomputable def repsK (K : Nat) (row : Nat → Nat → Nat) (k : Nat) : List Nat := (List.range K).filter fun i => decide (∀ j, j < i → ¬ AgK row k j i)
theorem repsK_mem {k i : Nat} : i ∈ repsK K row k ↔ i < K ∧ ∀ j, j < i → ¬ AgK row k j i := by
  unfold repsK
  rw [List.mem_filter, List.mem_range, decide_eq_true_eq]
theorem rep_of (k : Nat) {x : Nat} (h : x < K) : ∃ i, i ∈ repsK K row k ∧ AgK row k i x ∧ i ≤ x := by
  induction x using Nat.strongRecOn with
  | _ x ih =>
    by_cases c : ∀ j, j < x → ¬ AgK row k j x
    · exact ⟨x, repsK_mem.mpr ⟨h, c⟩, fun _ _ => rfl, Nat.le_refl _⟩
    · have : ∃ j, j < x ∧ AgK row k j x := by
        apply Classical.byContradiction
        intro hc
        exact c fun j hj ha => hc ⟨j, hj, ha⟩
      obtain ⟨j, hj, ha⟩ := this
      obtain ⟨i, h1, h2, h3⟩ := ih j hj (by omega)
      exact ⟨i, h1, h2.trans ha, by omega⟩
theorem filt_lt9 {α : Type} {p q : α → Bool} : ∀ {l : List α}, (∀ x ∈ l, p x = true → q x = true) → (∃ x ∈ l, p x = false ∧ q x = true) → (l.filter p).length < (l.filter q).length
  | [], _, h => by obtain ⟨x, hx, _⟩ := h; cases hx
  | a :: l, h1, h2 => by
    have hle : ∀ l : List α, (∀ x ∈ l, p x = true → q x = true) → (l.filter p).length ≤ (l.filter q).length := fun l => by
      induction l with
      | nil => intro _; simp
      | cons a l ih =>
        intro h
        have := ih fun x hx => h x (List.mem_cons_of_mem _ hx)
        have ha := h a (by simp)
        cases hp : p a with
        | true => rw [List.filter_cons, List.filter_cons, hp, ha hp]; simpa using this
        | false =>
          cases hq : q a with
          | true => rw [List.filter_cons, List.filter_cons, hp, hq]; simp; omega
          | false => rw [List.filter_cons, List.filter_cons, hp, hq]; simpa using this
    have hl := hle l fun x hx => h1 x (List.mem_cons_of_mem _ hx)
    obtain ⟨x, hx, hp, hq⟩ := h2
    rcases List.mem_cons.mp hx with rfl | hx
    · rw [List.filter_cons, List.filter_cons, hp, hq]
      simp
      omega
    · have ih := filt_lt9 (fun x hx => h1 x (List.mem_cons_of_mem _ hx)) ⟨x, hx, hp, hq⟩
      have ha := h1 a (by simp)
      cases hpa : p a with
      | true => rw [List.filter_cons, List.filter_cons, hpa, ha hpa]; simpa using ih
      | false =>
        cases hqa : q a with
        | true => rw [List.filter_cons, List.filter_cons, hpa, hqa]; simp; omega
        | false => rw [List.filter_cons, List.filter_cons, hpa, hqa]; simpa using ih
theorem repsK_lt {k x y : Nat} (hx : x < K) (hy : y < K) (h : AgK row k x y) (hn : ¬ AgK row (k + 1) x y) : (repsK K row k).length < (repsK K row (k + 1)).length := by
  unfold repsK
  refine filt_lt9 (fun i _ hp => ?_) ?_
  · rw [decide_eq_true_eq] at hp ⊢
    exact fun j hj ha => hp j hj (ha.less (by omega))
  · obtain ⟨a, ha1, ha2, _⟩ := rep_of (k + 1) (row := row) hx
    obtain ⟨b, hb1, hb2, _⟩ := rep_of (k + 1) (row := row) hy
    have hab : AgK row k a b := (ha2.less (by omega)).trans (h.trans (hb2.less (by omega)).symm)
    have hne : a ≠ b := fun e => hn (ha2.symm.trans (by rw [e]; exact hb2))
    obtain ⟨aK, a3⟩ := repsK_mem.mp ha1
    obtain ⟨bK, b3⟩ := repsK_mem.mp hb1
    rcases Nat.lt_or_ge a b with c | c
    · exact ⟨b, List.mem_range.mpr bK, decide_eq_false fun hh => hh a c hab, decide_eq_true b3⟩
    · exact ⟨a, List.mem_range.mpr aK, decide_eq_false fun hh => hh b (by omega) hab.symm, decide_eq_true a3⟩
theorem ag_next (hev : ∀ i, i < K → ∀ n, row i (2 * n) = row (e i) n) (hod : ∀ i, i < K → ∀ n, row i (2 * n + 1) = row (o i) n) {k x y : Nat} (hx : x < K) (hy : y < K) : AgK row (k + 1) x y ↔ AgK row k (e x) (e y) ∧ AgK row k (o x) (o y) := by
  constructor
  · intro h
    have hp : 2 ^ (k + 1) = 2 * 2 ^ k := by rw [Nat.pow_succ]; omega
    refine ⟨fun n hn => ?_, fun n hn => ?_⟩
    · rw [← hev x hx, ← hev y hy]
      exact h _ (by omega)
    · rw [← hod x hx, ← hod y hy]
      exact h _ (by omega)
  · rintro ⟨h1, h2⟩ n hn
    have hp : 2 ^ (k + 1) = 2 * 2 ^ k := by rw [Nat.pow_succ]; omega
    rcases Nat.mod_two_eq_zero_or_one n with c | c
    · have : n = 2 * (n / 2) := by omega
      rw [this, hev x hx, hev y hy]
      exact h1 _ (by omega)
    · have : n = 2 * (n / 2) + 1 := by omega
      rw [this, hod x hx, hod y hy]
      exact h2 _ (by omega)
theorem ag_stay (hev : ∀ i, i < K → ∀ n, row i (2 * n) = row (e i) n) (hod : ∀ i, i < K → ∀ n, row i (2 * n + 1) = row (o i) n) (he : ∀ i, i < K → e i < K) (ho : ∀ i, i < K → o i < K) {k : Nat} (hs : ∀ x y, x < K → y < K → AgK row k x y → AgK row (k + 1) x y) : ∀ (j x y : Nat), x < K → y < K → AgK row k x y → AgK row (k + j) x y
  | 0, x, y, hx, hy, h => h
  | j + 1, x, y, hx, hy, h => by
    have h2 := (ag_next hev hod hx hy).mp (hs x y hx hy h)
    have h3 := ag_stay hev hod he ho hs j _ _ (he x hx) (he y hy) h2.1
    have h4 := ag_stay hev hod he ho hs j _ _ (ho x hx) (ho y hy) h2.2
    exact (ag_next hev hod hx hy).mpr ⟨h3, h4⟩
/-- two rows that part do so below 2 ^ K -/
theorem part_early (hev : ∀ i, i < K → ∀ n, row i (2 * n) = row (e i) n) (hod : ∀ i, i < K → ∀ n, row i (2 * n + 1) = row (o i) n) (he : ∀ i, i < K → e i < K) (ho : ∀ i, i < K → o i < K) {x y : Nat} (hx : x < K) (hy : y < K) {n : Nat} (hn : row x n ≠ row y n) : ∃ m, m < 2 ^ K ∧ row x m ≠ row y m := by
  have hex : ∃ k, k ≤ K ∧ ∀ x y, x < K → y < K → AgK row k x y → AgK row (k + 1) x y := by
    apply Classical.byContradiction
    intro hc
    have hlt : ∀ k, k ≤ K → (repsK K row k).length < (repsK K row (k + 1)).length := fun k hk => by
      have : ∃ x y, x < K ∧ y < K ∧ AgK row k x y ∧ ¬ AgK row (k + 1) x y := by
        apply Classical.byContradiction
        intro h
        exact hc ⟨k, hk, fun x y hx hy ha => Classical.byContradiction fun hb => h ⟨x, y, hx, hy, ha, hb⟩⟩
      obtain ⟨x, y, hx, hy, ha, hb⟩ := this
      exact repsK_lt hx hy ha hb
    have hge : ∀ k, k ≤ K + 1 → k ≤ (repsK K row k).length := fun k => by
      induction k with
      | zero => intro _; omega
      | succ k ih =>
        intro hk
        have := ih (by omega)
        have := hlt k (by omega)
        omega
    have h1 := hge (K + 1) (by omega)
    have h2 : (repsK K row (K + 1)).length ≤ K := by
      unfold repsK
      exact Nat.le_trans (List.length_filter_le _ _) (by simp)
    omega
  obtain ⟨k, hk, hs⟩ := hex
  have hna : ¬ AgK row k x y := fun ha => by
    have := ag_stay hev hod he ho hs n x y hx hy ha
    exact hn (this n (Nat.lt_of_lt_of_le Nat.lt_two_pow_self (Nat.pow_le_pow_right (by decide) (by omega))))
  have : ∃ m, m < 2 ^ k ∧ row x m ≠ row y m := by
    apply Classical.byContradiction
    intro h
    exact hna fun m hm => Classical.byContradiction fun hc => h ⟨m, hm, hc⟩
  obtain ⟨m, hm, hd⟩ := this
  exact ⟨m, Nat.lt_of_lt_of_le hm (Nat.pow_le_pow_right (by decide) hk), hd⟩
end
theorem Mach.bd9 {m : List Q} (M : Mach m) {s : Nat} (h : s < m.length) : (stq m s).e < m.length ∧ (stq m s).o < m.length := ⟨M.he _ (Mach.mem h), M.ho _ (Mach.mem h)⟩
theorem part_machines {M N : List Q} (hM : Mach M) (hN : Mach N) {i j : Nat} (hi : i < M.length) (hj : j < N.length) {n : Nat} (hn : sgn M i n ≠ sgn N j n) (hlt : ∀ k, k < n → sgn M i k = sgn N j k) : n < 2 ^ (M.length + N.length) := by
  obtain ⟨m, h1, h2⟩ := part_early (K := M.length + N.length) (row := fun i n => if i < M.length then sgn M i n else sgn N (i - M.length) n)
    (e := fun i => if i < M.length then (stq M i).e else M.length + (stq N (i - M.length)).e) (o := fun i => if i < M.length then (stq M i).o else M.length + (stq N (i - M.length)).o)
    (fun i h n => by
      by_cases c : i < M.length
      · have hb := (hM.bd9 c).1
        rw [if_pos c, if_pos c, if_pos hb, sgn_even hM c]
      · have hb := (hN.bd9 (s := i - M.length) (by omega)).1
        rw [if_neg c, if_neg c, if_neg (by omega), sgn_even hN (by omega), Nat.add_sub_cancel_left])
    (fun i h n => by
      by_cases c : i < M.length
      · have hb := (hM.bd9 c).2
        rw [if_pos c, if_pos c, if_pos hb, sgn_odd]
      · have hb := (hN.bd9 (s := i - M.length) (by omega)).2
        rw [if_neg c, if_neg c, if_neg (by omega), sgn_odd, Nat.add_sub_cancel_left])
    (fun i h => by
      by_cases c : i < M.length
      · have hb := (hM.bd9 c).1
        rw [if_pos c]; omega
      · have hb := (hN.bd9 (s := i - M.length) (by omega)).1
        rw [if_neg c]; omega)
    (fun i h => by
      by_cases c : i < M.length
      · have hb := (hM.bd9 c).2
        rw [if_pos c]; omega
      · have hb := (hN.bd9 (s := i - M.length) (by omega)).2
        rw [if_neg c]; omega)
    (x := i) (y := M.length + j) (by omega) (by omega) (n := n) (by
      rw [if_pos hi, if_neg (by omega), Nat.add_sub_cancel_left]
      exact hn)
  rw [if_pos hi, if_neg (by omega), Nat.add_sub_cancel_left] at h2
  rcases Nat.lt_or_ge m n with c | c
  · exact absurd (hlt m c) h2
  · omega
end Z
namespace Z
open Classical
/-- all stands but what lies at r -/
structure Kx (r : Nat) (S S' : Store) : Prop where
  le : S.length ≤ S'.length
  old : ∀ i, i < S.length → i ≠ r → S'[i]? = S[i]?
theorem Kx.refl {r : Nat} {S : Store} : Kx r S S := ⟨Nat.le_refl _, fun _ _ _ => rfl⟩
theorem Kx.trans {r : Nat} {S S' S'' : Store} (a : Kx r S S') (b : Kx r S' S'') : Kx r S S'' := ⟨Nat.le_trans a.le b.le, fun i h1 h2 => by rw [b.old i (Nat.lt_of_lt_of_le h1 a.le) h2, a.old i h1 h2]⟩
section
variable {S S1 S2 S3 : Store} {k r d : Nat} {es : Eqs} {U : List (List Nat)} {ρ : Env}
theorem t5 : (10:Int) ^ (5:Int).toNat = 100000 := by decide
theorem mod_e {A B : SE} {a b : Nat} (hA : A ρ S = some (.ok (.int (a : Nat)) S1)) (hB : B ρ S1 = some (.ok (.int (b : Nat)) S2)) (h : 0 < b) : e2 modD A B ρ S = some (.ok (.int ((a % b : Nat) : Int)) S2) := by
  have hb : (0 : Int) < (b : Int) := by omega
  rw [x_2, hA, bd_ok, hB, bd_ok]
  show (if (0 : Int) < (b : Int) then some (Res.ok (D.int ((a : Int) % (b : Int))) S2) else none) = _
  rw [if_pos hb, Int.natCast_emod]
theorem evc {e : SE} {r : List SE} {v : D} {vs : List D} (h : e ρ S = some (.ok v S1)) (h2 : evL r ρ S1 = some (.ok vs S2)) : evL (e :: r) ρ S = some (.ok (v :: vs) S2) := by
  rw [x_cons, h, bd_ok, h2]
  rfl
end
end Z
namespace Z
open Classical
/-- the names kept of a list: those whose rows are all in it -/
noncomputable def keepR (es : Eqs) (good : List (List Nat)) : List (List Nat) := good.filter fun s => decide (∃ t, look es s = some t ∧ ∀ x ∈ t.rows, x ∈ good)
structure GdR (es : Eqs) (good : List (List Nat)) : Prop where
  sub : good.Sublist (es.map (·.1))
  rdy : ∀ s, Rdy es s → s ∈ good
theorem GdR.start (es : Eqs) : GdR es (es.map (·.1)) := ⟨List.Sublist.refl _, fun s h => h.told⟩
theorem rdy_rows {es : Eqs} {s : List Nat} {t : Tm} (h : Rdy es s) (ht : look es s = some t) : ∀ x ∈ t.rows, Rdy es x := fun x hx => h.to (.go .self ht hx)
theorem GdR.next {es : Eqs} {good : List (List Nat)} (h : GdR es good) : GdR es (keepR es good) := ⟨List.filter_sublist.trans h.sub, fun s hs => by
  obtain ⟨t, ht⟩ := look_some hs.told
  exact List.mem_filter.mpr ⟨h.rdy s hs, decide_eq_true ⟨t, ht, fun x hx => h.rdy x (rdy_rows hs ht x hx)⟩⟩⟩
end Z
namespace Z
open Classical
theorem asg_e9 {e : SE} {v : D} {i : Nat} {ρ : Env} {S S1 : Store} (h : e ρ S = some (.ok v S1)) : sAsg e (gName i) ρ S = some (.nx (ρ.set i (some v)) S1) := by
  rw [x_asg, h]
  rfl
end Z
namespace Z
open Classical
def unQ : D → D × D
  | .tup [u, v] => (u, v)
  | _ => (.non, .non)
theorem unQ_p (p : D × D) : unQ (prD p) = p := rfl
def feQ (op : D → NQ) (d : D) : D := prD (ndE op (unQ d))
def foQ (op : D → NQ) (d : D) : D := prD (ndO op (unQ d))
def mkQ (op : D → NQ) (d : D) : Prop := (op (unQ d).1).s ≠ (op (unQ d).2).s
/-- the row of a state -/
def rwD (op : D → NQ) (u : D) (n : Nat) : Nat := if h : n = 0 then (op u).s else rwD op (if n % 2 = 0 then (op u).e else (op u).o) (n / 2)
termination_by n
decreasing_by omega
theorem rwD0 (op : D → NQ) (u : D) : rwD op u 0 = (op u).s := by rw [rwD]; simp
theorem rwD1 (op : D → NQ) (u : D) {n : Nat} (h : n ≠ 0) : rwD op u n = rwD op (if n % 2 = 0 then (op u).e else (op u).o) (n / 2) := by
  rw [rwD]
  rw [dif_neg h]
theorem mwQ {op : D → NQ} : ∀ (n : Nat) (p : D × D), MW (mkQ op) (feQ op) (foQ op) (prD p) n ↔ rwD op p.1 n ≠ rwD op p.2 n := by
  intro n
  induction n using Nat.strongRecOn with
  | _ n ih =>
    intro p
    by_cases h0 : n = 0
    · subst h0
      rw [MW0, rwD0, rwD0]
      exact Iff.rfl
    · rw [MW1 _ h0, rwD1 _ _ h0, rwD1 _ _ h0]
      by_cases c : n % 2 = 0
      · rw [if_pos c, if_pos c, if_pos c]
        exact ih (n / 2) (by omega) (ndE op p)
      · rw [if_neg c, if_neg c, if_neg c]
        exact ih (n / 2) (by omega) (ndO op p)
section
variable {us A B : List D} {op : D → NQ} {f : Nat} {a b : D}
theorem ngQ (W : PWk us op A B) {row : List (D × D)} (R : RwQ op A B a b row row.length) : NG (row.map prD) (mkQ op) (feQ op) (foQ op) := by
  have hcl : ∀ p ∈ row, ndE op p ∈ row ∧ ndO op p ∈ row := fun p hp => by
    obtain ⟨i, hi⟩ := List.getElem?_of_mem hp
    exact R.cl i p (List.getElem?_eq_some_iff.mp hi).1 hi
  have hl := prod_len R.nd R.sub
  have hf := W.few
  refine ⟨?_, fun u hu => ?_, fun u hu => ?_, fun u hu => ?_, fun u hu => ?_, by rw [List.length_map]; omega⟩
  · rw [List.Nodup, List.pairwise_map]
    exact List.Pairwise.imp (fun h e => h (prD_inj e)) R.nd
  · obtain ⟨p, hp, rfl⟩ := List.mem_map.mp hu
    exact W.pk _ (R.sub p hp).1 _ (R.sub p hp).2
  · obtain ⟨p, hp, rfl⟩ := List.mem_map.mp hu
    exact List.mem_map.mpr ⟨_, (hcl p hp).1, rfl⟩
  · obtain ⟨p, hp, rfl⟩ := List.mem_map.mp hu
    exact List.mem_map.mpr ⟨_, (hcl p hp).2, rfl⟩
  · obtain ⟨p, hp, rfl⟩ := List.mem_map.mp hu
    show (op p.1).s ≠ (op p.2).s ↔ (op (op p.1).e).s ≠ (op (op p.2).e).s
    rw [W.s _ (W.a _ (R.sub p hp).1).1, W.s _ (W.b _ (R.sub p hp).2).1]
theorem st_get {S : Store} {ρ : Env} {m : SE} {u : D} (gf : DA S f true (grD (guG op us))) (hu : u ∈ us) (hk : nkOk u = true) (h0 : eVar 0 ρ S = some (.ok (.ref f) S)) (hi : m ρ S = some (.ok u S)) : e2 nGet (eVar 0) m ρ S = some (.ok (op u).d S) :=
  ev_nget (md := eVar 0) (mk := m) gf hk h0 hi (v := (op u).d) (by
    rw [show grD (guG op us) = (guG op us).map fun e => (e.1, e.2.d) from rfl, dget_map (fun w : NQ => w.d), guG_get hu]; rfl)
abbrev eP12 (f r c : Nat) (a b : D) (ch : Bool) (p : D × D) (x8 x9 x10 x11 : Option D) : Env := [some (.ref f), some a, some b, some (.ref r), some (.ref c), some (.bl ch), some p.1, some p.2, x8, x9, x10, x11]
theorem nget1 {S : Store} {n : Nat} {kvs : List (D × D)} {ρ : Env} {md mk : SE} {k : D} (h : DA S n true kvs) (hk : nkOk k = true) (e1 : md ρ S = some (.ok (.ref n) S)) (e2' : mk ρ S = some (.ok k S)) : eNGet1 md mk ρ S = some (.ok ((dget kvs k).getD .non) S) := by
  have hn : nkAt S (.ref n) = some kvs := by
    have := h.2
    rw [if_pos rfl] at this
    simp [nkAt, this]
  unfold eNGet1
  rw [e1, bd_ok]
  simp only [hn]
  rw [e2', bd_ok]
  simp only [hn, hk, if_true]
/-- one half of one pair -/
theorem pt_half (W : PWk us op A B) {row : List (D × D)} (R : RwQ op A B a b row row.length) {r c : Nat} {l : List (D × Nat)} {p : D × D} {ch : Bool} {S : Store} (k : Nat) (hk : k = 1 ∨ k = 2) (gf : DA S f true (grD (guG op us))) (hks : ∀ q ∈ l.map (·.1), nkOk q = true) (hp : p ∈ row) (hc : S[c]? = some (.nk (enM l))) (hl : l.length < 16000000) {t : D} (ht : t = if k = 1 then feQ op (prD p) else foQ op (prD p)) {x9 x10 x11 : Option D} :
    ∃ S2 l2 ch2 y9 y10, lb_law_parts_1 (eP12 f r c a b ch p (some (.int (k : Nat))) x9 x10 x11) S = some (.nx (eP12 f r c a b ch2 p (some (.int (k : Nat))) y9 y10 x11) S2) ∧ S2[c]? = some (.nk (enM l2)) ∧ S2.length = S.length ∧ (∀ j, j ≠ c → S2[j]? = S[j]?) ∧
      ((l2 = l ∧ ch2 = ch ∧ (∀ v, lk9 l t = some v → ∃ u, lk9 l (prD p) = some u ∧ u ≤ 2 * v + (k - 1))) ∨ (∃ v, lk9 l t = some v ∧ l2 = ud9 l (prD p) (2 * v + (k - 1)) ∧ ch2 = true ∧ ∀ u, lk9 l (prD p) = some u → 2 * v + (k - 1) < u)) := by
  have hd := enM_da hks hc
  have hcl := hd.lt
  have hpm := R.sub p hp
  have ha := W.a _ hpm.1
  have hb := W.b _ hpm.2
  have hkey : nkOk (prD p) = true := W.pk _ hpm.1 _ hpm.2
  obtain ⟨ρ, hρ⟩ : ∃ ρ : Option D → Option D → Env, ρ = fun x9 x10 => eP12 f r c a b ch p (some (.int (k : Nat))) x9 x10 x11 := ⟨_, rfl⟩
  have g6 := st_get (ρ := ρ x9 x10) (m := eVar 6) gf ha.1 (W.key _ ha.1) (by rw [hρ]; rfl) (by rw [hρ]; rfl)
  have g7 := st_get (ρ := ρ x9 x10) (m := eVar 7) gf hb.1 (W.key _ hb.1) (by rw [hρ]; rfl) (by rw [hρ]; rfl)
  have v8 : ∀ y z T, eVar 8 (ρ y z) T = some (.ok (.int (k : Nat)) T) := fun y z T => by rw [hρ]; rfl
  have htk : nkOk t = true := by
    rw [ht]
    split
    · exact W.pk _ ha.2.1 _ hb.2.1
    · exact W.pk _ ha.2.2 _ hb.2.2
  have hix : ∀ u, ixD (op u).d (.int (k : Nat)) S = some (.ok (if k = 1 then (op u).e else (op u).o) S) := fun u => by
    rcases hk with rfl | rfl
    · unfold ixD NQ.d
      simp only [seqOf]
      rw [atI_nat (k := 1) rfl]
      rfl
    · unfold ixD NQ.d
      simp only [seqOf]
      rw [atI_nat (k := 2) rfl]
      rfl
  have hkt : eTup [e2 ixD (e2 nGet (eVar 0) (eVar 6)) (eVar 8), e2 ixD (e2 nGet (eVar 0) (eVar 7)) (eVar 8)] (ρ x9 x10) S = some (.ok t S) := by
    have h1 : e2 ixD (e2 nGet (eVar 0) (eVar 6)) (eVar 8) (ρ x9 x10) S = some (.ok (if k = 1 then (op p.1).e else (op p.1).o) S) := by
      rw [x_2, g6, bd_ok, v8, bd_ok]
      exact hix p.1
    have h2 : e2 ixD (e2 nGet (eVar 0) (eVar 7)) (eVar 8) (ρ x9 x10) S = some (.ok (if k = 1 then (op p.2).e else (op p.2).o) S) := by
      rw [x_2, g7, bd_ok, v8, bd_ok]
      exact hix p.2
    rw [x_tup, evc h1 (evc h2 x_nil), ht]
    rcases hk with rfl | rfl <;> rfl
  have hget := nget1 (ρ := ρ x9 x10) (md := eVar 4) (mk := eTup [e2 ixD (e2 nGet (eVar 0) (eVar 6)) (eVar 8), e2 ixD (e2 nGet (eVar 0) (eVar 7)) (eVar 8)]) hd htk (by rw [hρ]; rfl) hkt
  rw [enM_get] at hget
  unfold lb_law_parts_1
  rw [show eP12 f r c a b ch p (some (.int (k : Nat))) x9 x10 x11 = ρ x9 x10 by rw [hρ]]
  have st0 : ∀ d, (Option.map (fun n : Nat => D.int n) (lk9 l t)).getD .non = d → sAsg (eNGet1 (eVar 4) (eTup [e2 ixD (e2 nGet (eVar 0) (eVar 6)) (eVar 8), e2 ixD (e2 nGet (eVar 0) (eVar 7)) (eVar 8)])) (gName 9) (ρ x9 x10) S = some (.nx (ρ (some d) x10) S) := fun d e => by
    rw [asg_e9 hget, e, hρ]
    rfl
  cases et : lk9 l t with
  | none =>
    rw [sq_nx (st0 .non (by rw [et]; rfl))]
    refine ⟨S, l, ch, some .non, x10, ?_, hc, rfl, fun _ _ => rfl, .inl ⟨rfl, rfl, fun v h => by cases h⟩⟩
    rw [sif_t (b := false) (S1 := S) (tv_t (by rw [hρ]; rfl)), hρ]
    rfl
  | some v =>
    rw [sq_nx (st0 (.int (v : Nat)) (by rw [et]; rfl))]
    have tnn : tVal (e2 isntD (eVar 9) (eC .non)) (ρ (some (.int (v : Nat))) x10) S = some (.ok true S) := tv_t (by rw [hρ]; rfl)
    rw [sif_t tnn, if_pos rfl]
    obtain ⟨n, hn⟩ : ∃ n, n = 2 * v + (k - 1) := ⟨_, rfl⟩
    have h2s : small (2 : Int) := small_lit (by decide) (by decide)
    have st1 : sAsg (e2 subD (e2 addD (e2 mulD (eC (.int 2)) (eVar 9)) (eVar 8)) (eC (.int 1))) (gName 10) (ρ (some (.int (v : Nat))) x10) S = some (.nx (ρ (some (.int (v : Nat))) (some (.int (n : Nat)))) S) := by
      have w1 : e2 mulD (eC (.int 2)) (eVar 9) (ρ (some (.int (v : Nat))) x10) S = some (.ok (.int (2 * v : Nat)) S) := by
        rw [x_2, x_c, bd_ok, show eVar 9 (ρ (some (.int (v : Nat))) x10) S = some (.ok (.int (v : Nat)) S) by rw [hρ]; rfl, bd_ok]
        simp [h2s]
      have w2 : e2 subD (e2 addD (e2 mulD (eC (.int 2)) (eVar 9)) (eVar 8)) (eC (.int 1)) (ρ (some (.int (v : Nat))) x10) S = some (.ok (.int (n : Nat)) S) := by
        rw [x_2, x_2, w1, bd_ok, v8, bd_ok, o_add, bd_ok, x_c, bd_ok, o_sub]
        congr 3
        omega
      rw [asg_e9 w2, hρ]
      rfl
    rw [sq_nx st1]
    obtain ⟨ρ2, hρ2⟩ : ∃ ρ2, ρ2 = ρ (some (.int (v : Nat))) (some (.int (n : Nat))) := ⟨_, rfl⟩
    rw [← hρ2]
    have v10 : eVar 10 ρ2 S = some (.ok (.int (n : Nat)) S) := by rw [hρ2, hρ]; rfl
    have v4 : eVar 4 ρ2 S = some (.ok (.ref c) S) := by rw [hρ2, hρ]; rfl
    have vp : eTup [eVar 6, eVar 7] ρ2 S = some (.ok (prD p) S) := by rw [hρ2, hρ]; rfl
    have vn1 : e2 addD (eVar 10) (eC (.int 1)) ρ2 S = some (.ok (.int ((n + 1 : Nat) : Int)) S) := by
      rw [x_2, v10, bd_ok, x_c, bd_ok, o_add]
      rfl
    have hg2 : eNGet2 (eVar 4) (eTup [eVar 6, eVar 7]) (e2 addD (eVar 10) (eC (.int 1))) ρ2 S = some (.ok ((dget (enM l) (prD p)).getD (.int ((n + 1 : Nat) : Int))) S) := by
      have hnk : nkAt S (.ref c) = some (enM l) := by simp [nkAt, hc]
      unfold eNGet2
      rw [v4, bd_ok]
      simp only [hnk]
      rw [vp, bd_ok, vn1, bd_ok]
      simp only [hnk, hkey, if_true]
    rw [enM_get] at hg2
    obtain ⟨hput, hd2⟩ := ev_nput (ρ := ρ2) (md := eVar 4) (mk := eTup [eVar 6, eVar 7]) (mv := eVar 10) hd (by rw [enM_len]; omega) hkey v10 v4 vp
    rw [enM_put] at hput hd2
    have htest : tVal (e2 gtD (eNGet2 (eVar 4) (eTup [eVar 6, eVar 7]) (e2 addD (eVar 10) (eC (.int 1)))) (eVar 10)) ρ2 S = some (.ok (decide (n < (lk9 l (prD p)).getD (n + 1))) S) := by
      refine tv_t ?_
      rw [x_2, hg2, bd_ok, v10, bd_ok]
      have : (Option.map (fun n : Nat => D.int n) (lk9 l (prD p))).getD (.int ((n + 1 : Nat) : Int)) = .int (((lk9 l (prD p)).getD (n + 1) : Nat) : Int) := by
        cases lk9 l (prD p) <;> rfl
      rw [this, o_gt]
      congr 3
      rw [decide_eq_decide]
      omega
    by_cases c2 : n < (lk9 l (prD p)).getD (n + 1)
    · rw [decide_eq_true c2] at htest
      refine ⟨S.set c (.nk (enM (ud9 l (prD p) n))), ud9 l (prD p) n, true, some (.int (v : Nat)), some (.int (n : Nat)), ?_, List.getElem?_set_self hcl, by simp, fun j hj => by rw [List.getElem?_set_ne (Ne.symm hj)], .inr ⟨v, rfl, by rw [hn], rfl, fun u hu => by rw [hu] at c2; rw [← hn]; exact c2⟩⟩
      rw [sif_t htest, if_pos rfl, sq_nx hput, hρ2, hρ]
      rfl
    · rw [decide_eq_false c2] at htest
      refine ⟨S, l, ch, some (.int (v : Nat)), some (.int (n : Nat)), ?_, hc, rfl, fun _ _ => rfl, .inl ⟨rfl, rfl, fun v' h => ?_⟩⟩
      · rw [sif_t htest, hρ2, hρ]
        rfl
      · cases h
        cases es : lk9 l (prD p) with
        | none => rw [es] at c2; simp at c2
        | some u => rw [es] at c2; simp at c2; exact ⟨u, rfl, by omega⟩
/-- one pair -/
theorem pt_pair (W : PWk us op A B) {row : List (D × D)} (R : RwQ op A B a b row row.length) {r c : Nat} {l : List (D × Nat)} {p : D × D} {ch : Bool} {S : Store} (gf : DA S f true (grD (guG op us))) (hfc : f ≠ c) (hp : p ∈ row) (hc : S[c]? = some (.nk (enM l))) (P : PI9 (row.map prD) (mkQ op) (feQ op) (foQ op) (lk9 l)) (K : PlD9 (row.map prD) l) {x8 x9 x10 x11 : Option D} :
    ∃ S2 l2 ch2 y8 y9 y10, lb_law_parts_2 (eP12 f r c a b ch p x8 x9 x10 x11) S = some (.nx (eP12 f r c a b ch2 p y8 y9 y10 x11) S2) ∧ S2[c]? = some (.nk (enM l2)) ∧ S2.length = S.length ∧ (∀ j, j ≠ c → S2[j]? = S[j]?) ∧
      PI9 (row.map prD) (mkQ op) (feQ op) (foQ op) (lk9 l2) ∧ PlD9 (row.map prD) l2 ∧ ((ch2 = ch ∧ l2 = l ∧ Fx9 (feQ op) (foQ op) (lk9 l) (prD p)) ∨ (ch2 = true ∧ Ltm9 (row.map prD) (lk9 l2) (lk9 l))) := by
  have G := ngQ W R
  have hs : prD p ∈ row.map prD := List.mem_map.mpr ⟨p, hp, rfl⟩
  have hks : ∀ {l : List (D × Nat)}, PlD9 (row.map prD) l → ∀ q ∈ l.map (·.1), nkOk q = true := fun K q hq => G.key q (K.sub q hq)
  have hKl : ∀ {l : List (D × Nat)}, PlD9 (row.map prD) l → l.length < 16000000 := fun K => by have := K.len; have := G.few; omega
  obtain ⟨S1, l1, ch1, y9, y10, t1, g1, n1, o1, c1⟩ := pt_half W R (r := r) (ch := ch) 1 (.inl rfl) gf (hks K) hp hc (hKl K) rfl (x9 := x9) (x10 := x10) (x11 := x11)
  simp only [if_true, Nat.sub_self, Nat.add_zero] at c1
  have P1 : PI9 (row.map prD) (mkQ op) (feQ op) (foQ op) (lk9 l1) ∧ PlD9 (row.map prD) l1 := by
    rcases c1 with ⟨rfl, _, _⟩ | ⟨v, hv, rfl, _, hu⟩
    · exact ⟨P, K⟩
    · refine ⟨?_, K.ud hs _⟩
      rw [lk_udF9]
      exact P.set hs ((MWe (G.m _ hs) v).mpr (P.val _ _ hv).2) hu
  have gf1 : DA S1 f true (grD (guG op us)) := gf.get (o1 f hfc)
  obtain ⟨S2, l2, ch2, z9, z10, t2, g2, n2, o2, c2⟩ := pt_half W R (r := r) (ch := ch1) 2 (.inr rfl) gf1 (hks P1.2) hp g1 (hKl P1.2) rfl (x9 := y9) (x10 := y10) (x11 := x11)
  simp only [show ¬ (2 : Nat) = 1 by decide, if_false, show (2 : Nat) - 1 = 1 from rfl] at c2
  have P2 : PI9 (row.map prD) (mkQ op) (feQ op) (foQ op) (lk9 l2) ∧ PlD9 (row.map prD) l2 := by
    rcases c2 with ⟨rfl, _, _⟩ | ⟨v, hv, rfl, _, hu⟩
    · exact P1
    · refine ⟨?_, P1.2.ud hs _⟩
      rw [lk_udF9]
      exact P1.1.set hs ((MWo _ v).mpr (P1.1.val _ _ hv).2) hu
  refine ⟨S2, l2, ch2, some (.int ((2 : Nat) : Int)), z9, z10, ?_, g2, by omega, fun j hj => by rw [o2 j hj, o1 j hj], P2.1, P2.2, ?_⟩
  · unfold lb_law_parts_2
    rw [x_for, x_any, x_tup, evc (x_c _) (evc (x_c _) x_nil), bd_ok, bd_ok]
    show forL (fun _ => True) (gName 8) lb_law_parts_1 [D.int ((1 : Nat) : Int), D.int ((2 : Nat) : Int)] (eP12 f r c a b ch p x8 x9 x10 x11) S = _
    rw [forL_cons (ρ1 := eP12 f r c a b ch p (some (.int ((1 : Nat) : Int))) x9 x10 x11) (S1 := S) trivial (by rfl) t1]
    rw [forL_cons (ρ1 := eP12 f r c a b ch1 p (some (.int ((2 : Nat) : Int))) y9 y10 x11) (S1 := S1) trivial (by rfl) t2]
    exact forL_nil trivial
  · rcases c1 with ⟨rfl, rfl, f1⟩ | ⟨v, hv, rfl, rfl, hu⟩
    · rcases c2 with ⟨rfl, rfl, f2⟩ | ⟨v, hv, rfl, rfl, hu⟩
      · exact .inl ⟨rfl, rfl, f1, f2⟩
      · exact .inr ⟨rfl, by rw [lk_udF9]; exact ltm_set9 hs hu⟩
    · refine .inr ?_
      have q1 : Ltm9 (row.map prD) (lk9 (ud9 l (prD p) (2 * v))) (lk9 l) := by rw [lk_udF9]; exact ltm_set9 hs hu
      rcases c2 with ⟨rfl, rfl, f2⟩ | ⟨v', hv', rfl, rfl, hu'⟩
      · exact ⟨rfl, q1⟩
      · refine ⟨rfl, Ltm9.trans ?_ q1⟩
        rw [lk_udF9 (ud9 l (prD p) (2 * v))]
        exact ltm_set9 hs hu'
/-- one round -/
theorem pt_round (W : PWk us op A B) {row : List (D × D)} (R : RwQ op A B a b row row.length) {r c : Nat} {l : List (D × Nat)} {S : Store} (gf : DA S f true (grD (guG op us))) (hfc : f ≠ c) (hrc : r ≠ c) (gr : S[r]? = some (.lst (row.map prD))) (hc : S[c]? = some (.nk (enM l))) (P : PI9 (row.map prD) (mkQ op) (feQ op) (foQ op) (lk9 l)) (K : PlD9 (row.map prD) l) {x5 x6 x7 x8 x9 x10 x11 : Option D} :
    ∃ S2 l2 ch2 y6 y7 y8 y9 y10, lb_law_parts_3 [some (.ref f), some a, some b, some (.ref r), some (.ref c), x5, x6, x7, x8, x9, x10, x11] S = some (.nx [some (.ref f), some a, some b, some (.ref r), some (.ref c), some (.bl ch2), y6, y7, y8, y9, y10, x11] S2) ∧ S2[c]? = some (.nk (enM l2)) ∧ S2.length = S.length ∧ (∀ j, j ≠ c → S2[j]? = S[j]?) ∧
      PI9 (row.map prD) (mkQ op) (feQ op) (foQ op) (lk9 l2) ∧ PlD9 (row.map prD) l2 ∧ ((ch2 = false ∧ l2 = l ∧ ∀ s ∈ row.map prD, Fx9 (feQ op) (foQ op) (lk9 l) s) ∨ (ch2 = true ∧ Ltm9 (row.map prD) (lk9 l2) (lk9 l))) := by
  have key := forL_idx (chk := fun S' => S'[r]? = some (.lst (row.map prD))) (g := gTup [gName 6, gName 7]) (b := lb_law_parts_2) (fun i ρ S' => ∃ l2 ch2 y6 y7 y8 y9 y10, ρ = [some (.ref f), some a, some b, some (.ref r), some (.ref c), some (.bl ch2), y6, y7, y8, y9, y10, x11] ∧ S'[c]? = some (.nk (enM l2)) ∧ S'.length = S.length ∧ (∀ j, j ≠ c → S'[j]? = S[j]?) ∧ PI9 (row.map prD) (mkQ op) (feQ op) (foQ op) (lk9 l2) ∧ PlD9 (row.map prD) l2 ∧ ((ch2 = false ∧ l2 = l ∧ ∀ j q, j < i → row[j]? = some q → Fx9 (feQ op) (foQ op) (lk9 l) (prD q)) ∨ (ch2 = true ∧ Ltm9 (row.map prD) (lk9 l2) (lk9 l))))
    (fun i ρ S' ⟨l2, ch2, y6, y7, y8, y9, y10, _, _, _, ho, _⟩ => by rw [ho r hrc]; exact gr) (row.map prD) 0 (by
      rintro i s hs ρ S' ⟨l2, ch2, y6, y7, y8, y9, y10, rfl, g1, g2, g3, P2, K2, hcase⟩
      rw [List.getElem?_map] at hs
      obtain ⟨p, hpi, rfl⟩ := Option.map_eq_some_iff.mp hs
      have hp := List.mem_of_getElem? hpi
      obtain ⟨S2, l3, ch3, z8, z9, z10, e, q1, q2, q3, P3, K3, hcase3⟩ := pt_pair W R (r := r) (ch := ch2) (gf.get (g3 f hfc)) hfc hp g1 P2 K2 (x8 := y8) (x9 := y9) (x10 := y10) (x11 := x11)
      refine ⟨eP12 f r c a b ch2 p y8 y9 y10 x11, S', rfl, _, S2, .inl e, l3, ch3, some p.1, some p.2, z8, z9, z10, rfl, q1, by rw [q2, g2], fun j h1 => by rw [q3 j h1]; exact g3 j h1, P3, K3, ?_⟩
      rcases hcase3 with ⟨rfl, rfl, f⟩ | ⟨rfl, f⟩
      · rcases hcase with ⟨rfl, rfl, hj⟩ | ⟨rfl, f2⟩
        · refine .inl ⟨rfl, rfl, fun j q hj1 hj2 => ?_⟩
          by_cases hji : j < 0 + i
          · exact hj j q hji hj2
          · have : j = i := by omega
            subst this
            rw [hpi] at hj2
            cases hj2
            exact f
        · exact .inr ⟨rfl, f2⟩
      · rcases hcase with ⟨rfl, rfl, hj⟩ | ⟨rfl, f2⟩
        · exact .inr ⟨rfl, f⟩
        · exact .inr ⟨rfl, f.trans f2⟩)
    [some (.ref f), some a, some b, some (.ref r), some (.ref c), some (.bl false), x6, x7, x8, x9, x10, x11] S ⟨l, false, _, _, _, _, _, rfl, hc, rfl, fun _ _ => rfl, P, K, .inl ⟨rfl, rfl, fun j q h => by omega⟩⟩
  obtain ⟨ρ', S', hfor, l2, ch2, y6, y7, y8, y9, y10, rfl, g1, g2, g3, P2, K2, hcase⟩ := key
  refine ⟨S', l2, ch2, y6, y7, y8, y9, y10, ?_, g1, g2, g3, P2, K2, ?_⟩
  · unfold lb_law_parts_3
    rw [sq_nx (ρ1 := [some (.ref f), some a, some b, some (.ref r), some (.ref c), some (.bl false), x6, x7, x8, x9, x10, x11]) (S1 := S) (by rfl)]
    rw [x_for, x_any, show eVar 3 _ S = some (.ok (.ref r) S) from rfl, bd_ok, o_itr]
    simp only [gr]
    exact hfor
  · rcases hcase with ⟨rfl, rfl, h⟩ | h
    · refine .inl ⟨rfl, rfl, fun s hs => ?_⟩
      obtain ⟨p, hp, rfl⟩ := List.mem_map.mp hs
      obtain ⟨j, hj⟩ := List.getElem?_of_mem hp
      exact h j p (by simpa using (List.getElem?_eq_some_iff.mp hj).1) hj
    · exact .inr h
theorem pt_while (W : PWk us op A B) {row : List (D × D)} (R : RwQ op A B a b row row.length) {r c : Nat} (hfc : f ≠ c) (hrc : r ≠ c) {x11 : Option D} : ∀ (F : PF9) (l : List (D × Nat)) (S : Store) (x6 x7 x8 x9 x10 : Option D), lk9 l = F → DA S f true (grD (guG op us)) → S[r]? = some (.lst (row.map prD)) → S[c]? = some (.nk (enM l)) → PI9 (row.map prD) (mkQ op) (feQ op) (foQ op) (lk9 l) → PlD9 (row.map prD) l →
    ∃ S2 l2 y6 y7 y8 y9 y10, sWh (tVal (eVar 5)) lb_law_parts_3 [some (.ref f), some a, some b, some (.ref r), some (.ref c), some (.bl true), x6, x7, x8, x9, x10, x11] S = some (.nx [some (.ref f), some a, some b, some (.ref r), some (.ref c), some (.bl false), y6, y7, y8, y9, y10, x11] S2) ∧ S2[c]? = some (.nk (enM l2)) ∧ S2.length = S.length ∧ (∀ j, j ≠ c → S2[j]? = S[j]?) ∧
      PI9 (row.map prD) (mkQ op) (feQ op) (foQ op) (lk9 l2) ∧ PlD9 (row.map prD) l2 ∧ ∀ s ∈ row.map prD, Fx9 (feQ op) (foQ op) (lk9 l2) s := by
  intro F
  induction F using (ltm_wf9 (row.map prD)).induction with
  | h F ih =>
    intro l S x6 x7 x8 x9 x10 hF gf gr hc P K
    obtain ⟨S2, l2, ch2, y6, y7, y8, y9, y10, e, g1, g2, g3, P2, K2, hcase⟩ := pt_round W R gf hfc hrc gr hc P K (x5 := some (.bl true)) (x6 := x6) (x7 := x7) (x8 := x8) (x9 := x9) (x10 := x10) (x11 := x11)
    have step := sWh_go (t := tVal (eVar 5)) (b := lb_law_parts_3) (ρ := [some (.ref f), some a, some b, some (.ref r), some (.ref c), some (.bl true), x6, x7, x8, x9, x10, x11]) (S := S) (S1 := S) (by simp) e
    rw [step]
    rcases hcase with ⟨rfl, rfl, h⟩ | ⟨rfl, h⟩
    · exact ⟨S2, l2, y6, y7, y8, y9, y10, sWh_stop (by simp), g1, g2, g3, P2, K2, h⟩
    · subst hF
      obtain ⟨S3, l3, z6, z7, z8, z9, z10, e3, q1, q2, q3, P3, K3, f3⟩ := ih (lk9 l2) h l2 S2 y6 y7 y8 y9 y10 rfl (gf.get (g3 f hfc)) (by rw [g3 r hrc]; exact gr) g1 P2 K2
      exact ⟨S3, l3, z6, z7, z8, z9, z10, e3, q1, by rw [q2, g2], fun j hj => by rw [q3 j hj]; exact g3 j hj, P3, K3, f3⟩
end
end Z
namespace Z
open Classical
/-- a place, or none -/
def oN : Option Nat → D
  | none => .non
  | some n => .int (n : Nat)
/-- the least place at which two rows part -/
def PartR (f g : Nat → Nat) : Option Nat → Prop
  | none => ∀ n, f n = g n
  | some n => f n ≠ g n ∧ ∀ j, j < n → f j = g j
section
variable {us A B : List D} {op : D → NQ} {f : Nat} {a b : D}
theorem s_law_parts (W : PWk us op A B) (ha : a ∈ A) (hb : b ∈ B) {S : Store} (gf : DA S f true (grD (guG op us))) :
    ∃ q S', R_law_parts [.ref f, a, b] S = some (.ok (oN q) S') ∧ Keep S S' ∧ PartR (rwD op a) (rwD op b) q := by
  obtain ⟨r, row, S1, er, gr, k1, hrl, R⟩ := s_law_both_met W ha hb gf
  have G := ngQ W R
  have gf1 := gf.keep k1
  have hl := prod_len R.nd R.sub
  have hfew := W.few
  obtain ⟨ms, hms⟩ : ∃ ms, ms = (row.map prD).filter fun u => decide (mkQ op u) := ⟨_, rfl⟩
  have hmk : ∀ p, p ∈ ms ↔ p ∈ row.map prD ∧ mkQ op p := fun p => by rw [hms, List.mem_filter]; simp
  have hnd : ms.Nodup := by rw [hms]; exact G.nd.sublist List.filter_sublist
  have hml : ms.length ≤ row.length := by rw [hms]; exact Nat.le_trans (List.length_filter_le _ _) (by simp)
  obtain ⟨l0, hl0⟩ : ∃ l0 : List (D × Nat), l0 = ms.map fun q => (q, 0) := ⟨_, rfl⟩
  have hlk : ∀ p, lk9 l0 p = if p ∈ ms then some 0 else none := fun p => by rw [hl0]; exact lk_fn9 (fun _ => 0) p ms
  have hk0 : l0.map (·.1) = ms := by
    rw [hl0, List.map_map]
    exact List.map_id' ms
  have hlc := lcL_filter (chk := fun S' => S'[r]? = some (.lst (row.map prD))) (g := gName 11) (t := tVal (e2 neD (e2 ixD (e2 nGet (eVar 0) (e2 ixD (eVar 11) (eC (.int 0)))) (eC (.int 0))) (e2 ixD (e2 nGet (eVar 0) (e2 ixD (eVar 11) (eC (.int 1)))) (eC (.int 0))))) (e := eTup [eVar 11, eC (.int 0)]) (S := S1)
    (ρ := [some (.ref f), some a, some b, some (.ref r), none, none, none, none, none, none, none, none]) (fun d => decide (mkQ op d)) (fun d => .tup [d, .int 0]) (row.map prD) [] (by rw [LINE_eq]; simp; omega) (fun acc => get_app gr _) (fun x hx acc => by
      obtain ⟨p, hp, rfl⟩ := List.mem_map.mp hx
      have hpm := R.sub p hp
      have gfa := gf1.keep (Keep.app (G := [MO.lst acc]))
      obtain ⟨ρ1, hρ1⟩ : ∃ ρ1 : Env, ρ1 = [some (.ref f), some a, some b, some (.ref r), none, none, none, none, none, none, none, some (prD p)] := ⟨_, rfl⟩
      obtain ⟨T, hT⟩ : ∃ T, T = S1 ++ [MO.lst acc] := ⟨_, rfl⟩
      rw [← hT] at gfa ⊢
      have v11 : eVar 11 ρ1 T = some (.ok (prD p) T) := by rw [hρ1]; rfl
      have p0 : e2 ixD (eVar 11) (eC (.int 0)) ρ1 T = some (.ok p.1 T) := by
        rw [x_2, v11, bd_ok, x_c, bd_ok]
        unfold ixD prD
        simp only [seqOf, at0]
      have p1 : e2 ixD (eVar 11) (eC (.int 1)) ρ1 T = some (.ok p.2 T) := by
        rw [x_2, v11, bd_ok, x_c, bd_ok]
        unfold ixD prD
        simp only [seqOf]
        rw [show atI [p.1, p.2] 1 = some p.2 from atI_nat (k := 1) rfl]
      have s0 := st_get (ρ := ρ1) (m := e2 ixD (eVar 11) (eC (.int 0))) gfa (W.a _ hpm.1).1 (W.key _ (W.a _ hpm.1).1) (by rw [hρ1]; rfl) p0
      have s1 := st_get (ρ := ρ1) (m := e2 ixD (eVar 11) (eC (.int 1))) gfa (W.b _ hpm.2).1 (W.key _ (W.b _ hpm.2).1) (by rw [hρ1]; rfl) p1
      have hs : ∀ (u : D), ixD (op u).d (.int 0) T = some (.ok (.int ((op u).s : Nat)) T) := fun u => by
        unfold ixD NQ.d
        simp only [seqOf, at0]
      refine ⟨ρ1, by rw [hρ1]; rfl, ?_, fun _ => by rw [x_tup, evc v11 (evc (x_c _) x_nil)]; rfl⟩
      refine tv_t ?_
      rw [x_2, x_2, s0, bd_ok, x_c, bd_ok, hs, bd_ok, x_2, s1, bd_ok, x_c, bd_ok, hs, bd_ok]
      show neD (.int ((op p.1).s : Nat)) (.int ((op p.2).s : Nat)) T = _
      unfold mkQ
      rw [unQ_p]
      by_cases h : (op p.1).s = (op p.2).s
      · simp [h]
      · have h' : ¬ (((op p.1).s : Nat) : Int) = (((op p.2).s : Nat) : Int) := by omega
        simp [h, h'])
  rw [List.nil_append, ← hms] at hlc
  have hex : ms.map (fun d => D.tup [d, .int 0]) = (enM l0).map fun p => D.tup [p.1, p.2] := by
    rw [hl0]
    unfold enM
    rw [List.map_map, List.map_map]
    rfl
  obtain ⟨S2, hS2⟩ : ∃ S2, S2 = S1 ++ [MO.lst ((enM l0).map fun p => D.tup [p.1, p.2])] := ⟨_, rfl⟩
  rw [hex, ← hS2] at hlc
  have k2 : Keep S1 S2 := by rw [hS2]; exact .app
  have edn := ev_dictN (S := S2) (m := S1.length) (kvs := enM l0) (by rw [hS2]; simp) (fun p hp => by
    have : p.1 ∈ (enM l0).map (·.1) := List.mem_map.mpr ⟨p, hp, rfl⟩
    rw [enM_keys, hk0] at this
    exact G.key _ ((hmk _).mp this).1) (by rw [enM_keys, hk0]; exact hnd) (by rw [enM_len, hl0]; simp; omega)
  obtain ⟨S3, hS3⟩ : ∃ S3, S3 = S2 ++ [MO.nk (enM l0)] := ⟨_, rfl⟩
  rw [← hS3] at edn
  have k3 : Keep S2 S3 := by rw [hS3]; exact .app
  have g3 : S3[S2.length]? = some (.nk (enM l0)) := by rw [hS3]; simp
  have gf3 := (gf1.keep k2).keep k3
  have gr3 := k3.get (k2.get gr)
  have hrS1 := (List.getElem?_eq_some_iff.mp gr).1
  have hfS1 := gf1.lt
  have h12 := k2.1
  have P0 : PI9 (row.map prD) (mkQ op) (feQ op) (foQ op) (lk9 l0) := by
    refine ⟨fun p n h => ?_, fun p hp hd => by rw [hlk, if_pos ((hmk p).mpr ⟨hp, hd⟩)]⟩
    rw [hlk] at h
    split at h
    · rename_i hp
      cases h
      exact ⟨((hmk p).mp hp).1, (MW0 p).mpr ((hmk p).mp hp).2⟩
    · cases h
  have K0 : PlD9 (row.map prD) l0 := ⟨by rw [hk0]; exact hnd, fun q hq => by rw [hk0] at hq; exact ((hmk q).mp hq).1⟩
  obtain ⟨S4, l2, y6, y7, y8, y9, y10, hw, g4, l4, o4, P4, K4, X4⟩ := pt_while W R (c := S2.length) (by omega) (by omega) (x11 := none) (lk9 l0) l0 S3 none none none none none rfl gf3 gr3 g3 P0 K0
  have k4 : Keep S S4 := ⟨by rw [l4]; have := k3.1; have := k1.1; omega, fun i hi => by
    have := k1.1
    rw [o4 i (by omega), k3.2 i (by omega), k2.2 i (by omega), k1.2 i hi]⟩
  have hk4 : ∀ q ∈ l2.map (·.1), nkOk q = true := fun q hq => G.key q (K4.sub q hq)
  have hab : prD (a, b) ∈ row.map prD := List.mem_map.mpr ⟨_, R.hd, rfl⟩
  have hfin := nget1 (ρ := [some (.ref f), some a, some b, some (.ref r), some (.ref S2.length), some (.bl false), y6, y7, y8, y9, y10, none]) (md := eVar 4) (mk := eTup [eVar 1, eVar 2]) (enM_da hk4 g4) (G.key _ hab) rfl (show eTup [eVar 1, eVar 2] _ S4 = some (.ok (prD (a, b)) S4) from rfl)
  rw [enM_get] at hfin
  refine ⟨lk9 l2 (prD (a, b)), S4, ?_, k4, ?_⟩
  · unfold R_law_parts
    rw [run_eq (n := 3) _ _ rfl]
    unfold b_law_parts
    rw [show (List.map some [D.ref f, a, b] ++ List.replicate (12 - 3) none : Env) = [some (.ref f), some a, some b, none, none, none, none, none, none, none, none, none] from rfl]
    rw [sq_nx (ρ1 := [some (.ref f), some a, some b, some (.ref r), none, none, none, none, none, none, none, none]) (S1 := S1) (by
      rw [asg_e9 (by rw [x_call, evc (show eVar 0 _ S = some (.ok (.ref f) S) from rfl) (evc (show eVar 1 _ S = some (.ok a S) from rfl) (evc (show eVar 2 _ S = some (.ok b S) from rfl) x_nil)), bd_ok, er])]
      rfl)]
    rw [sq_nx (ρ1 := [some (.ref f), some a, some b, some (.ref r), some (.ref S2.length), none, none, none, none, none, none, none]) (S1 := S3) (by
      have hc : eLc (iAny (eVar 3)) (gName 11) (tVal (e2 neD (e2 ixD (e2 nGet (eVar 0) (e2 ixD (eVar 11) (eC (.int 0)))) (eC (.int 0))) (e2 ixD (e2 nGet (eVar 0) (e2 ixD (eVar 11) (eC (.int 1)))) (eC (.int 0))))) (eTup [eVar 11, eC (.int 0)]) [11] [some (.ref f), some a, some b, some (.ref r), none, none, none, none, none, none, none, none] S1 = some (.ok (.ref S1.length) S2) := by
        unfold eLc
        rw [x_any, show eVar 3 _ S1 = some (.ok (.ref r) S1) from rfl, bd_ok, o_itr]
        simp only [gr, bd_ok]
        exact hlc
      rw [asg_e9 (by rw [x_call, evc hc x_nil, bd_ok]; exact edn)]
      rfl)]
    rw [sq_nx (ρ1 := [some (.ref f), some a, some b, some (.ref r), some (.ref S2.length), some (.bl true), none, none, none, none, none, none]) (S1 := S3) (by rfl)]
    rw [sq_nx hw]
    rw [x_ret, hfin]
    have : (Option.map (fun n : Nat => D.int n) (lk9 l2 (prD (a, b)))).getD .non = oN (lk9 l2 (prD (a, b))) := by cases lk9 l2 (prD (a, b)) <;> rfl
    rw [this]
    rfl
  · cases e : lk9 l2 (prD (a, b)) with
    | none =>
      intro n
      refine Classical.byContradiction fun h => ?_
      obtain ⟨u, hu, _⟩ := least9 G P4 X4 n _ hab ((mwQ n (a, b)).mpr h)
      rw [e] at hu
      cases hu
    | some n =>
      have hv := (P4.val _ _ e).2
      refine ⟨(mwQ n (a, b)).mp hv, fun j hj => Classical.byContradiction fun h => ?_⟩
      obtain ⟨u, hu, hul⟩ := least9 G P4 X4 j _ hab ((mwQ j (a, b)).mpr h)
      rw [e] at hu
      cases hu
      omega
end
end Z
namespace Z
open Classical
section
variable {b3 : D} {l r1 d1 r2 d2 lf : Nat} {o0 o7 o8 o9 o10 o11 o12 o13 : Option D} {ns : List (List Nat)} {es fs ls : Eqs}
/-- what stays while names are asked -/
structure A75 (T : Store) (l r1 d1 r2 d2 : Nat) (ns : List (List Nat)) (es fs : Eqs) : Prop where
  sp : Sp T 1 0
  g : T[l]? = some (.lst (ns.map .str))
  c1 : CB T r1 d1 es
  c2 : CB T r2 d2 fs
  ds : 2 ≤ l ∧ l < r1 ∧ r1 < d1 ∧ d1 < r2 ∧ r2 < d2
theorem A75.fr {T T' : Store} (h : A75 T l r1 d1 r2 d2 ns es fs) (f : Fr 1 0 T T') (s : Sp T' 1 0) : A75 T' l r1 d1 r2 d2 ns es fs := by
  obtain ⟨h1, h2, h3, h4, h5⟩ := h.ds
  exact ⟨s, f.at h.g (by omega) (by omega), h.c1.fr f (by omega) (by omega) (by omega) (by omega), h.c2.fr f (by omega) (by omega) (by omega) (by omega), h.ds⟩
theorem A75.keep {T T' : Store} (h : A75 T l r1 d1 r2 d2 ns es fs) (k : Keep T T') : A75 T' l r1 d1 r2 d2 ns es fs := h.fr (kFr k) (kSp h.sp k)
end
end Z
namespace Z
open Classical
section
variable {l4 r1 d1 r2 d2 l8 : Nat} {o0 o2 o3 o5 o6 o7 o11 o12 o13 o14 o15 : Option D} {fi : List (List Nat)} {U : List (List Nat)} {al fs gs ls : Eqs}
noncomputable def inF (fi : List (List Nat)) (fs : Eqs) : Eqs := fs.filter fun e => decide (e.1 ∈ fi)
structure T76 (T : Store) (l4 r1 d1 r2 d2 l8 : Nat) (fi : List (List Nat)) (al fs ls : Eqs) : Prop where
  sp : Sp T 1 0
  g : T[l4]? = some (.lst (fi.map .str))
  c1 : CB T r1 d1 fs
  c2 : CB T r2 d2 (inF fi fs)
  gl : T[l8]? = some (.lst (ls.map ent))
  pm : (fs ++ ls).Perm al
  ds : 2 ≤ l4 ∧ l4 < l8 ∧ l8 < r1 ∧ r1 < d1 ∧ d1 < r2 ∧ r2 < d2
theorem T76.app {T : Store} (h : T76 T l4 r1 d1 r2 d2 l8 fi al fs ls) (G : Store) : T76 (T ++ G) l4 r1 d1 r2 d2 l8 fi al fs ls := ⟨h.sp.app, get_app h.g _, h.c1.keep .app, h.c2.keep .app, get_app h.gl _, h.pm, h.ds⟩
end
end Z
namespace Z
open Classical
section
variable {S S1 S2 S3 : Store} {ρ : Env}
theorem tnot9 {t : ST} {b : Bool} (h : t ρ S = some (.ok b S1)) : tNot t ρ S = some (.ok (!b) S1) := by
  unfold tNot
  rw [h]
  rfl
end
structure A81 (T : Store) (k r d q7 q8 : Nat) (es : Eqs) (a b : List Nat) (wa wb : D) : Prop where
  sp : Sp T 1 0
  db : DB T k r d es
  g7 : T[q7]? = some (.lst [.str a, .str b])
  g8 : T[q8]? = some (.lst [wa, wb])
  ds : 2 ≤ k ∧ 2 ≤ r ∧ 2 ≤ d ∧ 2 ≤ q7 ∧ 2 ≤ q8
section
variable {T T' : Store} {k r d q7 q8 : Nat} {es : Eqs} {a b : List Nat} {wa wb : D} {U : List (List Nat)}
theorem DB.fr {p c : Nat} (h : DB T k r d es) (f : Fr p c T T') (h1 : k ≠ p) (h2 : k ≠ c) (h3 : r ≠ p) (h4 : r ≠ c) (h5 : d ≠ p) (h6 : d ≠ c) : DB T' k r d es := ⟨f.at h.gk h1 h2, h.cb.fr f h3 h4 h5 h6⟩
theorem A81.fr (h : A81 T k r d q7 q8 es a b wa wb) (f : Fr 1 0 T T') (s : Sp T' 1 0) : A81 T' k r d q7 q8 es a b wa wb := by
  obtain ⟨h1, h2, h3, h4, h5⟩ := h.ds
  exact ⟨s, h.db.fr f (by omega) (by omega) (by omega) (by omega) (by omega) (by omega), f.at h.g7 (by omega) (by omega), f.at h.g8 (by omega) (by omega), h.ds⟩
theorem A81.keep (h : A81 T k r d q7 q8 es a b wa wb) (kp : Keep T T') : A81 T' k r d q7 q8 es a b wa wb := h.fr (kFr kp) (kSp h.sp kp)
end
end Z
namespace Z
open Classical
structure TmB (k : Nat) (t : Tm) : Prop where
  s : sgs t ≤ k
  b : bhs t ≤ k
  s9 : sg9 t
  g : GBt 6 6 t
  z : t.size ≤ 1 + 6 * k
theorem TmB.sign {k i : Nat} {t : Tm} (h : TmB k t) (hi : i ≤ 9) (hk : k < 5) : TmB (k + 1) (.sign i t) := by
  have h1 := h.s; have h2 := h.b; have h5 := h.z
  exact ⟨by simp only [sgs]; omega, by simp only [bhs]; omega, ⟨hi, h.s9⟩, ⟨by omega, by omega, h.g⟩, by simp only [Tm.size]; omega⟩
theorem TmB.beh {k : Nat} {t : Tm} (h : TmB k t) (hk : k < 5) : TmB (k + 1) (.beh t) := by
  have h1 := h.s; have h2 := h.b; have h5 := h.z
  exact ⟨by simp only [sgs]; omega, by simp only [bhs]; omega, h.s9, ⟨by omega, by omega, h.g⟩, by simp only [Tm.size]; omega⟩
theorem TmB.mono {k j : Nat} {t : Tm} (h : TmB k t) (q : k ≤ j) : TmB j t := by
  have h1 := h.s; have h2 := h.b; have h5 := h.z
  exact ⟨by omega, by omega, h.s9, h.g, by omega⟩
end Z
namespace Z
open Classical
noncomputable def fR (es : Eqs) (s : List Nat) (n : Nat) : Nat := (sgV es s n).getD 0
structure RL (es : Eqs) (U : List (List Nat)) (rl : List (List Nat × List Q)) : Prop where
  nd : (rl.map (·.1)).Nodup
  sub : ∀ s ∈ rl.map (·.1), s ∈ U
  all : ∀ p ∈ rl, ∀ j, sgV es p.1 j ≠ none
  mc : ∀ p ∈ rl, LstA p.2 (fR es p.1)
  few : ∀ p ∈ rl, p.2.length ≤ 12
theorem RL.lst {es : Eqs} {U : List (List Nat)} {rl : List (List Nat × List Q)} (h : RL es U rl) : ∀ p ∈ rl, Lst p.2 (fR es p.1) 12 := fun p hp => ⟨(h.mc p hp).mach, h.few p hp, (h.mc p hp).row, (h.mc p hp).can⟩
end Z
namespace Z
open Classical
structure FewS (sg : Nat) (g : Nat → Nat) (S : List Nat) (m q : Nat) : Prop where
  ne : S ≠ []
  out : ∀ n, n ∉ S → g n = sg
  len : S.length ≤ m
  lt : ∀ x ∈ S, x < 2 ^ q
theorem FewS.mono {sg m q m' q' : Nat} {g : Nat → Nat} {S : List Nat} (h : FewS sg g S m q) (hm : m ≤ m') (hq : q ≤ q') : FewS sg g S m' q' := ⟨h.ne, h.out, Nat.le_trans h.len hm, fun x hx => Nat.lt_of_lt_of_le (h.lt x hx) (Nat.pow_le_pow_right (by decide) hq)⟩
end Z
namespace Z
open Classical
inductive St where
  | m (n : D) (i : Nat) | s (x : Nat) (u : St) | b (u : St) | z (u v : St)
def sttD : St → D
  | .m n i => .tup [.str [109], n, .int (i : Nat)]
  | .s x u => .tup [.str [115], .int (x : Nat), sttD u]
  | .b u => .tup [.str [98], sttD u]
  | .z u v => .tup [.str [122], sttD u, sttD v]
theorem sttD_inj : ∀ {u v : St}, sttD u = sttD v → u = v
  | .m n i, .m n' i', h => by simp [sttD] at h; rw [h.1]; congr 1; omega
  | .s x u, .s y v, h => by simp [sttD] at h; rw [sttD_inj h.2]; congr 1; omega
  | .b u, .b v, h => by simp [sttD] at h; rw [sttD_inj h]
  | .z u v, .z u' v', h => by simp [sttD] at h; rw [sttD_inj h.1, sttD_inj h.2]
  | .m .., .s .., h => by simp [sttD] at h
  | .m .., .b .., h => by simp [sttD] at h
  | .m .., .z .., h => by simp [sttD] at h
  | .s .., .m .., h => by simp [sttD] at h
  | .s .., .b .., h => by simp [sttD] at h
  | .s .., .z .., h => by simp [sttD] at h
  | .b .., .m .., h => by simp [sttD] at h
  | .b .., .s .., h => by simp [sttD] at h
  | .b .., .z .., h => by simp [sttD] at h
  | .z .., .m .., h => by simp [sttD] at h
  | .z .., .s .., h => by simp [sttD] at h
  | .z .., .b .., h => by simp [sttD] at h
section
variable (ms : D → List Q)
/-- its row -/
def rowS : St → Nat → Nat
  | .m n i, k => sgn (ms n) i k
  | .s x u, k => if k = 0 then x else rowS u (k - 1)
  | .b u, k => rowS u (k + 1)
  | .z u v, k => if k % 2 = 0 then rowS u (k / 2) else rowS v (k / 2)
/-- the states at even and at odd places -/
def eoS : St → St × St
  | .m n i => (.m n (stq (ms n) i).e, .m n (stq (ms n) i).o)
  | .s x u => (.s x (eoS u).2, (eoS u).1)
  | .b u => ((eoS u).2, .b (eoS u).1)
  | .z u v => (u, v)
def wfS : St → Prop
  | .m n i => Mach (ms n) ∧ i < (ms n).length
  | .s x u => x ≤ 9 ∧ wfS u
  | .b u => wfS u
  | .z u v => wfS u ∧ wfS v
def depS : St → Nat
  | .m _ _ => 1
  | .s _ u => depS u + 1
  | .b u => depS u + 1
  | .z u v => max (depS u) (depS v) + 1
def clS : St → List St
  | .m n i => (List.range (ms n).length).map (St.m n)
  | .s x u => (clS u).map (St.s x) ++ clS u
  | .b u => (clS u).map St.b ++ clS u
  | .z u v => .z u v :: (clS u ++ clS v)
end
section
variable {ms : D → List Q}
theorem row_eo : ∀ {u : St}, wfS ms u → ∀ k, rowS ms (eoS ms u).1 k = rowS ms u (2 * k) ∧ rowS ms (eoS ms u).2 k = rowS ms u (2 * k + 1)
  | .m n i, h, k => ⟨(sgn_even h.1 h.2 k).symm, (sgn_odd k).symm⟩
  | .s x u, h, k => by
    have ih := row_eo h.2
    refine ⟨?_, ?_⟩
    · simp only [eoS, rowS]
      by_cases c : k = 0
      · rw [if_pos c, if_pos (by omega)]
      · rw [if_neg c, if_neg (by omega), (ih (k - 1)).2]
        congr 1
        omega
    · simp only [eoS, rowS]
      rw [if_neg (by omega), (ih k).1]
      congr 1
  | .b u, h, k => by
    have ih := row_eo (u := u) h
    simp only [eoS, rowS]
    exact ⟨(ih k).2, by rw [(ih (k + 1)).1]; congr 1⟩
  | .z u v, h, k => by
    simp only [eoS, rowS]
    exact ⟨by rw [if_pos (by omega), show 2 * k / 2 = k by omega], by rw [if_neg (by omega), show (2 * k + 1) / 2 = k by omega]⟩
theorem dep_eo : ∀ {u : St}, depS (eoS ms u).1 ≤ depS u ∧ depS (eoS ms u).2 ≤ depS u
  | .m n i => by simp [eoS, depS]
  | .s x u => by have := dep_eo (u := u); simp only [eoS, depS]; omega
  | .b u => by have := dep_eo (u := u); simp only [eoS, depS]; omega
  | .z u v => by simp only [eoS, depS]; omega
theorem wf_eo : ∀ {u : St}, wfS ms u → wfS ms (eoS ms u).1 ∧ wfS ms (eoS ms u).2
  | .m n i, h => ⟨⟨h.1, (h.1.bd9 h.2).1⟩, ⟨h.1, (h.1.bd9 h.2).2⟩⟩
  | .s x u, h => ⟨⟨h.1, (wf_eo h.2).2⟩, (wf_eo h.2).1⟩
  | .b u, h => ⟨(wf_eo (u := u) h).2, (wf_eo (u := u) h).1⟩
  | .z u v, h => h
theorem cl_self : ∀ {u : St}, wfS ms u → u ∈ clS ms u
  | .m n i, h => List.mem_map.mpr ⟨i, List.mem_range.mpr h.2, rfl⟩
  | .s x u, h => List.mem_append_left _ (List.mem_map.mpr ⟨u, cl_self h.2, rfl⟩)
  | .b u, h => List.mem_append_left _ (List.mem_map.mpr ⟨u, cl_self (u := u) h, rfl⟩)
  | .z u v, h => by simp [clS]
theorem cl_wf : ∀ {u : St}, wfS ms u → ∀ v ∈ clS ms u, wfS ms v ∧ depS v ≤ depS u
  | .m n i, h, v, hv => by
    obtain ⟨j, hj, rfl⟩ := List.mem_map.mp hv
    exact ⟨⟨h.1, List.mem_range.mp hj⟩, by simp [depS]⟩
  | .s x u, h, v, hv => by
    rcases List.mem_append.mp hv with hv | hv
    · obtain ⟨w, hw, rfl⟩ := List.mem_map.mp hv
      have := cl_wf h.2 w hw
      exact ⟨⟨h.1, this.1⟩, by simp only [depS]; omega⟩
    · have := cl_wf h.2 v hv
      exact ⟨this.1, by simp only [depS]; omega⟩
  | .b u, h, v, hv => by
    rcases List.mem_append.mp hv with hv | hv
    · obtain ⟨w, hw, rfl⟩ := List.mem_map.mp hv
      have := cl_wf (u := u) h w hw
      exact ⟨this.1, by simp only [depS]; omega⟩
    · have := cl_wf (u := u) h v hv
      exact ⟨this.1, by simp only [depS]; omega⟩
  | .z u w, h, v, hv => by
    rcases List.mem_cons.mp hv with rfl | hv
    · exact ⟨h, Nat.le_refl _⟩
    · rcases List.mem_append.mp hv with hv | hv
      · have := cl_wf h.1 v hv
        exact ⟨this.1, by simp only [depS]; omega⟩
      · have := cl_wf h.2 v hv
        exact ⟨this.1, by simp only [depS]; omega⟩
theorem cl_eo : ∀ {u : St}, wfS ms u → ∀ v ∈ clS ms u, (eoS ms v).1 ∈ clS ms u ∧ (eoS ms v).2 ∈ clS ms u
  | .m n i, h, v, hv => by
    obtain ⟨j, hj, rfl⟩ := List.mem_map.mp hv
    have := h.1.bd9 (List.mem_range.mp hj)
    exact ⟨List.mem_map.mpr ⟨_, List.mem_range.mpr this.1, rfl⟩, List.mem_map.mpr ⟨_, List.mem_range.mpr this.2, rfl⟩⟩
  | .s x u, h, v, hv => by
    rcases List.mem_append.mp hv with hv | hv
    · obtain ⟨w, hw, rfl⟩ := List.mem_map.mp hv
      have := cl_eo h.2 w hw
      exact ⟨List.mem_append_left _ (List.mem_map.mpr ⟨_, this.2, rfl⟩), List.mem_append_right _ this.1⟩
    · have := cl_eo h.2 v hv
      exact ⟨List.mem_append_right _ this.1, List.mem_append_right _ this.2⟩
  | .b u, h, v, hv => by
    rcases List.mem_append.mp hv with hv | hv
    · obtain ⟨w, hw, rfl⟩ := List.mem_map.mp hv
      have := cl_eo (u := u) h w hw
      exact ⟨List.mem_append_right _ this.2, List.mem_append_left _ (List.mem_map.mpr ⟨_, this.1, rfl⟩)⟩
    · have := cl_eo (u := u) h v hv
      exact ⟨List.mem_append_right _ this.1, List.mem_append_right _ this.2⟩
  | .z u w, h, v, hv => by
    rcases List.mem_cons.mp hv with rfl | hv
    · exact ⟨List.mem_cons_of_mem _ (List.mem_append_left _ (cl_self h.1)), List.mem_cons_of_mem _ (List.mem_append_right _ (cl_self h.2))⟩
    · rcases List.mem_append.mp hv with hv | hv
      · have := cl_eo h.1 v hv
        exact ⟨List.mem_cons_of_mem _ (List.mem_append_left _ this.1), List.mem_cons_of_mem _ (List.mem_append_left _ this.2)⟩
      · have := cl_eo h.2 v hv
        exact ⟨List.mem_cons_of_mem _ (List.mem_append_right _ this.1), List.mem_cons_of_mem _ (List.mem_append_right _ this.2)⟩
/-- what a state is opened to -/
noncomputable def opS (ms : D → List Q) (d : D) : NQ := if h : ∃ u, sttD u = d then ⟨rowS ms h.choose 0, sttD (eoS ms h.choose).1, sttD (eoS ms h.choose).2⟩ else ⟨0, .non, .non⟩
theorem opS_st (u : St) : opS ms (sttD u) = ⟨rowS ms u 0, sttD (eoS ms u).1, sttD (eoS ms u).2⟩ := by
  have h : ∃ v, sttD v = sttD u := ⟨u, rfl⟩
  have e : h.choose = u := sttD_inj h.choose_spec
  unfold opS
  rw [dif_pos h, e]
theorem rwD_st : ∀ (n : Nat) {u : St}, wfS ms u → rwD (opS ms) (sttD u) n = rowS ms u n := by
  intro n
  induction n using Nat.strongRecOn with
  | _ n ih =>
    intro u h
    by_cases h0 : n = 0
    · rw [h0, rwD0, opS_st]
    · rw [rwD1 _ _ h0, opS_st]
      have hr := row_eo h (n / 2)
      by_cases c : n % 2 = 0
      · rw [if_pos c, ih (n / 2) (by omega) (wf_eo h).1, hr.1]
        congr 1
        omega
      · rw [if_neg c, ih (n / 2) (by omega) (wf_eo h).2, hr.2]
        congr 1
        omega
def Nkd (n : Nat) (d : D) : Prop := ∃ k, nkD d = some k ∧ k.depth ≤ n
theorem Nkd.int (i : Int) : Nkd 0 (.int i) := ⟨.num i, by rw [nkD], by simp [PySem.NestedKey.depth]⟩
theorem Nkd.str (s : List Nat) : Nkd 0 (.str s) := ⟨.text (Z.str s), by rw [nkD], by simp [PySem.NestedKey.depth]⟩
theorem Nkd.le {n m : Nat} {d : D} (h : Nkd n d) (e : n ≤ m) : Nkd m d := let ⟨k, h1, h2⟩ := h; ⟨k, h1, by omega⟩
theorem nkL_of {n : Nat} : ∀ {l : List D}, (∀ d ∈ l, Nkd n d) → ∃ ks, nkL l = some ks ∧ PySem.NestedKey.depthAll ks ≤ n
  | [], _ => ⟨[], by rw [nkL], by simp [PySem.NestedKey.depthAll]⟩
  | x :: l, h => by
    obtain ⟨k, h1, h2⟩ := h x (by simp)
    obtain ⟨ks, h3, h4⟩ := nkL_of (l := l) fun d hd => h d (List.mem_cons_of_mem _ hd)
    exact ⟨k :: ks, by rw [nkL, h1, h3], by simp only [PySem.NestedKey.depthAll]; omega⟩
theorem Nkd.tup {n : Nat} {l : List D} (h : ∀ d ∈ l, Nkd n d) : Nkd (n + 1) (.tup l) := by
  obtain ⟨ks, h1, h2⟩ := nkL_of h
  exact ⟨.tup ks, by rw [nkD, h1]; rfl, by simp only [PySem.NestedKey.depth]; omega⟩
theorem Nkd.ok {n : Nat} {l : List D} (h : Nkd n (.tup l)) (hn : n ≤ 8) : nkOk (.tup l) = true := by
  obtain ⟨k, h1, h2⟩ := h
  show (match nkD (.tup l) with | some k => decide (k.depth ≤ 8) | none => false) = true
  rw [h1]
  exact decide_eq_true (by omega)
def nmOk (ms : D → List Q) : St → Prop
  | .m n _ => Nkd 0 n ∧ (∀ S, Dk 1 S n)
  | .s _ u => nmOk ms u
  | .b u => nmOk ms u
  | .z u v => nmOk ms u ∧ nmOk ms v
theorem st_nkd : ∀ {u : St}, nmOk ms u → Nkd (depS u) (sttD u)
  | .m n i, h => Nkd.tup (n := 0) fun d hd => by
    simp at hd
    rcases hd with rfl | rfl | rfl
    · exact .str _
    · exact h.1
    · exact .int _
  | .s x u, h => Nkd.tup (n := depS u) fun d hd => by
    simp at hd
    rcases hd with rfl | rfl | rfl
    · exact (Nkd.str _).le (by omega)
    · exact (Nkd.int _).le (by omega)
    · exact st_nkd (u := u) h
  | .b u, h => Nkd.tup (n := depS u) fun d hd => by
    simp at hd
    rcases hd with rfl | rfl
    · exact (Nkd.str _).le (by omega)
    · exact st_nkd (u := u) h
  | .z u v, h => Nkd.tup (n := max (depS u) (depS v)) fun d hd => by
    simp at hd
    rcases hd with rfl | rfl | rfl
    · exact (Nkd.str _).le (by omega)
    · exact (st_nkd h.1).le (by omega)
    · exact (st_nkd h.2).le (by omega)
theorem st_tup (u : St) : ∃ l, sttD u = .tup l := by cases u <;> exact ⟨_, rfl⟩
theorem st_key {u : St} (h : nmOk ms u) (hd : depS u ≤ 8) : nkOk (sttD u) = true := by
  obtain ⟨l, e⟩ := st_tup u
  have := st_nkd h
  rw [e] at this ⊢
  exact this.ok hd
theorem pr_key {u v : St} (hu : nmOk ms u) (hv : nmOk ms v) (h1 : depS u ≤ 7) (h2 : depS v ≤ 7) : nkOk (prD (sttD u, sttD v)) = true :=
  Nkd.ok (n := 8) (Nkd.tup (n := 7) fun d hd => by
    simp at hd
    rcases hd with rfl | rfl
    · exact (st_nkd hu).le h1
    · exact (st_nkd hv).le h2) (Nat.le_refl _)
theorem st_dk : ∀ {u : St}, nmOk ms u → ∀ S, Dk (depS u + 1) S (sttD u)
  | .m n i, h, S => Dk.tup (k := 1) fun d hd => by
    simp at hd
    rcases hd with rfl | rfl | rfl
    · exact .str _
    · exact h.2 S
    · exact .int _
  | .s x u, h, S => Dk.tup (k := depS u + 1) fun d hd => by
    simp at hd
    rcases hd with rfl | rfl | rfl
    · exact .str _
    · exact .int _
    · exact st_dk (u := u) h S
  | .b u, h, S => Dk.tup (k := depS u + 1) fun d hd => by
    simp at hd
    rcases hd with rfl | rfl
    · exact .str _
    · exact st_dk (u := u) h S
  | .z u v, h, S => Dk.tup (k := max (depS u) (depS v) + 1) fun d hd => by
    simp at hd
    rcases hd with rfl | rfl | rfl
    · exact .str _
    · exact Dk.le (by omega) (st_dk h.1 S)
    · exact Dk.le (by omega) (st_dk h.2 S)
theorem cl_nm : ∀ {u : St}, nmOk ms u → ∀ v ∈ clS ms u, nmOk ms v
  | .m n i, h, v, hv => by obtain ⟨j, hj, rfl⟩ := List.mem_map.mp hv; exact h
  | .s x u, h, v, hv => by
    rcases List.mem_append.mp hv with hv | hv
    · obtain ⟨w, hw, rfl⟩ := List.mem_map.mp hv
      exact cl_nm (u := u) h w hw
    · exact cl_nm (u := u) h v hv
  | .b u, h, v, hv => by
    rcases List.mem_append.mp hv with hv | hv
    · obtain ⟨w, hw, rfl⟩ := List.mem_map.mp hv
      exact cl_nm (u := u) h w hw
    · exact cl_nm (u := u) h v hv
  | .z u w, h, v, hv => by
    rcases List.mem_cons.mp hv with rfl | hv
    · exact h
    · rcases List.mem_append.mp hv with hv | hv
      · exact cl_nm h.1 v hv
      · exact cl_nm h.2 v hv
end
end Z
namespace Z
open Classical
/-- each machine's name -/
def lvS (P : D → Prop) : St → Prop
  | .m n _ => P n
  | .s _ u => lvS P u
  | .b u => lvS P u
  | .z u v => lvS P u ∧ lvS P v
section
variable {ms : D → List Q} {P : D → Prop}
theorem lv_cl : ∀ {u : St}, lvS P u → ∀ v ∈ clS ms u, lvS P v
  | .m n i, h, v, hv => by obtain ⟨j, hj, rfl⟩ := List.mem_map.mp hv; exact h
  | .s x u, h, v, hv => by
    rcases List.mem_append.mp hv with hv | hv
    · obtain ⟨w, hw, rfl⟩ := List.mem_map.mp hv
      exact lv_cl (u := u) h w hw
    · exact lv_cl (u := u) h v hv
  | .b u, h, v, hv => by
    rcases List.mem_append.mp hv with hv | hv
    · obtain ⟨w, hw, rfl⟩ := List.mem_map.mp hv
      exact lv_cl (u := u) h w hw
    · exact lv_cl (u := u) h v hv
  | .z u w, h, v, hv => by
    rcases List.mem_cons.mp hv with rfl | hv
    · exact h
    · rcases List.mem_append.mp hv with hv | hv
      · exact lv_cl h.1 v hv
      · exact lv_cl h.2 v hv
theorem lv_eo : ∀ {u : St}, lvS P u → lvS P (eoS ms u).1 ∧ lvS P (eoS ms u).2
  | .m n i, h => ⟨h, h⟩
  | .s x u, h => ⟨(lv_eo (u := u) h).2, (lv_eo (u := u) h).1⟩
  | .b u, h => ⟨(lv_eo (u := u) h).2, (lv_eo (u := u) h).1⟩
  | .z u v, h => h
end
end Z
namespace Z
section
variable {m1 m2 : List Q} (M1 : Mach m1) (M2 : Mach m2)
include M1 M2
/-- the look at all pairs met tells whether the rows are alike -/
theorem shA_met {row : List PP} (R : Met m1 m2 row) : shA m1 m2 row = true ↔ ∀ p ∈ row, (stq m1 p.1).s = (stq m2 p.2).s := by
  unfold shA
  rw [decide_eq_true_eq]
  exact ⟨fun h p hp => (h.2 p hp).2.2.1, fun h => ⟨R.zero, fun p hp => ⟨(R.bd p hp).1, (R.bd p hp).2, h p hp, (R.closed hp).1, (R.closed hp).2⟩⟩⟩
end
end Z
namespace Z
open Classical
/-- rows in a list -/
def LsM (xs : List D) (ms : D → List Q) (n : D) : Prop := ∃ k : Nat, n = .int (k : Nat) ∧ atI xs (k : Int) = some (machD (ms n))
theorem s_opened1 {ms : D → List Q} {r : Nat} {xs : List D} {S : Store} (g : S[r]? = some (.lst xs)) : ∀ (d : Nat) {u : St}, depS u ≤ d → wfS ms u → lvS (LsM xs ms) u → R_law_opened d [.ref r, sttD u] S = some (.ok (.tup [.int (rowS ms u 0 : Nat), sttD (eoS ms u).1, sttD (eoS ms u).2]) S)
  | 0, .m .., h, _, _ => by simp [depS] at h
  | 0, .s .., h, _, _ => by simp [depS] at h
  | 0, .b .., h, _, _ => by simp [depS] at h
  | 0, .z .., h, _, _ => by simp [depS] at h
  | d + 1, .m n i, _, w, l => by
    have a1 : ∀ x y z : D, atI [x, y, z] 1 = some y := fun x y z => atI_nat (k := 1) rfl
    have a2 : ∀ x y z : D, atI [x, y, z] 2 = some z := fun x y z => atI_nat (k := 2) rfl
    have hs : atI ((ms n).map Q.d) (i : Int) = some (stq (ms n) i).d := at_state w.2
    have hr : rowS ms (.m n i) 0 = (stq (ms n) i).s := by simp [rowS, sgn, go0]
    rw [hr]
    obtain ⟨k, hk, hx⟩ := l
    subst hk
    rw [R_law_opened, run_eq (n := 2) _ _ rfl]
    unfold b_law_opened
    simp [sttD, at0, a1, a2, g, hx, hs, Q.d, eoS]
  | d + 1, .z u v, h, w, l => by
    simp only [depS] at h
    have a1 : ∀ x y z : D, atI [x, y, z] 1 = some y := fun x y z => atI_nat (k := 1) rfl
    have a2 : ∀ x y z : D, atI [x, y, z] 2 = some z := fun x y z => atI_nat (k := 2) rfl
    have ih := s_opened1 g d (u := u) (by omega) w.1 l.1
    have hr : rowS ms (.z u v) 0 = rowS ms u 0 := by simp [rowS]
    rw [hr]
    rw [R_law_opened, run_eq (n := 2) _ _ rfl]
    unfold b_law_opened
    simp [sttD, at0, a1, a2, ih, eoS]
  | d + 1, .s x u, h, w, l => by
    simp only [depS] at h
    have a1 : ∀ x y z : D, atI [x, y, z] 1 = some y := fun x y z => atI_nat (k := 1) rfl
    have am : ∀ x y z : D, atI [x, y, z] (-1) = some z := fun x y z => at_last [x, y] z
    have ih := s_opened1 g d (u := u) (by omega) w.2 l
    have hr : rowS ms (.s x u) 0 = x := by simp [rowS]
    rw [hr]
    rw [R_law_opened, run_eq (n := 2) _ _ rfl]
    unfold b_law_opened
    simp [sttD, at0, a1, am, ih, eoS]
  | d + 1, .b u, h, w, l => by
    simp only [depS] at h
    have am : ∀ x y : D, atI [x, y] (-1) = some y := fun x y => at_last [x] y
    have ih := s_opened1 g d (u := u) (by omega) w l
    have ih2 := s_opened1 g d (u := (eoS ms u).2) (by have := (dep_eo (ms := ms) (u := u)).2; omega) (wf_eo (u := u) w).2 (lv_eo (u := u) l).2
    have hr : rowS ms (.b u) 0 = rowS ms (eoS ms u).2 0 := by
      rw [(row_eo (u := u) w 0).2]
      simp [rowS]
    rw [hr]
    rw [R_law_opened, run_eq (n := 2) _ _ rfl]
    unfold b_law_opened
    simp [sttD, at0, am, ih, ih2, eoS]
/-- two states' rows held against one another -/
theorem s_states1 {ms : D → List Q} {r : Nat} {xs : List D} {S : Store} (g : S[r]? = some (.lst xs)) {u v : St} (wu : wfS ms u) (wv : wfS ms v) (lu : lvS (LsM xs ms) u) (lw : lvS (LsM xs ms) v) (nu : nmOk ms u) (nv : nmOk ms v) (du : depS u ≤ 6) (dv : depS v ≤ 6) (few : (clS ms u).length + (clS ms v).length ≤ 400) {t : Nat} (ht : S[t]? = some (.lst [sttD u, sttD v])) :
    ∃ us f S1, R_law_states [.ref r, .ref t] S = some (.ok (.ref f) S1) ∧ Keep S S1 ∧ DA S1 f true (grD (guG (opS ms) us)) ∧ PWk us (opS ms) us us ∧ sttD u ∈ us ∧ sttD v ∈ us ∧ us.length ≤ (clS ms u).length + (clS ms v).length ∧ ∀ d ∈ us, ∃ x, (x ∈ clS ms u ∨ x ∈ clS ms v) ∧ sttD x = d := by
  obtain ⟨L, hL⟩ : ∃ L, L = clS ms u ++ clS ms v := ⟨_, rfl⟩
  have hLp : ∀ x ∈ L, wfS ms x ∧ depS x ≤ 6 ∧ lvS (LsM xs ms) x ∧ nmOk ms x := fun x hx => by
    rw [hL] at hx
    rcases List.mem_append.mp hx with hx | hx
    · have := cl_wf wu x hx
      exact ⟨this.1, by omega, lv_cl lu x hx, cl_nm nu x hx⟩
    · have := cl_wf wv x hx
      exact ⟨this.1, by omega, lv_cl lw x hx, cl_nm nv x hx⟩
  have hLc : ∀ x ∈ L, (eoS ms x).1 ∈ L ∧ (eoS ms x).2 ∈ L := fun x hx => by
    rw [hL] at hx ⊢
    rcases List.mem_append.mp hx with hx | hx
    · have := cl_eo wu x hx
      exact ⟨List.mem_append_left _ this.1, List.mem_append_left _ this.2⟩
    · have := cl_eo wv x hx
      exact ⟨List.mem_append_right _ this.1, List.mem_append_right _ this.2⟩
  have key : ∀ {P : D → Prop}, (∀ x ∈ L, P (sttD x)) → ∀ d ∈ L.map sttD, P d := fun h d hd => by
    obtain ⟨x, hx, rfl⟩ := List.mem_map.mp hd
    exact h x hx
  have hsg : ∀ x ∈ L, (opS ms (opS ms (sttD x)).e).s = (opS ms (sttD x)).s := fun x hx => by
    rw [opS_st, opS_st]
    have := (row_eo (hLp x hx).1 0).1
    simpa using this
  have U : UOk (L.map sttD) (opS ms) r (.lst xs) := ⟨key fun x hx => st_key (hLp x hx).2.2.2 (by have := (hLp x hx).2.1; omega), key fun x hx T => Dk.le (by have := (hLp x hx).2.1; omega) (st_dk (hLp x hx).2.2.2 T),
    key fun x hx => by rw [opS_st]; exact List.mem_map.mpr ⟨_, (hLc x hx).1, rfl⟩, key fun x hx => by rw [opS_st]; exact List.mem_map.mpr ⟨_, (hLc x hx).2, rfl⟩, key hsg,
    key fun x hx T gT => by
      rw [opS_st]
      exact s_opened1 gT 24 (by have := (hLp x hx).2.1; omega) (hLp x hx).1 (hLp x hx).2.2.1, by rw [List.length_map, hL, List.length_append]; omega⟩
  have hu : u ∈ L := by rw [hL]; exact List.mem_append_left _ (cl_self wu)
  have hv : v ∈ L := by rw [hL]; exact List.mem_append_right _ (cl_self wv)
  obtain ⟨us, f, S1, e, gf, k1, nd, sub, cl, st, _⟩ := s_law_states U g ht (fun x hx => by
    simp at hx
    rcases hx with rfl | rfl
    · exact List.mem_map.mpr ⟨_, hu, rfl⟩
    · exact List.mem_map.mpr ⟨_, hv, rfl⟩) (by simp)
  have hus : ∀ d ∈ us, ∃ x ∈ L, sttD x = d := fun d hd => List.mem_map.mp (sub d hd)
  have hlen := nodup_len nd sub
  rw [List.length_map, hL, List.length_append] at hlen
  have W : PWk us (opS ms) us us := ⟨fun d hd => ⟨hd, cl d hd⟩, fun d hd => ⟨hd, cl d hd⟩, fun d hd => U.key d (sub d hd), fun d hd d' hd' => by
    obtain ⟨x, hx, rfl⟩ := hus d hd
    obtain ⟨y, hy, rfl⟩ := hus d' hd'
    exact pr_key (hLp x hx).2.2.2 (hLp y hy).2.2.2 (by have := (hLp x hx).2.1; omega) (by have := (hLp y hy).2.1; omega), fun d hd => U.s d (sub d hd), Nat.le_trans (Nat.mul_le_mul (show us.length ≤ 400 by omega) (show us.length ≤ 400 by omega)) (by decide)⟩
  refine ⟨us, f, S1, e, k1, gf, W, st _ (by simp), st _ (by simp), by omega, fun d hd => ?_⟩
  obtain ⟨x, hx, rfl⟩ := hus d hd
  exact ⟨x, by rw [hL] at hx; exact List.mem_append.mp hx, rfl⟩
theorem lp_body32 {m1 m2 : List Q} {r : Nat} {row : List PP} {S : Store} (hr : S[r]? = some (.lst (row.map pD))) {p : PP} (hg : goodP m1 m2 row p) :
    lb_law_pairing_1 [some (machD m1), some (machD m2), some (.ref r), some (.int p.1), some (.int p.2)] S = some (.nx [some (machD m1), some (machD m2), some (.ref r), some (.int p.1), some (.int p.2)] S) := by
  obtain ⟨c1, c2, c3, c4, c5⟩ := hg
  have a1 := at_state c1
  have a2 := at_state c2
  have eA : (D.tup [.int (stq m1 p.1).e, .int (stq m2 p.2).e]) = pD (nx1 m1 m2 p) := rfl
  have eB : (D.tup [.int (stq m1 p.1).o, .int (stq m2 p.2).o]) = pD (nx2 m1 m2 p) := rfl
  have n1 := ni_p (nx1 m1 m2 p) hr
  have n2 := ni_p (nx2 m1 m2 p) hr
  simp [lb_law_pairing_1, a1, a2, q_s, q_e, q_o, c3, eA, eB, n1, n2, c4, c5]
theorem s_law_pairing32 {m1 m2 : List Q} {r : Nat} {row : List PP} {S : Store} (hr : S[r]? = some (.lst (row.map pD))) (h0 : (0, 0) ∈ row) (hg : ∀ p ∈ row, goodP m1 m2 row p) : R_law_pairing [machD m1, machD m2, .ref r] S = some (.ok (.bl true) S) := by
  have n0 := ni_p (0, 0) hr
  have e0 : D.tup [.int 0, .int 0] = pD (0, 0) := rfl
  have key := forL_inv (chk := fun S' => S'[r]? = some (.lst (row.map pD))) (g := gTup [gName 3, gName 4]) (b := lb_law_pairing_1) (fun ρ S' => S' = S ∧ ∃ x y, ρ = [some (machD m1), some (machD m2), some (.ref r), x, y]) (fun ρ S' h => by rw [h.1]; exact hr) (row.map pD) (by
    rintro d hd ρ S' ⟨rfl, x, y, rfl⟩
    obtain ⟨p, hp, rfl⟩ := List.mem_map.mp hd
    exact ⟨_, _, rfl, _, _, lp_body32 hr (hg p hp), rfl, _, _, rfl⟩) [some (machD m1), some (machD m2), some (.ref r), none, none] S ⟨rfl, _, _, rfl⟩
  obtain ⟨ρ', S', h, rfl, x, y, rfl⟩ := key
  unfold R_law_pairing
  rw [run_eq (n := 3) _ _ rfl]
  unfold b_law_pairing
  have hi := isi_ref hr .list
  simp [-getElem?_pos, List.getElem?_cons_zero, List.getElem?_cons_succ, hi, e0, n0, h0, hr, h]
end Z
namespace Z
open Classical
/-- all but r stand, and a spring -/
structure Fr3 (p c r : Nat) (S S' : Store) : Prop where
  le : S.length ≤ S'.length
  old : ∀ i, i < S.length → i ≠ p → i ≠ c → i ≠ r → S'[i]? = S[i]?
theorem Fr3.refl {p c r : Nat} {S : Store} : Fr3 p c r S S := ⟨Nat.le_refl _, fun _ _ _ _ _ => rfl⟩
theorem Fr3.fr {p c r : Nat} {S S' S'' : Store} (a : Fr3 p c r S S') (b : Fr p c S' S'') : Fr3 p c r S S'' := ⟨Nat.le_trans a.le b.le, fun i h1 h2 h3 h4 => by rw [b.old i (Nat.lt_of_lt_of_le h1 a.le) h2 h3, a.old i h1 h2 h3 h4]⟩
theorem Fr3.set {p c r : Nat} {S S' : Store} {o : MO} (a : Fr3 p c r S S') : Fr3 p c r S (S'.set r o) := ⟨by rw [List.length_set]; exact a.le, fun i h1 h2 h3 h4 => by rw [List.getElem?_set_ne (Ne.symm h4)]; exact a.old i h1 h2 h3 h4⟩
end Z
namespace Z
open Classical
theorem exp_app {a e : SE} {ρ : Env} {S S1 : Store} {r : Nat} {xs ys : List D} {y : D} (ha : a ρ S = some (.ok (.ref r) S)) (g0 : S[r]? = some (.lst xs)) (he : e ρ S = some (.ok y S1)) (g : S1[r]? = some (.lst ys)) (hl : ys.length < LINE) : sExp (eMt .list appendF a [e]) ρ S = some (.nx ρ (S1.set r (.lst (ys ++ [y])))) := by
  rw [x_exp, x_mt, ha, bd_ok, if_pos (by simp [g0]), x_cons, he, bd_ok, x_nil, bd_ok, bd_ok]
  simp [g, hl]
end Z
namespace Z
open Classical
theorem tup_l {a : SE} {ρ : Env} {S S1 : Store} {l : Nat} {xs : List D} (ha : a ρ S = some (.ok (.ref l) S1)) (g : S1[l]? = some (.lst xs)) : eCall tupleF [a] ρ S = some (.ok (.tup xs) S1) := by
  rw [x_call, evc ha x_nil, bd_ok, o_tuple]
  simp only [seqOf, g]
def TwP (m L : List Q) : Prop := ∀ k q, L[k]? = some q → q.s = (stq m (k % m.length)).s ∧ q.e < 2 * m.length ∧ q.e % m.length = (stq m (k % m.length)).e ∧ q.o < 2 * m.length
theorem tw_mach {m L : List Q} (M : Mach m) (h : TwP m L) (hl : L.length = 2 * m.length) : Mach L := by
  have hp := M.pos
  have get : ∀ q ∈ L, ∃ k, L[k]? = some q := fun q hq => List.getElem?_of_mem hq
  refine ⟨by omega, fun q hq => ?_, fun q hq => ?_, fun q hq p hp' => ?_, fun q hq => ?_⟩
  · obtain ⟨k, hk⟩ := get q hq
    have := (h k q hk).2.1
    omega
  · obtain ⟨k, hk⟩ := get q hq
    have := (h k q hk).2.2.2
    omega
  · obtain ⟨k, hk⟩ := get q hq
    obtain ⟨h1, h2, h3, h4⟩ := h k q hk
    have hb := (h _ p hp').1
    rw [hb, h3, h1]
    have hkm := Nat.mod_lt k hp
    exact M.hs _ (Mach.mem hkm) _ (Mach.at (M.bd9 hkm).1)
  · obtain ⟨k, hk⟩ := get q hq
    rw [(h k q hk).1]
    exact M.h9 _ (Mach.mem (Nat.mod_lt k hp))
theorem s_law_twins {S : Store} {p c : Nat} {m : List Q} (M : Mach m) (hm : m.length ≤ 100) (hs : Sp S p c) : ∃ L S', R_law_twins [.ref p, machD m] S = some (.ok (machD L) S') ∧ Mach L ∧ L.length = 2 * m.length ∧ Sp S' p c ∧ Fr p c S S' := by
  have hp := M.pos
  have hlt := hs.lt
  obtain ⟨T0, hT0⟩ : ∃ T0, T0 = S ++ [MO.lst []] := ⟨_, rfl⟩
  obtain ⟨ρ1, T1, er, o4, o5, o6, o7, L, rfl, hL, hg, hlen, sp1, f1⟩ := forL_range (g := gName 4) (b := lb_law_twins_1 R_law_drop) (n := 2 * m.length)
    (fun k ρ T => ∃ (o4 o5 o6 o7 : Option D) (L : List Q), ρ = [some (.ref p), some (machD m), some (.int (m.length : Nat)), some (.ref S.length), o4, o5, o6, o7, none] ∧ TwP m L ∧ T[S.length]? = some (.lst (L.map Q.d)) ∧ L.length = k ∧ Sp T p c ∧ Fr p c S T) (fun k hk ρ T ⟨o4, o5, o6, o7, L, hρ, hL, hg, hlen, sp, f⟩ => by
      subst hρ
      have hkm := Nat.mod_lt k hp
      obtain ⟨q, hq⟩ : ∃ q, q = stq m (k % m.length) := ⟨_, rfl⟩
      have hb := M.bd9 hkm
      rw [← hq] at hb
      obtain ⟨v, T1, er1, hv, s1, l1, f1⟩ := drop_nat sp 2 (by decide) (by decide)
      obtain ⟨w, T2, er2, hw, s2, l2, f2⟩ := drop_nat s1 2 (by decide) (by decide)
      have g2 : T2[S.length]? = some (.lst (L.map Q.d)) := f2.at (f1.at hg (by omega) (by omega)) (by omega) (by omega)
      have hl2 := (List.getElem?_eq_some_iff.mp g2).1
      obtain ⟨x, hx⟩ : ∃ x : Q, x = ⟨q.s, q.e + m.length * v, q.o + m.length * w⟩ := ⟨_, rfl⟩
      have hv2 : m.length * v ≤ m.length := by
        have : v = 0 ∨ v = 1 := by omega
        rcases this with rfl | rfl <;> simp
      have hw2 : m.length * w ≤ m.length := by
        have : w = 0 ∨ w = 1 := by omega
        rcases this with rfl | rfl <;> simp
      obtain ⟨ρ, hρ⟩ : ∃ ρ, ρ = [some (D.ref p), some (machD m), some (.int (m.length : Nat)), some (.ref S.length), some (.int (k : Nat)), some (.int (q.s : Nat)), some (.int (q.e : Nat)), some (.int (q.o : Nat)), none] := ⟨_, rfl⟩
      refine ⟨[some (.ref p), some (machD m), some (.int (m.length : Nat)), some (.ref S.length), some (.int (k : Nat)), o5, o6, o7, none], T, rfl, ρ, T2.set S.length (.lst ((L ++ [x]).map Q.d)), .inl ?_, some (.int (k : Nat)), some (.int (q.s : Nat)), some (.int (q.e : Nat)), some (.int (q.o : Nat)), L ++ [x], hρ, ?_, List.getElem?_set_self hl2, by simp [hlen], s2.set (by omega) (by omega), ((f.trans f1).trans f2).set (Nat.le_refl _)⟩
      · have v0 : ∀ T, eVar 0 ρ T = some (.ok (.ref p) T) := fun T => by rw [hρ]; rfl
        have v2 : ∀ T, eVar 2 ρ T = some (.ok (.int (m.length : Nat)) T) := fun T => by rw [hρ]; rfl
        have v5 : ∀ T, eVar 5 ρ T = some (.ok (.int (q.s : Nat)) T) := fun T => by rw [hρ]; rfl
        have v6 : ∀ T, eVar 6 ρ T = some (.ok (.int (q.e : Nat)) T) := fun T => by rw [hρ]; rfl
        have v7 : ∀ T, eVar 7 ρ T = some (.ok (.int (q.o : Nat)) T) := fun T => by rw [hρ]; rfl
        unfold lb_law_twins_1
        rw [sq_nx (ρ1 := ρ) (S1 := T) (by
          have hmod : e2 modD (eVar 4) (eVar 2) [some (.ref p), some (machD m), some (.int (m.length : Nat)), some (.ref S.length), some (.int (k : Nat)), o5, o6, o7, none] T = some (.ok (.int ((k % m.length : Nat) : Int)) T) := by
            exact mod_e (show eVar 4 _ T = some (.ok (.int (k : Nat)) T) from rfl) (show eVar 2 _ T = some (.ok (.int (m.length : Nat)) T) from rfl) hp
          have hix : atI (m.map Q.d) ((k % m.length : Nat) : Int) = some q.d := by rw [hq]; exact at_state hkm
          have : e2 ixD (eVar 1) (e2 modD (eVar 4) (eVar 2)) [some (.ref p), some (machD m), some (.int (m.length : Nat)), some (.ref S.length), some (.int (k : Nat)), o5, o6, o7, none] T = some (.ok q.d T) := by
            rw [x_2, show eVar 1 _ T = some (.ok (machD m) T) from rfl, bd_ok, hmod, bd_ok]
            unfold ixD machD
            simp only [seqOf, hix]
          rw [x_asg, this, hρ]
          rfl)]
        have xd : ∀ (v : Nat) (T T1 : Store), R_law_drop [.ref p, .int 2] T = some (.ok (.int (v : Nat)) T1) → eCall R_law_drop [eVar 0, eC (.int 2)] ρ T = some (.ok (.int (v : Nat)) T1) := fun v T T1 h => by
          rw [x_call, evc (v0 _) (evc (x_c _) x_nil), bd_ok]
          exact h
        have xm : ∀ (i : Nat) (a : SE) (z : Nat) (v : Nat) (T T1 : Store), (∀ T, a ρ T = some (.ok (.int (z : Nat)) T)) → v < 2 → R_law_drop [.ref p, .int 2] T = some (.ok (.int (v : Nat)) T1) → e2 addD a (e2 mulD (eVar 2) (eCall R_law_drop [eVar 0, eC (.int 2)])) ρ T = some (.ok (.int ((z + m.length * v : Nat) : Int)) T1) := fun i a z v T T1 ha hv h => by
          have hsm : small (m.length : Int) := small_nat (by omega)
          have hsv : small (v : Int) := small_nat (by omega)
          rw [x_2, ha, bd_ok, x_2, v2, bd_ok, xd v T T1 h, bd_ok]
          have : mulD (.int (m.length : Nat)) (.int (v : Nat)) T1 = some (.ok (.int ((m.length * v : Nat) : Int)) T1) := by
            simp [hsm, hsv]
          rw [this, bd_ok, o_add]
          congr 3
        have xt : eTup [eVar 5, e2 addD (eVar 6) (e2 mulD (eVar 2) (eCall R_law_drop [eVar 0, eC (.int 2)])), e2 addD (eVar 7) (e2 mulD (eVar 2) (eCall R_law_drop [eVar 0, eC (.int 2)]))] ρ T = some (.ok x.d T2) := by
          rw [x_tup, evc (v5 _) (evc (xm 0 (eVar 6) q.e v T T1 v6 hv er1) (evc (xm 0 (eVar 7) q.o w T1 T2 v7 hw er2) x_nil)), hx]
          rfl
        rw [exp_app (show eVar 3 ρ T = some (.ok (.ref S.length) T) by rw [hρ]; rfl) hg xt g2 (by rw [LINE_eq]; simp; omega), List.map_append]
        rfl
      · intro j y hy
        by_cases c : j < L.length
        · rw [List.getElem?_append_left c] at hy
          exact hL j y hy
        · rw [List.getElem?_append_right (by omega)] at hy
          have hj : j = k := by
            have := (List.getElem?_eq_some_iff.mp hy).1
            simp at this
            omega
          subst hj
          rw [hlen, Nat.sub_self] at hy
          simp at hy
          subst hy
          rw [hx, ← hq]
          refine ⟨rfl, by show q.e + m.length * v < _; omega, ?_, by show q.o + m.length * w < _; omega⟩
          show (q.e + m.length * v) % m.length = q.e
          rw [Nat.add_mul_mod_self_left]
          exact Nat.mod_eq_of_lt hb.1) [some (.ref p), some (machD m), some (.int (m.length : Nat)), some (.ref S.length), none, none, none, none, none] T0 ⟨_, _, _, _, [], rfl, fun k q h => by simp at h, by rw [hT0]; simp, rfl, by rw [hT0]; exact hs.app, by rw [hT0]; exact .app⟩
  -- one odd state perhaps another one
  obtain ⟨u, T2, er2, hu, sp2, l2, f2⟩ := drop_nat sp1 3 (by decide) (by decide)
  have g2 : T2[S.length]? = some (.lst (L.map Q.d)) := f2.at hg (by omega) (by omega)
  obtain ⟨L', T3, o8, hst, hL', hlen', g3, sp3, f3⟩ : ∃ (L' : List Q) (T3 : Store) (o8 : Option D), sIf (tVal (e2 eqD (eCall R_law_drop [eVar 0, eC (.int 3)]) (eC (.int 0)))) (sq (sAsg (eCall R_law_drop [eVar 0, e2 mulD (eC (.int 2)) (eVar 2)]) (gName 8)) (sAsg (e2 addD (eSl (e2 ixD (eVar 3) (eVar 8)) none (some (eC (.int 2)))) (eTup [eCall R_law_drop [eVar 0, e2 mulD (eC (.int 2)) (eVar 2)]])) (setF (eVar 3) (eVar 8)))) (sNx) [some (.ref p), some (machD m), some (.int (m.length : Nat)), some (.ref S.length), o4, o5, o6, o7, none] T1 = some (.nx [some (.ref p), some (machD m), some (.int (m.length : Nat)), some (.ref S.length), o4, o5, o6, o7, o8] T3) ∧ TwP m L' ∧ L'.length = 2 * m.length ∧ T3[S.length]? = some (.lst (L'.map Q.d)) ∧ Sp T3 p c ∧ Fr p c S T3 := by
    have htest : tVal (e2 eqD (eCall R_law_drop [eVar 0, eC (.int 3)]) (eC (.int 0))) [some (.ref p), some (machD m), some (.int (m.length : Nat)), some (.ref S.length), o4, o5, o6, o7, none] T1 = some (.ok (decide (u = 0)) T2) := by
      refine tv_t ?_
      have : eCall R_law_drop [eVar 0, eC (.int 3)] [some (.ref p), some (machD m), some (.int (m.length : Nat)), some (.ref S.length), o4, o5, o6, o7, none] T1 = some (.ok (.int (u : Nat)) T2) := by
        rw [x_call, evc (show eVar 0 _ T1 = some (.ok (.ref p) T1) from rfl) (evc (x_c _) x_nil), bd_ok]
        exact er2
      rw [x_2, this, bd_ok, x_c, bd_ok]
      simp
    by_cases cu : u = 0
    rotate_left
    · rw [decide_eq_false cu] at htest
      exact ⟨L, T2, none, by rw [sif_t htest]; rfl, hL, hlen, g2, sp2, f1.trans f2⟩
    · rw [decide_eq_true cu] at htest
      have h2s : small (2 : Int) := small_lit (by decide) (by decide)
      have hsm : small (m.length : Int) := small_nat (by omega)
      obtain ⟨a, T3, er3, ha, sp3, l3, f3⟩ := drop_nat sp2 (2 * m.length) (by omega) (by omega)
      obtain ⟨x, T4, er4, hx, sp4, l4, f4⟩ := drop_nat sp3 (2 * m.length) (by omega) (by omega)
      have g3 : T3[S.length]? = some (.lst (L.map Q.d)) := f3.at g2 (by omega) (by omega)
      have g4 : T4[S.length]? = some (.lst (L.map Q.d)) := f4.at g3 (by omega) (by omega)
      have hl4 := (List.getElem?_eq_some_iff.mp g4).1
      have haL : a < L.length := by omega
      obtain ⟨q, hq⟩ : ∃ q, q = L[a] := ⟨_, rfl⟩
      have hLa : L[a]? = some q := by rw [List.getElem?_eq_getElem haL, hq]
      refine ⟨L.set a ⟨q.s, q.e, x⟩, T4.set S.length (.lst ((L.set a ⟨q.s, q.e, x⟩).map Q.d)), some (.int (a : Nat)), ?_, fun k y hy => ?_, by rw [List.length_set, hlen], List.getElem?_set_self hl4, sp4.set (by omega) (by omega), ?_⟩
      · rw [sif_t htest, if_pos rfl]
        obtain ⟨ρ, hρ⟩ : ∃ ρ, ρ = [some (.ref p), some (machD m), some (.int (m.length : Nat)), some (.ref S.length), o4, o5, o6, o7, some (.int (a : Nat))] := ⟨_, rfl⟩
        have xm : ∀ (ρ : Env) (T : Store), eVar 2 ρ T = some (.ok (.int (m.length : Nat)) T) → e2 mulD (eC (.int 2)) (eVar 2) ρ T = some (.ok (.int ((2 * m.length : Nat) : Int)) T) := fun ρ T h => by
          rw [x_2, x_c, bd_ok, h, bd_ok]
          simp [h2s, hsm]
        rw [sq_nx (ρ1 := ρ) (S1 := T3) (by
          have : eCall R_law_drop [eVar 0, e2 mulD (eC (.int 2)) (eVar 2)] [some (.ref p), some (machD m), some (.int (m.length : Nat)), some (.ref S.length), o4, o5, o6, o7, none] T2 = some (.ok (.int (a : Nat)) T3) := by
            rw [x_call, evc (show eVar 0 _ T2 = some (.ok (.ref p) T2) from rfl) (evc (xm _ _ rfl) x_nil), bd_ok, er3]
          rw [asg_e9 this, hρ]
          rfl)]
        have v0 : eVar 0 ρ T3 = some (.ok (.ref p) T3) := by rw [hρ]; rfl
        have v3 : ∀ T, eVar 3 ρ T = some (.ok (.ref S.length) T) := fun T => by rw [hρ]; rfl
        have v8 : ∀ T, eVar 8 ρ T = some (.ok (.int (a : Nat)) T) := fun T => by rw [hρ]; rfl
        have hsl : eSl (e2 ixD (eVar 3) (eVar 8)) none (some (eC (.int 2))) ρ T3 = some (.ok (.tup [.int (q.s : Nat), .int (q.e : Nat)]) T3) := by
          have hix : e2 ixD (eVar 3) (eVar 8) ρ T3 = some (.ok q.d T3) := by
            rw [x_2, v3, bd_ok, v8, bd_ok]
            have : atI (L.map Q.d) (a : Int) = some q.d := atI_nat (by rw [List.getElem?_map, hLa]; rfl)
            unfold ixD
            simp only [seqOf, g3, this]
          unfold eSl
          rw [hix, bd_ok]
          rfl
        have hx2 : e2 addD (eSl (e2 ixD (eVar 3) (eVar 8)) none (some (eC (.int 2)))) (eTup [eCall R_law_drop [eVar 0, e2 mulD (eC (.int 2)) (eVar 2)]]) ρ T3 = some (.ok (Q.d ⟨q.s, q.e, x⟩) T4) := by
          have hd : eCall R_law_drop [eVar 0, e2 mulD (eC (.int 2)) (eVar 2)] ρ T3 = some (.ok (.int (x : Nat)) T4) := by
            rw [x_call, evc v0 (evc (xm _ _ (by rw [hρ]; rfl)) x_nil), bd_ok, er4]
          rw [x_2, hsl, bd_ok, x_tup, evc hd x_nil, bd_ok, bd_ok, o_addt, if_pos (by rw [LINE_eq]; simp)]
          rfl
        have hi : ixN (L.map Q.d).length (a : Int) = some a := by
          unfold ixN
          rw [if_pos (by omega), if_pos (by simp; omega)]
          simp
        rw [x_asg, hx2, bo_ok]
        rw [x_set, v3, bq_ok, v8, bq_ok]
        simp only [g4, hi]
        rw [← List.map_set, hρ]
      · rw [List.getElem?_set] at hy
        by_cases c : a = k
        · subst c
          rw [if_pos rfl, if_pos haL] at hy
          cases hy
          obtain ⟨h1, h2, h3, h4⟩ := hL a q hLa
          exact ⟨h1, h2, h3, hx⟩
        · rw [if_neg c] at hy
          exact hL k y hy
      · exact (((f1.trans f2).trans f3).trans f4).set (Nat.le_refl _)
  refine ⟨L', T3, ?_, tw_mach M hL' hlen', hlen', sp3, f3⟩
  unfold R_law_twins
  rw [run_eq (n := 2) _ _ rfl]
  unfold b_law_twins
  rw [show (List.map some [D.ref p, machD m] ++ List.replicate (9 - 2) none : Env) = [some (.ref p), some (machD m), none, none, none, none, none, none, none] from rfl]
  rw [sq_nx (ρ1 := [some (.ref p), some (machD m), some (.int (m.length : Nat)), none, none, none, none, none, none]) (S1 := S) (by
    have : eCall lenF [eVar 1] [some (.ref p), some (machD m), none, none, none, none, none, none, none] S = some (.ok (.int (m.length : Nat)) S) := by
      rw [x_call, evc (show eVar 1 _ S = some (.ok (machD m) S) from rfl) x_nil, bd_ok]
      simp [machD]
    rw [asg_e9 this]
    rfl)]
  rw [sq_nx (ρ1 := [some (.ref p), some (machD m), some (.int (m.length : Nat)), some (.ref S.length), none, none, none, none, none]) (S1 := T0) (by rw [hT0]; rfl)]
  rw [sq_nx (ρ1 := [some (.ref p), some (machD m), some (.int (m.length : Nat)), some (.ref S.length), o4, o5, o6, o7, none]) (S1 := T1) (by
    have h2s : small (2 : Int) := small_lit (by decide) (by decide)
    have hsm : small (m.length : Int) := small_nat (by omega)
    have xm : e2 mulD (eC (.int 2)) (eVar 2) [some (.ref p), some (machD m), some (.int (m.length : Nat)), some (.ref S.length), none, none, none, none, none] T0 = some (.ok (.int ((2 * m.length : Nat) : Int)) T0) := by
      rw [x_2, x_c, bd_ok, show eVar 2 _ T0 = some (.ok (.int (m.length : Nat)) T0) from rfl, bd_ok]
      simp [h2s, hsm]
    have h62 : r62 ((2 * m.length : Nat) : Int) := r62_of (by omega) (by omega)
    rw [x_for, x_r1, xm, bd_ok]
    simp only [h62, if_true, bo_ok, Int.toNat_natCast]
    exact er)]
  rw [sq_nx hst]
  rw [x_ret, tup_l (show eVar 3 _ T3 = some (.ok (.ref S.length) T3) from rfl) g3]
  rfl
end Z
namespace Z
open Classical
section
variable {p c : Nat} {A B : D}
abbrev e8b (p : Nat) (A B : D) (r : Nat) (o4 o5 o6 o7 : Option D) : Env := [some (.ref p), some A, some B, some (.ref r), o4, o5, o6, o7]
/-- a slice's bound -/
def LoV (ρ : Env) (S : Store) (lo : Option SE) (lv : Option Int) : Prop := (lo = none ∧ lv = none) ∨ ∃ m i, lo = some m ∧ lv = some i ∧ m ρ S = some (.ok (.int i) S)
/-- slices of pairs, put together -/
theorem sl_pp {S : Store} {ρ : Env} {a : SE} {r : Nat} {row : List PP} (ha : a ρ S = some (.ok (.ref r) S)) (g : S[r]? = some (.lst (row.map pD))) {lo hi : Option SE} {lv hv : Option Int}
    (hl : LoV ρ S lo lv)
    (hh : LoV ρ S hi hv) :
    eSl a lo hi ρ S = some (.ok (.ref S.length) (S ++ [.lst ((cut row lv hv).map pD)])) := by
  unfold eSl
  rw [ha, bd_ok]
  have fin : slD lv hv (.ref r) S = some (.ok (.ref S.length) (S ++ [.lst ((cut row lv hv).map pD)])) := by
    unfold slD
    simp only [g]
    rw [cut_map]
    rfl
  rcases hl with ⟨rfl, rfl⟩ | ⟨m, i, rfl, rfl, hm⟩ <;> rcases hh with ⟨rfl, rfl⟩ | ⟨m2, i2, rfl, rfl, hm2⟩
  · simp only [bd_ok]; exact fin
  · simp only [bd_ok, hm2]; exact fin
  · simp only [bd_ok, hm]; exact fin
  · simp only [bd_ok, hm, hm2]; exact fin
theorem add_pp {S S1 S2 : Store} {ρ : Env} {a b : SE} {r q : Nat} {ra rb : List PP} (ha : a ρ S = some (.ok (.ref r) S1)) (hb : b ρ S1 = some (.ok (.ref q) S2)) (g1 : S2[r]? = some (.lst (ra.map pD))) (g2 : S2[q]? = some (.lst (rb.map pD))) (hl : ra.length + rb.length ≤ 100000) :
    e2 addD a b ρ S = some (.ok (.ref S2.length) (S2 ++ [.lst ((ra ++ rb).map pD)])) := by
  rw [x_2, ha, bd_ok, hb, bd_ok, o_addr]
  simp only [g1, g2]
  rw [if_pos (by rw [LINE_eq]; simp; omega), List.map_append]
theorem bent_turn {mA mB : List Q} {S : Store} {r : Nat} {row : List PP} (hs : Sp S p c) (g : S[r]? = some (.lst (row.map pD))) (rp : r ≠ p) (rc : r ≠ c) (hl : row.length ≤ 10000) (lA : mA.length ≤ 100) (lB : mB.length ≤ 100) (o4 o5 o6 o7 : Option D) :
    ∃ (r' : Nat) (row' : List PP) (p5 p6 p7 : Option D) (S' : Store), lb_law_bent_v7_1 R_law_drop (e8b p (machD mA) (machD mB) r o4 o5 o6 o7) S = some (.nx (e8b p (machD mA) (machD mB) r' o4 p5 p6 p7) S') ∧ S'[r']? = some (.lst (row'.map pD)) ∧ row'.length ≤ 2 * row.length + 1 ∧ Sp S' p c ∧ Fr p c S S' ∧ r' ≠ p ∧ r' ≠ c := by
  obtain ⟨w, S1, er1, hw, s1, l1, f1⟩ := drop_nat hs 7 (by decide) (by decide)
  have g1 := f1.at g rp rc
  obtain ⟨a, S2, er2, ha, s2, l2, f2⟩ := drop_nat s1 (row.length + 1) (by omega) (by omega)
  have g2 := f2.at g1 rp rc
  -- the pair
  obtain ⟨S3, pr, hst3, s3, f3⟩ : ∃ (S3 : Store) (pr : PP), sIf (tVal (e2 ltD (eVar 5) (eC (.int 4)))) (sAsg (eTup [eCall R_law_drop [eVar 0, e2 addD (eCall lenF [eVar 1]) (eC (.int 1))], eCall R_law_drop [eVar 0, e2 addD (eCall lenF [eVar 2]) (eC (.int 1))]]) (gName 7)) (sNx) (e8b p (machD mA) (machD mB) r o4 (some (.int (w : Nat))) (some (.int (a : Nat))) (some (pD (0, 0)))) S2 = some (.nx (e8b p (machD mA) (machD mB) r o4 (some (.int (w : Nat))) (some (.int (a : Nat))) (some (pD pr))) S3) ∧ Sp S3 p c ∧ Fr p c S2 S3 := by
    have ht : tVal (e2 ltD (eVar 5) (eC (.int 4))) (e8b p (machD mA) (machD mB) r o4 (some (.int (w : Nat))) (some (.int (a : Nat))) (some (pD (0, 0)))) S2 = some (.ok (decide (w < 4)) S2) := by
      refine tv_t ?_
      rw [x_2, show eVar 5 _ S2 = some (.ok (.int (w : Nat)) S2) from rfl, bd_ok, x_c, bd_ok, o_lt]
      congr 3
      rw [decide_eq_decide]
      omega
    by_cases cw : w < 4
    rotate_left
    · rw [decide_eq_false cw] at ht
      exact ⟨S2, (0, 0), by rw [sif_t ht]; rfl, s2, .refl⟩
    · rw [decide_eq_true cw] at ht
      obtain ⟨x, S3, er3, hx, s3, l3, f3⟩ := drop_nat s2 (mA.length + 1) (by omega) (by omega)
      obtain ⟨y, S4, er4, hy, s4, l4, f4⟩ := drop_nat s3 (mB.length + 1) (by omega) (by omega)
      refine ⟨S4, (x, y), ?_, s4, f3.trans f4⟩
      rw [sif_t ht, if_pos rfl]
      have xl : ∀ (i : Nat) (m : List Q) (ρ : Env) (T : Store), eVar i ρ T = some (.ok (machD m) T) → e2 addD (eCall lenF [eVar i]) (eC (.int 1)) ρ T = some (.ok (.int ((m.length + 1 : Nat) : Int)) T) := fun i m ρ T h => by
        have : eCall lenF [eVar i] ρ T = some (.ok (.int (m.length : Nat)) T) := by
          rw [x_call, evc h x_nil, bd_ok]
          simp [machD]
        rw [x_2, this, bd_ok, x_c, bd_ok, o_add]
        rfl
      obtain ⟨ρ, hρ⟩ : ∃ ρ, ρ = e8b p (machD mA) (machD mB) r o4 (some (.int (w : Nat))) (some (.int (a : Nat))) (some (pD (0, 0))) := ⟨_, rfl⟩
      have x1 : eCall R_law_drop [eVar 0, e2 addD (eCall lenF [eVar 1]) (eC (.int 1))] ρ S2 = some (.ok (.int (x : Nat)) S3) := by
        rw [x_call, evc (show eVar 0 ρ S2 = some (.ok (.ref p) S2) by rw [hρ]; rfl) (evc (xl 1 mA ρ S2 (by rw [hρ]; rfl)) x_nil), bd_ok, er3]
      have x2 : eCall R_law_drop [eVar 0, e2 addD (eCall lenF [eVar 2]) (eC (.int 1))] ρ S3 = some (.ok (.int (y : Nat)) S4) := by
        rw [x_call, evc (show eVar 0 ρ S3 = some (.ok (.ref p) S3) by rw [hρ]; rfl) (evc (xl 2 mB ρ S3 (by rw [hρ]; rfl)) x_nil), bd_ok, er4]
      rw [← hρ, asg_e9 (v := pD (x, y)) (S1 := S4) (by rw [x_tup, evc x1 (evc x2 x_nil)]; rfl), hρ]
      rfl
  have g3 := f3.at g2 rp rc
  -- far out
  obtain ⟨S4, pr4, hst4, s4, f4⟩ : ∃ (S4 : Store) (pr4 : PP), sIf (tVal (e2 eqD (eVar 5) (eC (.int 3)))) (sAsg (e2 ixD (eLst [eTup [e2 ixD (eVar 7) (eC (.int 0)), e2 addD (e2 powD (eC (.int 10)) (eC (.int 59))) (e2 ixD (eVar 7) (eC (.int 1)))], eTup [e2 addD (e2 powD (eC (.int 10)) (eC (.int 59))) (e2 ixD (eVar 7) (eC (.int 0))), e2 ixD (eVar 7) (eC (.int 1))]]) (eCall R_law_drop [eVar 0, eC (.int 2)])) (gName 7)) (sNx) (e8b p (machD mA) (machD mB) r o4 (some (.int (w : Nat))) (some (.int (a : Nat))) (some (pD pr))) S3 = some (.nx (e8b p (machD mA) (machD mB) r o4 (some (.int (w : Nat))) (some (.int (a : Nat))) (some (pD pr4))) S4) ∧ Sp S4 p c ∧ Fr p c S3 S4 := by
    obtain ⟨ρ, hρ⟩ : ∃ ρ, ρ = e8b p (machD mA) (machD mB) r o4 (some (.int (w : Nat))) (some (.int (a : Nat))) (some (pD pr)) := ⟨_, rfl⟩
    have ht : tVal (e2 eqD (eVar 5) (eC (.int 3))) ρ S3 = some (.ok (decide (w = 3)) S3) := by
      refine tv_t ?_
      rw [x_2, show eVar 5 ρ S3 = some (.ok (.int (w : Nat)) S3) by rw [hρ]; rfl, bd_ok, x_c, bd_ok]
      by_cases c : w = 3
      · subst c; simp
      · have : ¬ (w : Int) = 3 := by omega
        simp [c, this]
    rw [← hρ]
    by_cases cw : w = 3
    rotate_left
    · rw [decide_eq_false cw] at ht
      exact ⟨S3, pr, by rw [sif_t ht, hρ]; rfl, s3, .refl⟩
    · rw [decide_eq_true cw] at ht
      obtain ⟨G, hG⟩ : ∃ G : Nat, ∀ T, e2 powD (eC (.int 10)) (eC (.int 59)) ρ T = some (.ok (.int (G : Nat)) T) := ⟨10 ^ 59, fun T => by
        have hs : small (10 : Int) := small_lit (by decide) (by decide)
        rw [x_2, x_c, bd_ok, x_c, bd_ok, o_pow, if_pos ⟨by omega, by omega, hs⟩]
        have : ((10 : Int) ^ (59 : Int).toNat) = ((10 ^ 59 : Nat) : Int) := by rw [Int.natCast_pow]; rfl
        rw [this]⟩
      have v7 : ∀ T, eVar 7 ρ T = some (.ok (pD pr) T) := fun T => by rw [hρ]; rfl
      have x0 : ∀ T, e2 ixD (eVar 7) (eC (.int 0)) ρ T = some (.ok (.int (pr.1 : Nat)) T) := fun T => by
        rw [x_2, v7, bd_ok, x_c, bd_ok, p_0]
      have x1 : ∀ T, e2 ixD (eVar 7) (eC (.int 1)) ρ T = some (.ok (.int (pr.2 : Nat)) T) := fun T => by
        rw [x_2, v7, bd_ok, x_c, bd_ok, p_1]
      obtain ⟨T, hT⟩ : ∃ T, T = S3 ++ [MO.lst [pD (pr.1, G + pr.2), pD (G + pr.1, pr.2)]] := ⟨_, rfl⟩
      have sT : Sp T p c := by rw [hT]; exact s3.app
      have fT : Fr p c S3 T := by rw [hT]; exact .app
      obtain ⟨u, S4, er4, hu, s4, l4, f4⟩ := drop_nat sT 2 (by decide) (by decide)
      have gT : T[S3.length]? = some (.lst [pD (pr.1, G + pr.2), pD (G + pr.1, pr.2)]) := by rw [hT]; simp
      have hlt := s3.lt
      have g4 := f4.at gT (by omega) (by omega)
      have xa : e2 addD (e2 powD (eC (.int 10)) (eC (.int 59))) (e2 ixD (eVar 7) (eC (.int 1))) ρ S3 = some (.ok (.int ((G + pr.2 : Nat) : Int)) S3) := by
        rw [x_2, hG, bd_ok, x1, bd_ok, o_add]
        rfl
      have xb : e2 addD (e2 powD (eC (.int 10)) (eC (.int 59))) (e2 ixD (eVar 7) (eC (.int 0))) ρ S3 = some (.ok (.int ((G + pr.1 : Nat) : Int)) S3) := by
        rw [x_2, hG, bd_ok, x0, bd_ok, o_add]
        rfl
      have xl : eLst [eTup [e2 ixD (eVar 7) (eC (.int 0)), e2 addD (e2 powD (eC (.int 10)) (eC (.int 59))) (e2 ixD (eVar 7) (eC (.int 1)))], eTup [e2 addD (e2 powD (eC (.int 10)) (eC (.int 59))) (e2 ixD (eVar 7) (eC (.int 0))), e2 ixD (eVar 7) (eC (.int 1))]] ρ S3 = some (.ok (.ref S3.length) T) := by
        have t1 : eTup [e2 ixD (eVar 7) (eC (.int 0)), e2 addD (e2 powD (eC (.int 10)) (eC (.int 59))) (e2 ixD (eVar 7) (eC (.int 1)))] ρ S3 = some (.ok (pD (pr.1, G + pr.2)) S3) := by
          rw [x_tup, evc (x0 _) (evc xa x_nil)]
          rfl
        have t2 : eTup [e2 addD (e2 powD (eC (.int 10)) (eC (.int 59))) (e2 ixD (eVar 7) (eC (.int 0))), e2 ixD (eVar 7) (eC (.int 1))] ρ S3 = some (.ok (pD (G + pr.1, pr.2)) S3) := by
          rw [x_tup, evc xb (evc (x1 _) x_nil)]
          rfl
        rw [x_lst, evc t1 (evc t2 x_nil), bd_ok, hT]
      have xd : eCall R_law_drop [eVar 0, eC (.int 2)] ρ T = some (.ok (.int (u : Nat)) S4) := by
        rw [x_call, evc (show eVar 0 ρ T = some (.ok (.ref p) T) by rw [hρ]; rfl) (evc (x_c _) x_nil), bd_ok]
        exact er4
      obtain ⟨pr4, h4⟩ : ∃ pr4 : PP, atI [pD (pr.1, G + pr.2), pD (G + pr.1, pr.2)] (u : Int) = some (pD pr4) := by
        have : u = 0 ∨ u = 1 := by omega
        rcases this with rfl | rfl
        · exact ⟨_, atI_nat (k := 0) rfl⟩
        · exact ⟨_, atI_nat (k := 1) rfl⟩
      refine ⟨S4, pr4, ?_, s4, fT.trans f4⟩
      rw [sif_t ht, if_pos rfl, asg_e9 (v := pD pr4) (S1 := S4) (by
        rw [x_2, xl, bd_ok, xd, bd_ok]
        unfold ixD
        simp only [seqOf, g4, h4]), hρ]
      rfl
  have g4 := f4.at g3 rp rc
  have hlt4 := s4.lt
  have hr4 := (List.getElem?_eq_some_iff.mp g4).1
  -- what is told
  obtain ⟨ρ, hρ⟩ : ∃ ρ, ρ = e8b p (machD mA) (machD mB) r o4 (some (.int (w : Nat))) (some (.int (a : Nat))) (some (pD pr4)) := ⟨_, rfl⟩
  have v3 : ∀ T, eVar 3 ρ T = some (.ok (.ref r) T) := fun T => by rw [hρ]; rfl
  have v5 : ∀ T, eVar 5 ρ T = some (.ok (.int (w : Nat)) T) := fun T => by rw [hρ]; rfl
  have v6 : ∀ T, eVar 6 ρ T = some (.ok (.int (a : Nat)) T) := fun T => by rw [hρ]; rfl
  have v7 : ∀ T, eVar 7 ρ T = some (.ok (pD pr4) T) := fun T => by rw [hρ]; rfl
  have va : ∀ (j : Nat) T, e2 addD (eVar 6) (eC (.int (j : Nat))) ρ T = some (.ok (.int ((a : Int) + (j : Int))) T) := fun j T => by
    rw [x_2, v6, bd_ok, x_c, bd_ok, o_add]
  have tw : ∀ (j : Nat), tVal (e2 eqD (eVar 5) (eC (.int (j : Nat)))) ρ S4 = some (.ok (decide (w = j)) S4) := fun j => by
    refine tv_t ?_
    rw [x_2, v5, bd_ok, x_c, bd_ok]
    by_cases c : w = j
    · subst c; simp
    · have : ¬ (w : Int) = j := by omega
      simp [c, this]
  have two : ∀ (lo hi lo2 hi2 : Option SE) (lv hv lv2 hv2 : Option Int), (∀ S : Store, LoV ρ S lo lv) → (∀ S : Store, LoV ρ S hi hv) → (∀ S : Store, LoV ρ S lo2 lv2) → (∀ S : Store, LoV ρ S hi2 hv2) →
      ∃ (r' : Nat) (S5 : Store), e2 addD (eSl (eVar 3) lo hi) (eSl (eVar 3) lo2 hi2) ρ S4 = some (.ok (.ref r') S5) ∧ S5[r']? = some (.lst ((cut row lv hv ++ cut row lv2 hv2).map pD)) ∧ Keep S4 S5 ∧ S4.length ≤ r' := fun lo hi lo2 hi2 lv hv lv2 hv2 h1 h2 h3 h4 => by
    obtain ⟨T1, hT1⟩ : ∃ T1, T1 = S4 ++ [MO.lst ((cut row lv hv).map pD)] := ⟨_, rfl⟩
    obtain ⟨T2, hT2⟩ : ∃ T2, T2 = T1 ++ [MO.lst ((cut row lv2 hv2).map pD)] := ⟨_, rfl⟩
    have s1 := sl_pp (lo := lo) (hi := hi) (v3 S4) g4 (h1 S4) (h2 S4)
    rw [← hT1] at s1
    have s2 := sl_pp (lo := lo2) (hi := hi2) (v3 T1) (by rw [hT1]; exact get_app g4 _) (h3 T1) (h4 T1)
    rw [← hT2] at s2
    have c1 := cut_len row lv hv
    have c2 := cut_len row lv2 hv2
    have := add_pp s1 s2 (ra := cut row lv hv) (rb := cut row lv2 hv2) (by rw [hT2]; exact get_app (by rw [hT1]; simp) _) (by rw [hT2]; simp) (by omega)
    exact ⟨_, _, this, by simp, ((show Keep S4 T1 by rw [hT1]; exact .app).trans (show Keep T1 T2 by rw [hT2]; exact .app)).trans .app, by rw [hT2, hT1]; simp⟩
  have three : ∀ (lo2 : Option SE) (lv2 : Option Int), (∀ S : Store, LoV ρ S lo2 lv2) →
      ∃ (r' : Nat) (S5 : Store), e2 addD (e2 addD (eSl (eVar 3) none (some (eVar 6))) (eLst [eVar 7])) (eSl (eVar 3) lo2 none) ρ S4 = some (.ok (.ref r') S5) ∧ S5[r']? = some (.lst (((cut row none (some (a : Int)) ++ [pr4]) ++ cut row lv2 none).map pD)) ∧ Keep S4 S5 ∧ S4.length ≤ r' := fun lo2 lv2 h3 => by
    obtain ⟨T1, hT1⟩ : ∃ T1, T1 = S4 ++ [MO.lst ((cut row none (some (a : Int))).map pD)] := ⟨_, rfl⟩
    obtain ⟨T2, hT2⟩ : ∃ T2, T2 = T1 ++ [MO.lst ([pr4].map pD)] := ⟨_, rfl⟩
    obtain ⟨T3, hT3⟩ : ∃ T3, T3 = T2 ++ [MO.lst ((cut row none (some (a : Int)) ++ [pr4]).map pD)] := ⟨_, rfl⟩
    obtain ⟨T4, hT4⟩ : ∃ T4, T4 = T3 ++ [MO.lst ((cut row lv2 none).map pD)] := ⟨_, rfl⟩
    have s1 := sl_pp (lo := none) (hi := some (eVar 6)) (lv := none) (hv := some (a : Int)) (v3 S4) g4 (.inl ⟨rfl, rfl⟩) (.inr ⟨_, _, rfl, rfl, v6 _⟩)
    rw [← hT1] at s1
    have s2 : eLst [eVar 7] ρ T1 = some (.ok (.ref T1.length) T2) := by rw [x_lst, evc (v7 _) x_nil, bd_ok, hT2]; rfl
    have c1 := cut_len row none (some (a : Int))
    have c2 := cut_len row lv2 none
    have a1 := add_pp s1 s2 (ra := cut row none (some (a : Int))) (rb := [pr4]) (by rw [hT2]; exact get_app (by rw [hT1]; simp) _) (by rw [hT2]; simp) (by simp; omega)
    rw [← hT3] at a1
    have k1 : Keep S4 T3 := ((show Keep S4 T1 by rw [hT1]; exact .app).trans (show Keep T1 T2 by rw [hT2]; exact .app)).trans (by rw [hT3]; exact .app)
    have s3 := sl_pp (lo := lo2) (hi := none) (lv := lv2) (hv := none) (v3 T3) (k1.get g4) (h3 T3) (.inl ⟨rfl, rfl⟩)
    rw [← hT4] at s3
    have := add_pp a1 s3 (ra := cut row none (some (a : Int)) ++ [pr4]) (rb := cut row lv2 none) (by rw [hT4]; exact get_app (by rw [hT3]; simp) _) (by rw [hT4]; simp) (by simp; omega)
    exact ⟨_, _, this, by simp, (k1.trans (show Keep T3 T4 by rw [hT4]; exact .app)).trans .app, by have := k1.1; rw [hT4]; simp; omega⟩
  obtain ⟨r', row', S5, hst5, g5, hl5, k5, hr5⟩ : ∃ (r' : Nat) (row' : List PP) (S5 : Store), sIf (tVal (e2 eqD (eVar 5) (eC (.int 4)))) (sAsg (e2 addD (eSl (eVar 3) none (some (eVar 6))) (eSl (eVar 3) (some (e2 addD (eVar 6) (eC (.int 1)))) none)) (gName 3)) (sIf (tVal (e2 eqD (eVar 5) (eC (.int 5)))) (sAsg (e2 addD (eVar 3) (eSl (eVar 3) (some (eVar 6)) (some (e2 addD (eVar 6) (eC (.int 2)))))) (gName 3)) (sIf (tVal (e2 eqD (eVar 5) (eC (.int 6)))) (sAsg (e1 revD (eVar 3)) (gName 3)) (sIf (tVal (e2 eqD (eVar 5) (eC (.int 0)))) (sAsg (e2 addD (e2 addD (eSl (eVar 3) none (some (eVar 6))) (eLst [eVar 7])) (eSl (eVar 3) (some (e2 addD (eVar 6) (eC (.int 1)))) none)) (gName 3)) (sAsg (e2 addD (e2 addD (eSl (eVar 3) none (some (eVar 6))) (eLst [eVar 7])) (eSl (eVar 3) (some (eVar 6)) none)) (gName 3))))) ρ S4 = some (.nx (e8b p (machD mA) (machD mB) r' o4 (some (.int (w : Nat))) (some (.int (a : Nat))) (some (pD pr4))) S5) ∧ S5[r']? = some (.lst (row'.map pD)) ∧ row'.length ≤ 2 * row.length + 1 ∧ Keep S4 S5 ∧ S4.length ≤ r' := by
    have lo1 : ∀ S : Store, LoV ρ S (some (e2 addD (eVar 6) (eC (.int 1)))) (some ((a : Int) + 1)) := fun S => .inr ⟨_, _, rfl, rfl, va 1 S⟩
    have lo2 : ∀ S : Store, LoV ρ S (some (e2 addD (eVar 6) (eC (.int 2)))) (some ((a : Int) + 2)) := fun S => .inr ⟨_, _, rfl, rfl, va 2 S⟩
    have lo6 : ∀ S : Store, LoV ρ S (some (eVar 6)) (some (a : Int)) := fun S => .inr ⟨_, _, rfl, rfl, v6 S⟩
    have fin : ∀ (e : SE) (r' : Nat) (S5 : Store), e ρ S4 = some (.ok (.ref r') S5) → sAsg e (gName 3) ρ S4 = some (.nx (e8b p (machD mA) (machD mB) r' o4 (some (.int (w : Nat))) (some (.int (a : Nat))) (some (pD pr4))) S5) := fun e r' S5 h => by
      rw [asg_e9 h, hρ]
      rfl
    by_cases c4 : w = 4
    · have t4 : tVal (e2 eqD (eVar 5) (eC (.int 4))) ρ S4 = some (.ok (decide (w = 4)) S4) := tw 4
      rw [decide_eq_true c4] at t4
      obtain ⟨r', S5, e5, g5, k5, h5⟩ := two none (some (eVar 6)) (some (e2 addD (eVar 6) (eC (.int 1)))) none none (some (a : Int)) (some ((a : Int) + 1)) none (fun S => .inl ⟨rfl, rfl⟩) lo6 lo1 (fun S => .inl ⟨rfl, rfl⟩)
      have c1 := cut_len row none (some (a : Int))
      have c2 := cut_len row (some ((a : Int) + 1)) none
      exact ⟨r', _, S5, by rw [sif_t t4, if_pos rfl]; exact fin _ _ _ e5, g5, by simp; omega, k5, h5⟩
    have t4 : tVal (e2 eqD (eVar 5) (eC (.int 4))) ρ S4 = some (.ok (decide (w = 4)) S4) := tw 4
    rw [decide_eq_false c4] at t4
    by_cases c5 : w = 5
    · have t5 : tVal (e2 eqD (eVar 5) (eC (.int 5))) ρ S4 = some (.ok (decide (w = 5)) S4) := tw 5
      rw [decide_eq_true c5] at t5
      obtain ⟨T1, hT1⟩ : ∃ T1, T1 = S4 ++ [MO.lst ((cut row (some (a : Int)) (some ((a : Int) + 2))).map pD)] := ⟨_, rfl⟩
      have s1 := sl_pp (lo := some (eVar 6)) (hi := some (e2 addD (eVar 6) (eC (.int 2)))) (v3 S4) g4 (lo6 S4) (lo2 S4)
      rw [← hT1] at s1
      have c1 := cut_len row (some (a : Int)) (some ((a : Int) + 2))
      have := add_pp (v3 S4) s1 (ra := row) (rb := cut row (some (a : Int)) (some ((a : Int) + 2))) (by rw [hT1]; exact get_app g4 _) (by rw [hT1]; simp) (by omega)
      exact ⟨_, row ++ cut row (some (a : Int)) (some ((a : Int) + 2)), _, by rw [sif_t t4]; simp only [Bool.false_eq_true, if_false]; rw [sif_t t5, if_pos rfl]; exact fin _ _ _ this, by simp, by simp; omega, (show Keep S4 T1 by rw [hT1]; exact .app).trans .app, by rw [hT1]; simp⟩
    have t5 : tVal (e2 eqD (eVar 5) (eC (.int 5))) ρ S4 = some (.ok (decide (w = 5)) S4) := tw 5
    rw [decide_eq_false c5] at t5
    by_cases c6 : w = 6
    · have t6 : tVal (e2 eqD (eVar 5) (eC (.int 6))) ρ S4 = some (.ok (decide (w = 6)) S4) := tw 6
      rw [decide_eq_true c6] at t6
      have hrv : e1 revD (eVar 3) ρ S4 = some (.ok (.ref S4.length) (S4 ++ [.lst (row.reverse.map pD)])) := by
        rw [x_1, v3, bd_ok]
        unfold revD
        simp only [g4]
        rw [List.map_reverse]
        rfl
      exact ⟨_, row.reverse, _, by rw [sif_t t4]; simp only [Bool.false_eq_true, if_false]; rw [sif_t t5]; simp only [Bool.false_eq_true, if_false]; rw [sif_t t6, if_pos rfl]; exact fin _ _ _ hrv, by simp, by simp; omega, .app, Nat.le_refl _⟩
    have t6 : tVal (e2 eqD (eVar 5) (eC (.int 6))) ρ S4 = some (.ok (decide (w = 6)) S4) := tw 6
    rw [decide_eq_false c6] at t6
    have c1 := cut_len row none (some (a : Int))
    by_cases c0 : w = 0
    · have t0 : tVal (e2 eqD (eVar 5) (eC (.int 0))) ρ S4 = some (.ok (decide (w = 0)) S4) := tw 0
      rw [decide_eq_true c0] at t0
      obtain ⟨r', S5, e5, g5, k5, h5⟩ := three (some (e2 addD (eVar 6) (eC (.int 1)))) (some ((a : Int) + 1)) lo1
      have c2 := cut_len row (some ((a : Int) + 1)) none
      exact ⟨r', _, S5, by rw [sif_t t4]; simp only [Bool.false_eq_true, if_false]; rw [sif_t t5]; simp only [Bool.false_eq_true, if_false]; rw [sif_t t6]; simp only [Bool.false_eq_true, if_false]; rw [sif_t t0, if_pos rfl]; exact fin _ _ _ e5, g5, by simp; omega, k5, h5⟩
    · have t0 : tVal (e2 eqD (eVar 5) (eC (.int 0))) ρ S4 = some (.ok (decide (w = 0)) S4) := tw 0
      rw [decide_eq_false c0] at t0
      obtain ⟨r', S5, e5, g5, k5, h5⟩ := three (some (eVar 6)) (some (a : Int)) lo6
      have c2 := cut_len row (some (a : Int)) none
      exact ⟨r', _, S5, by rw [sif_t t4]; simp only [Bool.false_eq_true, if_false]; rw [sif_t t5]; simp only [Bool.false_eq_true, if_false]; rw [sif_t t6]; simp only [Bool.false_eq_true, if_false]; rw [sif_t t0]; simp only [Bool.false_eq_true, if_false]; exact fin _ _ _ e5, g5, by simp; omega, k5, h5⟩
  have kL := k5.1
  refine ⟨r', row', some (.int (w : Nat)), some (.int (a : Nat)), some (pD pr4), S5, ?_, g5, hl5, kSp s4 k5, ((((f1.trans f2).trans f3).trans f4)).trans (kFr k5), by omega, by omega⟩
  unfold lb_law_bent_v7_1
  rw [sq_nx (ρ1 := e8b p (machD mA) (machD mB) r o4 (some (.int (w : Nat))) o6 o7) (S1 := S1) (by
    rw [asg_e9 (by rw [x_call, evc (show eVar 0 _ S = some (.ok (.ref p) S) from rfl) (evc (x_c _) x_nil), bd_ok]; exact er1)]
    rfl)]
  rw [sq_nx (ρ1 := e8b p (machD mA) (machD mB) r o4 (some (.int (w : Nat))) (some (.int (a : Nat))) o7) (S1 := S2) (by
    have xl : e2 addD (eCall lenF [eVar 3]) (eC (.int 1)) (e8b p (machD mA) (machD mB) r o4 (some (.int (w : Nat))) o6 o7) S1 = some (.ok (.int ((row.length + 1 : Nat) : Int)) S1) := by
      have : eCall lenF [eVar 3] (e8b p (machD mA) (machD mB) r o4 (some (.int (w : Nat))) o6 o7) S1 = some (.ok (.int (row.length : Nat)) S1) := by
        rw [x_call, evc (show eVar 3 _ S1 = some (.ok (.ref r) S1) from rfl) x_nil, bd_ok]
        simp [g1]
      rw [x_2, this, bd_ok, x_c, bd_ok, o_add]
      rfl
    rw [asg_e9 (by rw [x_call, evc (show eVar 0 _ S1 = some (.ok (.ref p) S1) from rfl) (evc xl x_nil), bd_ok, er2])]
    rfl)]
  rw [sq_nx (ρ1 := e8b p (machD mA) (machD mB) r o4 (some (.int (w : Nat))) (some (.int (a : Nat))) (some (pD (0, 0)))) (S1 := S2) (by rfl)]
  rw [sq_nx hst3, sq_nx hst4, ← hρ]
  exact hst5
theorem s_law_bent7 {mA mB : List Q} {S : Store} {r : Nat} {row : List PP} (hs : Sp S p c) (g : S[r]? = some (.lst (row.map pD))) (rp : r ≠ p) (rc : r ≠ c) (hl : row.length ≤ 1000) (lA : mA.length ≤ 100) (lB : mB.length ≤ 100) :
    ∃ (r' : Nat) (row' : List PP) (S' : Store), R_law_bent_v7 [.ref p, machD mA, machD mB, .ref r] S = some (.ok (.ref r') S') ∧ S'[r']? = some (.lst (row'.map pD)) ∧ row'.length ≤ 10000 ∧ Sp S' p c ∧ Fr p c S S' := by
  obtain ⟨v, S1, er1, hv, s1, l1, f1⟩ := drop_nat hs 2 (by decide) (by decide)
  obtain ⟨ρ2, S2, er2, r', row', q4, q5, q6, q7, rfl, g2, hl2, s2, f2, rp2, rc2⟩ := forL_range (g := gName 4) (b := lb_law_bent_v7_1 R_law_drop) (n := v + 1)
    (fun k ρ T => ∃ (r' : Nat) (row' : List PP) (q4 q5 q6 q7 : Option D), ρ = e8b p (machD mA) (machD mB) r' q4 q5 q6 q7 ∧ T[r']? = some (.lst (row'.map pD)) ∧ row'.length + 1 ≤ 2 ^ k * 1001 ∧ Sp T p c ∧ Fr p c S1 T ∧ r' ≠ p ∧ r' ≠ c) (fun k hk ρ T ⟨r', row', q4, q5, q6, q7, hρ, g', hl', s', f', rp', rc'⟩ => by
      subst hρ
      have hk2 : 2 ^ k ≤ 2 ^ 1 := Nat.pow_le_pow_right (by decide) (by omega)
      obtain ⟨r2, row2, p5, p6, p7, T2, e2', g2, hl2, s2, f2, rp2, rc2⟩ := bent_turn (mA := mA) (mB := mB) s' g' rp' rc' (by omega) lA lB (some (.int (k : Nat))) q5 q6 q7
      exact ⟨_, T, rfl, _, T2, .inl e2', r2, row2, some (.int (k : Nat)), p5, p6, p7, rfl, g2, by rw [Nat.pow_succ]; omega, s2, f'.trans f2, rp2, rc2⟩) (e8b p (machD mA) (machD mB) r none none none none) S1 ⟨r, row, none, none, none, none, rfl, f1.at g rp rc, by omega, s1, .refl, rp, rc⟩
  have hk2 : 2 ^ (v + 1) ≤ 2 ^ 2 := Nat.pow_le_pow_right (by decide) (by omega)
  refine ⟨r', row', S2, ?_, g2, by omega, s2, f1.trans f2⟩
  unfold R_law_bent_v7
  rw [run_eq (n := 4) _ _ rfl]
  unfold b_law_bent_v7
  rw [show (List.map some [D.ref p, machD mA, machD mB, .ref r] ++ List.replicate (8 - 4) none : Env) = e8b p (machD mA) (machD mB) r none none none none from rfl]
  rw [sq_nx (ρ1 := e8b p (machD mA) (machD mB) r' q4 q5 q6 q7) (S1 := S2) (by
    have h62 : r62 ((v + 1 : Nat) : Int) := r62_of (by omega) (by omega)
    have xa : e2 addD (eC (.int 1)) (eCall R_law_drop [eVar 0, eC (.int 2)]) (e8b p (machD mA) (machD mB) r none none none none) S = some (.ok (.int ((v + 1 : Nat) : Int)) S1) := by
      have : eCall R_law_drop [eVar 0, eC (.int 2)] (e8b p (machD mA) (machD mB) r none none none none) S = some (.ok (.int (v : Nat)) S1) := by
        rw [x_call, evc (show eVar 0 _ S = some (.ok (.ref p) S) from rfl) (evc (x_c _) x_nil), bd_ok]
        exact er1
      rw [x_2, x_c, bd_ok, this, bd_ok, o_add]
      congr 3
      omega
    rw [x_for, x_r1, xa, bd_ok]
    simp only [h62, if_true, bo_ok, Int.toNat_natCast]
    exact er2)]
  rfl
end
end Z
namespace Z
open Classical
theorem repr_far {i : Nat} (h : i < 2 ^ 200) : ∃ t, ∀ S, reprD [.int (i : Nat)] S = some (.ok (.str t) S) := by
  have a : (i : Int).natAbs.log2 < 200 := by
    rw [Int.natAbs_natCast]
    by_cases z : i = 0
    · subst z; decide
    · exact (Nat.log2_lt z).mpr h
  refine ⟨rtext (.int (i : Nat)), fun S => o_reprD (x := .int (i : Nat)) (by simp [dat, D.pd]) (by simp [PD.dep]) (.inr ⟨by simp only [PD.sml, decide_eq_true_eq]; omega, by simp only [PD.wgt]; omega⟩)⟩
section
variable {m1 m2 : List Q} (M1 : Mach m1) (M2 : Mach m2)
include M1 M2
/-- two machines held against one another -/
theorem s_alike_right (h1 : m1.length ≤ 100) (h2 : m2.length ≤ 100) {q : Option Nat} (hq : PartR (sgn m1 0) (sgn m2 0) q) (S : Store) : ∃ S', R_law_alike_right_n [machD m1, machD m2, oN q] S = some (.ok (.bl true) S') ∧ Keep S S' := by
  have a1 : ∀ x y : D, atI [x, y] 1 = some y := fun x y => atI_nat (k := 1) rfl
  have gl : ∀ (T : Store) (x : MO), (T ++ [x])[T.length]? = some x := fun T x => by simp
  have al : atI [D.str [117, 110, 108, 105, 107, 101], D.str [97, 108, 105, 107, 101]] 1 = some (.str [97, 108, 105, 107, 101]) := atI_nat (k := 1) rfl
  rcases s_alike9 M1 M2 (by omega) (by omega) S with ⟨T, n, er, k1, hd, hlt⟩ | ⟨T, r, row, er, k1, gr, R, hall, hsg⟩
  · obtain ⟨j, rfl⟩ : ∃ j, q = some j := by
      cases q with
      | none => exact absurd (hq n) hd
      | some j => exact ⟨j, rfl⟩
    have hj : j = n := by
      rcases Nat.lt_trichotomy j n with c | c | c
      · exact absurd (hlt j c) hq.1
      · exact c
      · exact absurd (hq.2 n c) hd
    subst hj
    have hb := part_machines M1 M2 M1.pos M2.pos hd hlt
    obtain ⟨t, ht⟩ := repr_far (i := j) (Nat.lt_of_lt_of_le hb (Nat.pow_le_pow_right (n := 2) (by decide) (show m1.length + m2.length ≤ 200 by omega)))
    refine ⟨T ++ [.lst [.str [117, 110, 108, 105, 107, 101], .str [97, 108, 105, 107, 101]]], ?_, k1.trans .app⟩
    unfold R_law_alike_right_n
    rw [run_eq (n := 3) _ _ rfl]
    unfold b_law_alike_right_n
    have hi : ∀ T, isD (.int (j : Nat)) .non T = some (.ok (.bl false) T) := fun _ => rfl
    simp [-getElem?_pos, List.getElem?_cons_zero, List.getElem?_cons_succ, er, oN, at0, a1, ht, hi, gl, al]
  · obtain rfl : q = none := by
      cases q with
      | none => rfl
      | some j => exact absurd (hall j) hq.1
    have kT : Keep S (T ++ [MO.lst [.str [117, 110, 108, 105, 107, 101], .str [97, 108, 105, 107, 101]]]) := k1.trans .app
    have g2 := get_app gr [MO.lst [.str [117, 110, 108, 105, 107, 101], .str [97, 108, 105, 107, 101]]]
    have hsh := (shA_met M1 M2 R).mpr hsg
    have hp := s_law_pairing32 g2 R.zero (fun p hp => ⟨(R.bd p hp).1, (R.bd p hp).2, hsg p hp, (R.closed hp).1, (R.closed hp).2⟩)
    have hs := s_shows_alike (m1 := m1) (m2 := m2) (by omega) (by omega) g2
    rw [hsh] at hs
    refine ⟨_, ?_, kT⟩
    unfold R_law_alike_right_n
    rw [run_eq (n := 3) _ _ rfl]
    unfold b_law_alike_right_n
    have hi : ∀ T, isD .non .non T = some (.ok (.bl true) T) := fun _ => rfl
    have hi2 : ∀ T, isD (.bl true) (.bl true) T = some (.ok (.bl true) T) := fun _ => rfl
    simp [-getElem?_pos, List.getElem?_cons_zero, List.getElem?_cons_succ, er, oN, at0, a1, hp, hs, hi, hi2, gl, al]
end
end Z
namespace Z
open Classical
/-- the number of a state -/
def ixS (d : D) : Nat := match d with
  | .tup [_, _, .int i] => i.toNat
  | _ => 0
section
abbrev e32 (A B : D) (o0 : Option D) (f g : D) (r : Nat) (o9 o10 o11 o12 : Option D) (u v : D) : Env := [o0, some (.ref 1), some A, some B, some u, some v, some f, some g, some (.ref r), o9, o10, o11, o12, none, none]
/-- one turn -/
theorem turn32 {m1 m2 : List Q} (h1 : m1.length ≤ 100) (h2 : m2.length ≤ 100) {T : Store} {r : Nat} {row : List PP} {o0 : Option D} {f g u v : D} (k : Nat) {o10 o11 o12 : Option D} (sp : Sp T 1 0) (gr : T[r]? = some (.lst (row.map pD))) (hr : 2 ≤ r) (hl : row.length ≤ 1000) :
    ∃ p10 p11 p12 T', lb_law_v24_n_1 R_law_bent_v7 R_shows_alike R_law_due_v7 (e32 (machD m1) (machD m2) o0 f g r (some (.int (k : Nat))) o10 o11 o12 u v) T = some (.nx (e32 (machD m1) (machD m2) o0 f g r (some (.int (k : Nat))) p10 p11 p12 u v) T') ∧ Sp T' 1 0 ∧ T'[r]? = some (.lst (row.map pD)) := by
  obtain ⟨r', row', T1, st1, gr', sp1, g1⟩ : ∃ (r' : Nat) (row' : List PP) (T1 : Store), sIf (tVal (e2 gtD (eVar 9) (eC (.int 0)))) (sAsg (eCall R_law_bent_v7 [eVar 1, eVar 2, eVar 3, eVar 8]) (gName 10)) (sNx) (e32 (machD m1) (machD m2) o0 f g r (some (.int (k : Nat))) (some (.ref r)) o11 o12 u v) T = some (.nx (e32 (machD m1) (machD m2) o0 f g r (some (.int (k : Nat))) (some (.ref r')) o11 o12 u v) T1) ∧ T1[r']? = some (.lst (row'.map pD)) ∧ Sp T1 1 0 ∧ T1[r]? = some (.lst (row.map pD)) := by
    have ht : tVal (e2 gtD (eVar 9) (eC (.int 0))) (e32 (machD m1) (machD m2) o0 f g r (some (.int (k : Nat))) (some (.ref r)) o11 o12 u v) T = some (.ok (decide (0 < k)) T) := by
      refine tv_t ?_
      rw [x_2, show eVar 9 _ T = some (.ok (.int (k : Nat)) T) from rfl, bd_ok, x_c, bd_ok]
      simp
    by_cases c : 0 < k
    · rw [decide_eq_true c] at ht
      obtain ⟨r', row', T1, er, g', _, s', f'⟩ := s_law_bent7 (mA := m1) (mB := m2) sp gr (by omega) (by omega) hl h1 h2
      refine ⟨r', row', T1, ?_, g', s', f'.at gr (by omega) (by omega)⟩
      rw [sif_t ht, if_pos rfl, asg_e9 (by rw [x_call, evc (show eVar 1 _ T = some (.ok (.ref 1) T) from rfl) (evc (show eVar 2 _ T = some (.ok (machD m1) T) from rfl) (evc (show eVar 3 _ T = some (.ok (machD m2) T) from rfl) (evc (show eVar 8 _ T = some (.ok (.ref r) T) from rfl) x_nil))), bd_ok, er])]
      rfl
    · rw [decide_eq_false c] at ht
      exact ⟨r, row, T, by rw [sif_t ht]; rfl, gr, sp, gr⟩
  obtain ⟨T2, hT2⟩ : ∃ T2, T2 = T1 ++ [MO.lst (row'.map pD)] := ⟨_, rfl⟩
  have gc : T2[T1.length]? = some (.lst (row'.map pD)) := by rw [hT2]; simp
  have gr2 : T2[r']? = some (.lst (row'.map pD)) := by rw [hT2]; exact get_app gr' _
  have hs := s_shows_alike (m1 := m1) (m2 := m2) (by omega) (by omega) gr2
  have hd := s_law_dueP (m1 := m1) (m2 := m2) (by omega) (by omega) gc
  have hn := ne_ps gc gr2
  refine ⟨some (.ref r'), some (.ref T1.length), some (.bl (shA m1 m2 row')), T2, ?_, by rw [hT2]; exact sp1.app, by rw [hT2]; exact get_app g1 _⟩
  unfold lb_law_v24_n_1
  rw [sq_nx (ρ1 := e32 (machD m1) (machD m2) o0 f g r (some (.int (k : Nat))) (some (.ref r)) o11 o12 u v) (S1 := T) (by rfl)]
  rw [sq_nx st1]
  rw [sq_nx (ρ1 := e32 (machD m1) (machD m2) o0 f g r (some (.int (k : Nat))) (some (.ref r')) (some (.ref T1.length)) o12 u v) (S1 := T2) (by
    rw [asg_e9 (v := .ref T1.length) (S1 := T2) (by
      rw [x_call, evc (show eVar 10 _ T1 = some (.ok (.ref r') T1) from rfl) x_nil, bd_ok, o_list]
      simp only [seqOf, gr']
      rw [hT2])]
    rfl)]
  rw [sq_nx (ρ1 := e32 (machD m1) (machD m2) o0 f g r (some (.int (k : Nat))) (some (.ref r')) (some (.ref T1.length)) (some (.bl (shA m1 m2 row'))) u v) (S1 := T2) (by
    rw [asg_e9 (by rw [x_call, evc (show eVar 2 _ T2 = some (.ok (machD m1) T2) from rfl) (evc (show eVar 3 _ T2 = some (.ok (machD m2) T2) from rfl) (evc (show eVar 10 _ T2 = some (.ok (.ref r') T2) from rfl) x_nil)), bd_ok, hs])]
    rfl)]
  simp [hd, hn]
end
theorem s_law_v24 (ns : List Int) (hl : ns.length ≤ 63) : ∃ S', R_law_v24_n [.fl (ns.map .int)] [] = some (.ok (.bl true) S') := by
  obtain ⟨S1, q1, h1, hl1, f1⟩ := s_law_spring ns []
  have hs1 : Sp S1 1 0 := ⟨_, h1⟩
  obtain ⟨m1, S2, q2, M1, l1, hs2, f2⟩ := s_law_any_machine hs1 (most := 6) (by decide) (by decide)
  obtain ⟨m0, S3, q3, M0, l0, hs3, f3⟩ := s_law_any_machine hs2 (most := 6) (by decide) (by decide)
  obtain ⟨w, S4, q4, hw, hs4, l4, f4⟩ := drop_nat hs3 2 (by decide) (by decide)
  obtain ⟨o0, ho0⟩ : ∃ o0, o0 = some (D.fl (ns.map .int)) := ⟨_, rfl⟩
  obtain ⟨m2, S5, st5, M2, l2, hs5⟩ : ∃ m2 S5, sIf (tVal (e2 eqD (eCall R_law_drop [eVar 1, eC (.int 2)]) (eC (.int 0)))) (sAsg (eCall R_law_twins [eVar 1, eVar 2]) (gName 3)) (sNx) [o0, some (.ref 1), some (machD m1), some (machD m0), none, none, none, none, none, none, none, none, none, none, none] S3 = some (.nx [o0, some (.ref 1), some (machD m1), some (machD m2), none, none, none, none, none, none, none, none, none, none, none] S5) ∧ Mach m2 ∧ m2.length ≤ 12 ∧ Sp S5 1 0 := by
    have ht : tVal (e2 eqD (eCall R_law_drop [eVar 1, eC (.int 2)]) (eC (.int 0))) [o0, some (.ref 1), some (machD m1), some (machD m0), none, none, none, none, none, none, none, none, none, none, none] S3 = some (.ok (decide (w = 0)) S4) := by
      refine tv_t ?_
      have : eCall R_law_drop [eVar 1, eC (.int 2)] [o0, some (.ref 1), some (machD m1), some (machD m0), none, none, none, none, none, none, none, none, none, none, none] S3 = some (.ok (.int (w : Nat)) S4) := by
        rw [x_call, evc (show eVar 1 _ S3 = some (.ok (.ref 1) S3) from rfl) (evc (x_c _) x_nil), bd_ok]
        exact q4
      rw [x_2, this, bd_ok, x_c, bd_ok]
      by_cases c : w = 0
      · subst c; simp
      · have : ¬ (w : Int) = 0 := by omega
        simp [c, this]
    by_cases c : w = 0
    · rw [decide_eq_true c] at ht
      obtain ⟨L, S5, q5, ML, lL, hs5, _⟩ := s_law_twins M1 (by omega) hs4
      refine ⟨L, S5, ?_, ML, by omega, hs5⟩
      rw [sif_t ht, if_pos rfl, asg_e9 (by rw [x_call, evc (show eVar 1 _ S4 = some (.ok (.ref 1) S4) from rfl) (evc (show eVar 2 _ S4 = some (.ok (machD m1) S4) from rfl) x_nil), bd_ok, q5])]
      rfl
    · rw [decide_eq_false c] at ht
      exact ⟨m0, S4, by rw [sif_t ht]; rfl, M0, by omega, hs4⟩
  obtain ⟨ms, hms⟩ : ∃ ms : D → List Q, ms = fun d => if d = .int 0 then m1 else m2 := ⟨_, rfl⟩
  have ms0 : ms (.int 0) = m1 := by rw [hms]; simp
  have ms1 : ms (.int 1) = m2 := by rw [hms]; simp
  obtain ⟨U, hU⟩ : ∃ U, U = St.m (.int 0) 0 := ⟨_, rfl⟩
  obtain ⟨V, hV⟩ : ∃ V, V = St.m (.int 1) 0 := ⟨_, rfl⟩
  have hlt5 := hs5.lt
  obtain ⟨S6, hS6⟩ : ∃ S6, S6 = S5 ++ [MO.lst [machD m1, machD m2]] := ⟨_, rfl⟩
  obtain ⟨S7, hS7⟩ : ∃ S7, S7 = S6 ++ [MO.lst [sttD U, sttD V]] := ⟨_, rfl⟩
  have k7 : Keep S5 S7 := (show Keep S5 S6 by rw [hS6]; exact .app).trans (show Keep S6 S7 by rw [hS7]; exact .app)
  have g6 : S7[S5.length]? = some (.lst [machD m1, machD m2]) := by rw [hS7]; exact get_app (by rw [hS6]; simp) _
  have g7 : S7[S6.length]? = some (.lst [sttD U, sttD V]) := by rw [hS7]; simp
  have ki : ∀ i : Int, Nkd 0 (.int i) ∧ ∀ S, Dk 1 S (.int i) := fun i => ⟨.int i, fun S => ⟨.int i, by simp [dat, D.pd], by simp [PD.dep]⟩⟩
  have wU : wfS ms U := by rw [hU]; exact ⟨by rw [ms0]; exact M1, by rw [ms0]; exact M1.pos⟩
  have wV : wfS ms V := by rw [hV]; exact ⟨by rw [ms1]; exact M2, by rw [ms1]; exact M2.pos⟩
  have cU : (clS ms U).length = m1.length := by rw [hU, clS, List.length_map, List.length_range, ms0]
  have cV : (clS ms V).length = m2.length := by rw [hV, clS, List.length_map, List.length_range, ms1]
  obtain ⟨us, f, S8, q8, k8, gf, W, hUu, hVu, lus, hst⟩ := s_states1 (ms := ms) (u := U) (v := V) g6 wU wV (by rw [hU]; exact ⟨0, rfl, by rw [ms0]; exact atI_nat (k := 0) rfl⟩) (by rw [hV]; exact ⟨1, rfl, by rw [ms1]; exact atI_nat (k := 1) rfl⟩) (by rw [hU]; exact ki 0) (by rw [hV]; exact ki 1) (by rw [hU]; simp [depS]) (by rw [hV]; simp [depS]) (by omega) g7
  have hrU : ∀ n, rwD (opS ms) (sttD U) n = sgn m1 0 n := fun n => by rw [rwD_st n wU, hU, rowS, ms0]
  have hrV : ∀ n, rwD (opS ms) (sttD V) n = sgn m2 0 n := fun n => by rw [rwD_st n wV, hV, rowS, ms1]
  obtain ⟨q, S9, q9, k9, hq⟩ := s_law_parts W hUu hVu gf
  have hq1 : PartR (sgn m1 0) (sgn m2 0) q := by
    rw [show sgn m1 0 = rwD (opS ms) (sttD U) from (funext hrU).symm, show sgn m2 0 = rwD (opS ms) (sttD V) from (funext hrV).symm]
    exact hq
  have hq2 : PartR (sgn m2 0) (sgn m1 0) q := by
    cases q with
    | none => exact fun n => (hq1 n).symm
    | some n => exact ⟨Ne.symm hq1.1, fun j hj => (hq1.2 j hj).symm⟩
  obtain ⟨S10, q10, k10⟩ := s_alike_right M1 M2 (by omega) (by omega) hq1 S9
  obtain ⟨S11, q11, k11⟩ := s_alike_right M2 M1 (by omega) (by omega) hq2 S10
  obtain ⟨S12, q12, k12⟩ := s_alike_right M1 M1 (by omega) (by omega) (q := none) (fun _ => rfl) S11
  have gf12 := (((gf.keep k9).keep k10).keep k11).keep k12
  obtain ⟨rm, row, S13, q13, gm, k13, hrm, R⟩ := s_law_both_met W hUu hVu gf12
  have hrow := prod_len R.nd R.sub
  have hus18 : us.length ≤ 18 := by omega
  have hrow2 : row.length ≤ 324 := Nat.le_trans hrow (Nat.mul_le_mul hus18 hus18)
  obtain ⟨prs, hprs⟩ : ∃ prs : List PP, prs = row.map fun p => (ixS p.1, ixS p.2) := ⟨_, rfl⟩
  obtain ⟨S14, hS14⟩ : ∃ S14, S14 = S13 ++ [MO.lst (prs.map pD)] := ⟨_, rfl⟩
  have g14 : S14[S13.length]? = some (.lst (prs.map pD)) := by rw [hS14]; simp
  have k14 : Keep S5 S14 := ((((((k7.trans k8).trans k9).trans k10).trans k11).trans k12).trans k13).trans (by rw [hS14]; exact .app)
  have k13' : Keep S5 S13 := ((((((k7.trans k8).trans k9).trans k10).trans k11).trans k12).trans k13)
  have hle13 := k13'.1
  have hs14 : Sp S14 1 0 := kSp hs5 k14
  have hstate : ∀ d ∈ us, ∃ (n : D) (i : Nat), d = .tup [.str [109], n, .int (i : Nat)] := fun d hd => by
    obtain ⟨x, hx, rfl⟩ := hst d hd
    rw [hU, hV] at hx
    rcases hx with hx | hx
    · obtain ⟨j, _, rfl⟩ := List.mem_map.mp hx
      exact ⟨_, _, rfl⟩
    · obtain ⟨j, _, rfl⟩ := List.mem_map.mp hx
      exact ⟨_, _, rfl⟩
  obtain ⟨ρ15, S15, q15, o9, o10, o11, o12, rfl, hs15, g15⟩ := forL_range (g := gName 9) (b := lb_law_v24_n_1 R_law_bent_v7 R_shows_alike R_law_due_v7) (n := 9)
    (fun k ρ T => ∃ (o9 o10 o11 o12 : Option D), ρ = e32 (machD m1) (machD m2) o0 (.ref f) (oN q) S13.length o9 o10 o11 o12 (sttD U) (sttD V) ∧ Sp T 1 0 ∧ T[S13.length]? = some (.lst (prs.map pD))) (fun k hk ρ T ⟨o9, o10, o11, o12, hρ, sp, g⟩ => by
      subst hρ
      obtain ⟨p10, p11, p12, T', er, sp', g'⟩ := turn32 (m1 := m1) (m2 := m2) (by omega) (by omega) (o0 := o0) (f := .ref f) (g := oN q) (u := sttD U) (v := sttD V) k (o10 := o10) (o11 := o11) (o12 := o12) sp g (by omega) (by rw [hprs, List.length_map]; omega)
      exact ⟨_, T, rfl, _, T', .inl er, _, p10, p11, p12, rfl, sp', g'⟩) (e32 (machD m1) (machD m2) o0 (.ref f) (oN q) S13.length none none none none (sttD U) (sttD V)) S14 ⟨none, none, none, none, rfl, hs14, g14⟩
  refine ⟨S15, ?_⟩
  unfold R_law_v24_n
  rw [run_eq (n := 1) _ _ rfl]
  unfold b_law_v24_n
  rw [show (List.map some [D.fl (ns.map .int)] ++ List.replicate (15 - 1) none : Env) = [o0, none, none, none, none, none, none, none, none, none, none, none, none, none, none] by rw [ho0]; rfl]
  rw [sq_nx (ρ1 := [o0, some (.ref 1), none, none, none, none, none, none, none, none, none, none, none, none, none]) (S1 := S1) (by rw [asg_e9 (by rw [x_call, evc (show eVar 0 _ [] = some (.ok (.fl (ns.map .int)) []) by rw [ho0]; rfl) x_nil, bd_ok, q1])]; rfl)]
  rw [sq_nx (ρ1 := [o0, some (.ref 1), some (machD m1), none, none, none, none, none, none, none, none, none, none, none, none]) (S1 := S2) (by rw [asg_e9 (by rw [x_call, evc (show eVar 1 _ S1 = some (.ok (.ref 1) S1) from rfl) (evc (x_c _) x_nil), bd_ok]; exact q2)]; rfl)]
  rw [sq_nx (ρ1 := [o0, some (.ref 1), some (machD m1), some (machD m0), none, none, none, none, none, none, none, none, none, none, none]) (S1 := S3) (by rw [asg_e9 (by rw [x_call, evc (show eVar 1 _ S2 = some (.ok (.ref 1) S2) from rfl) (evc (x_c _) x_nil), bd_ok]; exact q3)]; rfl)]
  rw [sq_nx st5]
  rw [sq_nx (ρ1 := [o0, some (.ref 1), some (machD m1), some (machD m2), some (sttD U), none, none, none, none, none, none, none, none, none, none]) (S1 := S5) (by rw [hU]; rfl)]
  rw [sq_nx (ρ1 := [o0, some (.ref 1), some (machD m1), some (machD m2), some (sttD U), some (sttD V), none, none, none, none, none, none, none, none, none]) (S1 := S5) (by rw [hV]; rfl)]
  rw [sq_nx (ρ1 := [o0, some (.ref 1), some (machD m1), some (machD m2), some (sttD U), some (sttD V), some (.ref f), none, none, none, none, none, none, none, none]) (S1 := S8) (by
    have xa : eLst [eVar 2, eVar 3] [o0, some (.ref 1), some (machD m1), some (machD m2), some (sttD U), some (sttD V), none, none, none, none, none, none, none, none, none] S5 = some (.ok (.ref S5.length) S6) := by
      rw [x_lst, evc (show eVar 2 _ S5 = some (.ok (machD m1) S5) from rfl) (evc (show eVar 3 _ S5 = some (.ok (machD m2) S5) from rfl) x_nil), bd_ok, hS6]
    have xb : eLst [eVar 4, eVar 5] [o0, some (.ref 1), some (machD m1), some (machD m2), some (sttD U), some (sttD V), none, none, none, none, none, none, none, none, none] S6 = some (.ok (.ref S6.length) S7) := by
      rw [x_lst, evc (show eVar 4 _ S6 = some (.ok (sttD U) S6) from rfl) (evc (show eVar 5 _ S6 = some (.ok (sttD V) S6) from rfl) x_nil), bd_ok, hS7]
    rw [asg_e9 (by rw [x_call, evc xa (evc xb x_nil), bd_ok, q8])]
    rfl)]
  rw [sq_nx (ρ1 := [o0, some (.ref 1), some (machD m1), some (machD m2), some (sttD U), some (sttD V), some (.ref f), some (oN q), none, none, none, none, none, none, none]) (S1 := S9) (by
    rw [asg_e9 (by rw [x_call, evc (show eVar 6 _ S8 = some (.ok (.ref f) S8) from rfl) (evc (show eVar 4 _ S8 = some (.ok (sttD U) S8) from rfl) (evc (show eVar 5 _ S8 = some (.ok (sttD V) S8) from rfl) x_nil)), bd_ok, q9])]
    rfl)]
  obtain ⟨ρ, hρ⟩ : ∃ ρ : Env, ρ = [o0, some (.ref 1), some (machD m1), some (machD m2), some (sttD U), some (sttD V), some (.ref f), some (oN q), none, none, none, none, none, none, none] := ⟨_, rfl⟩
  rw [← hρ]
  have c1 : tVal (eCall R_law_alike_right_n [eVar 2, eVar 3, eVar 7]) ρ S9 = some (.ok true S10) := tv_t (by
    rw [x_call, evc (show eVar 2 ρ S9 = some (.ok (machD m1) S9) by rw [hρ]; rfl) (evc (show eVar 3 ρ S9 = some (.ok (machD m2) S9) by rw [hρ]; rfl) (evc (show eVar 7 ρ S9 = some (.ok (oN q) S9) by rw [hρ]; rfl) x_nil)), bd_ok, q10])
  have c2 : tVal (eCall R_law_alike_right_n [eVar 3, eVar 2, eVar 7]) ρ S10 = some (.ok true S11) := tv_t (by
    rw [x_call, evc (show eVar 3 ρ S10 = some (.ok (machD m2) S10) by rw [hρ]; rfl) (evc (show eVar 2 ρ S10 = some (.ok (machD m1) S10) by rw [hρ]; rfl) (evc (show eVar 7 ρ S10 = some (.ok (oN q) S10) by rw [hρ]; rfl) x_nil)), bd_ok, q11])
  have c3 : tVal (eCall R_law_alike_right_n [eVar 2, eVar 2, eC .non]) ρ S11 = some (.ok true S12) := tv_t (by
    rw [x_call, evc (show eVar 2 ρ S11 = some (.ok (machD m1) S11) by rw [hρ]; rfl) (evc (show eVar 2 ρ S11 = some (.ok (machD m1) S11) by rw [hρ]; rfl) (evc (x_c _) x_nil)), bd_ok]
    exact q12)
  rw [sq_nx (ρ1 := ρ) (S1 := S11) (by
    rw [sif_t (b := false) (S1 := S11) (by
      unfold tOr
      rw [tnot9 c1, bd_ok]
      simp only [Bool.not_true, Bool.false_eq_true, if_false]
      exact tnot9 c2)]
    rfl)]
  rw [sq_nx (ρ1 := ρ) (S1 := S12) (by rw [sif_t (tnot9 c3)]; rfl)]
  rw [sq_nx (ρ1 := e32 (machD m1) (machD m2) o0 (.ref f) (oN q) S13.length none none none none (sttD U) (sttD V)) (S1 := S14) (by
    have xm : eCall R_law_both_met [eVar 6, eVar 4, eVar 5] ρ S12 = some (.ok (.ref rm) S13) := by
      rw [x_call, evc (show eVar 6 ρ S12 = some (.ok (.ref f) S12) by rw [hρ]; rfl) (evc (show eVar 4 ρ S12 = some (.ok (sttD U) S12) by rw [hρ]; rfl) (evc (show eVar 5 ρ S12 = some (.ok (sttD V) S12) by rw [hρ]; rfl) x_nil)), bd_ok, q13]
    have hmap := lcL_map (chk := fun T => T[rm]? = some (.lst (row.map prD))) (g := gTup [gName 13, gName 14]) (t := tYes) (e := eTup [e2 ixD (eVar 13) (eC (.int 2)), e2 ixD (eVar 14) (eC (.int 2))]) (S := S13) (ρ := ρ) (fun x => match x with | .tup [a, b] => pD (ixS a, ixS b) | _ => .non) (row.map prD) [] (by
      rw [LINE_eq]
      simp
      omega) (fun acc => get_app gm _) (fun x hx acc => by
      obtain ⟨p, hp, rfl⟩ := List.mem_map.mp hx
      obtain ⟨n1, i1, e1'⟩ := hstate _ (R.sub p hp).1
      obtain ⟨n2, i2, e2'⟩ := hstate _ (R.sub p hp).2
      have a2 : ∀ x y z : D, atI [x, y, z] 2 = some z := fun x y z => atI_nat (k := 2) rfl
      refine ⟨(ρ.set 13 (some p.1)).set 14 (some p.2), rfl, rfl, ?_⟩
      have x13 : ∀ T, eVar 13 ((ρ.set 13 (some p.1)).set 14 (some p.2)) T = some (.ok p.1 T) := fun T => by rw [hρ]; rfl
      have x14 : ∀ T, eVar 14 ((ρ.set 13 (some p.1)).set 14 (some p.2)) T = some (.ok p.2 T) := fun T => by rw [hρ]; rfl
      have y1 : ∀ T, e2 ixD (eVar 13) (eC (.int 2)) ((ρ.set 13 (some p.1)).set 14 (some p.2)) T = some (.ok (.int (i1 : Nat)) T) := fun T => by
        rw [x_2, x13, bd_ok, x_c, bd_ok, e1']
        simp [ixD, seqOf, a2]
      have y2 : ∀ T, e2 ixD (eVar 14) (eC (.int 2)) ((ρ.set 13 (some p.1)).set 14 (some p.2)) T = some (.ok (.int (i2 : Nat)) T) := fun T => by
        rw [x_2, x14, bd_ok, x_c, bd_ok, e2']
        simp [ixD, seqOf, a2]
      rw [x_tup, evc (y1 _) (evc (y2 _) x_nil)]
      simp [prD, e1', e2', ixS, pD, kq])
    have hlc : eLc (iAny (eCall R_law_both_met [eVar 6, eVar 4, eVar 5])) (gTup [gName 13, gName 14]) (tYes) (eTup [e2 ixD (eVar 13) (eC (.int 2)), e2 ixD (eVar 14) (eC (.int 2))]) [13, 14] ρ S12 = some (.ok (.ref S13.length) S14) := by
      unfold eLc
      rw [x_any, xm]
      simp only [bd_ok, o_itr, gm]
      rw [show wipe ρ [13, 14] = ρ by rw [hρ]; rfl, hmap, hS14, hprs]
      simp [List.map_map, Function.comp_def, prD]
    rw [asg_e9 hlc, hρ]
    rfl)]
  rw [sq_nx (ρ1 := e32 (machD m1) (machD m2) o0 (.ref f) (oN q) S13.length o9 o10 o11 o12 (sttD U) (sttD V)) (S1 := S15) (by
    have h9 : r62 (9 : Int) := r62_of (by omega) (by omega)
    rw [x_for, x_r1, x_c, bd_ok]
    simp only [h9, if_true, bo_ok]
    exact q15)]
  rfl
end Z
namespace Z
section
open PySem PySem.Spec PyProof.Rows L2
def top (i : Nat) : Stmt := PySem.Challenge.pw_zipspring_k32_alike_and_pairings.main.body.getD i (.Pass ⟨0, 0, 0, 0⟩)
variable {P : Program} {w : World} {K : PySem.W.Frag} {mg : Mg} {base : Heap}
abbrev st_pairs_met_n : Stmt := top 1
theorem sc_pairs_met_n : FnScope ["one", "other", "found", "row", "at", "here", "there", "pair"] ["one", "other"] (defScope st_pairs_met_n) := ⟨rfl, rfl, rfl, by decide +kernel, rfl, by decide +kernel, by decide +kernel⟩
theorem ok_pairs_met_n {f : Addr} {fd : FuncData} (Fu : Fun K "pairs_met" "pairs_met" st_pairs_met_n f fd) (m_len : mg "len" = none) : FnG P w K mg base (L2.CX P w) 1 f fd ["one", "other"] (spF ⟨K, P, w⟩ mg R_pairs_met_n) :=
  fn_run Fu sc_pairs_met_n rfl fun cdv A outer s H E hr => gss_cons (gs_set 2 sc_pairs_met_n.nd (ge_nct1 hr.u9 (ge_tup (ga_cons (ge_int) (ga_cons (ge_int) (ga_nil)))) (ge_bl))) (gss_cons (gs_set 3 sc_pairs_met_n.nd (ge_lst (ga_cons (ge_tup (ga_cons (ge_int) (ga_cons (ge_int) (ga_nil)))) (ga_nil)))) (gss_cons (gs_set 4 sc_pairs_met_n.nd (ge_int)) (gss_cons (gs_while (passes_of rfl) (gt_cmp no_lt zo_lt (ge_var 4) (ge_callB no_len zc_len rfl m_len (by decide +kernel) (ga_cons (ge_var 3) (ga_nil)))) (gss_cons (gs_set 5 sc_pairs_met_n.nd (ge_ix (ge_var 0) (ge_ix (ge_ix (ge_var 3) (ge_var 4)) (ge_int)))) (gss_cons (gs_set 6 sc_pairs_met_n.nd (ge_ix (ge_var 1) (ge_ix (ge_ix (ge_var 3) (ge_var 4)) (ge_int)))) (gss_cons (gs_for (passes_of rfl) rfl (gi_any (ge_lst (ga_cons (ge_tup (ga_cons (ge_ix (ge_var 5) (ge_int)) (ga_cons (ge_ix (ge_var 6) (ge_int)) (ga_nil)))) (ga_cons (ge_tup (ga_cons (ge_ix (ge_var 5) (ge_int)) (ga_cons (ge_ix (ge_var 6) (ge_int)) (ga_nil)))) (ga_nil))))) (gg_name 7 sc_pairs_met_n.nd) (gss_one (gs_if (gt_nni hr.u9 (ge_var 7) (ge_var 2)) (gss_cons (gs_nput hr.u9 (ge_bl) (ge_var 2) (ge_var 7)) (gss_one (gs_expr (ge_mt .list no_append PySem.F.plainAttrs_list PySem.F.slot_list_append PySem.F.type_list_append zm_append (ge_var 3) (ga_cons (ge_var 7) (ga_nil)))))) (gss_nil)))) (gss_one (gs_set 4 sc_pairs_met_n.nd (ge_op no_add zo_add (ge_var 4) (ge_int)))))))) (gss_one (gs_ret (ge_var 3))))))
abbrev st_least_places_n : Stmt := top 2
theorem sc_least_places_n : FnScope ["nexts", "marked", "places", "changed", "state", "even", "odd", "there", "bit", "place"] ["nexts", "marked"] (defScope st_least_places_n) := ⟨rfl, rfl, rfl, by decide +kernel, rfl, by decide +kernel, by decide +kernel⟩
theorem ok_least_places_n {f : Addr} {fd : FuncData} (Fu : Fun K "least_places" "least_places" st_least_places_n f fd) (m_dict : mg "dict" = none) : FnG P w K mg base (L2.CX P w) 1 f fd ["nexts", "marked"] (spF ⟨K, P, w⟩ mg R_least_places_n) :=
  fn_run Fu sc_least_places_n rfl fun cdv A outer s H E hr => gss_cons (gs_set 2 sc_least_places_n.nd (ge_callTy no_dictN (zc_dictN rfl hr.u10) rfl m_dict (by decide +kernel) (ga_cons (ge_lc [("state", 4)] rfl sc_least_places_n.nd (gi_any (ge_var 1)) (blkOk_by rfl) (fun _ _ _ _ _ => gg_name 4 sc_least_places_n.nd) (fun _ _ _ _ _ => gts_nil) (fun _ _ _ _ _ => ge_tup (ga_cons (ge_var 4) (ga_cons (ge_int) (ga_nil))))) (ga_nil)))) (gss_cons (gs_set 3 sc_least_places_n.nd (ge_bl)) (gss_cons (gs_while (passes_of rfl) (gt_val (ge_var 3)) (gss_cons (gs_set 3 sc_least_places_n.nd (ge_bl)) (gss_one (gs_lockN (lkVar 0) (gs_for (passes_of rfl) rfl (gi_keyN (ge_var 0)) (gg_name 4 sc_least_places_n.nd) (gss_cons (gs_asg (ge_nget hr.u9 (ge_var 0) (ge_var 4)) (gg_tup rfl (ggs_cons (gg_name 5 sc_least_places_n.nd) (ggs_cons (gg_name 6 sc_least_places_n.nd) (ggs_nil))))) (gss_one (gs_for (passes_of rfl) rfl (gi_any (ge_lst (ga_cons (ge_tup (ga_cons (ge_var 5) (ga_cons (ge_int) (ga_nil)))) (ga_cons (ge_tup (ga_cons (ge_var 6) (ga_cons (ge_int) (ga_nil)))) (ga_nil))))) (gg_tup rfl (ggs_cons (gg_name 7 sc_least_places_n.nd) (ggs_cons (gg_name 8 sc_least_places_n.nd) (ggs_nil)))) (gss_one (gs_if (gt_nin hr.u9 (ge_var 7) (ge_var 2)) (gss_cons (gs_set 9 sc_least_places_n.nd (ge_op no_add zo_add (ge_op no_mul zo_mul (ge_int) (ge_nget hr.u9 (ge_var 2) (ge_var 7))) (ge_var 8))) (gss_one (gs_if (GW.gt (gw_or (gt_nni hr.u9 (ge_var 4) (ge_var 2)) (gw_or1 (gt_cmp no_lt zo_lt (ge_var 9) (ge_nget hr.u9 (ge_var 2) (ge_var 4)))))) (gss_cons (gs_nput hr.u9 (ge_var 9) (ge_var 2) (ge_var 4)) (gss_one (gs_set 3 sc_least_places_n.nd (ge_bl)))) (gss_nil)))) (gss_nil))))))))))) (gss_one (gs_ret (ge_var 2)))))
abbrev st_shows_alike : Stmt := top 4
theorem sc_shows_alike : FnScope ["one", "other", "pairs", "here", "there"] ["one", "other", "pairs"] (defScope st_shows_alike) := ⟨rfl, rfl, rfl, by decide +kernel, rfl, by decide +kernel, by decide +kernel⟩
theorem ok_shows_alike {f : Addr} {fd : FuncData} (Fu : Fun K "shows_alike" "shows_alike" st_shows_alike f fd) (m_len : mg "len" = none) : FnG P w K mg base (L2.CX P w) 1 f fd ["one", "other", "pairs"] (spF ⟨K, P, w⟩ mg R_shows_alike) :=
  fn_run Fu sc_shows_alike rfl fun cdv A outer s H E hr => gss_cons (gs_if (gt_cmp no_nin (zo_nin hr.u65) (ge_tup (ga_cons (ge_int) (ga_cons (ge_int) (ga_nil)))) (ge_var 2)) (gss_one (gs_ret (ge_bl))) (gss_nil)) (gss_cons (gs_for (passes_of rfl) rfl (gi_any (ge_var 2)) (gg_tup rfl (ggs_cons (gg_name 3 sc_shows_alike.nd) (ggs_cons (gg_name 4 sc_shows_alike.nd) (ggs_nil)))) (gss_cons (gs_if (GW.gt (gw_or (gt_cmp no_ge zo_ge (ge_var 3) (ge_callB no_len zc_len rfl m_len (by decide +kernel) (ga_cons (ge_var 0) (ga_nil)))) (gw_or (gt_cmp no_ge zo_ge (ge_var 4) (ge_callB no_len zc_len rfl m_len (by decide +kernel) (ga_cons (ge_var 1) (ga_nil)))) (gw_or1 (gt_cmp no_ne (zo_ne hr.units) (ge_ix (ge_ix (ge_var 0) (ge_var 3)) (ge_int)) (ge_ix (ge_ix (ge_var 1) (ge_var 4)) (ge_int))))))) (gss_one (gs_ret (ge_bl))) (gss_nil)) (gss_one (gs_if (GW.gt (gw_or (gt_cmp no_nin (zo_nin hr.u65) (ge_tup (ga_cons (ge_ix (ge_ix (ge_var 0) (ge_var 3)) (ge_int)) (ga_cons (ge_ix (ge_ix (ge_var 1) (ge_var 4)) (ge_int)) (ga_nil)))) (ge_var 2)) (gw_or1 (gt_cmp no_nin (zo_nin hr.u65) (ge_tup (ga_cons (ge_ix (ge_ix (ge_var 0) (ge_var 3)) (ge_int)) (ga_cons (ge_ix (ge_ix (ge_var 1) (ge_var 4)) (ge_int)) (ga_nil)))) (ge_var 2))))) (gss_one (gs_ret (ge_bl))) (gss_nil))))) (gss_one (gs_ret (ge_bl))))
abbrev st_law_spring : Stmt := top 6
theorem sc_law_spring : FnScope ["script", "mixed", "cell"] ["script"] (defScope st_law_spring) := ⟨rfl, rfl, rfl, by decide +kernel, rfl, by decide +kernel, by decide +kernel⟩
theorem ok_law_spring {f : Addr} {fd : FuncData} (Fu : Fun K "_law_spring" "_law_spring" st_law_spring f fd) (m_list : mg "list" = none) : FnG P w K mg base (L2.CX P w) 1 f fd ["script"] (spF ⟨K, P, w⟩ mg R_law_spring) :=
  fn_run Fu sc_law_spring rfl fun cdv A outer s H E hr => gss_cons (gs_set 1 sc_law_spring.nd (ge_int)) (gss_cons (gs_for (passes_of rfl) rfl (gi_any (ge_var 0)) (gg_name 2 sc_law_spring.nd) (gss_one (gs_set 1 sc_law_spring.nd (ge_op no_mod zo_mod (ge_op no_add zo_add (ge_op no_mul zo_mul (ge_var 1) (ge_int)) (ge_var 2)) (ge_int))))) (gss_one (gs_ret (ge_lst (ga_cons (ge_callTy no_list zc_list rfl m_list (by decide +kernel) (ga_cons (ge_var 0) (ga_nil))) (ga_cons (ge_int) (ga_cons (ge_var 1) (ga_nil))))))))
abbrev st_law_drop : Stmt := top 7
theorem sc_law_drop : FnScope ["spring", "many", "cell", "drawn"] ["spring", "many"] (defScope st_law_drop) := ⟨rfl, rfl, rfl, by decide +kernel, rfl, by decide +kernel, by decide +kernel⟩
theorem ok_law_drop {f : Addr} {fd : FuncData} (Fu : Fun K "_law_drop" "_law_drop" st_law_drop f fd) (m_len : mg "len" = none) (m_abs : mg "abs" = none) : FnG P w K mg base (L2.CX P w) 1 f fd ["spring", "many"] (spF ⟨K, P, w⟩ mg R_law_drop) :=
  fn_run Fu sc_law_drop rfl fun cdv A outer s H E hr => gss_cons (gs_if (GW.gt (gw_and (gt_cmp no_eq (zo_eq hr.units) (ge_ix (ge_var 0) (ge_int)) (ge_int)) (gw_and1 (gt_cmp no_gt zo_gt (ge_callB no_len zc_len rfl m_len (by decide +kernel) (ga_cons (ge_ix (ge_var 0) (ge_int)) (ga_nil))) (ge_int))))) (gss_cons (gs_set 2 sc_law_drop.nd (ge_mt .list no_pop PySem.F.plainAttrs_list PySem.F.slot_list_pop PySem.F.type_list_pop zm_pop (ge_ix (ge_var 0) (ge_int)) (ga_cons (ge_int) (ga_nil)))) (gss_cons (gs_if (gt_cmp no_lt zo_lt (ge_callB no_abs zc_abs rfl m_abs (by decide +kernel) (ga_cons (ge_var 2) (ga_nil))) (ge_op no_pow zo_pow (ge_int) (ge_int))) (gss_one (gs_ret (ge_op no_mod zo_mod (ge_var 2) (ge_var 1)))) (gss_nil)) (gss_one (gs_asg (ge_callB no_abs zc_abs rfl m_abs (by decide +kernel) (ga_cons (ge_var 2) (ga_nil))) (gg_sub (W := W0) (ge_var 0) (ge_int)))))) (gss_nil)) (gss_cons (gs_if (gt_cmp no_gt zo_gt (ge_ix (ge_var 0) (ge_int)) (ge_int)) (gss_cons (gs_set 3 sc_law_drop.nd (ge_op no_mod zo_mod (ge_ix (ge_var 0) (ge_int)) (ge_var 1))) (gss_cons (gs_asg (ge_op no_fdiv zo_fdiv (ge_ix (ge_var 0) (ge_int)) (ge_var 1)) (gg_sub (W := W0) (ge_var 0) (ge_int))) (gss_one (gs_ret (ge_var 3))))) (gss_nil)) (gss_cons (gs_asg (ge_op no_mod zo_mod (ge_op no_add zo_add (ge_op no_mul zo_mul (ge_ix (ge_var 0) (ge_int)) (ge_ix (ge_var 0) (ge_int))) (ge_int)) (ge_int)) (gg_sub (W := W0) (ge_var 0) (ge_int))) (gss_one (gs_ret (ge_op no_mod zo_mod (ge_op no_fdiv zo_fdiv (ge_ix (ge_var 0) (ge_int)) (ge_int)) (ge_var 1))))))
abbrev st_law_both_met : Stmt := top 11
theorem sc_law_both_met : FnScope ["states", "one", "other", "found", "seen", "at", "here", "there", "pair"] ["states", "one", "other"] (defScope st_law_both_met) := ⟨rfl, rfl, rfl, by decide +kernel, rfl, by decide +kernel, by decide +kernel⟩
theorem ok_law_both_met {f : Addr} {fd : FuncData} (Fu : Fun K "_law_both_met" "_law_both_met" st_law_both_met f fd) (m_len : mg "len" = none) (m_zip : mg "zip" = none) : FnG P w K mg base (L2.CX P w) 1 f fd ["states", "one", "other"] (spF ⟨K, P, w⟩ mg R_law_both_met) :=
  fn_run Fu sc_law_both_met rfl fun cdv A outer s H E hr => gss_cons (gs_set 3 sc_law_both_met.nd (ge_lst (ga_cons (ge_tup (ga_cons (ge_var 1) (ga_cons (ge_var 2) (ga_nil)))) (ga_nil)))) (gss_cons (gs_set 4 sc_law_both_met.nd (ge_nct1 hr.u9 (ge_tup (ga_cons (ge_var 1) (ga_cons (ge_var 2) (ga_nil)))) (ge_bl))) (gss_cons (gs_set 5 sc_law_both_met.nd (ge_int)) (gss_cons (gs_while (passes_of rfl) (gt_cmp no_lt zo_lt (ge_var 5) (ge_callB no_len zc_len rfl m_len (by decide +kernel) (ga_cons (ge_var 3) (ga_nil)))) (gss_cons (gs_asg (ge_ix (ge_var 3) (ge_var 5)) (gg_tup rfl (ggs_cons (gg_name 6 sc_law_both_met.nd) (ggs_cons (gg_name 7 sc_law_both_met.nd) (ggs_nil))))) (gss_cons (gs_for (passes_of rfl) rfl (gi_zipN rfl m_zip (ge_sl (ge_nget hr.u9 (ge_var 0) (ge_var 6)) (go_some (ge_int)) go_none) (ge_sl (ge_nget hr.u9 (ge_var 0) (ge_var 7)) (go_some (ge_int)) go_none)) (gg_name 8 sc_law_both_met.nd) (gss_one (gs_if (gt_nni hr.u9 (ge_var 8) (ge_var 4)) (gss_cons (gs_nput hr.u9 (ge_bl) (ge_var 4) (ge_var 8)) (gss_one (gs_expr (ge_mt .list no_append PySem.F.plainAttrs_list PySem.F.slot_list_append PySem.F.type_list_append zm_append (ge_var 3) (ga_cons (ge_var 8) (ga_nil)))))) (gss_nil)))) (gss_one (gs_set 5 sc_law_both_met.nd (ge_op no_add zo_add (ge_var 5) (ge_int))))))) (gss_one (gs_ret (ge_var 3))))))
abbrev st_law_pairing : Stmt := top 13
theorem sc_law_pairing : FnScope ["one", "other", "pairs", "here", "there"] ["one", "other", "pairs"] (defScope st_law_pairing) := ⟨rfl, rfl, rfl, by decide +kernel, rfl, by decide +kernel, by decide +kernel⟩
theorem ok_law_pairing {f : Addr} {fd : FuncData} (Fu : Fun K "_law_pairing" "_law_pairing" st_law_pairing f fd) (m_isinstance : mg "isinstance" = none) (m_list : mg "list" = none) : FnG P w K mg base (L2.CX P w) 1 f fd ["one", "other", "pairs"] (spF ⟨K, P, w⟩ mg R_law_pairing) :=
  fn_run Fu sc_law_pairing rfl fun cdv A outer s H E hr => gss_cons (gs_if (GW.gt (gw_or (gt_not (gt_val (ge_isi .list (ge_var 2) rfl m_isinstance (by decide +kernel) rfl m_list (by decide +kernel)))) (gw_or1 (gt_cmp no_nin (zo_nin hr.u65) (ge_tup (ga_cons (ge_int) (ga_cons (ge_int) (ga_nil)))) (ge_var 2))))) (gss_one (gs_ret (ge_bl))) (gss_nil)) (gss_cons (gs_for (passes_of rfl) rfl (gi_any (ge_var 2)) (gg_tup rfl (ggs_cons (gg_name 3 sc_law_pairing.nd) (ggs_cons (gg_name 4 sc_law_pairing.nd) (ggs_nil)))) (gss_cons (gs_if (gt_cmp no_ne (zo_ne hr.units) (ge_ix (ge_ix (ge_var 0) (ge_var 3)) (ge_int)) (ge_ix (ge_ix (ge_var 1) (ge_var 4)) (ge_int))) (gss_one (gs_ret (ge_bl))) (gss_nil)) (gss_one (gs_if (GW.gt (gw_or (gt_cmp no_nin (zo_nin hr.u65) (ge_tup (ga_cons (ge_ix (ge_ix (ge_var 0) (ge_var 3)) (ge_int)) (ga_cons (ge_ix (ge_ix (ge_var 1) (ge_var 4)) (ge_int)) (ga_nil)))) (ge_var 2)) (gw_or1 (gt_cmp no_nin (zo_nin hr.u65) (ge_tup (ga_cons (ge_ix (ge_ix (ge_var 0) (ge_var 3)) (ge_int)) (ga_cons (ge_ix (ge_ix (ge_var 1) (ge_var 4)) (ge_int)) (ga_nil)))) (ge_var 2))))) (gss_one (gs_ret (ge_bl))) (gss_nil))))) (gss_one (gs_ret (ge_bl))))
abbrev st_law_due_v7 : Stmt := top 15
theorem sc_law_due_v7 : FnScope ["one", "other", "pairs", "here", "there", "k"] ["one", "other", "pairs"] (defScope st_law_due_v7) := ⟨rfl, rfl, rfl, by decide +kernel, rfl, by decide +kernel, by decide +kernel⟩
theorem ok_law_due_v7 {f : Addr} {fd : FuncData} (Fu : Fun K "_law_due" "_law_due" st_law_due_v7 f fd) (m_len : mg "len" = none) : FnG P w K mg base (L2.CX P w) 1 f fd ["one", "other", "pairs"] (spF ⟨K, P, w⟩ mg R_law_due_v7) :=
  fn_run Fu sc_law_due_v7 rfl fun cdv A outer s H E hr => gss_cons (gs_if (gt_cmp no_nin (zo_nin hr.u65) (ge_tup (ga_cons (ge_int) (ga_cons (ge_int) (ga_nil)))) (ge_var 2)) (gss_one (gs_ret (ge_bl))) (gss_nil)) (gss_cons (gs_for (passes_of rfl) rfl (gi_any (ge_var 2)) (gg_tup rfl (ggs_cons (gg_name 3 sc_law_due_v7.nd) (ggs_cons (gg_name 4 sc_law_due_v7.nd) (ggs_nil)))) (gss_cons (gs_if (GW.gt (gw_or (gt_not (gt_chain no_le no_lt zo_le zo_lt (ge_int) (ge_var 3) (ge_callB no_len zc_len rfl m_len (by decide +kernel) (ga_cons (ge_var 0) (ga_nil))))) (gw_or (gt_not (gt_chain no_le no_lt zo_le zo_lt (ge_int) (ge_var 4) (ge_callB no_len zc_len rfl m_len (by decide +kernel) (ga_cons (ge_var 1) (ga_nil))))) (gw_or1 (gt_cmp no_ne (zo_ne hr.units) (ge_ix (ge_ix (ge_var 0) (ge_var 3)) (ge_int)) (ge_ix (ge_ix (ge_var 1) (ge_var 4)) (ge_int))))))) (gss_one (gs_ret (ge_bl))) (gss_nil)) (gss_one (gs_for (passes_of rfl) rfl (gi_any (ge_tup (ga_cons (ge_int) (ga_cons (ge_int) (ga_nil))))) (gg_name 5 sc_law_due_v7.nd) (gss_one (gs_if (gt_cmp no_nin (zo_nin hr.u65) (ge_tup (ga_cons (ge_ix (ge_ix (ge_var 0) (ge_var 3)) (ge_var 5)) (ga_cons (ge_ix (ge_ix (ge_var 1) (ge_var 4)) (ge_var 5)) (ga_nil)))) (ge_var 2)) (gss_one (gs_ret (ge_bl))) (gss_nil))))))) (gss_one (gs_ret (ge_bl))))
abbrev st_alike_n : Stmt := top 3
theorem sc_alike_n : FnScope ["one", "other", "pairs", "nexts", "here", "there", "marked", "places", "pair"] ["one", "other"] (defScope st_alike_n) := ⟨rfl, rfl, rfl, by decide +kernel, rfl, by decide +kernel, by decide +kernel⟩
theorem ok_alike_n {f : Addr} {fd : FuncData} (Fu : Fun K "alike" "alike" st_alike_n f fd) (g_pairs_met : GF P w K mg base "pairs_met" 1 R_pairs_met_n) (g_least_places : GF P w K mg base "least_places" 1 R_least_places_n) : FnG P w K mg base (L2.CX P w) 2 f fd ["one", "other"] (spF ⟨K, P, w⟩ mg R_alike_n) :=
  fn_run Fu sc_alike_n rfl fun cdv A outer s H E hr => gss_cons (gs_set 2 sc_alike_n.nd (ge_call g_pairs_met (hr.mono (by omega)) (takes_of rfl rfl rfl rfl) rfl (ga_cons (ge_var 0) (ga_cons (ge_var 1) (ga_nil))))) (gss_cons (gs_set 3 sc_alike_n.nd (ge_dctN)) (gss_cons (gs_for (passes_of rfl) rfl (gi_any (ge_var 2)) (gg_tup rfl (ggs_cons (gg_name 4 sc_alike_n.nd) (ggs_cons (gg_name 5 sc_alike_n.nd) (ggs_nil)))) (gss_one (gs_nput hr.u9 (ge_tup (ga_cons (ge_tup (ga_cons (ge_ix (ge_ix (ge_var 0) (ge_var 4)) (ge_int)) (ga_cons (ge_ix (ge_ix (ge_var 1) (ge_var 5)) (ge_int)) (ga_nil)))) (ga_cons (ge_tup (ga_cons (ge_ix (ge_ix (ge_var 0) (ge_var 4)) (ge_int)) (ga_cons (ge_ix (ge_ix (ge_var 1) (ge_var 5)) (ge_int)) (ga_nil)))) (ga_nil)))) (ge_var 3) (ge_tup (ga_cons (ge_var 4) (ga_cons (ge_var 5) (ga_nil))))))) (gss_cons (gs_setLc 6 [("pair", 8)] rfl sc_alike_n.nd (gi_any (ge_var 2)) (blkOk_by rfl) (fun _ _ _ _ _ => gg_name 8 sc_alike_n.nd) (fun _ _ _ _ _ => gts_one (gt_cmp no_ne (zo_ne hr.units) (ge_ix (ge_ix (ge_var 0) (ge_ix (ge_var 8) (ge_int))) (ge_int)) (ge_ix (ge_ix (ge_var 1) (ge_ix (ge_var 8) (ge_int))) (ge_int)))) (fun _ _ _ _ _ => ge_var 8)) (gss_cons (gs_set 7 sc_alike_n.nd (ge_call g_least_places (hr.mono (by omega)) (takes_of rfl rfl rfl rfl) rfl (ga_cons (ge_var 3) (ga_cons (ge_var 6) (ga_nil))))) (gss_cons (gs_if (gt_nin hr.u9 (ge_tup (ga_cons (ge_int) (ga_cons (ge_int) (ga_nil)))) (ge_var 7)) (gss_one (gs_ret (ge_tup (ga_cons (ge_str) (ga_cons (ge_nget hr.u9 (ge_var 7) (ge_tup (ga_cons (ge_int) (ga_cons (ge_int) (ga_nil))))) (ga_nil)))))) (gss_nil)) (gss_one (gs_ret (ge_tup (ga_cons (ge_str) (ga_cons (ge_var 2) (ga_nil)))))))))))
abbrev st_law_any_machine : Stmt := top 8
theorem sc_law_any_machine : FnScope ["spring", "most", "many", "kinds", "base", "signs", "found", "sign", "same", "k"] ["spring", "most"] (defScope st_law_any_machine) := ⟨rfl, rfl, rfl, by decide +kernel, rfl, by decide +kernel, by decide +kernel⟩
theorem ok_law_any_machine {f : Addr} {fd : FuncData} (Fu : Fun K "_law_any_machine" "_law_any_machine" st_law_any_machine f fd) (g__law_drop : GF P w K mg base "_law_drop" 1 R_law_drop) (m_range : mg "range" = none) (m_len : mg "len" = none) (m_tuple : mg "tuple" = none) : FnG P w K mg base (L2.CX P w) 2 f fd ["spring", "most"] (spF ⟨K, P, w⟩ mg R_law_any_machine) :=
  fn_run Fu sc_law_any_machine rfl fun cdv A outer s H E hr => gss_cons (gs_set 2 sc_law_any_machine.nd (ge_op no_add zo_add (ge_int) (ge_call g__law_drop (hr.mono (by omega)) (takes_of rfl rfl rfl rfl) rfl (ga_cons (ge_var 0) (ga_cons (ge_var 1) (ga_nil)))))) (gss_cons (gs_set 3 sc_law_any_machine.nd (ge_op no_add zo_add (ge_int) (ge_call g__law_drop (hr.mono (by omega)) (takes_of rfl rfl rfl rfl) rfl (ga_cons (ge_var 0) (ga_cons (ge_int) (ga_nil)))))) (gss_cons (gs_set 4 sc_law_any_machine.nd (ge_call g__law_drop (hr.mono (by omega)) (takes_of rfl rfl rfl rfl) rfl (ga_cons (ge_var 0) (ga_cons (ge_int) (ga_nil))))) (gss_cons (gs_set 5 sc_law_any_machine.nd (ge_lc [("k", 9)] rfl sc_law_any_machine.nd (gi_r1 (ge_var 2) rfl m_range) (blkOk_by rfl) (fun _ _ _ _ _ => gg_name 9 sc_law_any_machine.nd) (fun _ _ _ _ _ => gts_nil) (fun _ _ _ _ _ => ge_op no_mod zo_mod (ge_op no_add zo_add (ge_var 4) (ge_call g__law_drop (hr.mono (by omega)) takes0 rfl (ga_cons (ge_var 0) (ga_cons (ge_var 3) (ga_nil))))) (ge_int)))) (gss_cons (gs_set 6 sc_law_any_machine.nd (ge_lst (ga_nil))) (gss_cons (gs_for (passes_of rfl) rfl (gi_any (ge_var 5)) (gg_name 7 sc_law_any_machine.nd) (gss_cons (gs_setLc 8 [("k", 9)] rfl sc_law_any_machine.nd (gi_r1 (ge_var 2) rfl m_range) (blkOk_by rfl) (fun _ _ _ _ _ => gg_name 9 sc_law_any_machine.nd) (fun _ _ _ _ _ => gts_one (gt_cmp no_eq (zo_eq hr.units) (ge_ix (ge_var 5) (ge_var 9)) (ge_var 7))) (fun _ _ _ _ _ => ge_var 9)) (gss_one (gs_expr (ge_mt .list no_append PySem.F.plainAttrs_list PySem.F.slot_list_append PySem.F.type_list_append zm_append (ge_var 6) (ga_cons (ge_tup (ga_cons (ge_var 7) (ga_cons (ge_ix (ge_var 8) (ge_call g__law_drop (hr.mono (by omega)) (takes_of rfl rfl rfl rfl) rfl (ga_cons (ge_var 0) (ga_cons (ge_callB no_len zc_len rfl m_len (by decide +kernel) (ga_cons (ge_var 8) (ga_nil))) (ga_nil))))) (ga_cons (ge_call g__law_drop (hr.mono (by omega)) (takes_of rfl rfl rfl rfl) rfl (ga_cons (ge_var 0) (ga_cons (ge_var 2) (ga_nil)))) (ga_nil))))) (ga_nil))))))) (gss_one (gs_ret (ge_callTy no_tuple zc_tuple rfl m_tuple (by decide +kernel) (ga_cons (ge_var 6) (ga_nil))))))))))
abbrev st_law_parts : Stmt := top 12
theorem sc_law_parts : FnScope ["states", "one", "other", "pairs", "places", "changed", "here", "there", "k", "far", "n", "pair"] ["states", "one", "other"] (defScope st_law_parts) := ⟨rfl, rfl, rfl, by decide +kernel, rfl, by decide +kernel, by decide +kernel⟩
theorem ok_law_parts {f : Addr} {fd : FuncData} (Fu : Fun K "_law_parts" "_law_parts" st_law_parts f fd) (g__law_both_met : GF P w K mg base "_law_both_met" 1 R_law_both_met) (m_dict : mg "dict" = none) : FnG P w K mg base (L2.CX P w) 2 f fd ["states", "one", "other"] (spF ⟨K, P, w⟩ mg R_law_parts) :=
  fn_run Fu sc_law_parts rfl fun cdv A outer s H E hr => gss_cons (gs_set 3 sc_law_parts.nd (ge_call g__law_both_met (hr.mono (by omega)) (takes_of rfl rfl rfl rfl) rfl (ga_cons (ge_var 0) (ga_cons (ge_var 1) (ga_cons (ge_var 2) (ga_nil)))))) (gss_cons (gs_set 4 sc_law_parts.nd (ge_callTy no_dictN (zc_dictN rfl hr.u10) rfl m_dict (by decide +kernel) (ga_cons (ge_lc [("pair", 11)] rfl sc_law_parts.nd (gi_any (ge_var 3)) (blkOk_by rfl) (fun _ _ _ _ _ => gg_name 11 sc_law_parts.nd) (fun _ _ _ _ _ => gts_one (gt_cmp no_ne (zo_ne hr.units) (ge_ix (ge_nget hr.u9 (ge_var 0) (ge_ix (ge_var 11) (ge_int))) (ge_int)) (ge_ix (ge_nget hr.u9 (ge_var 0) (ge_ix (ge_var 11) (ge_int))) (ge_int)))) (fun _ _ _ _ _ => ge_tup (ga_cons (ge_var 11) (ga_cons (ge_int) (ga_nil))))) (ga_nil)))) (gss_cons (gs_set 5 sc_law_parts.nd (ge_bl)) (gss_cons (gs_while (passes_of rfl) (gt_val (ge_var 5)) (gss_cons (gs_set 5 sc_law_parts.nd (ge_bl)) (gss_one (gs_for (passes_of rfl) rfl (gi_any (ge_var 3)) (gg_tup rfl (ggs_cons (gg_name 6 sc_law_parts.nd) (ggs_cons (gg_name 7 sc_law_parts.nd) (ggs_nil)))) (gss_one (gs_for (passes_of rfl) rfl (gi_any (ge_tup (ga_cons (ge_int) (ga_cons (ge_int) (ga_nil))))) (gg_name 8 sc_law_parts.nd) (gss_cons (gs_set 9 sc_law_parts.nd (ge_nget1 hr.u9 (ge_var 4) (ge_tup (ga_cons (ge_ix (ge_nget hr.u9 (ge_var 0) (ge_var 6)) (ge_var 8)) (ga_cons (ge_ix (ge_nget hr.u9 (ge_var 0) (ge_var 7)) (ge_var 8)) (ga_nil)))))) (gss_one (gs_if (gt_cmp no_isnt zo_isnt (ge_var 9) (ge_non)) (gss_cons (gs_set 10 sc_law_parts.nd (ge_op no_sub zo_sub (ge_op no_add zo_add (ge_op no_mul zo_mul (ge_int) (ge_var 9)) (ge_var 8)) (ge_int))) (gss_one (gs_if (gt_cmp no_gt zo_gt (ge_nget2 hr.u9 (ge_var 4) (ge_tup (ga_cons (ge_var 6) (ga_cons (ge_var 7) (ga_nil)))) (ge_op no_add zo_add (ge_var 10) (ge_int))) (ge_var 10)) (gss_cons (gs_nput hr.u9 (ge_var 10) (ge_var 4) (ge_tup (ga_cons (ge_var 6) (ga_cons (ge_var 7) (ga_nil))))) (gss_one (gs_set 5 sc_law_parts.nd (ge_bl)))) (gss_nil)))) (gss_nil)))))))))) (gss_one (gs_ret (ge_nget1 hr.u9 (ge_var 4) (ge_tup (ga_cons (ge_var 1) (ga_cons (ge_var 2) (ga_nil))))))))))
abbrev st_law_twins : Stmt := top 14
theorem sc_law_twins : FnScope ["spring", "machine", "many", "found", "k", "sign", "even", "odd", "at"] ["spring", "machine"] (defScope st_law_twins) := ⟨rfl, rfl, rfl, by decide +kernel, rfl, by decide +kernel, by decide +kernel⟩
theorem ok_law_twins {f : Addr} {fd : FuncData} (Fu : Fun K "_law_twins" "_law_twins" st_law_twins f fd) (g__law_drop : GF P w K mg base "_law_drop" 1 R_law_drop) (m_len : mg "len" = none) (m_range : mg "range" = none) (m_tuple : mg "tuple" = none) : FnG P w K mg base (L2.CX P w) 2 f fd ["spring", "machine"] (spF ⟨K, P, w⟩ mg R_law_twins) :=
  fn_run Fu sc_law_twins rfl fun cdv A outer s H E hr => gss_cons (gs_set 2 sc_law_twins.nd (ge_callB no_len zc_len rfl m_len (by decide +kernel) (ga_cons (ge_var 1) (ga_nil)))) (gss_cons (gs_set 3 sc_law_twins.nd (ge_lst (ga_nil))) (gss_cons (gs_for (passes_of rfl) rfl (gi_r1 (ge_op no_mul zo_mul (ge_int) (ge_var 2)) rfl m_range) (gg_name 4 sc_law_twins.nd) (gss_cons (gs_asg (ge_ix (ge_var 1) (ge_op no_mod zo_mod (ge_var 4) (ge_var 2))) (gg_tup rfl (ggs_cons (gg_name 5 sc_law_twins.nd) (ggs_cons (gg_name 6 sc_law_twins.nd) (ggs_cons (gg_name 7 sc_law_twins.nd) (ggs_nil)))))) (gss_one (gs_expr (ge_mt .list no_append PySem.F.plainAttrs_list PySem.F.slot_list_append PySem.F.type_list_append zm_append (ge_var 3) (ga_cons (ge_tup (ga_cons (ge_var 5) (ga_cons (ge_op no_add zo_add (ge_var 6) (ge_op no_mul zo_mul (ge_var 2) (ge_call g__law_drop (hr.mono (by omega)) (takes_of rfl rfl rfl rfl) rfl (ga_cons (ge_var 0) (ga_cons (ge_int) (ga_nil)))))) (ga_cons (ge_op no_add zo_add (ge_var 7) (ge_op no_mul zo_mul (ge_var 2) (ge_call g__law_drop (hr.mono (by omega)) (takes_of rfl rfl rfl rfl) rfl (ga_cons (ge_var 0) (ga_cons (ge_int) (ga_nil)))))) (ga_nil))))) (ga_nil))))))) (gss_cons (gs_if (gt_cmp no_eq (zo_eq hr.units) (ge_call g__law_drop (hr.mono (by omega)) (takes_of rfl rfl rfl rfl) rfl (ga_cons (ge_var 0) (ga_cons (ge_int) (ga_nil)))) (ge_int)) (gss_cons (gs_set 8 sc_law_twins.nd (ge_call g__law_drop (hr.mono (by omega)) (takes_of rfl rfl rfl rfl) rfl (ga_cons (ge_var 0) (ga_cons (ge_op no_mul zo_mul (ge_int) (ge_var 2)) (ga_nil))))) (gss_one (gs_asg (ge_op no_add zo_add (ge_sl (ge_ix (ge_var 3) (ge_var 8)) go_none (go_some (ge_int))) (ge_tup (ga_cons (ge_call g__law_drop (hr.mono (by omega)) (takes_of rfl rfl rfl rfl) rfl (ga_cons (ge_var 0) (ga_cons (ge_op no_mul zo_mul (ge_int) (ge_var 2)) (ga_nil)))) (ga_nil)))) (gg_sub (W := W0) (ge_var 3) (ge_var 8))))) (gss_nil)) (gss_one (gs_ret (ge_callTy no_tuple zc_tuple rfl m_tuple (by decide +kernel) (ga_cons (ge_var 3) (ga_nil))))))))
abbrev st_law_bent_v7 : Stmt := top 16
theorem sc_law_bent_v7 : FnScope ["spring", "one", "other", "pairs", "turn", "way", "at", "pair"] ["spring", "one", "other", "pairs"] (defScope st_law_bent_v7) := ⟨rfl, rfl, rfl, by decide +kernel, rfl, by decide +kernel, by decide +kernel⟩
theorem ok_law_bent_v7 {f : Addr} {fd : FuncData} (Fu : Fun K "_law_bent" "_law_bent" st_law_bent_v7 f fd) (g__law_drop : GF P w K mg base "_law_drop" 1 R_law_drop) (m_range : mg "range" = none) (m_len : mg "len" = none) : FnG P w K mg base (L2.CX P w) 2 f fd ["spring", "one", "other", "pairs"] (spF ⟨K, P, w⟩ mg R_law_bent_v7) :=
  fn_run Fu sc_law_bent_v7 rfl fun cdv A outer s H E hr => gss_cons (gs_for (passes_of rfl) rfl (gi_r1 (ge_op no_add zo_add (ge_int) (ge_call g__law_drop (hr.mono (by omega)) (takes_of rfl rfl rfl rfl) rfl (ga_cons (ge_var 0) (ga_cons (ge_int) (ga_nil))))) rfl m_range) (gg_name 4 sc_law_bent_v7.nd) (gss_cons (gs_set 5 sc_law_bent_v7.nd (ge_call g__law_drop (hr.mono (by omega)) (takes_of rfl rfl rfl rfl) rfl (ga_cons (ge_var 0) (ga_cons (ge_int) (ga_nil))))) (gss_cons (gs_set 6 sc_law_bent_v7.nd (ge_call g__law_drop (hr.mono (by omega)) (takes_of rfl rfl rfl rfl) rfl (ga_cons (ge_var 0) (ga_cons (ge_op no_add zo_add (ge_callB no_len zc_len rfl m_len (by decide +kernel) (ga_cons (ge_var 3) (ga_nil))) (ge_int)) (ga_nil))))) (gss_cons (gs_set 7 sc_law_bent_v7.nd (ge_tup (ga_cons (ge_int) (ga_cons (ge_int) (ga_nil))))) (gss_cons (gs_if (gt_cmp no_lt zo_lt (ge_var 5) (ge_int)) (gss_one (gs_set 7 sc_law_bent_v7.nd (ge_tup (ga_cons (ge_call g__law_drop (hr.mono (by omega)) (takes_of rfl rfl rfl rfl) rfl (ga_cons (ge_var 0) (ga_cons (ge_op no_add zo_add (ge_callB no_len zc_len rfl m_len (by decide +kernel) (ga_cons (ge_var 1) (ga_nil))) (ge_int)) (ga_nil)))) (ga_cons (ge_call g__law_drop (hr.mono (by omega)) (takes_of rfl rfl rfl rfl) rfl (ga_cons (ge_var 0) (ga_cons (ge_op no_add zo_add (ge_callB no_len zc_len rfl m_len (by decide +kernel) (ga_cons (ge_var 2) (ga_nil))) (ge_int)) (ga_nil)))) (ga_nil)))))) (gss_nil)) (gss_cons (gs_if (gt_cmp no_eq (zo_eq hr.units) (ge_var 5) (ge_int)) (gss_one (gs_set 7 sc_law_bent_v7.nd (ge_ix (ge_lst (ga_cons (ge_tup (ga_cons (ge_ix (ge_var 7) (ge_int)) (ga_cons (ge_op no_add zo_add (ge_op no_pow zo_pow (ge_int) (ge_int)) (ge_ix (ge_var 7) (ge_int))) (ga_nil)))) (ga_cons (ge_tup (ga_cons (ge_op no_add zo_add (ge_op no_pow zo_pow (ge_int) (ge_int)) (ge_ix (ge_var 7) (ge_int))) (ga_cons (ge_ix (ge_var 7) (ge_int)) (ga_nil)))) (ga_nil)))) (ge_call g__law_drop (hr.mono (by omega)) (takes_of rfl rfl rfl rfl) rfl (ga_cons (ge_var 0) (ga_cons (ge_int) (ga_nil))))))) (gss_nil)) (gss_one (gs_if (gt_cmp no_eq (zo_eq hr.units) (ge_var 5) (ge_int)) (gss_one (gs_set 3 sc_law_bent_v7.nd (ge_op no_add zo_add (ge_sl (ge_var 3) go_none (go_some (ge_var 6))) (ge_sl (ge_var 3) (go_some (ge_op no_add zo_add (ge_var 6) (ge_int))) go_none)))) (gss_one (gs_if (gt_cmp no_eq (zo_eq hr.units) (ge_var 5) (ge_int)) (gss_one (gs_set 3 sc_law_bent_v7.nd (ge_op no_add zo_add (ge_var 3) (ge_sl (ge_var 3) (go_some (ge_var 6)) (go_some (ge_op no_add zo_add (ge_var 6) (ge_int))))))) (gss_one (gs_if (gt_cmp no_eq (zo_eq hr.units) (ge_var 5) (ge_int)) (gss_one (gs_set 3 sc_law_bent_v7.nd (ge_rev (ge_var 3)))) (gss_one (gs_if (gt_cmp no_eq (zo_eq hr.units) (ge_var 5) (ge_int)) (gss_one (gs_set 3 sc_law_bent_v7.nd (ge_op no_add zo_add (ge_op no_add zo_add (ge_sl (ge_var 3) go_none (go_some (ge_var 6))) (ge_lst (ga_cons (ge_var 7) (ga_nil)))) (ge_sl (ge_var 3) (go_some (ge_op no_add zo_add (ge_var 6) (ge_int))) go_none)))) (gss_one (gs_set 3 sc_law_bent_v7.nd (ge_op no_add zo_add (ge_op no_add zo_add (ge_sl (ge_var 3) go_none (go_some (ge_var 6))) (ge_lst (ga_cons (ge_var 7) (ga_nil)))) (ge_sl (ge_var 3) (go_some (ge_var 6)) go_none)))))))))))))))))) (gss_one (gs_ret (ge_var 3)))
abbrev st_law_alike_right_n : Stmt := top 17
theorem sc_law_alike_right_n : FnScope ["one", "other", "place", "told"] ["one", "other", "place"] (defScope st_law_alike_right_n) := ⟨rfl, rfl, rfl, by decide +kernel, rfl, by decide +kernel, by decide +kernel⟩
theorem ok_law_alike_right_n {f : Addr} {fd : FuncData} (Fu : Fun K "_law_alike_right" "_law_alike_right" st_law_alike_right_n f fd) (g_alike : GF P w K mg base "alike" 2 R_alike_n) (g__law_pairing : GF P w K mg base "_law_pairing" 1 R_law_pairing) (g_shows_alike : GF P w K mg base "shows_alike" 1 R_shows_alike) (m_isinstance : mg "isinstance" = none) (m_tuple : mg "tuple" = none) (m_len : mg "len" = none) (m_int : mg "int" = none) (m_repr : mg "repr" = none) : FnG P w K mg base (L2.CX P w) 3 f fd ["one", "other", "place"] (spF ⟨K, P, w⟩ mg R_law_alike_right_n) :=
  fn_run Fu sc_law_alike_right_n rfl fun cdv A outer s H E hr => gss_cons (gs_set 3 sc_law_alike_right_n.nd (ge_call g_alike (hr.mono (by omega)) (takes_of rfl rfl rfl rfl) rfl (ga_cons (ge_var 0) (ga_cons (ge_var 1) (ga_nil))))) (gss_cons (gs_if (GW.gt (gw_or (gt_not (gt_val (ge_isi .tuple (ge_var 3) rfl m_isinstance (by decide +kernel) rfl m_tuple (by decide +kernel)))) (gw_or (gt_cmp no_ne (zo_ne hr.units) (ge_callB no_len zc_len rfl m_len (by decide +kernel) (ga_cons (ge_var 3) (ga_nil))) (ge_int)) (gw_or1 (gt_cmp no_ne (zo_ne hr.units) (ge_ix (ge_var 3) (ge_int)) (ge_ix (ge_lst (ga_cons (ge_str) (ga_cons (ge_str) (ga_nil)))) (ge_callTy no_int zc_int rfl m_int (by decide +kernel) (ga_cons (ge_cmp no_is zo_is (ge_var 2) (ge_non)) (ga_nil))))))))) (gss_one (gs_ret (ge_bl))) (gss_nil)) (gss_cons (gs_if (gt_cmp no_is zo_is (ge_var 2) (ge_non)) (gss_one (gs_ret (ge_and (ge_call g__law_pairing (hr.mono (by omega)) (takes_of rfl rfl rfl rfl) rfl (ga_cons (ge_var 0) (ga_cons (ge_var 1) (ga_cons (ge_ix (ge_var 3) (ge_int)) (ga_nil))))) (ge_one (ge_cmp no_is zo_is (ge_call g_shows_alike (hr.mono (by omega)) (takes_of rfl rfl rfl rfl) rfl (ga_cons (ge_var 0) (ga_cons (ge_var 1) (ga_cons (ge_ix (ge_var 3) (ge_int)) (ga_nil))))) (ge_bl)))))) (gss_nil)) (gss_one (gs_ret (ge_cmp no_eq (zo_eq hr.units) (ge_callB no_reprD (zc_reprD hr.g hr.u65) rfl m_repr (by decide +kernel) (ga_cons (ge_ix (ge_var 3) (ge_int)) (ga_nil))) (ge_callB no_reprD (zc_reprD hr.g hr.u65) rfl m_repr (by decide +kernel) (ga_cons (ge_var 2) (ga_nil))))))))
abbrev st_law_opened : Stmt := top 9
theorem sc_law_opened : FnScope ["rows", "state", "sign", "even", "odd"] ["rows", "state"] (defScope st_law_opened) := ⟨rfl, rfl, rfl, by decide +kernel, rfl, by decide +kernel, by decide +kernel⟩
theorem ok_law_opened {f : Addr} {fd : FuncData} (Fu : Fun K "_law_opened" "_law_opened" st_law_opened f fd) (hm : mg "_law_opened" = some (.ref f)) (kp : PySem.W.keepIn K (.ref f) = true) (bi : Binds K fd ["rows", "state"] [])  : ∀ d : Nat, FnG P w K mg base (L2.CX P w) (0 + d) f fd ["rows", "state"] (spF ⟨K, P, w⟩ mg (R_law_opened d))
  | 0 => fnok_none
  | d + 1 => fn_run (k := 0 + d) Fu sc_law_opened rfl fun cdv A outer s H E hr => by
    have g__law_opened : GF P w K mg base "_law_opened" (0 + d) (R_law_opened d) := gf_of hm kp bi (ok_law_opened Fu hm kp bi  d)
    exact gss_cons (gs_if (gt_cmp no_eq (zo_eq hr.units) (ge_ix (ge_var 1) (ge_int)) (ge_str)) (gss_cons (gs_asg (ge_ix (ge_ix (ge_var 0) (ge_ix (ge_var 1) (ge_int))) (ge_ix (ge_var 1) (ge_int))) (gg_tup rfl (ggs_cons (gg_name 2 sc_law_opened.nd) (ggs_cons (gg_name 3 sc_law_opened.nd) (ggs_cons (gg_name 4 sc_law_opened.nd) (ggs_nil)))))) (gss_one (gs_ret (ge_tup (ga_cons (ge_var 2) (ga_cons (ge_tup (ga_cons (ge_str) (ga_cons (ge_ix (ge_var 1) (ge_int)) (ga_cons (ge_var 3) (ga_nil))))) (ga_cons (ge_tup (ga_cons (ge_str) (ga_cons (ge_ix (ge_var 1) (ge_int)) (ga_cons (ge_var 4) (ga_nil))))) (ga_nil)))))))) (gss_nil)) (gss_cons (gs_if (gt_cmp no_eq (zo_eq hr.units) (ge_ix (ge_var 1) (ge_int)) (ge_str)) (gss_one (gs_ret (ge_tup (ga_cons (ge_ix (ge_call g__law_opened (hr.mono (by omega)) (takes_of rfl rfl rfl rfl) rfl (ga_cons (ge_var 0) (ga_cons (ge_ix (ge_var 1) (ge_int)) (ga_nil)))) (ge_int)) (ga_cons (ge_ix (ge_var 1) (ge_int)) (ga_cons (ge_ix (ge_var 1) (ge_int)) (ga_nil))))))) (gss_nil)) (gss_cons (gs_asg (ge_call g__law_opened (hr.mono (by omega)) (takes_of rfl rfl rfl rfl) rfl (ga_cons (ge_var 0) (ga_cons (ge_ix (ge_var 1) (ge_un no_neg zo_neg (ge_int))) (ga_nil)))) (gg_tup rfl (ggs_cons (gg_name 2 sc_law_opened.nd) (ggs_cons (gg_name 3 sc_law_opened.nd) (ggs_cons (gg_name 4 sc_law_opened.nd) (ggs_nil)))))) (gss_cons (gs_if (gt_cmp no_eq (zo_eq hr.units) (ge_ix (ge_var 1) (ge_int)) (ge_str)) (gss_one (gs_ret (ge_tup (ga_cons (ge_ix (ge_var 1) (ge_int)) (ga_cons (ge_tup (ga_cons (ge_str) (ga_cons (ge_ix (ge_var 1) (ge_int)) (ga_cons (ge_var 4) (ga_nil))))) (ga_cons (ge_var 3) (ga_nil))))))) (gss_nil)) (gss_one (gs_ret (ge_tup (ga_cons (ge_ix (ge_call g__law_opened (hr.mono (by omega)) (takes_of rfl rfl rfl rfl) rfl (ga_cons (ge_var 0) (ga_cons (ge_var 4) (ga_nil)))) (ge_int)) (ga_cons (ge_var 4) (ga_cons (ge_tup (ga_cons (ge_str) (ga_cons (ge_var 3) (ga_nil)))) (ga_nil))))))))))
abbrev st_law_states : Stmt := top 10
theorem sc_law_states : FnScope ["rows", "starts", "found", "waiting", "state"] ["rows", "starts"] (defScope st_law_states) := ⟨rfl, rfl, rfl, by decide +kernel, rfl, by decide +kernel, by decide +kernel⟩
theorem ok_law_states {f : Addr} {fd : FuncData} (Fu : Fun K "_law_states" "_law_states" st_law_states f fd) (g__law_opened : GF P w K mg base "_law_opened" 24 (R_law_opened 24)) (m_list : mg "list" = none) : FnG P w K mg base (L2.CX P w) 25 f fd ["rows", "starts"] (spF ⟨K, P, w⟩ mg R_law_states) :=
  fn_run Fu sc_law_states rfl fun cdv A outer s H E hr => gss_cons (gs_set 2 sc_law_states.nd (ge_dctN)) (gss_cons (gs_set 3 sc_law_states.nd (ge_callTy no_list zc_list rfl m_list (by decide +kernel) (ga_cons (ge_var 1) (ga_nil)))) (gss_cons (gs_while (passes_of rfl) (gt_cmp no_ne (zo_ne hr.units) (ge_var 3) (ge_lst (ga_nil))) (gss_cons (gs_set 4 sc_law_states.nd (ge_mt0 .list no_pop PySem.F.plainAttrs_list PySem.F.slot_list_pop PySem.F.type_list_pop zm_pop (ge_var 3))) (gss_one (gs_if (gt_nni hr.u9 (ge_var 4) (ge_var 2)) (gss_cons (gs_nput hr.u9 (ge_call g__law_opened (hr.mono (by omega)) (takes_of rfl rfl rfl rfl) rfl (ga_cons (ge_var 0) (ga_cons (ge_var 4) (ga_nil)))) (ge_var 2) (ge_var 4)) (gss_one (gs_expr (ge_mt .list no_extendT PySem.F.plainAttrs_list PySem.F.slot_list_extend PySem.F.type_list_extend zm_extendT (ge_var 3) (ga_cons (ge_sl (ge_nget hr.u9 (ge_var 2) (ge_var 4)) (go_some (ge_int)) go_none) (ga_nil)))))) (gss_nil))))) (gss_one (gs_ret (ge_var 2)))))
abbrev st_law_v24_n : Stmt := top 18
theorem sc_law_v24_n : FnScope ["script", "spring", "one", "other", "here", "there", "states", "place", "met", "turn", "pairs", "stayed", "found", "a", "b"] ["script"] (defScope st_law_v24_n) := ⟨rfl, rfl, rfl, by decide +kernel, rfl, by decide +kernel, by decide +kernel⟩
theorem ok_law_v24_n {f : Addr} {fd : FuncData} (Fu : Fun K "law" "law" st_law_v24_n f fd) (g__law_spring : GF P w K mg base "_law_spring" 1 R_law_spring) (g__law_any_machine : GF P w K mg base "_law_any_machine" 2 R_law_any_machine) (g__law_drop : GF P w K mg base "_law_drop" 1 R_law_drop) (g__law_twins : GF P w K mg base "_law_twins" 2 R_law_twins) (g__law_states : GF P w K mg base "_law_states" 25 R_law_states) (g__law_parts : GF P w K mg base "_law_parts" 2 R_law_parts) (g__law_alike_right : GF P w K mg base "_law_alike_right" 3 R_law_alike_right_n) (g__law_both_met : GF P w K mg base "_law_both_met" 1 R_law_both_met) (g__law_bent : GF P w K mg base "_law_bent" 2 R_law_bent_v7) (g_shows_alike : GF P w K mg base "shows_alike" 1 R_shows_alike) (g__law_due : GF P w K mg base "_law_due" 1 R_law_due_v7) (m_range : mg "range" = none) (m_list : mg "list" = none) (m_isinstance : mg "isinstance" = none) (m_bool : mg "bool" = none) : FnG P w K mg base (L2.CX P w) 26 f fd ["script"] (spF ⟨K, P, w⟩ mg R_law_v24_n) :=
  fn_run Fu sc_law_v24_n rfl fun cdv A outer s H E hr => gss_cons (gs_set 1 sc_law_v24_n.nd (ge_call g__law_spring (hr.mono (by omega)) (takes_of rfl rfl rfl rfl) rfl (ga_cons (ge_var 0) (ga_nil)))) (gss_cons (gs_set 2 sc_law_v24_n.nd (ge_call g__law_any_machine (hr.mono (by omega)) (takes_of rfl rfl rfl rfl) rfl (ga_cons (ge_var 1) (ga_cons (ge_int) (ga_nil))))) (gss_cons (gs_set 3 sc_law_v24_n.nd (ge_call g__law_any_machine (hr.mono (by omega)) (takes_of rfl rfl rfl rfl) rfl (ga_cons (ge_var 1) (ga_cons (ge_int) (ga_nil))))) (gss_cons (gs_if (gt_cmp no_eq (zo_eq hr.units) (ge_call g__law_drop (hr.mono (by omega)) (takes_of rfl rfl rfl rfl) rfl (ga_cons (ge_var 1) (ga_cons (ge_int) (ga_nil)))) (ge_int)) (gss_one (gs_set 3 sc_law_v24_n.nd (ge_call g__law_twins (hr.mono (by omega)) (takes_of rfl rfl rfl rfl) rfl (ga_cons (ge_var 1) (ga_cons (ge_var 2) (ga_nil)))))) (gss_nil)) (gss_cons (gs_set 4 sc_law_v24_n.nd (ge_tup (ga_cons (ge_str) (ga_cons (ge_int) (ga_cons (ge_int) (ga_nil)))))) (gss_cons (gs_set 5 sc_law_v24_n.nd (ge_tup (ga_cons (ge_str) (ga_cons (ge_int) (ga_cons (ge_int) (ga_nil)))))) (gss_cons (gs_set 6 sc_law_v24_n.nd (ge_call g__law_states (hr.mono (by omega)) (takes_of rfl rfl rfl rfl) rfl (ga_cons (ge_lst (ga_cons (ge_var 2) (ga_cons (ge_var 3) (ga_nil)))) (ga_cons (ge_lst (ga_cons (ge_var 4) (ga_cons (ge_var 5) (ga_nil)))) (ga_nil))))) (gss_cons (gs_set 7 sc_law_v24_n.nd (ge_call g__law_parts (hr.mono (by omega)) (takes_of rfl rfl rfl rfl) rfl (ga_cons (ge_var 6) (ga_cons (ge_var 4) (ga_cons (ge_var 5) (ga_nil)))))) (gss_cons (gs_if (GW.gt (gw_or (gt_not (gt_val (ge_call g__law_alike_right (hr.mono (by omega)) (takes_of rfl rfl rfl rfl) rfl (ga_cons (ge_var 2) (ga_cons (ge_var 3) (ga_cons (ge_var 7) (ga_nil))))))) (gw_or1 (gt_not (gt_val (ge_call g__law_alike_right (hr.mono (by omega)) (takes_of rfl rfl rfl rfl) rfl (ga_cons (ge_var 3) (ga_cons (ge_var 2) (ga_cons (ge_var 7) (ga_nil)))))))))) (gss_one (gs_ret (ge_bl))) (gss_nil)) (gss_cons (gs_if (gt_not (gt_val (ge_call g__law_alike_right (hr.mono (by omega)) (takes_of rfl rfl rfl rfl) rfl (ga_cons (ge_var 2) (ga_cons (ge_var 2) (ga_cons (ge_non) (ga_nil))))))) (gss_one (gs_ret (ge_bl))) (gss_nil)) (gss_cons (gs_setLc 8 [("a", 13), ("b", 14)] rfl sc_law_v24_n.nd (gi_any (ge_call g__law_both_met (hr.mono (by omega)) (takes_of rfl rfl rfl rfl) rfl (ga_cons (ge_var 6) (ga_cons (ge_var 4) (ga_cons (ge_var 5) (ga_nil)))))) (blkOk_by rfl) (fun _ _ _ _ _ => gg_tup rfl (ggs_cons (gg_name 13 sc_law_v24_n.nd) (ggs_cons (gg_name 14 sc_law_v24_n.nd) (ggs_nil)))) (fun _ _ _ _ _ => gts_nil) (fun _ _ _ _ _ => ge_tup (ga_cons (ge_ix (ge_var 13) (ge_int)) (ga_cons (ge_ix (ge_var 14) (ge_int)) (ga_nil))))) (gss_cons (gs_for (passes_of rfl) rfl (gi_r1 (ge_int) rfl m_range) (gg_name 9 sc_law_v24_n.nd) (gss_cons (gs_set 10 sc_law_v24_n.nd (ge_var 8)) (gss_cons (gs_if (gt_cmp no_gt zo_gt (ge_var 9) (ge_int)) (gss_one (gs_set 10 sc_law_v24_n.nd (ge_call g__law_bent (hr.mono (by omega)) (takes_of rfl rfl rfl rfl) rfl (ga_cons (ge_var 1) (ga_cons (ge_var 2) (ga_cons (ge_var 3) (ga_cons (ge_var 8) (ga_nil)))))))) (gss_nil)) (gss_cons (gs_set 11 sc_law_v24_n.nd (ge_callTy no_list zc_list rfl m_list (by decide +kernel) (ga_cons (ge_var 10) (ga_nil)))) (gss_cons (gs_set 12 sc_law_v24_n.nd (ge_call g_shows_alike (hr.mono (by omega)) (takes_of rfl rfl rfl rfl) rfl (ga_cons (ge_var 2) (ga_cons (ge_var 3) (ga_cons (ge_var 10) (ga_nil)))))) (gss_one (gs_if (GW.gt (gw_or (gt_not (gt_val (ge_isi .bool (ge_var 12) rfl m_isinstance (by decide +kernel) rfl m_bool (by decide +kernel)))) (gw_or (gt_cmp no_ne (zo_ne hr.units) (ge_var 12) (ge_call g__law_due (hr.mono (by omega)) (takes_of rfl rfl rfl rfl) rfl (ga_cons (ge_var 2) (ga_cons (ge_var 3) (ga_cons (ge_var 11) (ga_nil)))))) (gw_or1 (gt_cmp no_ne (zo_ne hr.units) (ge_var 11) (ge_var 10)))))) (gss_one (gs_ret (ge_bl))) (gss_nil)))))))) (gss_one (gs_ret (ge_bl))))))))))))))
set_option maxHeartbeats 0 in
theorem all_mk {P : Program} {w : World} {K : PySem.W.Frag} {h : Heap} {mg : Mg} {fa : Addr} (X : K.In h) (G : h.Ns mainGlobals mg) (hfa : mg "law" = some (.ref fa))
    {f0 : Addr} {od0 an0 : Option Addr} {sl0 : Array (Option Value)} {oc0 kV0 dc0 pm0 cd0 ct0 : Value}
    {f1 : Addr} {od1 an1 : Option Addr} {sl1 : Array (Option Value)} {oc1 kV1 dc1 pm1 cd1 ct1 : Value}
    {f2 : Addr} {od2 an2 : Option Addr} {sl2 : Array (Option Value)} {oc2 kV2 dc2 pm2 cd2 ct2 : Value}
    {f3 : Addr} {od3 an3 : Option Addr} {sl3 : Array (Option Value)} {oc3 kV3 dc3 pm3 cd3 ct3 : Value}
    {f4 : Addr} {od4 an4 : Option Addr} {sl4 : Array (Option Value)} {oc4 kV4 dc4 pm4 cd4 ct4 : Value}
    {f5 : Addr} {od5 an5 : Option Addr} {sl5 : Array (Option Value)} {oc5 kV5 dc5 pm5 cd5 ct5 : Value}
    {f6 : Addr} {od6 an6 : Option Addr} {sl6 : Array (Option Value)} {oc6 kV6 dc6 pm6 cd6 ct6 : Value}
    {f7 : Addr} {od7 an7 : Option Addr} {sl7 : Array (Option Value)} {oc7 kV7 dc7 pm7 cd7 ct7 : Value}
    {f8 : Addr} {od8 an8 : Option Addr} {sl8 : Array (Option Value)} {oc8 kV8 dc8 pm8 cd8 ct8 : Value}
    {f9 : Addr} {od9 an9 : Option Addr} {sl9 : Array (Option Value)} {oc9 kV9 dc9 pm9 cd9 ct9 : Value}
    {f10 : Addr} {od10 an10 : Option Addr} {sl10 : Array (Option Value)} {oc10 kV10 dc10 pm10 cd10 ct10 : Value}
    {f11 : Addr} {od11 an11 : Option Addr} {sl11 : Array (Option Value)} {oc11 kV11 dc11 pm11 cd11 ct11 : Value}
    {f12 : Addr} {od12 an12 : Option Addr} {sl12 : Array (Option Value)} {oc12 kV12 dc12 pm12 cd12 ct12 : Value}
    {f13 : Addr} {od13 an13 : Option Addr} {sl13 : Array (Option Value)} {oc13 kV13 dc13 pm13 cd13 ct13 : Value}
    {f14 : Addr} {od14 an14 : Option Addr} {sl14 : Array (Option Value)} {oc14 kV14 dc14 pm14 cd14 ct14 : Value}
    {f15 : Addr} {od15 an15 : Option Addr} {sl15 : Array (Option Value)} {oc15 kV15 dc15 pm15 cd15 ct15 : Value}
    {f16 : Addr} {od16 an16 : Option Addr} {sl16 : Array (Option Value)} {oc16 kV16 dc16 pm16 cd16 ct16 : Value}
    (a0 : PySem.W.nsIn K mainGlobals "pairs_met" = some (some (.ref f0))) (l0 : K.lookup f0 = some ⟨oc0, od0, .func (PySem.W.fnOf "pairs_met" "pairs_met" (defArgs st_pairs_met_n) (defBody st_pairs_met_n) (defScope st_pairs_met_n) .none kV0 dc0 pm0 an0 cd0 ct0), sl0⟩) (c0 : PySem.W.codeIn K cd0 "pairs_met" = true) (k0 : PySem.W.keepIn K (.ref f0) = true)
    (a1 : PySem.W.nsIn K mainGlobals "least_places" = some (some (.ref f1))) (l1 : K.lookup f1 = some ⟨oc1, od1, .func (PySem.W.fnOf "least_places" "least_places" (defArgs st_least_places_n) (defBody st_least_places_n) (defScope st_least_places_n) .none kV1 dc1 pm1 an1 cd1 ct1), sl1⟩) (c1 : PySem.W.codeIn K cd1 "least_places" = true) (k1 : PySem.W.keepIn K (.ref f1) = true)
    (a2 : PySem.W.nsIn K mainGlobals "shows_alike" = some (some (.ref f2))) (l2 : K.lookup f2 = some ⟨oc2, od2, .func (PySem.W.fnOf "shows_alike" "shows_alike" (defArgs st_shows_alike) (defBody st_shows_alike) (defScope st_shows_alike) .none kV2 dc2 pm2 an2 cd2 ct2), sl2⟩) (c2 : PySem.W.codeIn K cd2 "shows_alike" = true) (k2 : PySem.W.keepIn K (.ref f2) = true)
    (a3 : PySem.W.nsIn K mainGlobals "_law_spring" = some (some (.ref f3))) (l3 : K.lookup f3 = some ⟨oc3, od3, .func (PySem.W.fnOf "_law_spring" "_law_spring" (defArgs st_law_spring) (defBody st_law_spring) (defScope st_law_spring) .none kV3 dc3 pm3 an3 cd3 ct3), sl3⟩) (c3 : PySem.W.codeIn K cd3 "_law_spring" = true) (k3 : PySem.W.keepIn K (.ref f3) = true)
    (a4 : PySem.W.nsIn K mainGlobals "_law_drop" = some (some (.ref f4))) (l4 : K.lookup f4 = some ⟨oc4, od4, .func (PySem.W.fnOf "_law_drop" "_law_drop" (defArgs st_law_drop) (defBody st_law_drop) (defScope st_law_drop) .none kV4 dc4 pm4 an4 cd4 ct4), sl4⟩) (c4 : PySem.W.codeIn K cd4 "_law_drop" = true) (k4 : PySem.W.keepIn K (.ref f4) = true)
    (a5 : PySem.W.nsIn K mainGlobals "_law_both_met" = some (some (.ref f5))) (l5 : K.lookup f5 = some ⟨oc5, od5, .func (PySem.W.fnOf "_law_both_met" "_law_both_met" (defArgs st_law_both_met) (defBody st_law_both_met) (defScope st_law_both_met) .none kV5 dc5 pm5 an5 cd5 ct5), sl5⟩) (c5 : PySem.W.codeIn K cd5 "_law_both_met" = true) (k5 : PySem.W.keepIn K (.ref f5) = true)
    (a6 : PySem.W.nsIn K mainGlobals "_law_pairing" = some (some (.ref f6))) (l6 : K.lookup f6 = some ⟨oc6, od6, .func (PySem.W.fnOf "_law_pairing" "_law_pairing" (defArgs st_law_pairing) (defBody st_law_pairing) (defScope st_law_pairing) .none kV6 dc6 pm6 an6 cd6 ct6), sl6⟩) (c6 : PySem.W.codeIn K cd6 "_law_pairing" = true) (k6 : PySem.W.keepIn K (.ref f6) = true)
    (a7 : PySem.W.nsIn K mainGlobals "_law_due" = some (some (.ref f7))) (l7 : K.lookup f7 = some ⟨oc7, od7, .func (PySem.W.fnOf "_law_due" "_law_due" (defArgs st_law_due_v7) (defBody st_law_due_v7) (defScope st_law_due_v7) .none kV7 dc7 pm7 an7 cd7 ct7), sl7⟩) (c7 : PySem.W.codeIn K cd7 "_law_due" = true) (k7 : PySem.W.keepIn K (.ref f7) = true)
    (a8 : PySem.W.nsIn K mainGlobals "alike" = some (some (.ref f8))) (l8 : K.lookup f8 = some ⟨oc8, od8, .func (PySem.W.fnOf "alike" "alike" (defArgs st_alike_n) (defBody st_alike_n) (defScope st_alike_n) .none kV8 dc8 pm8 an8 cd8 ct8), sl8⟩) (c8 : PySem.W.codeIn K cd8 "alike" = true) (k8 : PySem.W.keepIn K (.ref f8) = true)
    (a9 : PySem.W.nsIn K mainGlobals "_law_any_machine" = some (some (.ref f9))) (l9 : K.lookup f9 = some ⟨oc9, od9, .func (PySem.W.fnOf "_law_any_machine" "_law_any_machine" (defArgs st_law_any_machine) (defBody st_law_any_machine) (defScope st_law_any_machine) .none kV9 dc9 pm9 an9 cd9 ct9), sl9⟩) (c9 : PySem.W.codeIn K cd9 "_law_any_machine" = true) (k9 : PySem.W.keepIn K (.ref f9) = true)
    (a10 : PySem.W.nsIn K mainGlobals "_law_parts" = some (some (.ref f10))) (l10 : K.lookup f10 = some ⟨oc10, od10, .func (PySem.W.fnOf "_law_parts" "_law_parts" (defArgs st_law_parts) (defBody st_law_parts) (defScope st_law_parts) .none kV10 dc10 pm10 an10 cd10 ct10), sl10⟩) (c10 : PySem.W.codeIn K cd10 "_law_parts" = true) (k10 : PySem.W.keepIn K (.ref f10) = true)
    (a11 : PySem.W.nsIn K mainGlobals "_law_twins" = some (some (.ref f11))) (l11 : K.lookup f11 = some ⟨oc11, od11, .func (PySem.W.fnOf "_law_twins" "_law_twins" (defArgs st_law_twins) (defBody st_law_twins) (defScope st_law_twins) .none kV11 dc11 pm11 an11 cd11 ct11), sl11⟩) (c11 : PySem.W.codeIn K cd11 "_law_twins" = true) (k11 : PySem.W.keepIn K (.ref f11) = true)
    (a12 : PySem.W.nsIn K mainGlobals "_law_bent" = some (some (.ref f12))) (l12 : K.lookup f12 = some ⟨oc12, od12, .func (PySem.W.fnOf "_law_bent" "_law_bent" (defArgs st_law_bent_v7) (defBody st_law_bent_v7) (defScope st_law_bent_v7) .none kV12 dc12 pm12 an12 cd12 ct12), sl12⟩) (c12 : PySem.W.codeIn K cd12 "_law_bent" = true) (k12 : PySem.W.keepIn K (.ref f12) = true)
    (a13 : PySem.W.nsIn K mainGlobals "_law_alike_right" = some (some (.ref f13))) (l13 : K.lookup f13 = some ⟨oc13, od13, .func (PySem.W.fnOf "_law_alike_right" "_law_alike_right" (defArgs st_law_alike_right_n) (defBody st_law_alike_right_n) (defScope st_law_alike_right_n) .none kV13 dc13 pm13 an13 cd13 ct13), sl13⟩) (c13 : PySem.W.codeIn K cd13 "_law_alike_right" = true) (k13 : PySem.W.keepIn K (.ref f13) = true)
    (a14 : PySem.W.nsIn K mainGlobals "_law_opened" = some (some (.ref f14))) (l14 : K.lookup f14 = some ⟨oc14, od14, .func (PySem.W.fnOf "_law_opened" "_law_opened" (defArgs st_law_opened) (defBody st_law_opened) (defScope st_law_opened) .none kV14 dc14 pm14 an14 cd14 ct14), sl14⟩) (c14 : PySem.W.codeIn K cd14 "_law_opened" = true) (k14 : PySem.W.keepIn K (.ref f14) = true)
    (a15 : PySem.W.nsIn K mainGlobals "_law_states" = some (some (.ref f15))) (l15 : K.lookup f15 = some ⟨oc15, od15, .func (PySem.W.fnOf "_law_states" "_law_states" (defArgs st_law_states) (defBody st_law_states) (defScope st_law_states) .none kV15 dc15 pm15 an15 cd15 ct15), sl15⟩) (c15 : PySem.W.codeIn K cd15 "_law_states" = true) (k15 : PySem.W.keepIn K (.ref f15) = true)
    (a16 : PySem.W.nsIn K mainGlobals "law" = some (some (.ref f16))) (l16 : K.lookup f16 = some ⟨oc16, od16, .func (PySem.W.fnOf "law" "law" (defArgs st_law_v24_n) (defBody st_law_v24_n) (defScope st_law_v24_n) .none kV16 dc16 pm16 an16 cd16 ct16), sl16⟩) (c16 : PySem.W.codeIn K cd16 "law" = true) (k16 : PySem.W.keepIn K (.ref f16) = true)
    (z_len : PySem.W.nsIn K mainGlobals "len" = some none)
    (z_dict : PySem.W.nsIn K mainGlobals "dict" = some none)
    (z_list : PySem.W.nsIn K mainGlobals "list" = some none)
    (z_abs : PySem.W.nsIn K mainGlobals "abs" = some none)
    (z_zip : PySem.W.nsIn K mainGlobals "zip" = some none)
    (z_isinstance : PySem.W.nsIn K mainGlobals "isinstance" = some none)
    (z_range : PySem.W.nsIn K mainGlobals "range" = some none)
    (z_tuple : PySem.W.nsIn K mainGlobals "tuple" = some none)
    (z_int : PySem.W.nsIn K mainGlobals "int" = some none)
    (z_repr : PySem.W.nsIn K mainGlobals "repr" = some none)
    (z_bool : PySem.W.nsIn K mainGlobals "bool" = some none)
    : ∃ fd : FuncData, (∀ (s : Shared) (v : Value), BindsTo s fd ⟨[v], []⟩ [("script", v)]) ∧ ∀ base : Heap, K.In base → base.Ns mainGlobals mg → FnG P w K mg base (L2.CX P w) 26 fa fd ["script"] (spF ⟨K, P, w⟩ mg R_law_v24_n) := by
  have e := hfa.symm.trans (PySem.W.mg_of X G a16)
  cases e
  have m_len := PySem.W.mg_none_of X G z_len
  have m_dict := PySem.W.mg_none_of X G z_dict
  have m_list := PySem.W.mg_none_of X G z_list
  have m_abs := PySem.W.mg_none_of X G z_abs
  have m_zip := PySem.W.mg_none_of X G z_zip
  have m_isinstance := PySem.W.mg_none_of X G z_isinstance
  have m_range := PySem.W.mg_none_of X G z_range
  have m_tuple := PySem.W.mg_none_of X G z_tuple
  have m_int := PySem.W.mg_none_of X G z_int
  have m_repr := PySem.W.mg_none_of X G z_repr
  have m_bool := PySem.W.mg_none_of X G z_bool
  have F0 := fun_mk (st := st_pairs_met_n) l0 c0 k0
  have B0 := F0.binds (ps := ["one", "other"]) fun _ _ _ _ _ _ us hl => match us, hl with | [_, _], _ => rfl
  have F1 := fun_mk (st := st_least_places_n) l1 c1 k1
  have B1 := F1.binds (ps := ["nexts", "marked"]) fun _ _ _ _ _ _ us hl => match us, hl with | [_, _], _ => rfl
  have F2 := fun_mk (st := st_shows_alike) l2 c2 k2
  have B2 := F2.binds (ps := ["one", "other", "pairs"]) fun _ _ _ _ _ _ us hl => match us, hl with | [_, _, _], _ => rfl
  have F3 := fun_mk (st := st_law_spring) l3 c3 k3
  have B3 := F3.binds (ps := ["script"]) fun _ _ _ _ _ _ us hl => match us, hl with | [_], _ => rfl
  have F4 := fun_mk (st := st_law_drop) l4 c4 k4
  have B4 := F4.binds (ps := ["spring", "many"]) fun _ _ _ _ _ _ us hl => match us, hl with | [_, _], _ => rfl
  have F5 := fun_mk (st := st_law_both_met) l5 c5 k5
  have B5 := F5.binds (ps := ["states", "one", "other"]) fun _ _ _ _ _ _ us hl => match us, hl with | [_, _, _], _ => rfl
  have F6 := fun_mk (st := st_law_pairing) l6 c6 k6
  have B6 := F6.binds (ps := ["one", "other", "pairs"]) fun _ _ _ _ _ _ us hl => match us, hl with | [_, _, _], _ => rfl
  have F7 := fun_mk (st := st_law_due_v7) l7 c7 k7
  have B7 := F7.binds (ps := ["one", "other", "pairs"]) fun _ _ _ _ _ _ us hl => match us, hl with | [_, _, _], _ => rfl
  have F8 := fun_mk (st := st_alike_n) l8 c8 k8
  have B8 := F8.binds (ps := ["one", "other"]) fun _ _ _ _ _ _ us hl => match us, hl with | [_, _], _ => rfl
  have F9 := fun_mk (st := st_law_any_machine) l9 c9 k9
  have B9 := F9.binds (ps := ["spring", "most"]) fun _ _ _ _ _ _ us hl => match us, hl with | [_, _], _ => rfl
  have F10 := fun_mk (st := st_law_parts) l10 c10 k10
  have B10 := F10.binds (ps := ["states", "one", "other"]) fun _ _ _ _ _ _ us hl => match us, hl with | [_, _, _], _ => rfl
  have F11 := fun_mk (st := st_law_twins) l11 c11 k11
  have B11 := F11.binds (ps := ["spring", "machine"]) fun _ _ _ _ _ _ us hl => match us, hl with | [_, _], _ => rfl
  have F12 := fun_mk (st := st_law_bent_v7) l12 c12 k12
  have B12 := F12.binds (ps := ["spring", "one", "other", "pairs"]) fun _ _ _ _ _ _ us hl => match us, hl with | [_, _, _, _], _ => rfl
  have F13 := fun_mk (st := st_law_alike_right_n) l13 c13 k13
  have B13 := F13.binds (ps := ["one", "other", "place"]) fun _ _ _ _ _ _ us hl => match us, hl with | [_, _, _], _ => rfl
  have F14 := fun_mk (st := st_law_opened) l14 c14 k14
  have B14 := F14.binds (ps := ["rows", "state"]) fun _ _ _ _ _ _ us hl => match us, hl with | [_, _], _ => rfl
  have F15 := fun_mk (st := st_law_states) l15 c15 k15
  have B15 := F15.binds (ps := ["rows", "starts"]) fun _ _ _ _ _ _ us hl => match us, hl with | [_, _], _ => rfl
  have F16 := fun_mk (st := st_law_v24_n) l16 c16 k16
  refine ⟨PySem.W.fnOf "law" "law" (defArgs st_law_v24_n) (defBody st_law_v24_n) (defScope st_law_v24_n) .none kV16 dc16 pm16 an16 cd16 ct16, fun s v => .of_eq rfl, fun base _ _ => ?_⟩
  have g_pairs_met : GF P w K mg base "pairs_met" 1 R_pairs_met_n := gf_of (PySem.W.mg_of X G a0) k0 B0 (ok_pairs_met_n F0 m_len)
  have g_least_places : GF P w K mg base "least_places" 1 R_least_places_n := gf_of (PySem.W.mg_of X G a1) k1 B1 (ok_least_places_n F1 m_dict)
  have g_shows_alike : GF P w K mg base "shows_alike" 1 R_shows_alike := gf_of (PySem.W.mg_of X G a2) k2 B2 (ok_shows_alike F2 m_len)
  have g__law_spring : GF P w K mg base "_law_spring" 1 R_law_spring := gf_of (PySem.W.mg_of X G a3) k3 B3 (ok_law_spring F3 m_list)
  have g__law_drop : GF P w K mg base "_law_drop" 1 R_law_drop := gf_of (PySem.W.mg_of X G a4) k4 B4 (ok_law_drop F4 m_len m_abs)
  have g__law_both_met : GF P w K mg base "_law_both_met" 1 R_law_both_met := gf_of (PySem.W.mg_of X G a5) k5 B5 (ok_law_both_met F5 m_len m_zip)
  have g__law_pairing : GF P w K mg base "_law_pairing" 1 R_law_pairing := gf_of (PySem.W.mg_of X G a6) k6 B6 (ok_law_pairing F6 m_isinstance m_list)
  have g__law_due : GF P w K mg base "_law_due" 1 R_law_due_v7 := gf_of (PySem.W.mg_of X G a7) k7 B7 (ok_law_due_v7 F7 m_len)
  have g_alike : GF P w K mg base "alike" 2 R_alike_n := gf_of (PySem.W.mg_of X G a8) k8 B8 (ok_alike_n F8 g_pairs_met g_least_places)
  have g__law_any_machine : GF P w K mg base "_law_any_machine" 2 R_law_any_machine := gf_of (PySem.W.mg_of X G a9) k9 B9 (ok_law_any_machine F9 g__law_drop m_range m_len m_tuple)
  have g__law_parts : GF P w K mg base "_law_parts" 2 R_law_parts := gf_of (PySem.W.mg_of X G a10) k10 B10 (ok_law_parts F10 g__law_both_met m_dict)
  have g__law_twins : GF P w K mg base "_law_twins" 2 R_law_twins := gf_of (PySem.W.mg_of X G a11) k11 B11 (ok_law_twins F11 g__law_drop m_len m_range m_tuple)
  have g__law_bent : GF P w K mg base "_law_bent" 2 R_law_bent_v7 := gf_of (PySem.W.mg_of X G a12) k12 B12 (ok_law_bent_v7 F12 g__law_drop m_range m_len)
  have g__law_alike_right : GF P w K mg base "_law_alike_right" 3 R_law_alike_right_n := gf_of (PySem.W.mg_of X G a13) k13 B13 (ok_law_alike_right_n F13 g_alike g__law_pairing g_shows_alike m_isinstance m_tuple m_len m_int m_repr)
  have g__law_opened : GF P w K mg base "_law_opened" 24 (R_law_opened 24) := gf_of (PySem.W.mg_of X G a14) k14 B14 (ok_law_opened F14 (PySem.W.mg_of X G a14) k14 B14  24)
  have g__law_states : GF P w K mg base "_law_states" 25 R_law_states := gf_of (PySem.W.mg_of X G a15) k15 B15 (ok_law_states F15 g__law_opened m_list)
  exact ok_law_v24_n F16 g__law_spring g__law_any_machine g__law_drop g__law_twins g__law_states g__law_parts g__law_alike_right g__law_both_met g__law_bent g_shows_alike g__law_due m_range m_list m_isinstance m_bool
end
end Z
open PySem PySem.W PyProof.Rows in
set_option maxRecDepth 100000 in
set_option maxHeartbeats 0 in
theorem PySem.Challenge.cw_zipspring_k32_alike_and_pairings_holds : PySem.Challenge.rw_zipspring_k32_alike_and_pairings.Holds := by
  w_on; o_law; k_head; (case hw => w_witness2)
  k_fill
  refine Z.walkZ (l := PySem.Challenge.rw_zipspring_k32_alike_and_pairings) (k := 26) (R := Z.R_law_v24_n) rfl (by decide) ⟨⟨rfl, by decide, by decide⟩, rfl⟩ rfl (fun w h Y => PySem.W.kIn_of Y) (fun ns hl _ => Z.s_law_v24 ns hl) ?F
  case F =>
    intro w mg fa h KX G hmg
    refine' Z.all_mk KX G hmg ?a0 ?l0 ?c0 ?k0 ?a1 ?l1 ?c1 ?k1 ?a2 ?l2 ?c2 ?k2 ?a3 ?l3 ?c3 ?k3 ?a4 ?l4 ?c4 ?k4 ?a5 ?l5 ?c5 ?k5 ?a6 ?l6 ?c6 ?k6 ?a7 ?l7 ?c7 ?k7 ?a8 ?l8 ?c8 ?k8 ?a9 ?l9 ?c9 ?k9 ?a10 ?l10 ?c10 ?k10 ?a11 ?l11 ?c11 ?k11 ?a12 ?l12 ?c12 ?k12 ?a13 ?l13 ?c13 ?k13 ?a14 ?l14 ?c14 ?k14 ?a15 ?l15 ?c15 ?k15 ?a16 ?l16 ?c16 ?k16 ?z_len ?z_dict ?z_list ?z_abs ?z_zip ?z_isinstance ?z_range ?z_tuple ?z_int ?z_repr ?z_bool
    (case a0 => k_is)
    (case l0 => k_is)
    (case c0 => k_is)
    (case k0 => k_is)
    (case a1 => k_is)
    (case l1 => k_is)
    (case c1 => k_is)
    (case k1 => k_is)
    (case a2 => k_is)
    (case l2 => k_is)
    (case c2 => k_is)
    (case k2 => k_is)
    (case a3 => k_is)
    (case l3 => k_is)
    (case c3 => k_is)
    (case k3 => k_is)
    (case a4 => k_is)
    (case l4 => k_is)
    (case c4 => k_is)
    (case k4 => k_is)
    (case a5 => k_is)
    (case l5 => k_is)
    (case c5 => k_is)
    (case k5 => k_is)
    (case a6 => k_is)
    (case l6 => k_is)
    (case c6 => k_is)
    (case k6 => k_is)
    (case a7 => k_is)
    (case l7 => k_is)
    (case c7 => k_is)
    (case k7 => k_is)
    (case a8 => k_is)
    (case l8 => k_is)
    (case c8 => k_is)
    (case k8 => k_is)
    (case a9 => k_is)
    (case l9 => k_is)
    (case c9 => k_is)
    (case k9 => k_is)
    (case a10 => k_is)
    (case l10 => k_is)
    (case c10 => k_is)
    (case k10 => k_is)
    (case a11 => k_is)
    (case l11 => k_is)
    (case c11 => k_is)
    (case k11 => k_is)
    (case a12 => k_is)
    (case l12 => k_is)
    (case c12 => k_is)
    (case k12 => k_is)
    (case a13 => k_is)
    (case l13 => k_is)
    (case c13 => k_is)
    (case k13 => k_is)
    (case a14 => k_is)
    (case l14 => k_is)
    (case c14 => k_is)
    (case k14 => k_is)
    (case a15 => k_is)
    (case l15 => k_is)
    (case c15 => k_is)
    (case k15 => k_is)
    (case a16 => k_is)
    (case l16 => k_is)
    (case c16 => k_is)
    (case k16 => k_is)
    (case z_len => k_is)
    (case z_dict => k_is)
    (case z_list => k_is)
    (case z_abs => k_is)
    (case z_zip => k_is)
    (case z_isinstance => k_is)
    (case z_range => k_is)
    (case z_tuple => k_is)
    (case z_int => k_is)
    (case z_repr => k_is)
    (case z_bool => k_is)
